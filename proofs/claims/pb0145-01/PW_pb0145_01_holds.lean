import PyProof.Rows.All
import Wide.All
import OpenK.AllK
import Wide.FinOn
import PySem.Challenge.RW_pb0145_01
set_option Elab.async false
set_option compiler.extract_closed false
set_option genInjectivity false
set_option genSizeOf false
section
open PySem PySem.W PySem.PyData PyProof.Rows
set_option Elab.async false
namespace Mine
/-- a statement of the program's top -/
noncomputable def at1 (i : Nat) : Option Stmt := PySem.Challenge.pw_pb0145_01.main.body[i]?
/-- a statement of a class's body -/
noncomputable def at2 (i j : Nat) : Option Stmt := match PySem.Challenge.pw_pb0145_01.main.body[i]? with
  | some (.ClassDef _ _ _ b _ _ _ _ _ _ _) => b[j]?
  | _ => none
/-- the def that stands there, made: its parts are read off the given program by unification -/
noncomputable abbrev fnD {n : Str} {a : Arguments} {b : List Stmt} {ds : List PySem.Expr} {r : Option PySem.Expr} {tp : List TypeParam} {sc : Scope} {ts : Option Scope} {bd : Str} {p : Pos} {e : Option Stmt} (_h : e = some (.FunctionDef n a b ds r tp sc ts bd p))
  (q : Str) (dV kV doc pm : Value) (an : Option Addr) (cd ct : Value) : FuncData :=
  { name := n, qualname := q, params := a, body := .stmts b, scope := sc, globals := mainGlobals, closure := [], defaults := dV, kwdefaults := kV, doc, pyModule := pm, annotations := an, code := cd, closureTuple := ct, builtins := builtinsNs }
set_option maxRecDepth 100000 in
set_option maxHeartbeats 0 in
/-- the written part of the heap behind the top (printed by wip/gen/GenK.lean) -/
noncomputable def K : Params → Frag := fun P =>
  (nat_lit 2, ⟨.none, none, (.dict #[⟨(keyHash P "type.__subclasses__.Exception.0"), (.str "type.__subclasses__.Exception.0" 426), (.int 201 0)⟩, ⟨(keyHash P "type.__subclasses__.Exception.n"), (.str "type.__subclasses__.Exception.n" 427), (.int 1 0)⟩] 2), #[]⟩) ::
  (nat_lit 3, ⟨(.type "dict"), none, (.dict #[⟨(keyHash P "__name__"), (.str "__name__" 165), (.str "law_pb0145_01" 832)⟩, ⟨(keyHash P "__doc__"), (.str "__doc__" 166), .none⟩, ⟨(keyHash P "__package__"), (.str "__package__" 167), .none⟩, ⟨(keyHash P "__loader__"), (.str "__loader__" 168), (.builtin "__main__.__loader__#opaque")⟩, ⟨(keyHash P "__spec__"), (.str "__spec__" 169), .none⟩, ⟨(keyHash P "__annotations__"), (.str "__annotations__" 170), (.ref 6)⟩, ⟨(keyHash P "__builtins__"), (.str "__builtins__" 171), (.ref 4)⟩, ⟨(keyHash P "__file__"), (.str "__file__" 173), (.str "/claim/cut.py" 172)⟩, ⟨(keyHash P "__cached__"), (.str "__cached__" 174), .none⟩, ⟨(keyHash P "_wall"), (.str "_wall" 193), (.ref 21)⟩, ⟨(keyHash P "is_special"), (.str "is_special" 203), (.ref 28)⟩, ⟨(keyHash P "implied_names"), (.str "implied_names" 209), (.ref 35)⟩, ⟨(keyHash P "OpenStack"), (.str "OpenStack" 335), (.ref 136)⟩, ⟨(keyHash P "stops_scope"), (.str "stops_scope" 346), (.ref 147)⟩, ⟨(keyHash P "node_in_scope"), (.str "node_in_scope" 357), (.ref 155)⟩, ⟨(keyHash P "pop_implied"), (.str "pop_implied" 367), (.ref 163)⟩, ⟨(keyHash P "pop_with"), (.str "pop_with" 377), (.ref 170)⟩, ⟨(keyHash P "any_other_end"), (.str "any_other_end" 389), (.ref 177)⟩, ⟨(keyHash P "find_subject"), (.str "find_subject" 398), (.ref 184)⟩, ⟨(keyHash P "HtmlFault"), (.str "HtmlFault" 429), (.ref 201)⟩, ⟨(keyHash P "Misused"), (.str "Misused" 445), (.ref 214)⟩, ⟨(keyHash P "Formatting"), (.str "Formatting" 551), (.ref 296)⟩, ⟨(keyHash P "Tree"), (.str "Tree" 714), (.ref 413)⟩, ⟨(keyHash P "above"), (.str "above" 724), (.ref 424)⟩, ⟨(keyHash P "Builder"), (.str "Builder" 831), (.ref 491)⟩, ⟨(keyHash P "_law_digit"), (.str "_law_digit" 842), (.ref 502)⟩, ⟨(keyHash P "_law_pool"), (.str "_law_pool" 851), (.ref 509)⟩, ⟨(keyHash P "_law_enders"), (.str "_law_enders" 858), (.ref 516)⟩, ⟨(keyHash P "_law_specials"), (.str "_law_specials" 864), (.ref 523)⟩, ⟨(keyHash P "_law_implied"), (.str "_law_implied" 870), (.ref 530)⟩, ⟨(keyHash P "_law_other"), (.str "_law_other" 876), (.ref 535)⟩, ⟨(keyHash P "_law_due"), (.str "_law_due" 882), (.ref 540)⟩, ⟨(keyHash P "_law_is_found"), (.str "_law_is_found" 888), (.ref 545)⟩, ⟨(keyHash P "law"), (.str "law" 894), (.ref 550)⟩] 34), #[]⟩) ::
  (nat_lit 15, ⟨(.type "tuple"), none, (.seq #[] 0), #[]⟩) ::
  (nat_lit 17, ⟨(.type "tuple"), none, (.seq #[(.str "k" 190)] 0), #[]⟩) ::
  (nat_lit 18, ⟨(.type "tuple"), none, (.seq #[] 0), #[]⟩) ::
  (nat_lit 20, ⟨(.type "code"), none, (.fields #[(.str "_wall" 187), (.str "_wall" 188), (.str "/claim/cut.py" 189), (.int 1 0), (.int 1 0), (.int 0 0), (.int 0 0), (.int 3 0), (.ref 15), (.bool true), (.int 181 0), (.ref 16), .none, (.ref 17), (.ref 18), (.ref 19), (.int 191 0), (.int 1 0), (.str "/claim/cut.py" 192)]), #[]⟩) ::
  (nat_lit 21, ⟨(.type "function"), none, (.func (fnD (e := (at1 0)) rfl "_wall" .none .none .none (.str "__main__" 164) none (.ref 20) .none)), #[]⟩) ::
  (nat_lit 22, ⟨(.type "tuple"), none, (.seq #[] 0), #[]⟩) ::
  (nat_lit 24, ⟨(.type "tuple"), none, (.seq #[(.str "space" 199), (.str "name" 200)] 0), #[]⟩) ::
  (nat_lit 25, ⟨(.type "tuple"), none, (.seq #[] 0), #[]⟩) ::
  (nat_lit 27, ⟨(.type "code"), none, (.fields #[(.str "is_special" 196), (.str "is_special" 197), (.str "/claim/cut.py" 198), (.int 5 0), (.int 2 0), (.int 0 0), (.int 0 0), (.int 3 0), (.ref 22), (.bool true), (.int 181 0), (.ref 23), .none, (.ref 24), (.ref 25), (.ref 26), (.int 201 0), (.int 5 0), (.str "/claim/cut.py" 202)]), #[]⟩) ::
  (nat_lit 28, ⟨(.type "function"), none, (.func (fnD (e := (at1 2)) rfl "is_special" .none .none .none (.str "htmltree.names" 194) none (.ref 27) .none)), #[]⟩) ::
  (nat_lit 29, ⟨(.type "tuple"), none, (.seq #[] 0), #[]⟩) ::
  (nat_lit 31, ⟨(.type "tuple"), none, (.seq #[] 0), #[]⟩) ::
  (nat_lit 32, ⟨(.type "tuple"), none, (.seq #[] 0), #[]⟩) ::
  (nat_lit 34, ⟨(.type "code"), none, (.fields #[(.str "implied_names" 204), (.str "implied_names" 205), (.str "/claim/cut.py" 206), (.int 11 0), (.int 0 0), (.int 0 0), (.int 0 0), (.int 3 0), (.ref 29), (.bool true), (.int 181 0), (.ref 30), .none, (.ref 31), (.ref 32), (.ref 33), (.int 207 0), (.int 11 0), (.str "/claim/cut.py" 208)]), #[]⟩) ::
  (nat_lit 35, ⟨(.type "function"), none, (.func (fnD (e := (at1 3)) rfl "implied_names" .none .none .none (.str "htmltree.names" 194) none (.ref 34) .none)), #[]⟩) ::
  (nat_lit 43, ⟨(.type "tuple"), none, (.seq #[] 0), #[]⟩) ::
  (nat_lit 45, ⟨(.type "tuple"), none, (.seq #[(.str "self" 227), (.str "tree" 228)] 0), #[]⟩) ::
  (nat_lit 46, ⟨(.type "tuple"), none, (.seq #[] 0), #[]⟩) ::
  (nat_lit 48, ⟨(.type "code"), none, (.fields #[(.str "__init__" 224), (.str "OpenStack.__init__" 225), (.str "/claim/cut.py" 226), (.int 16 0), (.int 2 0), (.int 0 0), (.int 0 0), (.int 3 0), (.ref 43), (.bool true), (.int 181 0), (.ref 44), .none, (.ref 45), (.ref 46), (.ref 47), (.int 229 0), (.int 16 0), (.str "/claim/cut.py" 230)]), #[]⟩) ::
  (nat_lit 49, ⟨(.type "function"), none, (.func (fnD (e := (at2 5 0)) rfl "OpenStack.__init__" .none .none .none (.str "htmltree.openstack" 210) none (.ref 48) .none)), #[]⟩) ::
  (nat_lit 50, ⟨(.type "tuple"), none, (.seq #[] 0), #[]⟩) ::
  (nat_lit 52, ⟨(.type "tuple"), none, (.seq #[(.str "self" 235), (.str "node" 236)] 0), #[]⟩) ::
  (nat_lit 53, ⟨(.type "tuple"), none, (.seq #[] 0), #[]⟩) ::
  (nat_lit 55, ⟨(.type "code"), none, (.fields #[(.str "push" 232), (.str "OpenStack.push" 233), (.str "/claim/cut.py" 234), (.int 20 0), (.int 2 0), (.int 0 0), (.int 0 0), (.int 3 0), (.ref 50), (.bool true), (.int 181 0), (.ref 51), .none, (.ref 52), (.ref 53), (.ref 54), (.int 237 0), (.int 20 0), (.str "/claim/cut.py" 238)]), #[]⟩) ::
  (nat_lit 56, ⟨(.type "function"), none, (.func (fnD (e := (at2 5 1)) rfl "OpenStack.push" .none .none .none (.str "htmltree.openstack" 210) none (.ref 55) .none)), #[]⟩) ::
  (nat_lit 57, ⟨(.type "tuple"), none, (.seq #[] 0), #[]⟩) ::
  (nat_lit 59, ⟨(.type "tuple"), none, (.seq #[(.str "self" 243)] 0), #[]⟩) ::
  (nat_lit 60, ⟨(.type "tuple"), none, (.seq #[] 0), #[]⟩) ::
  (nat_lit 62, ⟨(.type "code"), none, (.fields #[(.str "pop" 240), (.str "OpenStack.pop" 241), (.str "/claim/cut.py" 242), (.int 23 0), (.int 1 0), (.int 0 0), (.int 0 0), (.int 3 0), (.ref 57), (.bool true), (.int 181 0), (.ref 58), .none, (.ref 59), (.ref 60), (.ref 61), (.int 244 0), (.int 23 0), (.str "/claim/cut.py" 245)]), #[]⟩) ::
  (nat_lit 63, ⟨(.type "function"), none, (.func (fnD (e := (at2 5 2)) rfl "OpenStack.pop" .none .none .none (.str "htmltree.openstack" 210) none (.ref 62) .none)), #[]⟩) ::
  (nat_lit 64, ⟨(.type "tuple"), none, (.seq #[] 0), #[]⟩) ::
  (nat_lit 66, ⟨(.type "tuple"), none, (.seq #[(.str "self" 250)] 0), #[]⟩) ::
  (nat_lit 67, ⟨(.type "tuple"), none, (.seq #[] 0), #[]⟩) ::
  (nat_lit 69, ⟨(.type "code"), none, (.fields #[(.str "current" 247), (.str "OpenStack.current" 248), (.str "/claim/cut.py" 249), (.int 28 0), (.int 1 0), (.int 0 0), (.int 0 0), (.int 3 0), (.ref 64), (.bool true), (.int 181 0), (.ref 65), .none, (.ref 66), (.ref 67), (.ref 68), (.int 251 0), (.int 28 0), (.str "/claim/cut.py" 252)]), #[]⟩) ::
  (nat_lit 70, ⟨(.type "function"), none, (.func (fnD (e := (at2 5 3)) rfl "OpenStack.current" .none .none .none (.str "htmltree.openstack" 210) none (.ref 69) .none)), #[]⟩) ::
  (nat_lit 71, ⟨(.type "tuple"), none, (.seq #[] 0), #[]⟩) ::
  (nat_lit 73, ⟨(.type "tuple"), none, (.seq #[(.str "self" 257)] 0), #[]⟩) ::
  (nat_lit 74, ⟨(.type "tuple"), none, (.seq #[] 0), #[]⟩) ::
  (nat_lit 76, ⟨(.type "code"), none, (.fields #[(.str "many" 254), (.str "OpenStack.many" 255), (.str "/claim/cut.py" 256), (.int 33 0), (.int 1 0), (.int 0 0), (.int 0 0), (.int 3 0), (.ref 71), (.bool true), (.int 181 0), (.ref 72), .none, (.ref 73), (.ref 74), (.ref 75), (.int 258 0), (.int 33 0), (.str "/claim/cut.py" 259)]), #[]⟩) ::
  (nat_lit 77, ⟨(.type "function"), none, (.func (fnD (e := (at2 5 4)) rfl "OpenStack.many" .none .none .none (.str "htmltree.openstack" 210) none (.ref 76) .none)), #[]⟩) ::
  (nat_lit 78, ⟨(.type "tuple"), none, (.seq #[] 0), #[]⟩) ::
  (nat_lit 80, ⟨(.type "tuple"), none, (.seq #[(.str "self" 264), (.str "node" 265)] 0), #[]⟩) ::
  (nat_lit 81, ⟨(.type "tuple"), none, (.seq #[] 0), #[]⟩) ::
  (nat_lit 83, ⟨(.type "code"), none, (.fields #[(.str "has" 261), (.str "OpenStack.has" 262), (.str "/claim/cut.py" 263), (.int 36 0), (.int 2 0), (.int 0 0), (.int 0 0), (.int 3 0), (.ref 78), (.bool true), (.int 181 0), (.ref 79), .none, (.ref 80), (.ref 81), (.ref 82), (.int 266 0), (.int 36 0), (.str "/claim/cut.py" 267)]), #[]⟩) ::
  (nat_lit 84, ⟨(.type "function"), none, (.func (fnD (e := (at2 5 5)) rfl "OpenStack.has" .none .none .none (.str "htmltree.openstack" 210) none (.ref 83) .none)), #[]⟩) ::
  (nat_lit 85, ⟨(.type "tuple"), none, (.seq #[] 0), #[]⟩) ::
  (nat_lit 87, ⟨(.type "tuple"), none, (.seq #[(.str "self" 272), (.str "node" 273)] 0), #[]⟩) ::
  (nat_lit 88, ⟨(.type "tuple"), none, (.seq #[] 0), #[]⟩) ::
  (nat_lit 90, ⟨(.type "code"), none, (.fields #[(.str "remove" 269), (.str "OpenStack.remove" 270), (.str "/claim/cut.py" 271), (.int 39 0), (.int 2 0), (.int 0 0), (.int 0 0), (.int 3 0), (.ref 85), (.bool true), (.int 181 0), (.ref 86), .none, (.ref 87), (.ref 88), (.ref 89), (.int 274 0), (.int 39 0), (.str "/claim/cut.py" 275)]), #[]⟩) ::
  (nat_lit 91, ⟨(.type "function"), none, (.func (fnD (e := (at2 5 6)) rfl "OpenStack.remove" .none .none .none (.str "htmltree.openstack" 210) none (.ref 90) .none)), #[]⟩) ::
  (nat_lit 92, ⟨(.type "tuple"), none, (.seq #[] 0), #[]⟩) ::
  (nat_lit 94, ⟨(.type "tuple"), none, (.seq #[(.str "self" 280), (.str "node" 281)] 0), #[]⟩) ::
  (nat_lit 95, ⟨(.type "tuple"), none, (.seq #[] 0), #[]⟩) ::
  (nat_lit 97, ⟨(.type "code"), none, (.fields #[(.str "place" 277), (.str "OpenStack.place" 278), (.str "/claim/cut.py" 279), (.int 43 0), (.int 2 0), (.int 0 0), (.int 0 0), (.int 3 0), (.ref 92), (.bool true), (.int 181 0), (.ref 93), .none, (.ref 94), (.ref 95), (.ref 96), (.int 282 0), (.int 43 0), (.str "/claim/cut.py" 283)]), #[]⟩) ::
  (nat_lit 98, ⟨(.type "function"), none, (.func (fnD (e := (at2 5 7)) rfl "OpenStack.place" .none .none .none (.str "htmltree.openstack" 210) none (.ref 97) .none)), #[]⟩) ::
  (nat_lit 99, ⟨(.type "tuple"), none, (.seq #[] 0), #[]⟩) ::
  (nat_lit 101, ⟨(.type "tuple"), none, (.seq #[(.str "self" 288), (.str "place" 289), (.str "node" 290)] 0), #[]⟩) ::
  (nat_lit 102, ⟨(.type "tuple"), none, (.seq #[] 0), #[]⟩) ::
  (nat_lit 104, ⟨(.type "code"), none, (.fields #[(.str "put_at" 285), (.str "OpenStack.put_at" 286), (.str "/claim/cut.py" 287), (.int 48 0), (.int 3 0), (.int 0 0), (.int 0 0), (.int 3 0), (.ref 99), (.bool true), (.int 181 0), (.ref 100), .none, (.ref 101), (.ref 102), (.ref 103), (.int 291 0), (.int 48 0), (.str "/claim/cut.py" 292)]), #[]⟩) ::
  (nat_lit 105, ⟨(.type "function"), none, (.func (fnD (e := (at2 5 8)) rfl "OpenStack.put_at" .none .none .none (.str "htmltree.openstack" 210) none (.ref 104) .none)), #[]⟩) ::
  (nat_lit 106, ⟨(.type "tuple"), none, (.seq #[] 0), #[]⟩) ::
  (nat_lit 108, ⟨(.type "tuple"), none, (.seq #[(.str "self" 297), (.str "node" 298)] 0), #[]⟩) ::
  (nat_lit 109, ⟨(.type "tuple"), none, (.seq #[] 0), #[]⟩) ::
  (nat_lit 111, ⟨(.type "code"), none, (.fields #[(.str "name" 294), (.str "OpenStack.name" 295), (.str "/claim/cut.py" 296), (.int 51 0), (.int 1 0), (.int 0 0), (.int 0 0), (.int 3 0), (.ref 106), (.bool true), (.int 181 0), (.ref 107), .none, (.ref 108), (.ref 109), (.ref 110), (.int 299 0), (.int 51 0), (.str "/claim/cut.py" 300)]), #[]⟩) ::
  (nat_lit 112, ⟨(.type "function"), none, (.func (fnD (e := (at2 5 9)) rfl "OpenStack.name" .none .none .none (.str "htmltree.openstack" 210) none (.ref 111) .none)), #[]⟩) ::
  (nat_lit 113, ⟨(.type "tuple"), none, (.seq #[] 0), #[]⟩) ::
  (nat_lit 115, ⟨(.type "tuple"), none, (.seq #[(.str "self" 305), (.str "name" 306)] 0), #[]⟩) ::
  (nat_lit 116, ⟨(.type "tuple"), none, (.seq #[] 0), #[]⟩) ::
  (nat_lit 118, ⟨(.type "code"), none, (.fields #[(.str "has_name" 302), (.str "OpenStack.has_name" 303), (.str "/claim/cut.py" 304), (.int 57 0), (.int 2 0), (.int 0 0), (.int 0 0), (.int 3 0), (.ref 113), (.bool true), (.int 181 0), (.ref 114), .none, (.ref 115), (.ref 116), (.ref 117), (.int 307 0), (.int 57 0), (.str "/claim/cut.py" 308)]), #[]⟩) ::
  (nat_lit 119, ⟨(.type "function"), none, (.func (fnD (e := (at2 5 10)) rfl "OpenStack.has_name" .none .none .none (.str "htmltree.openstack" 210) none (.ref 118) .none)), #[]⟩) ::
  (nat_lit 120, ⟨(.type "tuple"), none, (.seq #[] 0), #[]⟩) ::
  (nat_lit 122, ⟨(.type "tuple"), none, (.seq #[(.str "self" 313), (.str "names" 314)] 0), #[]⟩) ::
  (nat_lit 123, ⟨(.type "tuple"), none, (.seq #[] 0), #[]⟩) ::
  (nat_lit 125, ⟨(.type "code"), none, (.fields #[(.str "pop_until" 310), (.str "OpenStack.pop_until" 311), (.str "/claim/cut.py" 312), (.int 60 0), (.int 2 0), (.int 0 0), (.int 0 0), (.int 3 0), (.ref 120), (.bool true), (.int 181 0), (.ref 121), .none, (.ref 122), (.ref 123), (.ref 124), (.int 315 0), (.int 60 0), (.str "/claim/cut.py" 316)]), #[]⟩) ::
  (nat_lit 126, ⟨(.type "function"), none, (.func (fnD (e := (at2 5 11)) rfl "OpenStack.pop_until" .none .none .none (.str "htmltree.openstack" 210) none (.ref 125) .none)), #[]⟩) ::
  (nat_lit 127, ⟨(.type "tuple"), none, (.seq #[] 0), #[]⟩) ::
  (nat_lit 129, ⟨(.type "tuple"), none, (.seq #[(.str "self" 321), (.str "names" 322)] 0), #[]⟩) ::
  (nat_lit 130, ⟨(.type "tuple"), none, (.seq #[] 0), #[]⟩) ::
  (nat_lit 132, ⟨(.type "code"), none, (.fields #[(.str "pop_to" 318), (.str "OpenStack.pop_to" 319), (.str "/claim/cut.py" 320), (.int 63 0), (.int 2 0), (.int 0 0), (.int 0 0), (.int 3 0), (.ref 127), (.bool true), (.int 181 0), (.ref 128), .none, (.ref 129), (.ref 130), (.ref 131), (.int 323 0), (.int 63 0), (.str "/claim/cut.py" 324)]), #[]⟩) ::
  (nat_lit 133, ⟨(.type "function"), none, (.func (fnD (e := (at2 5 12)) rfl "OpenStack.pop_to" .none .none .none (.str "htmltree.openstack" 210) none (.ref 132) .none)), #[]⟩) ::
  (nat_lit 134, ⟨(.type "tuple"), none, (.seq #[(.str "items" 326), (.str "tree" 327)] 0), #[]⟩) ::
  (nat_lit 135, ⟨(.type "dict"), none, (.dict #[⟨(keyHash P "__module__"), (.str "__module__" 219), (.str "htmltree.openstack" 210)⟩, ⟨(keyHash P "__firstlineno__"), (.str "__firstlineno__" 223), (.int 14 222)⟩, ⟨(keyHash P "__init__"), (.str "__init__" 231), (.ref 49)⟩, ⟨(keyHash P "push"), (.str "push" 239), (.ref 56)⟩, ⟨(keyHash P "pop"), (.str "pop" 246), (.ref 63)⟩, ⟨(keyHash P "current"), (.str "current" 253), (.ref 70)⟩, ⟨(keyHash P "many"), (.str "many" 260), (.ref 77)⟩, ⟨(keyHash P "has"), (.str "has" 268), (.ref 84)⟩, ⟨(keyHash P "remove"), (.str "remove" 276), (.ref 91)⟩, ⟨(keyHash P "place"), (.str "place" 284), (.ref 98)⟩, ⟨(keyHash P "put_at"), (.str "put_at" 293), (.ref 105)⟩, ⟨(keyHash P "name"), (.str "name" 301), (.ref 112)⟩, ⟨(keyHash P "has_name"), (.str "has_name" 309), (.ref 119)⟩, ⟨(keyHash P "pop_until"), (.str "pop_until" 317), (.ref 126)⟩, ⟨(keyHash P "pop_to"), (.str "pop_to" 325), (.ref 133)⟩, ⟨(keyHash P "__static_attributes__"), (.str "__static_attributes__" 328), (.ref 134)⟩, ⟨(keyHash P "__dict__"), (.str "__dict__" 330), (.ref 137)⟩, ⟨(keyHash P "__weakref__"), (.str "__weakref__" 332), (.ref 138)⟩, ⟨(keyHash P "__doc__"), (.str "__doc__" 333), .none⟩] 4), #[]⟩) ::
  (nat_lit 136, ⟨(.type "type"), none, (.cls ⟨"OpenStack", [(.type "object")], [(.ref 136), (.type "object")], 135, "OpenStack", true, [], [], false, none, false⟩), #[none, none, (some (.str "OpenStack" 212)), (some (.str "OpenStack" 220)), (some (.builtin "object.__new__")), (some (.bool true))]⟩) ::
  (nat_lit 137, ⟨(.type "getset_descriptor"), none, (.fields #[(.str "__dict__" 329), (.ref 136), (.builtin "function.__dict__"), (.builtin "function.__dict__#set")]), #[]⟩) ::
  (nat_lit 138, ⟨(.type "getset_descriptor"), none, (.fields #[(.str "__weakref__" 331), (.ref 136), (.builtin "ExceptionGroup.__weakref__"), .none]), #[]⟩) ::
  (nat_lit 141, ⟨(.type "tuple"), none, (.seq #[] 0), #[]⟩) ::
  (nat_lit 143, ⟨(.type "tuple"), none, (.seq #[(.str "tree" 339), (.str "node" 340), (.str "sort" 341), (.str "space" 342), (.str "name" 343)] 0), #[]⟩) ::
  (nat_lit 144, ⟨(.type "tuple"), none, (.seq #[] 0), #[]⟩) ::
  (nat_lit 146, ⟨(.type "code"), none, (.fields #[(.str "stops_scope" 336), (.str "stops_scope" 337), (.str "/claim/cut.py" 338), (.int 65 0), (.int 3 0), (.int 0 0), (.int 0 0), (.int 3 0), (.ref 141), (.bool true), (.int 181 0), (.ref 142), .none, (.ref 143), (.ref 144), (.ref 145), (.int 344 0), (.int 65 0), (.str "/claim/cut.py" 345)]), #[]⟩) ::
  (nat_lit 147, ⟨(.type "function"), none, (.func (fnD (e := (at1 6)) rfl "stops_scope" .none .none .none (.str "htmltree.openstack" 210) none (.ref 146) .none)), #[]⟩) ::
  (nat_lit 148, ⟨(.type "tuple"), none, (.seq #[(.str "" 347)] 0), #[]⟩) ::
  (nat_lit 149, ⟨(.type "tuple"), none, (.seq #[] 0), #[]⟩) ::
  (nat_lit 151, ⟨(.type "tuple"), none, (.seq #[(.str "stack" 351), (.str "node" 352), (.str "sort" 353), (.str "at" 354)] 0), #[]⟩) ::
  (nat_lit 152, ⟨(.type "tuple"), none, (.seq #[] 0), #[]⟩) ::
  (nat_lit 154, ⟨(.type "code"), none, (.fields #[(.str "node_in_scope" 348), (.str "node_in_scope" 349), (.str "/claim/cut.py" 350), (.int 81 0), (.int 3 0), (.int 0 0), (.int 0 0), (.int 3 0), (.ref 149), (.bool true), (.int 181 0), (.ref 150), .none, (.ref 151), (.ref 152), (.ref 153), (.int 355 0), (.int 81 0), (.str "/claim/cut.py" 356)]), #[]⟩) ::
  (nat_lit 155, ⟨(.type "function"), none, (.func (fnD (e := (at1 7)) rfl "node_in_scope" (.ref 148) .none .none (.str "htmltree.openstack" 210) none (.ref 154) .none)), #[]⟩) ::
  (nat_lit 156, ⟨(.type "tuple"), none, (.seq #[(.str "" 358)] 0), #[]⟩) ::
  (nat_lit 157, ⟨(.type "tuple"), none, (.seq #[] 0), #[]⟩) ::
  (nat_lit 159, ⟨(.type "tuple"), none, (.seq #[(.str "stack" 362), (.str "but" 363), (.str "names" 364)] 0), #[]⟩) ::
  (nat_lit 160, ⟨(.type "tuple"), none, (.seq #[] 0), #[]⟩) ::
  (nat_lit 162, ⟨(.type "code"), none, (.fields #[(.str "pop_implied" 359), (.str "pop_implied" 360), (.str "/claim/cut.py" 361), (.int 88 0), (.int 2 0), (.int 0 0), (.int 0 0), (.int 3 0), (.ref 157), (.bool true), (.int 181 0), (.ref 158), .none, (.ref 159), (.ref 160), (.ref 161), (.int 365 0), (.int 88 0), (.str "/claim/cut.py" 366)]), #[]⟩) ::
  (nat_lit 163, ⟨(.type "function"), none, (.func (fnD (e := (at1 8)) rfl "pop_implied" (.ref 156) .none .none (.str "htmltree.openstack" 210) none (.ref 162) .none)), #[]⟩) ::
  (nat_lit 164, ⟨(.type "tuple"), none, (.seq #[] 0), #[]⟩) ::
  (nat_lit 166, ⟨(.type "tuple"), none, (.seq #[(.str "stack" 373), (.str "node" 374)] 0), #[]⟩) ::
  (nat_lit 167, ⟨(.type "tuple"), none, (.seq #[] 0), #[]⟩) ::
  (nat_lit 169, ⟨(.type "code"), none, (.fields #[(.str "pop_with" 370), (.str "pop_with" 371), (.str "/claim/cut.py" 372), (.int 93 0), (.int 2 0), (.int 0 0), (.int 0 0), (.int 3 0), (.ref 164), (.bool true), (.int 181 0), (.ref 165), .none, (.ref 166), (.ref 167), (.ref 168), (.int 375 0), (.int 93 0), (.str "/claim/cut.py" 376)]), #[]⟩) ::
  (nat_lit 170, ⟨(.type "function"), none, (.func (fnD (e := (at1 10)) rfl "pop_with" .none .none .none (.str "htmltree.adoption" 368) none (.ref 169) .none)), #[]⟩) ::
  (nat_lit 171, ⟨(.type "tuple"), none, (.seq #[] 0), #[]⟩) ::
  (nat_lit 173, ⟨(.type "tuple"), none, (.seq #[(.str "builder" 381), (.str "name" 382), (.str "tree" 383), (.str "stack" 384), (.str "at" 385), (.str "node" 386)] 0), #[]⟩) ::
  (nat_lit 174, ⟨(.type "tuple"), none, (.seq #[] 0), #[]⟩) ::
  (nat_lit 176, ⟨(.type "code"), none, (.fields #[(.str "any_other_end" 378), (.str "any_other_end" 379), (.str "/claim/cut.py" 380), (.int 97 0), (.int 2 0), (.int 0 0), (.int 0 0), (.int 3 0), (.ref 171), (.bool true), (.int 181 0), (.ref 172), .none, (.ref 173), (.ref 174), (.ref 175), (.int 387 0), (.int 97 0), (.str "/claim/cut.py" 388)]), #[]⟩) ::
  (nat_lit 177, ⟨(.type "function"), none, (.func (fnD (e := (at1 11)) rfl "any_other_end" .none .none .none (.str "htmltree.adoption" 368) none (.ref 176) .none)), #[]⟩) ::
  (nat_lit 178, ⟨(.type "tuple"), none, (.seq #[] 0), #[]⟩) ::
  (nat_lit 180, ⟨(.type "tuple"), none, (.seq #[(.str "builder" 393), (.str "name" 394), (.str "subject" 395)] 0), #[]⟩) ::
  (nat_lit 181, ⟨(.type "tuple"), none, (.seq #[] 0), #[]⟩) ::
  (nat_lit 183, ⟨(.type "code"), none, (.fields #[(.str "find_subject" 390), (.str "find_subject" 391), (.str "/claim/cut.py" 392), (.int 113 0), (.int 2 0), (.int 0 0), (.int 0 0), (.int 3 0), (.ref 178), (.bool true), (.int 181 0), (.ref 179), .none, (.ref 180), (.ref 181), (.ref 182), (.int 396 0), (.int 113 0), (.str "/claim/cut.py" 397)]), #[]⟩) ::
  (nat_lit 184, ⟨(.type "function"), none, (.func (fnD (e := (at1 12)) rfl "find_subject" .none .none .none (.str "htmltree.adoption" 368) none (.ref 183) .none)), #[]⟩) ::
  (nat_lit 185, ⟨(.type "tuple"), none, (.seq #[(.type "Exception")] 0), #[]⟩) ::
  (nat_lit 192, ⟨(.type "tuple"), none, (.seq #[] 0), #[]⟩) ::
  (nat_lit 194, ⟨(.type "tuple"), none, (.seq #[(.str "self" 416), (.str "why" 417)] 0), #[]⟩) ::
  (nat_lit 195, ⟨(.type "tuple"), none, (.seq #[] 0), #[]⟩) ::
  (nat_lit 197, ⟨(.type "code"), none, (.fields #[(.str "__init__" 413), (.str "HtmlFault.__init__" 414), (.str "/claim/cut.py" 415), (.int 131 0), (.int 2 0), (.int 0 0), (.int 0 0), (.int 3 0), (.ref 192), (.bool true), (.int 181 0), (.ref 193), .none, (.ref 194), (.ref 195), (.ref 196), (.int 418 0), (.int 131 0), (.str "/claim/cut.py" 419)]), #[]⟩) ::
  (nat_lit 198, ⟨(.type "function"), none, (.func (fnD (e := (at2 14 0)) rfl "HtmlFault.__init__" .none .none .none (.str "htmltree.faults" 399) none (.ref 197) .none)), #[]⟩) ::
  (nat_lit 199, ⟨(.type "tuple"), none, (.seq #[(.str "why" 421)] 0), #[]⟩) ::
  (nat_lit 200, ⟨(.type "dict"), none, (.dict #[⟨(keyHash P "__module__"), (.str "__module__" 408), (.str "htmltree.faults" 399)⟩, ⟨(keyHash P "__firstlineno__"), (.str "__firstlineno__" 412), (.int 129 411)⟩, ⟨(keyHash P "__init__"), (.str "__init__" 420), (.ref 198)⟩, ⟨(keyHash P "__static_attributes__"), (.str "__static_attributes__" 422), (.ref 199)⟩, ⟨(keyHash P "__weakref__"), (.str "__weakref__" 424), (.ref 202)⟩, ⟨(keyHash P "__doc__"), (.str "__doc__" 425), .none⟩] 3), #[]⟩) ::
  (nat_lit 201, ⟨(.type "type"), none, (.cls ⟨"HtmlFault", [(.type "Exception")], [(.ref 201), (.type "Exception"), (.type "BaseException"), (.type "object")], 200, "HtmlFault", true, [], [(.ref 214)], false, none, false⟩), #[(some (.ref 185)), none, (some (.str "HtmlFault" 401)), (some (.str "HtmlFault" 409)), (some (.builtin "Exception.__new__")), (some (.bool true))]⟩) ::
  (nat_lit 202, ⟨(.type "getset_descriptor"), none, (.fields #[(.str "__weakref__" 423), (.ref 201), (.builtin "ExceptionGroup.__weakref__"), .none]), #[]⟩) ::
  (nat_lit 205, ⟨(.type "tuple"), none, (.seq #[(.ref 201)] 0), #[]⟩) ::
  (nat_lit 212, ⟨(.type "tuple"), none, (.seq #[] 0), #[]⟩) ::
  (nat_lit 213, ⟨(.type "dict"), none, (.dict #[⟨(keyHash P "__module__"), (.str "__module__" 437), (.str "htmltree.faults" 399)⟩, ⟨(keyHash P "__firstlineno__"), (.str "__firstlineno__" 441), (.int 134 440)⟩, ⟨(keyHash P "__static_attributes__"), (.str "__static_attributes__" 442), (.ref 212)⟩, ⟨(keyHash P "__doc__"), (.str "__doc__" 443), .none⟩] 2), #[]⟩) ::
  (nat_lit 214, ⟨(.type "type"), none, (.cls ⟨"Misused", [(.ref 201)], [(.ref 214), (.ref 201), (.type "Exception"), (.type "BaseException"), (.type "object")], 213, "Misused", true, [], [], false, none, false⟩), #[(some (.ref 205)), none, (some (.str "Misused" 430)), (some (.str "Misused" 438)), (some (.builtin "Exception.__new__")), (some (.bool true))]⟩) ::
  (nat_lit 224, ⟨(.type "tuple"), none, (.seq #[] 0), #[]⟩) ::
  (nat_lit 226, ⟨(.type "tuple"), none, (.seq #[(.str "self" 463), (.str "tree" 464)] 0), #[]⟩) ::
  (nat_lit 227, ⟨(.type "tuple"), none, (.seq #[] 0), #[]⟩) ::
  (nat_lit 229, ⟨(.type "code"), none, (.fields #[(.str "__init__" 460), (.str "Formatting.__init__" 461), (.str "/claim/cut.py" 462), (.int 139 0), (.int 2 0), (.int 0 0), (.int 0 0), (.int 3 0), (.ref 224), (.bool true), (.int 181 0), (.ref 225), .none, (.ref 226), (.ref 227), (.ref 228), (.int 465 0), (.int 139 0), (.str "/claim/cut.py" 466)]), #[]⟩) ::
  (nat_lit 230, ⟨(.type "function"), none, (.func (fnD (e := (at2 17 0)) rfl "Formatting.__init__" .none .none .none (.str "htmltree.formatting" 446) none (.ref 229) .none)), #[]⟩) ::
  (nat_lit 231, ⟨(.type "tuple"), none, (.seq #[] 0), #[]⟩) ::
  (nat_lit 233, ⟨(.type "tuple"), none, (.seq #[(.str "self" 471), (.str "node" 472)] 0), #[]⟩) ::
  (nat_lit 234, ⟨(.type "tuple"), none, (.seq #[] 0), #[]⟩) ::
  (nat_lit 236, ⟨(.type "code"), none, (.fields #[(.str "push" 468), (.str "Formatting.push" 469), (.str "/claim/cut.py" 470), (.int 143 0), (.int 2 0), (.int 0 0), (.int 0 0), (.int 3 0), (.ref 231), (.bool true), (.int 181 0), (.ref 232), .none, (.ref 233), (.ref 234), (.ref 235), (.int 473 0), (.int 143 0), (.str "/claim/cut.py" 474)]), #[]⟩) ::
  (nat_lit 237, ⟨(.type "function"), none, (.func (fnD (e := (at2 17 1)) rfl "Formatting.push" .none .none .none (.str "htmltree.formatting" 446) none (.ref 236) .none)), #[]⟩) ::
  (nat_lit 238, ⟨(.type "tuple"), none, (.seq #[] 0), #[]⟩) ::
  (nat_lit 240, ⟨(.type "tuple"), none, (.seq #[(.str "self" 479)] 0), #[]⟩) ::
  (nat_lit 241, ⟨(.type "tuple"), none, (.seq #[] 0), #[]⟩) ::
  (nat_lit 243, ⟨(.type "code"), none, (.fields #[(.str "mark" 476), (.str "Formatting.mark" 477), (.str "/claim/cut.py" 478), (.int 146 0), (.int 1 0), (.int 0 0), (.int 0 0), (.int 3 0), (.ref 238), (.bool true), (.int 181 0), (.ref 239), .none, (.ref 240), (.ref 241), (.ref 242), (.int 480 0), (.int 146 0), (.str "/claim/cut.py" 481)]), #[]⟩) ::
  (nat_lit 244, ⟨(.type "function"), none, (.func (fnD (e := (at2 17 2)) rfl "Formatting.mark" .none .none .none (.str "htmltree.formatting" 446) none (.ref 243) .none)), #[]⟩) ::
  (nat_lit 245, ⟨(.type "tuple"), none, (.seq #[] 0), #[]⟩) ::
  (nat_lit 247, ⟨(.type "tuple"), none, (.seq #[(.str "self" 486)] 0), #[]⟩) ::
  (nat_lit 248, ⟨(.type "tuple"), none, (.seq #[] 0), #[]⟩) ::
  (nat_lit 250, ⟨(.type "code"), none, (.fields #[(.str "clear_to_mark" 483), (.str "Formatting.clear_to_mark" 484), (.str "/claim/cut.py" 485), (.int 149 0), (.int 1 0), (.int 0 0), (.int 0 0), (.int 3 0), (.ref 245), (.bool true), (.int 181 0), (.ref 246), .none, (.ref 247), (.ref 248), (.ref 249), (.int 487 0), (.int 149 0), (.str "/claim/cut.py" 488)]), #[]⟩) ::
  (nat_lit 251, ⟨(.type "function"), none, (.func (fnD (e := (at2 17 3)) rfl "Formatting.clear_to_mark" .none .none .none (.str "htmltree.formatting" 446) none (.ref 250) .none)), #[]⟩) ::
  (nat_lit 252, ⟨(.type "tuple"), none, (.seq #[] 0), #[]⟩) ::
  (nat_lit 254, ⟨(.type "tuple"), none, (.seq #[(.str "self" 493), (.str "name" 494), (.str "at" 495), (.str "node" 496)] 0), #[]⟩) ::
  (nat_lit 255, ⟨(.type "tuple"), none, (.seq #[] 0), #[]⟩) ::
  (nat_lit 257, ⟨(.type "code"), none, (.fields #[(.str "find" 490), (.str "Formatting.find" 491), (.str "/claim/cut.py" 492), (.int 152 0), (.int 2 0), (.int 0 0), (.int 0 0), (.int 3 0), (.ref 252), (.bool true), (.int 181 0), (.ref 253), .none, (.ref 254), (.ref 255), (.ref 256), (.int 497 0), (.int 152 0), (.str "/claim/cut.py" 498)]), #[]⟩) ::
  (nat_lit 258, ⟨(.type "function"), none, (.func (fnD (e := (at2 17 4)) rfl "Formatting.find" .none .none .none (.str "htmltree.formatting" 446) none (.ref 257) .none)), #[]⟩) ::
  (nat_lit 259, ⟨(.type "tuple"), none, (.seq #[] 0), #[]⟩) ::
  (nat_lit 261, ⟨(.type "tuple"), none, (.seq #[(.str "self" 503), (.str "node" 504)] 0), #[]⟩) ::
  (nat_lit 262, ⟨(.type "tuple"), none, (.seq #[] 0), #[]⟩) ::
  (nat_lit 264, ⟨(.type "code"), none, (.fields #[(.str "has" 500), (.str "Formatting.has" 501), (.str "/claim/cut.py" 502), (.int 161 0), (.int 2 0), (.int 0 0), (.int 0 0), (.int 3 0), (.ref 259), (.bool true), (.int 181 0), (.ref 260), .none, (.ref 261), (.ref 262), (.ref 263), (.int 505 0), (.int 161 0), (.str "/claim/cut.py" 506)]), #[]⟩) ::
  (nat_lit 265, ⟨(.type "function"), none, (.func (fnD (e := (at2 17 5)) rfl "Formatting.has" .none .none .none (.str "htmltree.formatting" 446) none (.ref 264) .none)), #[]⟩) ::
  (nat_lit 266, ⟨(.type "tuple"), none, (.seq #[] 0), #[]⟩) ::
  (nat_lit 268, ⟨(.type "tuple"), none, (.seq #[(.str "self" 511), (.str "node" 512)] 0), #[]⟩) ::
  (nat_lit 269, ⟨(.type "tuple"), none, (.seq #[] 0), #[]⟩) ::
  (nat_lit 271, ⟨(.type "code"), none, (.fields #[(.str "place" 508), (.str "Formatting.place" 509), (.str "/claim/cut.py" 510), (.int 164 0), (.int 2 0), (.int 0 0), (.int 0 0), (.int 3 0), (.ref 266), (.bool true), (.int 181 0), (.ref 267), .none, (.ref 268), (.ref 269), (.ref 270), (.int 513 0), (.int 164 0), (.str "/claim/cut.py" 514)]), #[]⟩) ::
  (nat_lit 272, ⟨(.type "function"), none, (.func (fnD (e := (at2 17 6)) rfl "Formatting.place" .none .none .none (.str "htmltree.formatting" 446) none (.ref 271) .none)), #[]⟩) ::
  (nat_lit 273, ⟨(.type "tuple"), none, (.seq #[] 0), #[]⟩) ::
  (nat_lit 275, ⟨(.type "tuple"), none, (.seq #[(.str "self" 519), (.str "node" 520)] 0), #[]⟩) ::
  (nat_lit 276, ⟨(.type "tuple"), none, (.seq #[] 0), #[]⟩) ::
  (nat_lit 278, ⟨(.type "code"), none, (.fields #[(.str "remove" 516), (.str "Formatting.remove" 517), (.str "/claim/cut.py" 518), (.int 169 0), (.int 2 0), (.int 0 0), (.int 0 0), (.int 3 0), (.ref 273), (.bool true), (.int 181 0), (.ref 274), .none, (.ref 275), (.ref 276), (.ref 277), (.int 521 0), (.int 169 0), (.str "/claim/cut.py" 522)]), #[]⟩) ::
  (nat_lit 279, ⟨(.type "function"), none, (.func (fnD (e := (at2 17 7)) rfl "Formatting.remove" .none .none .none (.str "htmltree.formatting" 446) none (.ref 278) .none)), #[]⟩) ::
  (nat_lit 280, ⟨(.type "tuple"), none, (.seq #[] 0), #[]⟩) ::
  (nat_lit 282, ⟨(.type "tuple"), none, (.seq #[(.str "self" 527), (.str "old" 528), (.str "new" 529)] 0), #[]⟩) ::
  (nat_lit 283, ⟨(.type "tuple"), none, (.seq #[] 0), #[]⟩) ::
  (nat_lit 285, ⟨(.type "code"), none, (.fields #[(.str "replace" 524), (.str "Formatting.replace" 525), (.str "/claim/cut.py" 526), (.int 173 0), (.int 3 0), (.int 0 0), (.int 0 0), (.int 3 0), (.ref 280), (.bool true), (.int 181 0), (.ref 281), .none, (.ref 282), (.ref 283), (.ref 284), (.int 530 0), (.int 173 0), (.str "/claim/cut.py" 531)]), #[]⟩) ::
  (nat_lit 286, ⟨(.type "function"), none, (.func (fnD (e := (at2 17 8)) rfl "Formatting.replace" .none .none .none (.str "htmltree.formatting" 446) none (.ref 285) .none)), #[]⟩) ::
  (nat_lit 287, ⟨(.type "tuple"), none, (.seq #[] 0), #[]⟩) ::
  (nat_lit 289, ⟨(.type "tuple"), none, (.seq #[(.str "self" 536), (.str "place" 537), (.str "node" 538)] 0), #[]⟩) ::
  (nat_lit 290, ⟨(.type "tuple"), none, (.seq #[] 0), #[]⟩) ::
  (nat_lit 292, ⟨(.type "code"), none, (.fields #[(.str "put_at" 533), (.str "Formatting.put_at" 534), (.str "/claim/cut.py" 535), (.int 176 0), (.int 3 0), (.int 0 0), (.int 0 0), (.int 3 0), (.ref 287), (.bool true), (.int 181 0), (.ref 288), .none, (.ref 289), (.ref 290), (.ref 291), (.int 539 0), (.int 176 0), (.str "/claim/cut.py" 540)]), #[]⟩) ::
  (nat_lit 293, ⟨(.type "function"), none, (.func (fnD (e := (at2 17 9)) rfl "Formatting.put_at" .none .none .none (.str "htmltree.formatting" 446) none (.ref 292) .none)), #[]⟩) ::
  (nat_lit 294, ⟨(.type "tuple"), none, (.seq #[(.str "items" 542), (.str "tree" 543)] 0), #[]⟩) ::
  (nat_lit 295, ⟨(.type "dict"), none, (.dict #[⟨(keyHash P "__module__"), (.str "__module__" 455), (.str "htmltree.formatting" 446)⟩, ⟨(keyHash P "__firstlineno__"), (.str "__firstlineno__" 459), (.int 137 458)⟩, ⟨(keyHash P "__init__"), (.str "__init__" 467), (.ref 230)⟩, ⟨(keyHash P "push"), (.str "push" 475), (.ref 237)⟩, ⟨(keyHash P "mark"), (.str "mark" 482), (.ref 244)⟩, ⟨(keyHash P "clear_to_mark"), (.str "clear_to_mark" 489), (.ref 251)⟩, ⟨(keyHash P "find"), (.str "find" 499), (.ref 258)⟩, ⟨(keyHash P "has"), (.str "has" 507), (.ref 265)⟩, ⟨(keyHash P "place"), (.str "place" 515), (.ref 272)⟩, ⟨(keyHash P "remove"), (.str "remove" 523), (.ref 279)⟩, ⟨(keyHash P "replace"), (.str "replace" 532), (.ref 286)⟩, ⟨(keyHash P "put_at"), (.str "put_at" 541), (.ref 293)⟩, ⟨(keyHash P "__static_attributes__"), (.str "__static_attributes__" 544), (.ref 294)⟩, ⟨(keyHash P "__dict__"), (.str "__dict__" 546), (.ref 297)⟩, ⟨(keyHash P "__weakref__"), (.str "__weakref__" 548), (.ref 298)⟩, ⟨(keyHash P "__doc__"), (.str "__doc__" 549), .none⟩] 4), #[]⟩) ::
  (nat_lit 296, ⟨(.type "type"), none, (.cls ⟨"Formatting", [(.type "object")], [(.ref 296), (.type "object")], 295, "Formatting", true, [], [], false, none, false⟩), #[none, none, (some (.str "Formatting" 448)), (some (.str "Formatting" 456)), (some (.builtin "object.__new__")), (some (.bool true))]⟩) ::
  (nat_lit 297, ⟨(.type "getset_descriptor"), none, (.fields #[(.str "__dict__" 545), (.ref 296), (.builtin "function.__dict__"), (.builtin "function.__dict__#set")]), #[]⟩) ::
  (nat_lit 298, ⟨(.type "getset_descriptor"), none, (.fields #[(.str "__weakref__" 547), (.ref 296), (.builtin "ExceptionGroup.__weakref__"), .none]), #[]⟩) ::
  (nat_lit 308, ⟨(.type "tuple"), none, (.seq #[] 0), #[]⟩) ::
  (nat_lit 310, ⟨(.type "tuple"), none, (.seq #[(.str "self" 569)] 0), #[]⟩) ::
  (nat_lit 311, ⟨(.type "tuple"), none, (.seq #[] 0), #[]⟩) ::
  (nat_lit 313, ⟨(.type "code"), none, (.fields #[(.str "__init__" 566), (.str "Tree.__init__" 567), (.str "/claim/cut.py" 568), (.int 181 0), (.int 1 0), (.int 0 0), (.int 0 0), (.int 3 0), (.ref 308), (.bool true), (.int 181 0), (.ref 309), .none, (.ref 310), (.ref 311), (.ref 312), (.int 570 0), (.int 181 0), (.str "/claim/cut.py" 571)]), #[]⟩) ::
  (nat_lit 314, ⟨(.type "function"), none, (.func (fnD (e := (at2 19 0)) rfl "Tree.__init__" .none .none .none (.str "htmltree.tree" 552) none (.ref 313) .none)), #[]⟩) ::
  (nat_lit 315, ⟨(.type "tuple"), none, (.seq #[] 0), #[]⟩) ::
  (nat_lit 316, ⟨(.type "tuple"), none, (.seq #[(.str "" 573), (.str "" 574), (.ref 315), (.str "" 575)] 0), #[]⟩) ::
  (nat_lit 317, ⟨(.type "tuple"), none, (.seq #[] 0), #[]⟩) ::
  (nat_lit 319, ⟨(.type "tuple"), none, (.seq #[(.str "self" 579), (.str "kind" 580), (.str "space" 581), (.str "name" 582), (.str "attrs" 583), (.str "text" 584)] 0), #[]⟩) ::
  (nat_lit 320, ⟨(.type "tuple"), none, (.seq #[] 0), #[]⟩) ::
  (nat_lit 322, ⟨(.type "code"), none, (.fields #[(.str "add" 576), (.str "Tree.add" 577), (.str "/claim/cut.py" 578), (.int 192 0), (.int 6 0), (.int 0 0), (.int 0 0), (.int 3 0), (.ref 317), (.bool true), (.int 181 0), (.ref 318), .none, (.ref 319), (.ref 320), (.ref 321), (.int 585 0), (.int 192 0), (.str "/claim/cut.py" 586)]), #[]⟩) ::
  (nat_lit 323, ⟨(.type "function"), none, (.func (fnD (e := (at2 19 1)) rfl "Tree.add" (.ref 316) .none .none (.str "htmltree.tree" 552) none (.ref 322) .none)), #[]⟩) ::
  (nat_lit 324, ⟨(.type "tuple"), none, (.seq #[] 0), #[]⟩) ::
  (nat_lit 325, ⟨(.type "tuple"), none, (.seq #[(.str "html" 588), (.ref 324)] 0), #[]⟩) ::
  (nat_lit 326, ⟨(.type "tuple"), none, (.seq #[] 0), #[]⟩) ::
  (nat_lit 328, ⟨(.type "tuple"), none, (.seq #[(.str "self" 592), (.str "name" 593), (.str "space" 594), (.str "attrs" 595), (.str "node" 596)] 0), #[]⟩) ::
  (nat_lit 329, ⟨(.type "tuple"), none, (.seq #[] 0), #[]⟩) ::
  (nat_lit 331, ⟨(.type "code"), none, (.fields #[(.str "element" 589), (.str "Tree.element" 590), (.str "/claim/cut.py" 591), (.int 202 0), (.int 4 0), (.int 0 0), (.int 0 0), (.int 3 0), (.ref 326), (.bool true), (.int 181 0), (.ref 327), .none, (.ref 328), (.ref 329), (.ref 330), (.int 597 0), (.int 202 0), (.str "/claim/cut.py" 598)]), #[]⟩) ::
  (nat_lit 332, ⟨(.type "function"), none, (.func (fnD (e := (at2 19 2)) rfl "Tree.element" (.ref 325) .none .none (.str "htmltree.tree" 552) none (.ref 331) .none)), #[]⟩) ::
  (nat_lit 333, ⟨(.type "tuple"), none, (.seq #[] 0), #[]⟩) ::
  (nat_lit 335, ⟨(.type "tuple"), none, (.seq #[(.str "self" 603), (.str "text" 604)] 0), #[]⟩) ::
  (nat_lit 336, ⟨(.type "tuple"), none, (.seq #[] 0), #[]⟩) ::
  (nat_lit 338, ⟨(.type "code"), none, (.fields #[(.str "text" 600), (.str "Tree.text" 601), (.str "/claim/cut.py" 602), (.int 208 0), (.int 2 0), (.int 0 0), (.int 0 0), (.int 3 0), (.ref 333), (.bool true), (.int 181 0), (.ref 334), .none, (.ref 335), (.ref 336), (.ref 337), (.int 605 0), (.int 208 0), (.str "/claim/cut.py" 606)]), #[]⟩) ::
  (nat_lit 339, ⟨(.type "function"), none, (.func (fnD (e := (at2 19 3)) rfl "Tree.text" .none .none .none (.str "htmltree.tree" 552) none (.ref 338) .none)), #[]⟩) ::
  (nat_lit 340, ⟨(.type "tuple"), none, (.seq #[] 0), #[]⟩) ::
  (nat_lit 342, ⟨(.type "tuple"), none, (.seq #[(.str "self" 611), (.str "text" 612)] 0), #[]⟩) ::
  (nat_lit 343, ⟨(.type "tuple"), none, (.seq #[] 0), #[]⟩) ::
  (nat_lit 345, ⟨(.type "code"), none, (.fields #[(.str "comment" 608), (.str "Tree.comment" 609), (.str "/claim/cut.py" 610), (.int 211 0), (.int 2 0), (.int 0 0), (.int 0 0), (.int 3 0), (.ref 340), (.bool true), (.int 181 0), (.ref 341), .none, (.ref 342), (.ref 343), (.ref 344), (.int 613 0), (.int 211 0), (.str "/claim/cut.py" 614)]), #[]⟩) ::
  (nat_lit 346, ⟨(.type "function"), none, (.func (fnD (e := (at2 19 4)) rfl "Tree.comment" .none .none .none (.str "htmltree.tree" 552) none (.ref 345) .none)), #[]⟩) ::
  (nat_lit 347, ⟨(.type "tuple"), none, (.seq #[] 0), #[]⟩) ::
  (nat_lit 349, ⟨(.type "tuple"), none, (.seq #[(.str "self" 619), (.str "name" 620), (.str "public" 621), (.str "system" 622)] 0), #[]⟩) ::
  (nat_lit 350, ⟨(.type "tuple"), none, (.seq #[] 0), #[]⟩) ::
  (nat_lit 352, ⟨(.type "code"), none, (.fields #[(.str "doctype" 616), (.str "Tree.doctype" 617), (.str "/claim/cut.py" 618), (.int 214 0), (.int 4 0), (.int 0 0), (.int 0 0), (.int 3 0), (.ref 347), (.bool true), (.int 181 0), (.ref 348), .none, (.ref 349), (.ref 350), (.ref 351), (.int 623 0), (.int 214 0), (.str "/claim/cut.py" 624)]), #[]⟩) ::
  (nat_lit 353, ⟨(.type "function"), none, (.func (fnD (e := (at2 19 5)) rfl "Tree.doctype" .none .none .none (.str "htmltree.tree" 552) none (.ref 352) .none)), #[]⟩) ::
  (nat_lit 354, ⟨(.type "tuple"), none, (.seq #[(.int (-1) 627)] 0), #[]⟩) ::
  (nat_lit 355, ⟨(.type "tuple"), none, (.seq #[] 0), #[]⟩) ::
  (nat_lit 357, ⟨(.type "tuple"), none, (.seq #[(.str "self" 631), (.str "parent" 632), (.str "node" 633), (.str "before" 634), (.str "at" 635)] 0), #[]⟩) ::
  (nat_lit 358, ⟨(.type "tuple"), none, (.seq #[] 0), #[]⟩) ::
  (nat_lit 360, ⟨(.type "code"), none, (.fields #[(.str "insert" 628), (.str "Tree.insert" 629), (.str "/claim/cut.py" 630), (.int 217 0), (.int 4 0), (.int 0 0), (.int 0 0), (.int 3 0), (.ref 355), (.bool true), (.int 181 0), (.ref 356), .none, (.ref 357), (.ref 358), (.ref 359), (.int 636 0), (.int 217 0), (.str "/claim/cut.py" 637)]), #[]⟩) ::
  (nat_lit 361, ⟨(.type "function"), none, (.func (fnD (e := (at2 19 6)) rfl "Tree.insert" (.ref 354) .none .none (.str "htmltree.tree" 552) none (.ref 360) .none)), #[]⟩) ::
  (nat_lit 362, ⟨(.type "tuple"), none, (.seq #[] 0), #[]⟩) ::
  (nat_lit 364, ⟨(.type "tuple"), none, (.seq #[(.str "self" 642), (.str "parent" 643), (.str "node" 644)] 0), #[]⟩) ::
  (nat_lit 365, ⟨(.type "tuple"), none, (.seq #[] 0), #[]⟩) ::
  (nat_lit 367, ⟨(.type "code"), none, (.fields #[(.str "append" 639), (.str "Tree.append" 640), (.str "/claim/cut.py" 641), (.int 231 0), (.int 3 0), (.int 0 0), (.int 0 0), (.int 3 0), (.ref 362), (.bool true), (.int 181 0), (.ref 363), .none, (.ref 364), (.ref 365), (.ref 366), (.int 645 0), (.int 231 0), (.str "/claim/cut.py" 646)]), #[]⟩) ::
  (nat_lit 368, ⟨(.type "function"), none, (.func (fnD (e := (at2 19 7)) rfl "Tree.append" .none .none .none (.str "htmltree.tree" 552) none (.ref 367) .none)), #[]⟩) ::
  (nat_lit 369, ⟨(.type "tuple"), none, (.seq #[] 0), #[]⟩) ::
  (nat_lit 371, ⟨(.type "tuple"), none, (.seq #[(.str "self" 651), (.str "node" 652)] 0), #[]⟩) ::
  (nat_lit 372, ⟨(.type "tuple"), none, (.seq #[] 0), #[]⟩) ::
  (nat_lit 374, ⟨(.type "code"), none, (.fields #[(.str "remove" 648), (.str "Tree.remove" 649), (.str "/claim/cut.py" 650), (.int 234 0), (.int 2 0), (.int 0 0), (.int 0 0), (.int 3 0), (.ref 369), (.bool true), (.int 181 0), (.ref 370), .none, (.ref 371), (.ref 372), (.ref 373), (.int 653 0), (.int 234 0), (.str "/claim/cut.py" 654)]), #[]⟩) ::
  (nat_lit 375, ⟨(.type "function"), none, (.func (fnD (e := (at2 19 8)) rfl "Tree.remove" .none .none .none (.str "htmltree.tree" 552) none (.ref 374) .none)), #[]⟩) ::
  (nat_lit 376, ⟨(.type "tuple"), none, (.seq #[] 0), #[]⟩) ::
  (nat_lit 378, ⟨(.type "tuple"), none, (.seq #[(.str "self" 659), (.str "here" 660), (.str "there" 661)] 0), #[]⟩) ::
  (nat_lit 379, ⟨(.type "tuple"), none, (.seq #[] 0), #[]⟩) ::
  (nat_lit 381, ⟨(.type "code"), none, (.fields #[(.str "move_children" 656), (.str "Tree.move_children" 657), (.str "/claim/cut.py" 658), (.int 239 0), (.int 3 0), (.int 0 0), (.int 0 0), (.int 3 0), (.ref 376), (.bool true), (.int 181 0), (.ref 377), .none, (.ref 378), (.ref 379), (.ref 380), (.int 662 0), (.int 239 0), (.str "/claim/cut.py" 663)]), #[]⟩) ::
  (nat_lit 382, ⟨(.type "function"), none, (.func (fnD (e := (at2 19 9)) rfl "Tree.move_children" .none .none .none (.str "htmltree.tree" 552) none (.ref 381) .none)), #[]⟩) ::
  (nat_lit 383, ⟨(.type "tuple"), none, (.seq #[] 0), #[]⟩) ::
  (nat_lit 385, ⟨(.type "tuple"), none, (.seq #[(.str "self" 668), (.str "node" 669)] 0), #[]⟩) ::
  (nat_lit 386, ⟨(.type "tuple"), none, (.seq #[] 0), #[]⟩) ::
  (nat_lit 388, ⟨(.type "code"), none, (.fields #[(.str "place" 665), (.str "Tree.place" 666), (.str "/claim/cut.py" 667), (.int 242 0), (.int 2 0), (.int 0 0), (.int 0 0), (.int 3 0), (.ref 383), (.bool true), (.int 181 0), (.ref 384), .none, (.ref 385), (.ref 386), (.ref 387), (.int 670 0), (.int 242 0), (.str "/claim/cut.py" 671)]), #[]⟩) ::
  (nat_lit 389, ⟨(.type "function"), none, (.func (fnD (e := (at2 19 10)) rfl "Tree.place" .none .none .none (.str "htmltree.tree" 552) none (.ref 388) .none)), #[]⟩) ::
  (nat_lit 390, ⟨(.type "tuple"), none, (.seq #[] 0), #[]⟩) ::
  (nat_lit 392, ⟨(.type "tuple"), none, (.seq #[(.str "self" 676), (.str "parent" 677)] 0), #[]⟩) ::
  (nat_lit 393, ⟨(.type "tuple"), none, (.seq #[] 0), #[]⟩) ::
  (nat_lit 395, ⟨(.type "code"), none, (.fields #[(.str "last" 673), (.str "Tree.last" 674), (.str "/claim/cut.py" 675), (.int 247 0), (.int 2 0), (.int 0 0), (.int 0 0), (.int 3 0), (.ref 390), (.bool true), (.int 181 0), (.ref 391), .none, (.ref 392), (.ref 393), (.ref 394), (.int 678 0), (.int 247 0), (.str "/claim/cut.py" 679)]), #[]⟩) ::
  (nat_lit 396, ⟨(.type "function"), none, (.func (fnD (e := (at2 19 11)) rfl "Tree.last" .none .none .none (.str "htmltree.tree" 552) none (.ref 395) .none)), #[]⟩) ::
  (nat_lit 397, ⟨(.type "tuple"), none, (.seq #[] 0), #[]⟩) ::
  (nat_lit 399, ⟨(.type "tuple"), none, (.seq #[(.str "self" 684), (.str "node" 685), (.str "name" 686)] 0), #[]⟩) ::
  (nat_lit 400, ⟨(.type "tuple"), none, (.seq #[] 0), #[]⟩) ::
  (nat_lit 402, ⟨(.type "code"), none, (.fields #[(.str "value" 681), (.str "Tree.value" 682), (.str "/claim/cut.py" 683), (.int 252 0), (.int 3 0), (.int 0 0), (.int 0 0), (.int 3 0), (.ref 397), (.bool true), (.int 181 0), (.ref 398), .none, (.ref 399), (.ref 400), (.ref 401), (.int 687 0), (.int 252 0), (.str "/claim/cut.py" 688)]), #[]⟩) ::
  (nat_lit 403, ⟨(.type "function"), none, (.func (fnD (e := (at2 19 12)) rfl "Tree.value" .none .none .none (.str "htmltree.tree" 552) none (.ref 402) .none)), #[]⟩) ::
  (nat_lit 404, ⟨(.type "tuple"), none, (.seq #[] 0), #[]⟩) ::
  (nat_lit 406, ⟨(.type "tuple"), none, (.seq #[(.str "self" 693), (.str "node" 694), (.str "name" 695)] 0), #[]⟩) ::
  (nat_lit 407, ⟨(.type "tuple"), none, (.seq #[] 0), #[]⟩) ::
  (nat_lit 409, ⟨(.type "code"), none, (.fields #[(.str "is_html" 690), (.str "Tree.is_html" 691), (.str "/claim/cut.py" 692), (.int 255 0), (.int 3 0), (.int 0 0), (.int 0 0), (.int 3 0), (.ref 404), (.bool true), (.int 181 0), (.ref 405), .none, (.ref 406), (.ref 407), (.ref 408), (.int 696 0), (.int 255 0), (.str "/claim/cut.py" 697)]), #[]⟩) ::
  (nat_lit 410, ⟨(.type "function"), none, (.func (fnD (e := (at2 19 13)) rfl "Tree.is_html" .none .none .none (.str "htmltree.tree" 552) none (.ref 409) .none)), #[]⟩) ::
  (nat_lit 411, ⟨(.type "tuple"), none, (.seq #[(.str "attrs" 699), (.str "children" 700), (.str "contents" 701), (.str "kinds" 702), (.str "names" 703), (.str "parents" 704), (.str "spaces" 705), (.str "texts" 706)] 0), #[]⟩) ::
  (nat_lit 412, ⟨(.type "dict"), none, (.dict #[⟨(keyHash P "__module__"), (.str "__module__" 561), (.str "htmltree.tree" 552)⟩, ⟨(keyHash P "__firstlineno__"), (.str "__firstlineno__" 565), (.int 179 564)⟩, ⟨(keyHash P "__init__"), (.str "__init__" 572), (.ref 314)⟩, ⟨(keyHash P "add"), (.str "add" 587), (.ref 323)⟩, ⟨(keyHash P "element"), (.str "element" 599), (.ref 332)⟩, ⟨(keyHash P "text"), (.str "text" 607), (.ref 339)⟩, ⟨(keyHash P "comment"), (.str "comment" 615), (.ref 346)⟩, ⟨(keyHash P "doctype"), (.str "doctype" 625), (.ref 353)⟩, ⟨(keyHash P "insert"), (.str "insert" 638), (.ref 361)⟩, ⟨(keyHash P "append"), (.str "append" 647), (.ref 368)⟩, ⟨(keyHash P "remove"), (.str "remove" 655), (.ref 375)⟩, ⟨(keyHash P "move_children"), (.str "move_children" 664), (.ref 382)⟩, ⟨(keyHash P "place"), (.str "place" 672), (.ref 389)⟩, ⟨(keyHash P "last"), (.str "last" 680), (.ref 396)⟩, ⟨(keyHash P "value"), (.str "value" 689), (.ref 403)⟩, ⟨(keyHash P "is_html"), (.str "is_html" 698), (.ref 410)⟩, ⟨(keyHash P "__static_attributes__"), (.str "__static_attributes__" 707), (.ref 411)⟩, ⟨(keyHash P "__dict__"), (.str "__dict__" 709), (.ref 414)⟩, ⟨(keyHash P "__weakref__"), (.str "__weakref__" 711), (.ref 415)⟩, ⟨(keyHash P "__doc__"), (.str "__doc__" 712), .none⟩] 4), #[]⟩) ::
  (nat_lit 413, ⟨(.type "type"), none, (.cls ⟨"Tree", [(.type "object")], [(.ref 413), (.type "object")], 412, "Tree", true, [], [], false, none, false⟩), #[none, none, (some (.str "Tree" 554)), (some (.str "Tree" 562)), (some (.builtin "object.__new__")), (some (.bool true))]⟩) ::
  (nat_lit 414, ⟨(.type "getset_descriptor"), none, (.fields #[(.str "__dict__" 708), (.ref 413), (.builtin "function.__dict__"), (.builtin "function.__dict__#set")]), #[]⟩) ::
  (nat_lit 415, ⟨(.type "getset_descriptor"), none, (.fields #[(.str "__weakref__" 710), (.ref 413), (.builtin "ExceptionGroup.__weakref__"), .none]), #[]⟩) ::
  (nat_lit 418, ⟨(.type "tuple"), none, (.seq #[] 0), #[]⟩) ::
  (nat_lit 420, ⟨(.type "tuple"), none, (.seq #[(.str "tree" 718), (.str "node" 719), (.str "out" 720), (.str "up" 721)] 0), #[]⟩) ::
  (nat_lit 421, ⟨(.type "tuple"), none, (.seq #[] 0), #[]⟩) ::
  (nat_lit 423, ⟨(.type "code"), none, (.fields #[(.str "above" 715), (.str "above" 716), (.str "/claim/cut.py" 717), (.int 257 0), (.int 2 0), (.int 0 0), (.int 0 0), (.int 3 0), (.ref 418), (.bool true), (.int 181 0), (.ref 419), .none, (.ref 420), (.ref 421), (.ref 422), (.int 722 0), (.int 257 0), (.str "/claim/cut.py" 723)]), #[]⟩) ::
  (nat_lit 424, ⟨(.type "function"), none, (.func (fnD (e := (at1 20)) rfl "above" .none .none .none (.str "htmltree.tree" 552) none (.ref 423) .none)), #[]⟩) ::
  (nat_lit 432, ⟨(.type "tuple"), none, (.seq #[(.bool false)] 0), #[]⟩) ::
  (nat_lit 433, ⟨(.type "tuple"), none, (.seq #[] 0), #[]⟩) ::
  (nat_lit 435, ⟨(.type "tuple"), none, (.seq #[(.str "self" 742), (.str "rules" 743), (.str "is_scripting" 744)] 0), #[]⟩) ::
  (nat_lit 436, ⟨(.type "tuple"), none, (.seq #[] 0), #[]⟩) ::
  (nat_lit 438, ⟨(.type "code"), none, (.fields #[(.str "__init__" 739), (.str "Builder.__init__" 740), (.str "/claim/cut.py" 741), (.int 267 0), (.int 3 0), (.int 0 0), (.int 0 0), (.int 3 0), (.ref 433), (.bool true), (.int 181 0), (.ref 434), .none, (.ref 435), (.ref 436), (.ref 437), (.int 745 0), (.int 267 0), (.str "/claim/cut.py" 746)]), #[]⟩) ::
  (nat_lit 439, ⟨(.type "function"), none, (.func (fnD (e := (at2 22 0)) rfl "Builder.__init__" (.ref 432) .none .none (.str "htmltree.builder" 725) none (.ref 438) .none)), #[]⟩) ::
  (nat_lit 440, ⟨(.type "tuple"), none, (.seq #[] 0), #[]⟩) ::
  (nat_lit 442, ⟨(.type "tuple"), none, (.seq #[(.str "self" 751), (.str "word" 752)] 0), #[]⟩) ::
  (nat_lit 443, ⟨(.type "tuple"), none, (.seq #[] 0), #[]⟩) ::
  (nat_lit 445, ⟨(.type "code"), none, (.fields #[(.str "error" 748), (.str "Builder.error" 749), (.str "/claim/cut.py" 750), (.int 290 0), (.int 2 0), (.int 0 0), (.int 0 0), (.int 3 0), (.ref 440), (.bool true), (.int 181 0), (.ref 441), .none, (.ref 442), (.ref 443), (.ref 444), (.int 753 0), (.int 290 0), (.str "/claim/cut.py" 754)]), #[]⟩) ::
  (nat_lit 446, ⟨(.type "function"), none, (.func (fnD (e := (at2 22 1)) rfl "Builder.error" .none .none .none (.str "htmltree.builder" 725) none (.ref 445) .none)), #[]⟩) ::
  (nat_lit 447, ⟨(.type "tuple"), none, (.seq #[] 0), #[]⟩) ::
  (nat_lit 449, ⟨(.type "tuple"), none, (.seq #[(.str "self" 759), (.str "mode" 760)] 0), #[]⟩) ::
  (nat_lit 450, ⟨(.type "tuple"), none, (.seq #[] 0), #[]⟩) ::
  (nat_lit 452, ⟨(.type "code"), none, (.fields #[(.str "to" 756), (.str "Builder.to" 757), (.str "/claim/cut.py" 758), (.int 293 0), (.int 2 0), (.int 0 0), (.int 0 0), (.int 3 0), (.ref 447), (.bool true), (.int 181 0), (.ref 448), .none, (.ref 449), (.ref 450), (.ref 451), (.int 761 0), (.int 293 0), (.str "/claim/cut.py" 762)]), #[]⟩) ::
  (nat_lit 453, ⟨(.type "function"), none, (.func (fnD (e := (at2 22 2)) rfl "Builder.to" .none .none .none (.str "htmltree.builder" 725) none (.ref 452) .none)), #[]⟩) ::
  (nat_lit 454, ⟨(.type "tuple"), none, (.seq #[] 0), #[]⟩) ::
  (nat_lit 456, ⟨(.type "tuple"), none, (.seq #[(.str "self" 767), (.str "name" 768), (.str "token" 769)] 0), #[]⟩) ::
  (nat_lit 457, ⟨(.type "tuple"), none, (.seq #[] 0), #[]⟩) ::
  (nat_lit 459, ⟨(.type "code"), none, (.fields #[(.str "use" 764), (.str "Builder.use" 765), (.str "/claim/cut.py" 766), (.int 296 0), (.int 3 0), (.int 0 0), (.int 0 0), (.int 3 0), (.ref 454), (.bool true), (.int 181 0), (.ref 455), .none, (.ref 456), (.ref 457), (.ref 458), (.int 770 0), (.int 296 0), (.str "/claim/cut.py" 771)]), #[]⟩) ::
  (nat_lit 460, ⟨(.type "function"), none, (.func (fnD (e := (at2 22 3)) rfl "Builder.use" .none .none .none (.str "htmltree.builder" 725) none (.ref 459) .none)), #[]⟩) ::
  (nat_lit 461, ⟨(.type "tuple"), none, (.seq #[] 0), #[]⟩) ::
  (nat_lit 463, ⟨(.type "tuple"), none, (.seq #[(.str "self" 776), (.str "token" 777)] 0), #[]⟩) ::
  (nat_lit 464, ⟨(.type "tuple"), none, (.seq #[] 0), #[]⟩) ::
  (nat_lit 466, ⟨(.type "code"), none, (.fields #[(.str "process" 773), (.str "Builder.process" 774), (.str "/claim/cut.py" 775), (.int 299 0), (.int 2 0), (.int 0 0), (.int 0 0), (.int 3 0), (.ref 461), (.bool true), (.int 181 0), (.ref 462), .none, (.ref 463), (.ref 464), (.ref 465), (.int 778 0), (.int 299 0), (.str "/claim/cut.py" 779)]), #[]⟩) ::
  (nat_lit 467, ⟨(.type "function"), none, (.func (fnD (e := (at2 22 4)) rfl "Builder.process" .none .none .none (.str "htmltree.builder" 725) none (.ref 466) .none)), #[]⟩) ::
  (nat_lit 468, ⟨(.type "tuple"), none, (.seq #[] 0), #[]⟩) ::
  (nat_lit 470, ⟨(.type "tuple"), none, (.seq #[(.str "self" 784), (.str "token" 785)] 0), #[]⟩) ::
  (nat_lit 471, ⟨(.type "tuple"), none, (.seq #[] 0), #[]⟩) ::
  (nat_lit 473, ⟨(.type "code"), none, (.fields #[(.str "feed" 781), (.str "Builder.feed" 782), (.str "/claim/cut.py" 783), (.int 302 0), (.int 2 0), (.int 0 0), (.int 0 0), (.int 3 0), (.ref 468), (.bool true), (.int 181 0), (.ref 469), .none, (.ref 470), (.ref 471), (.ref 472), (.int 786 0), (.int 302 0), (.str "/claim/cut.py" 787)]), #[]⟩) ::
  (nat_lit 474, ⟨(.type "function"), none, (.func (fnD (e := (at2 22 5)) rfl "Builder.feed" .none .none .none (.str "htmltree.builder" 725) none (.ref 473) .none)), #[]⟩) ::
  (nat_lit 475, ⟨(.type "tuple"), none, (.seq #[] 0), #[]⟩) ::
  (nat_lit 477, ⟨(.type "tuple"), none, (.seq #[(.str "self" 792)] 0), #[]⟩) ::
  (nat_lit 478, ⟨(.type "tuple"), none, (.seq #[] 0), #[]⟩) ::
  (nat_lit 480, ⟨(.type "code"), none, (.fields #[(.str "adjusted" 789), (.str "Builder.adjusted" 790), (.str "/claim/cut.py" 791), (.int 305 0), (.int 1 0), (.int 0 0), (.int 0 0), (.int 3 0), (.ref 475), (.bool true), (.int 181 0), (.ref 476), .none, (.ref 477), (.ref 478), (.ref 479), (.int 793 0), (.int 305 0), (.str "/claim/cut.py" 794)]), #[]⟩) ::
  (nat_lit 481, ⟨(.type "function"), none, (.func (fnD (e := (at2 22 6)) rfl "Builder.adjusted" .none .none .none (.str "htmltree.builder" 725) none (.ref 480) .none)), #[]⟩) ::
  (nat_lit 482, ⟨(.type "tuple"), none, (.seq #[] 0), #[]⟩) ::
  (nat_lit 484, ⟨(.type "tuple"), none, (.seq #[(.str "self" 799)] 0), #[]⟩) ::
  (nat_lit 485, ⟨(.type "tuple"), none, (.seq #[] 0), #[]⟩) ::
  (nat_lit 487, ⟨(.type "code"), none, (.fields #[(.str "is_foreign" 796), (.str "Builder.is_foreign" 797), (.str "/claim/cut.py" 798), (.int 308 0), (.int 1 0), (.int 0 0), (.int 0 0), (.int 3 0), (.ref 482), (.bool true), (.int 181 0), (.ref 483), .none, (.ref 484), (.ref 485), (.ref 486), (.int 800 0), (.int 308 0), (.str "/claim/cut.py" 801)]), #[]⟩) ::
  (nat_lit 488, ⟨(.type "function"), none, (.func (fnD (e := (at2 22 7)) rfl "Builder.is_foreign" .none .none .none (.str "htmltree.builder" 725) none (.ref 487) .none)), #[]⟩) ::
  (nat_lit 489, ⟨(.type "tuple"), none, (.seq #[(.str "context" 803), (.str "errors" 804), (.str "form" 805), (.str "formatting" 806), (.str "head" 807), (.str "is_acknowledged" 808), (.str "is_done" 809), (.str "is_foster" 810), (.str "is_frameset_ok" 811), (.str "is_scripting" 812), (.str "is_skipping" 813), (.str "mode" 814), (.str "modes" 815), (.str "original" 816), (.str "owners" 817), (.str "pending" 818), (.str "quirks" 819), (.str "rules" 820), (.str "stack" 821), (.str "tree" 822), (.str "wish" 823)] 0), #[]⟩) ::
  (nat_lit 490, ⟨(.type "dict"), none, (.dict #[⟨(keyHash P "__module__"), (.str "__module__" 734), (.str "htmltree.builder" 725)⟩, ⟨(keyHash P "__firstlineno__"), (.str "__firstlineno__" 738), (.int 265 737)⟩, ⟨(keyHash P "__init__"), (.str "__init__" 747), (.ref 439)⟩, ⟨(keyHash P "error"), (.str "error" 755), (.ref 446)⟩, ⟨(keyHash P "to"), (.str "to" 763), (.ref 453)⟩, ⟨(keyHash P "use"), (.str "use" 772), (.ref 460)⟩, ⟨(keyHash P "process"), (.str "process" 780), (.ref 467)⟩, ⟨(keyHash P "feed"), (.str "feed" 788), (.ref 474)⟩, ⟨(keyHash P "adjusted"), (.str "adjusted" 795), (.ref 481)⟩, ⟨(keyHash P "is_foreign"), (.str "is_foreign" 802), (.ref 488)⟩, ⟨(keyHash P "__static_attributes__"), (.str "__static_attributes__" 824), (.ref 489)⟩, ⟨(keyHash P "__dict__"), (.str "__dict__" 826), (.ref 492)⟩, ⟨(keyHash P "__weakref__"), (.str "__weakref__" 828), (.ref 493)⟩, ⟨(keyHash P "__doc__"), (.str "__doc__" 829), .none⟩] 4), #[]⟩) ::
  (nat_lit 491, ⟨(.type "type"), none, (.cls ⟨"Builder", [(.type "object")], [(.ref 491), (.type "object")], 490, "Builder", true, [], [], false, none, false⟩), #[none, none, (some (.str "Builder" 727)), (some (.str "Builder" 735)), (some (.builtin "object.__new__")), (some (.bool true))]⟩) ::
  (nat_lit 492, ⟨(.type "getset_descriptor"), none, (.fields #[(.str "__dict__" 825), (.ref 491), (.builtin "function.__dict__"), (.builtin "function.__dict__#set")]), #[]⟩) ::
  (nat_lit 493, ⟨(.type "getset_descriptor"), none, (.fields #[(.str "__weakref__" 827), (.ref 491), (.builtin "ExceptionGroup.__weakref__"), .none]), #[]⟩) ::
  (nat_lit 496, ⟨(.type "tuple"), none, (.seq #[] 0), #[]⟩) ::
  (nat_lit 498, ⟨(.type "tuple"), none, (.seq #[(.str "script" 837), (.str "place" 838), (.str "usual" 839)] 0), #[]⟩) ::
  (nat_lit 499, ⟨(.type "tuple"), none, (.seq #[] 0), #[]⟩) ::
  (nat_lit 501, ⟨(.type "code"), none, (.fields #[(.str "_law_digit" 834), (.str "_law_digit" 835), (.str "/claim/cut.py" 836), (.int 311 0), (.int 2 0), (.int 0 0), (.int 0 0), (.int 3 0), (.ref 496), (.bool true), (.int 181 0), (.ref 497), .none, (.ref 498), (.ref 499), (.ref 500), (.int 840 0), (.int 311 0), (.str "/claim/cut.py" 841)]), #[]⟩) ::
  (nat_lit 502, ⟨(.type "function"), none, (.func (fnD (e := (at1 24)) rfl "_law_digit" .none .none .none (.str "law_pb0145_01" 832) none (.ref 501) .none)), #[]⟩) ::
  (nat_lit 503, ⟨(.type "tuple"), none, (.seq #[] 0), #[]⟩) ::
  (nat_lit 505, ⟨(.type "tuple"), none, (.seq #[(.str "first" 846), (.str "second" 847), (.str "third" 848)] 0), #[]⟩) ::
  (nat_lit 506, ⟨(.type "tuple"), none, (.seq #[] 0), #[]⟩) ::
  (nat_lit 508, ⟨(.type "code"), none, (.fields #[(.str "_law_pool" 843), (.str "_law_pool" 844), (.str "/claim/cut.py" 845), (.int 314 0), (.int 0 0), (.int 0 0), (.int 0 0), (.int 3 0), (.ref 503), (.bool true), (.int 181 0), (.ref 504), .none, (.ref 505), (.ref 506), (.ref 507), (.int 849 0), (.int 314 0), (.str "/claim/cut.py" 850)]), #[]⟩) ::
  (nat_lit 509, ⟨(.type "function"), none, (.func (fnD (e := (at1 25)) rfl "_law_pool" .none .none .none (.str "law_pb0145_01" 832) none (.ref 508) .none)), #[]⟩) ::
  (nat_lit 510, ⟨(.type "tuple"), none, (.seq #[] 0), #[]⟩) ::
  (nat_lit 512, ⟨(.type "tuple"), none, (.seq #[(.str "first" 855)] 0), #[]⟩) ::
  (nat_lit 513, ⟨(.type "tuple"), none, (.seq #[] 0), #[]⟩) ::
  (nat_lit 515, ⟨(.type "code"), none, (.fields #[(.str "_law_enders" 852), (.str "_law_enders" 853), (.str "/claim/cut.py" 854), (.int 319 0), (.int 0 0), (.int 0 0), (.int 0 0), (.int 3 0), (.ref 510), (.bool true), (.int 181 0), (.ref 511), .none, (.ref 512), (.ref 513), (.ref 514), (.int 856 0), (.int 319 0), (.str "/claim/cut.py" 857)]), #[]⟩) ::
  (nat_lit 516, ⟨(.type "function"), none, (.func (fnD (e := (at1 26)) rfl "_law_enders" .none .none .none (.str "law_pb0145_01" 832) none (.ref 515) .none)), #[]⟩) ::
  (nat_lit 517, ⟨(.type "tuple"), none, (.seq #[] 0), #[]⟩) ::
  (nat_lit 519, ⟨(.type "tuple"), none, (.seq #[] 0), #[]⟩) ::
  (nat_lit 520, ⟨(.type "tuple"), none, (.seq #[] 0), #[]⟩) ::
  (nat_lit 522, ⟨(.type "code"), none, (.fields #[(.str "_law_specials" 859), (.str "_law_specials" 860), (.str "/claim/cut.py" 861), (.int 322 0), (.int 0 0), (.int 0 0), (.int 0 0), (.int 3 0), (.ref 517), (.bool true), (.int 181 0), (.ref 518), .none, (.ref 519), (.ref 520), (.ref 521), (.int 862 0), (.int 322 0), (.str "/claim/cut.py" 863)]), #[]⟩) ::
  (nat_lit 523, ⟨(.type "function"), none, (.func (fnD (e := (at1 27)) rfl "_law_specials" .none .none .none (.str "law_pb0145_01" 832) none (.ref 522) .none)), #[]⟩) ::
  (nat_lit 524, ⟨(.type "tuple"), none, (.seq #[] 0), #[]⟩) ::
  (nat_lit 526, ⟨(.type "tuple"), none, (.seq #[] 0), #[]⟩) ::
  (nat_lit 527, ⟨(.type "tuple"), none, (.seq #[] 0), #[]⟩) ::
  (nat_lit 529, ⟨(.type "code"), none, (.fields #[(.str "_law_implied" 865), (.str "_law_implied" 866), (.str "/claim/cut.py" 867), (.int 324 0), (.int 0 0), (.int 0 0), (.int 0 0), (.int 3 0), (.ref 524), (.bool true), (.int 181 0), (.ref 525), .none, (.ref 526), (.ref 527), (.ref 528), (.int 868 0), (.int 324 0), (.str "/claim/cut.py" 869)]), #[]⟩) ::
  (nat_lit 530, ⟨(.type "function"), none, (.func (fnD (e := (at1 28)) rfl "_law_implied" .none .none .none (.str "law_pb0145_01" 832) none (.ref 529) .none)), #[]⟩) ::
  (nat_lit 531, ⟨(.type "tuple"), none, (.seq #[] 0), #[]⟩) ::
  (nat_lit 534, ⟨(.type "code"), none, (.fields #[(.str "_law_other" 871), (.str "_law_other" 872), (.str "/claim/cut.py" 873), (.int 326 0), (.int 3 0), (.int 0 0), (.int 0 0), (.int 3 0), (.ref 531), (.bool true), (.int 181 0), (.ref 532), .none, .none, .none, (.ref 533), (.int 874 0), (.int 326 0), (.str "/claim/cut.py" 875)]), #[]⟩) ::
  (nat_lit 535, ⟨(.type "function"), none, (.func (fnD (e := (at1 29)) rfl "_law_other" .none .none .none (.str "law_pb0145_01" 832) none (.ref 534) .none)), #[]⟩) ::
  (nat_lit 536, ⟨(.type "tuple"), none, (.seq #[] 0), #[]⟩) ::
  (nat_lit 539, ⟨(.type "code"), none, (.fields #[(.str "_law_due" 877), (.str "_law_due" 878), (.str "/claim/cut.py" 879), (.int 337 0), (.int 5 0), (.int 0 0), (.int 0 0), (.int 3 0), (.ref 536), (.bool true), (.int 181 0), (.ref 537), .none, .none, .none, (.ref 538), (.int 880 0), (.int 337 0), (.str "/claim/cut.py" 881)]), #[]⟩) ::
  (nat_lit 540, ⟨(.type "function"), none, (.func (fnD (e := (at1 30)) rfl "_law_due" .none .none .none (.str "law_pb0145_01" 832) none (.ref 539) .none)), #[]⟩) ::
  (nat_lit 541, ⟨(.type "tuple"), none, (.seq #[] 0), #[]⟩) ::
  (nat_lit 544, ⟨(.type "code"), none, (.fields #[(.str "_law_is_found" 883), (.str "_law_is_found" 884), (.str "/claim/cut.py" 885), (.int 352 0), (.int 6 0), (.int 0 0), (.int 0 0), (.int 3 0), (.ref 541), (.bool true), (.int 181 0), (.ref 542), .none, .none, .none, (.ref 543), (.int 886 0), (.int 352 0), (.str "/claim/cut.py" 887)]), #[]⟩) ::
  (nat_lit 545, ⟨(.type "function"), none, (.func (fnD (e := (at1 31)) rfl "_law_is_found" .none .none .none (.str "law_pb0145_01" 832) none (.ref 544) .none)), #[]⟩) ::
  (nat_lit 546, ⟨(.type "tuple"), none, (.seq #[] 0), #[]⟩) ::
  (nat_lit 549, ⟨(.type "code"), none, (.fields #[(.str "law" 889), (.str "law" 890), (.str "/claim/cut.py" 891), (.int 361 0), (.int 1 0), (.int 0 0), (.int 0 0), (.int 3 0), (.ref 546), (.bool true), (.int 181 0), (.ref 547), .none, .none, .none, (.ref 548), (.int 892 0), (.int 361 0), (.str "/claim/cut.py" 893)]), #[]⟩) ::
  (nat_lit 550, ⟨(.type "function"), none, (.func (fnD (e := (at1 32)) rfl "law" .none .none .none (.str "law_pb0145_01" 832) none (.ref 549) .none)), #[]⟩) ::
  []
noncomputable abbrev asK : List Addr := [2, 3, 15, 17, 18, 20, 21, 22, 24, 25, 27, 28, 29, 31, 32, 34, 35, 43, 45, 46, 48, 49, 50, 52, 53, 55, 56, 57, 59, 60, 62, 63, 64, 66, 67, 69, 70, 71, 73, 74, 76, 77, 78, 80, 81, 83, 84, 85, 87, 88, 90, 91, 92, 94, 95, 97, 98, 99, 101, 102, 104, 105, 106, 108, 109, 111, 112, 113, 115, 116, 118, 119, 120, 122, 123, 125, 126, 127, 129, 130, 132, 133, 134, 135, 136, 137, 138, 141, 143, 144, 146, 147, 148, 149, 151, 152, 154, 155, 156, 157, 159, 160, 162, 163, 164, 166, 167, 169, 170, 171, 173, 174, 176, 177, 178, 180, 181, 183, 184, 185, 192, 194, 195, 197, 198, 199, 200, 201, 202, 205, 212, 213, 214, 224, 226, 227, 229, 230, 231, 233, 234, 236, 237, 238, 240, 241, 243, 244, 245, 247, 248, 250, 251, 252, 254, 255, 257, 258, 259, 261, 262, 264, 265, 266, 268, 269, 271, 272, 273, 275, 276, 278, 279, 280, 282, 283, 285, 286, 287, 289, 290, 292, 293, 294, 295, 296, 297, 298, 308, 310, 311, 313, 314, 315, 316, 317, 319, 320, 322, 323, 324, 325, 326, 328, 329, 331, 332, 333, 335, 336, 338, 339, 340, 342, 343, 345, 346, 347, 349, 350, 352, 353, 354, 355, 357, 358, 360, 361, 362, 364, 365, 367, 368, 369, 371, 372, 374, 375, 376, 378, 379, 381, 382, 383, 385, 386, 388, 389, 390, 392, 393, 395, 396, 397, 399, 400, 402, 403, 404, 406, 407, 409, 410, 411, 412, 413, 414, 415, 418, 420, 421, 423, 424, 432, 433, 435, 436, 438, 439, 440, 442, 443, 445, 446, 447, 449, 450, 452, 453, 454, 456, 457, 459, 460, 461, 463, 464, 466, 467, 468, 470, 471, 473, 474, 475, 477, 478, 480, 481, 482, 484, 485, 487, 488, 489, 490, 491, 492, 493, 496, 498, 499, 501, 502, 503, 505, 506, 508, 509, 510, 512, 513, 515, 516, 517, 519, 520, 522, 523, 524, 526, 527, 529, 530, 531, 534, 535, 536, 539, 540, 541, 544, 545, 546, 549, 550]
noncomputable def view : Program := { PySem.Challenge.pw_pb0145_01 with main := { PySem.Challenge.pw_pb0145_01.main with body := ([0, 2, 3, 5, 6, 10, 11, 12, 14, 15, 17, 19, 20, 22, 24, 25, 26, 27, 28, 29, 30, 31, 32] : List Nat).filterMap at1 } }
end Mine
end
section
open PySem PySem.W PySem.PyData PySem.Calls PyProof.Rows
set_option Elab.async false
namespace Mine
noncomputable abbrev looseK : List Str := [Str.ofString "node_in_scope", Str.ofString "pop_implied", Str.ofString "Tree"]
noncomputable abbrev TopP (mean : ExcName → Option Value) (mg mb : Str → Option Value) (h : Heap) : Prop := Top view (looseW view looseK) mean mg mb h
/-- a tree at which the walk is to stand still -/
@[irreducible] def held {α : Type} (t : Sem α) : Sem α := t
theorem held_of {α : Type} {M : Model} {A : Around} {t : Sem α} {Q : α → Shared → Prop} {E : Value → Shared → Prop} {s : Shared} (h : wpAny M A (held t) Q E s) : wpAny M A t Q E s := by unfold held at h; exact h
theorem held_go {α : Type} {M : Model} {A : Around} {t : Sem α} {Q : α → Shared → Prop} {E : Value → Shared → Prop} {s : Shared} (h : wpAny M A t Q E s) : wpAny M A (held t) Q E s := by unfold held; exact h
@[irreducible] def heldP (p : Prop) : Prop := p
theorem heldP_of {p : Prop} (h : heldP p) : p := by unfold heldP at h; exact h
theorem heldP_go {p : Prop} (h : p) : heldP p := by unfold heldP; exact h
noncomputable abbrev P0 : Program := PySem.Challenge.rw_pb0145_01.row.prog
/-- the place of an int in a list, and what stands there -/
noncomputable def iAt (ns : List Int) (k : Int) : Int := ns.getD k.toNat 0
noncomputable def sAt (ss : List Str) (k : Int) : Str := ss.getD k.toNat (Str.ofString "")
theorem drop_at {α : Type} (l : List α) (i : Nat) (x : α) (h : l[i]? = some x) : l.drop i = x :: l.drop (i + 1) := by
  have hi : i < l.length := by
    rcases Nat.lt_or_ge i l.length with q | q
    · exact q
    · rw [List.getElem?_eq_none q] at h; cases h
  rw [List.drop_eq_getElem_cons hi]
  rw [List.getElem?_eq_getElem hi] at h
  rw [Option.some.inj h]
theorem rev_at (act : List Int) (i : Nat) (k : Int) (hk : k = (act.length : Int) - 1 - i) (hi : i < act.length) : act.reverse[i]? = some (iAt act k) := by
  subst hk
  rw [List.getElem?_reverse hi]
  unfold iAt
  rw [List.getD_eq_getElem?_getD, show ((act.length : Int) - 1 - i).toNat = act.length - 1 - i by omega]
  have : act.length - 1 - i < act.length := by omega
  simp [this]
noncomputable def hasS (l : List Str) (x : Str) : Bool := l.any (· == x)
theorem strs_eq {vs : List Value} {a b : List Str} (h : StrsAre vs a) (e : a = b) : StrsAre vs b := e ▸ h
theorem ints_kf {vs : List Value} {ns : List Int} (h : IntsAre vs ns) : kf_ints vs = true := by
  induction h with
  | nil => rfl
  | cons _ _ _ ih => exact ih
theorem ints_any {vs : List Value} {ns : List Int} (k : Int) (h : IntsAre vs ns) : vs.any (isInt k) = decide (k ∈ ns) := by
  induction h with
  | nil => rfl
  | cons _ _ _ ih =>
    rw [List.any_cons, ih, Bool.eq_iff_iff]
    simp only [isInt, Bool.or_eq_true, decide_eq_true_eq, beq_iff_eq, List.mem_cons]
    exact ⟨fun h => h.imp Eq.symm id, fun h => h.imp Eq.symm id⟩
theorem ints_at {vs : List Value} {ns : List Int} (k : Int) (h : IntsAre vs ns) (hk : k ∈ ns) : kf_at k vs = some (ns.idxOf k) := by
  induction h with
  | nil => cases hk
  | @cons n t vs ns h ih =>
    unfold kf_at
    by_cases e : n = k
    · subst e
      simp [isInt]
    · have hk' : k ∈ ns := by
        rcases List.mem_cons.mp hk with r | r
        · exact absurd r.symm e
        · exact r
      have e' : isInt k (Value.int n t) = false := by simp [isInt, e]
      rw [e', ih hk', List.idxOf_cons, beq_false_of_ne e]
      rfl
theorem del_at : ∀ {vs : List Value} {j : Nat}, j < vs.length → ki_delL vs j = some (vs.eraseIdx j)
  | [], _, h => absurd h (Nat.not_lt_zero _)
  | x :: r, 0, _ => rfl
  | x :: r, j + 1, h => by
    unfold ki_delL
    rw [del_at (vs := r) (Nat.lt_of_succ_lt_succ h)]
    rfl
theorem ints_erase {vs : List Value} {ns : List Int} (k : Int) (h : IntsAre vs ns) : IntsAre (vs.eraseIdx (ns.idxOf k)) (ns.erase k) := by
  induction h with
  | nil => exact .nil
  | @cons n t vs ns h ih =>
    by_cases e : n = k
    · subst e
      simpa using h
    · rw [List.idxOf_cons, beq_false_of_ne e, List.erase_cons, beq_false_of_ne e]
      exact .cons n t ih
section
variable {prog : Program} {w : World} {A : Around} {E : Value → Shared → Prop} {s : Shared} {h₀ : Heap} {L D : Addr} {m : Str → Option Value} {news news' : List (Addr × Obj)} {vs : List Value} {n : Nat} {Q : Value → Shared → Prop}
theorem led_len {k : Nat} (N : News h₀ L s.heap news) (hm : (D, listOf vs.toArray n) ∈ news) (e : vs.length = k) (hz : k < 2 ^ 62)
    (h : ∀ t k', Q (.int (k : Int) t) { s with toks := k' }) : wpAny (model prog w) A (call (.builtin "len") [.ref D]) Q E s :=
  kst_len N hm e (by omega) (h _ _)
theorem led_int {ns : List Int} {k : Int} {t : Tok} {value slice : Expr} (N : News h₀ L s.heap news) (hm : (D, listOf vs.toArray n) ∈ news) (hi : IntsAre vs ns) (h0 : 0 ≤ k) (hk : k < ns.length) (hz : ns.length < 2 ^ 62)
    (h : ∀ t, iAt ns k ∈ ns → Q (.int (iAt ns k) t) s)
    (hs : subscripted slice false (.ref D) (.int k t) = operate [.ref D, .int k t] (getItem (.ref D) (.int k t)) := by with_unfolding_all rfl) :
    wpAny (model prog w) A (subscriptTail value slice (.ref D) (.int k t)) Q E s := by
  have hl := N.isList hm
  have hlt : k.toNat < ns.length := by omega
  obtain ⟨u, hu⟩ := hi.get k.toNat (iAt ns k) (by unfold iAt; simp [hlt])
  exact tail_any hl.typeIs slot_list_getitem.lookup (wpAny_getItem_list hl h0 (by omega) (by simpa using hu) (h u (by unfold iAt; simp [hlt]))) hs
theorem led_str {ss : List Str} {k : Int} {t : Tok} {value slice : Expr} (N : News h₀ L s.heap news) (hm : (D, listOf vs.toArray n) ∈ news) (hi : StrsAre vs ss) (h0 : 0 ≤ k) (hk : k < ss.length) (hz : ss.length < 2 ^ 62)
    (h : ∀ t, Q (.str (sAt ss k) t) s)
    (hs : subscripted slice false (.ref D) (.int k t) = operate [.ref D, .int k t] (getItem (.ref D) (.int k t)) := by with_unfolding_all rfl) :
    wpAny (model prog w) A (subscriptTail value slice (.ref D) (.int k t)) Q E s := by
  have hl := N.isList hm
  have hlt : k.toNat < ss.length := by omega
  obtain ⟨u, hu⟩ := StrsAre.get hi k.toNat (sAt ss k) (by unfold sAt; simp [hlt])
  exact tail_any hl.typeIs slot_list_getitem.lookup (wpAny_getItem_list hl h0 (by omega) (by simpa using hu) (h u)) hs
theorem IsList.keeps9 {its : Array Value} {a0 : Addr} {h : Heap} (hl : h₀.IsList a0 its) (F : Fr h₀ L h m) : h.IsList a0 its := by obtain ⟨o, e, r⟩ := hl; exact ⟨o, F.keep _ _ e, r⟩
theorem base_len {its : List Value} {ns : List Int} {a0 : Addr} (F : Fr h₀ L s.heap m) (hl : h₀.IsList a0 its.toArray) (hi : IntsAre its ns) (hz : ns.length < 2 ^ 62)
    (h : Q (.int (ns.length : Int) (s.toks + 1)) { s with toks := s.toks + 1 + 1 }) : wpAny (model prog w) A (call (.builtin "len") [.ref a0]) Q E s := by
  have hl' : s.heap.IsList a0 its.toArray := by obtain ⟨o, e, r⟩ := hl; exact ⟨o, F.keep _ _ e, r⟩
  have e2 : its.toArray.size = ns.length := by rw [List.size_toArray, hi.length]
  exact len_list hl' (by rw [e2]; omega) (by rw [e2]; exact h)
theorem base_int {its : List Value} {ns : List Int} {a0 : Addr} {k : Int} {t : Tok} {value slice : Expr} (F : Fr h₀ L s.heap m) (hl : h₀.IsList a0 its.toArray) (hi : IntsAre its ns) (h0 : 0 ≤ k) (hk : k < ns.length) (hz : ns.length < 2 ^ 62)
    (h : ∀ t, Q (.int (iAt ns k) t) s)
    (hs : subscripted slice false (.ref a0) (.int k t) = operate [.ref a0, .int k t] (getItem (.ref a0) (.int k t)) := by with_unfolding_all rfl) :
    wpAny (model prog w) A (subscriptTail value slice (.ref a0) (.int k t)) Q E s := by
  have hl' : s.heap.IsList a0 its.toArray := by obtain ⟨o, e, r⟩ := hl; exact ⟨o, F.keep _ _ e, r⟩
  have hlt : k.toNat < ns.length := by omega
  obtain ⟨u, hu⟩ := hi.get k.toNat (iAt ns k) (by unfold iAt; simp [hlt])
  exact tail_any hl'.typeIs slot_list_getitem.lookup (wpAny_getItem_list hl' h0 (by omega) (by simpa using hu) (h u)) hs
theorem led_in {ns : List Int} {k : Int} {t : Tok} (N : News h₀ L s.heap news) (hm : (D, listOf vs.toArray n) ∈ news) (hi : IntsAre vs ns) (h : Q (.bool (decide (k ∈ ns))) s) :
    wpAny (model prog w) A (compareOp .In (.int k t) (.ref D)) Q E s := kf_in N hm (ints_kf hi) (ints_any k hi) h
theorem led_notin {ns : List Int} {k : Int} {t : Tok} (N : News h₀ L s.heap news) (hm : (D, listOf vs.toArray n) ∈ news) (hi : IntsAre vs ns) (h : Q (.bool (!decide (k ∈ ns))) s) :
    wpAny (model prog w) A (compareOp .NotIn (.int k t) (.ref D)) Q E s := kf_notin N hm (ints_kf hi) (by rw [← ints_any k hi]) h
theorem led_index {ns : List Int} {k : Int} {t : Tok} (N : News h₀ L s.heap news) (hm : (D, listOf vs.toArray n) ∈ news) (hi : IntsAre vs ns) (hk : k ∈ ns) (hz : ns.length ≤ 1000000)
    (h : Q (.int (ns.idxOf k : Nat) s.toks) { s with toks := s.toks + 1 }) : wpAny (model prog w) A (call (.builtin "list.index") [.ref D, .int k t]) Q E s :=
  kf_index N hm (ints_kf hi) (ints_at k hi hk) rfl (by rw [sizeLine_eq]; have := hi.length; have e : vs.toArray.toList = vs := rfl; rw [e]; omega) h
theorem led_remove {ns : List Int} {k : Int} {t : Tok} (F : Fr h₀ L s.heap m) (N : News h₀ L s.heap news) (hi : IntsAre vs ns) (hk : k ∈ ns) (hz : ns.length ≤ 1000000) (U : Upd D (listOf vs.toArray n) (listOf (vs.eraseIdx (ns.idxOf k)).toArray (n + 1)) news news')
    (h : ∀ h', Fr h₀ L h' m → News h₀ L h' news' → Q .none { s with heap := h' }) : wpAny (model prog w) A (call (.builtin "list.remove") [.ref D, .int k t]) Q E s :=
  kf_remove F N (ints_kf hi) (ints_at k hi hk) (del_at (by rw [hi.length]; exact List.idxOf_lt_length_of_mem hk)) U (by rw [sizeLine_eq]; have := hi.length; have e : vs.toArray.toList = vs := rfl; rw [e]; omega) h
theorem led_in_str {ss : List Str} {k : Str} {t : Tok} (N : News h₀ L s.heap news) (hm : (D, listOf vs.toArray n) ∈ news) (hi : StrsAre vs ss) (h : Q (.bool (ss.any (· == k))) s) :
    wpAny (model prog w) A (compareOp .In (.str k t) (.ref D)) Q E s := in_list_strs (N.isList hm) hi h
theorem led_notin_str {ss : List Str} {k : Str} {t : Tok} (N : News h₀ L s.heap news) (hm : (D, listOf vs.toArray n) ∈ news) (hi : StrsAre vs ss) (h : Q (.bool (!ss.any (· == k))) s) :
    wpAny (model prog w) A (compareOp .NotIn (.str k t) (.ref D)) Q E s := notin_list_strs (N.isList hm) hi h
/-- a display of written texts -/
noncomputable def litL : List PySem.Expr → List Str
  | [] => []
  | .Constant (.str x) _ _ :: r => x :: litL r
  | _ :: r => litL r
noncomputable def allLit : List PySem.Expr → Bool
  | [] => true
  | .Constant (.str _) _ _ :: r => allLit r
  | _ => false
noncomputable def strVals : List Str → Nat → List Value
  | [], _ => []
  | x :: r, k => .str x k :: strVals r (k + 1)
theorem strVals_are : ∀ (xs : List Str) (k : Nat), StrsAre (strVals xs k) xs
  | [], _ => .nil
  | x :: r, k => .cons x k (strVals_are r (k + 1))
theorem spliced_lit {M : Model} {A : Around} {E : Value → Shared → Prop} {pos : Pos} {env : Env} : ∀ {elts : List PySem.Expr} {Q : List Value → Shared → Prop} {s : Shared}, allLit elts = true →
    Q (strVals (litL elts) s.toks) { s with toks := s.toks + (litL elts).length } → wpAny M A (spliced (backTo pos (starEach elts env))) Q E s
  | [], _, _, _, h => spliced_nil h
  | e :: r, Q, s, hl, h => by
    cases e with
    | Constant c k p =>
      cases c with
      | str x =>
        refine spliced_cons (wpAny_Constant_str (k := k) (pos := p) (spliced_lit (elts := r) hl ?_))
        have e1 : s.toks + 1 + (litL r).length = s.toks + (litL (PySem.Expr.Constant (.str x) k p :: r)).length := by show _ = s.toks + ((litL r).length + 1); omega
        show Q (Value.str x s.toks :: strVals (litL r) (s.toks + 1)) { s with toks := s.toks + 1 + (litL r).length }
        rw [e1]
        exact h
      | _ => cases hl
    | _ => cases hl
noncomputable abbrev tupO (vs : List Value) : Obj := { cls := .type "tuple", data := .seq vs.toArray }
theorem tup_lit {env : Env} {elts : List PySem.Expr} {k : Nat} {pos : Pos} (hl : allLit elts = true) (hz : (litL elts).length ≤ 1000) (F : Fr h₀ L s.heap m) (N : News h₀ L s.heap news)
    (h : ∀ t vs h' tk, StrsAre vs (litL elts) → Fr h₀ L h' m → News h₀ L h' ((t, tupO vs) :: news) → (∀ p ∈ news, p.1 < t) → Q (.ref t) { s with heap := h', toks := tk }) : wpAny (model prog w) A (eval (.Tuple elts k pos) env) Q E s := by
  refine Tuple_ (spliced_lit hl ?_)
  have ha := strVals_are (litL elts) s.toks
  refine newTuple_N (s := { s with toks := s.toks + (litL elts).length }) F N (fun h' F' N' => h _ _ h' _ ha F' N' fun p hp => Heap.lt_size (N p hp).1) ?_
  have := StrsAre.length ha
  rw [sizeLine_eq]; omega
theorem led_in_tup {ss : List Str} {k : Str} {t : Tok} (N : News h₀ L s.heap news) (hm : (D, tupO vs) ∈ news) (hi : StrsAre vs ss) (h : Q (.bool (ss.any (· == k))) s) :
    wpAny (model prog w) A (compareOp .In (.str k t) (.ref D)) Q E s := in_tuple_strs ⟨_, (N _ hm).1, rfl, 0, rfl⟩ hi h
theorem led_notin_tup {ss : List Str} {k : Str} {t : Tok} (N : News h₀ L s.heap news) (hm : (D, tupO vs) ∈ news) (hi : StrsAre vs ss) (h : Q (.bool (!ss.any (· == k))) s) :
    wpAny (model prog w) A (compareOp .NotIn (.str k t) (.ref D)) Q E s := notin_tuple_strs ⟨_, (N _ hm).1, rfl, 0, rfl⟩ hi h
end
theorem ne_lo {a d : Addr} {o : Obj} {l : List (Addr × Obj)} (h : ∀ p ∈ l, p.1 < d) (m : (a, o) ∈ l) : a ≠ d := Nat.ne_of_lt (h _ m)
theorem ne_hi {a d : Addr} {o : Obj} {l : List (Addr × Obj)} (h : ∀ p ∈ l, p.1 < d) (m : (a, o) ∈ l) : d ≠ a := Ne.symm (Nat.ne_of_lt (h _ m))
theorem ne_sub {n d : Nat} {l r : List (Addr × Obj)} (h : ∀ p ∈ l, p.1 < n) (s : ∀ p ∈ r, p ∈ l) (e : n ≤ d) : ∀ p ∈ r, p.1 ≠ d := fun p hp => Nat.ne_of_lt (Nat.lt_of_lt_of_le (h p (s p hp)) e)
theorem upd_self {d : Addr} {o o' : Obj} {l l' : List (Addr × Obj)} (U : Upd d o o' l l') : (d, o') ∈ l' := by
  induction U with
  | head _ => exact .head _
  | tail _ _ ih => exact .tail _ ih
theorem upd_old {d : Addr} {o o' : Obj} {l l' : List (Addr × Obj)} (U : Upd d o o' l l') : (d, o) ∈ l := by
  induction U with
  | head _ => exact .head _
  | tail _ _ ih => exact .tail _ ih
theorem upd_ne {d x : Addr} {o o' ox : Obj} {l l' : List (Addr × Obj)} (U : Upd d o o' l l') (h : (x, ox) ∈ l) (hx : x ≠ d) : (x, ox) ∈ l' := by
  induction U with
  | head _ =>
    rcases List.mem_cons.mp h with e | h
    · exact absurd (Prod.mk.inj e).1 hx
    · exact .tail _ h
  | tail _ _ ih =>
    rcases List.mem_cons.mp h with e | h
    · rw [e]; exact .head _
    · exact .tail _ (ih h)
theorem upd_all {d x : Addr} {o o' : Obj} {l l' : List (Addr × Obj)} (U : Upd d o o' l l') (h : ∀ p ∈ l, p.1 ≠ x) : ∀ p ∈ l', p.1 ≠ x := by
  induction U with
  | head _ => exact fun p hp => (List.mem_cons.mp hp).elim (fun e => by rw [e]; exact (h (d, o) (.head _) : d ≠ x)) fun hp => h p (.tail _ hp)
  | tail _ _ ih => exact fun p hp => (List.mem_cons.mp hp).elim (fun e => e ▸ h _ (.head _)) fun hp => ih (fun q hq => h q (.tail _ hq)) p hp
theorem upd_two {d : Addr} {o o1 o2 : Obj} {l l1 l2 : List (Addr × Obj)} (U : Upd d o o1 l l1) (V : Upd d o o2 l l2) : Upd d o1 o2 l1 l2 := by
  induction U generalizing l2 with
  | head h =>
    cases V with
    | head _ => exact .head h
    | tail n _ => exact absurd rfl n
  | tail n _ ih =>
    cases V with
    | head _ => exact absurd rfl n
    | tail _ V => exact .tail n (ih V)
theorem upd_same {d : Addr} {o o1 : Obj} {l l1 l2 : List (Addr × Obj)} (U : Upd d o o1 l l1) (V : Upd d o o1 l l2) : l1 = l2 := by
  induction U generalizing l2 with
  | head h =>
    cases V with
    | head _ => rfl
    | tail n _ => exact absurd rfl n
  | tail n _ ih =>
    cases V with
    | head _ => exact absurd rfl n
    | tail _ V => rw [ih V]
theorem upd_lt {d x : Addr} {o o' : Obj} {l l' : List (Addr × Obj)} (U : Upd d o o' l l') (h : ∀ p ∈ l', p.1 < x) : ∀ p ∈ l, p.1 < x := by
  induction U with
  | head _ => exact fun p hp => (List.mem_cons.mp hp).elim (fun e => by rw [e]; exact (h (d, o') (.head _) : d < x)) fun hp => h p (.tail _ hp)
  | tail _ _ ih => exact fun p hp => (List.mem_cons.mp hp).elim (fun e => e ▸ h _ (.head _)) fun hp => ih (fun q hq => h q (.tail _ hq)) p hp
theorem upd_id {d : Addr} {o : Obj} {l l' : List (Addr × Obj)} (U : Upd d o o l l') : l' = l := by
  induction U with
  | head h => rfl
  | tail _ _ ih => rw [ih]
theorem upd_over {d e : Addr} {o o' p p' : Obj} {l l1 l2 l3 : List (Addr × Obj)} (U : Upd d o o' l l1) (V : Upd e p p' l l2) (W : Upd e p p' l1 l3) (n : d ≠ e) : Upd d o o' l2 l3 := by
  induction U generalizing l2 l3 with
  | head h =>
    cases V with
    | head _ => exact absurd rfl n
    | tail _ V =>
      cases W with
      | head _ => exact absurd rfl n
      | tail _ W => rw [upd_same V W]; exact .head (upd_all W h)
  | tail m U ih =>
    cases V with
    | head a =>
      cases W with
      | head _ => exact .tail m U
      | tail q _ => exact absurd rfl q
    | tail q V =>
      cases W with
      | head _ => exact absurd rfl q
      | tail _ W => exact .tail m (ih V W)
/-- what an instance's dict holds under a name, and under which it holds nothing (the methods that are called on it) -/
structure Dct (es : List DictEntry) (l : List (Str × Option Value)) : Prop where
  all : ∀ p ∈ l, getL p.1 es = some p.2
theorem Dct.get {es : List DictEntry} {l : List (Str × Option Value)} {k : Str} {v : Option Value} (D : Dct es l) (h : (k, v) ∈ l) : getL k es = some v := D.all _ h
noncomputable abbrev StL (t it : Addr) : List (Str × Option Value) := [(Str.ofString "tree", some (.ref t)), (Str.ofString "items", some (.ref it)), (Str.ofString "pop", Option.none), (Str.ofString "current", Option.none), (Str.ofString "many", Option.none), (Str.ofString "has", Option.none), (Str.ofString "name", Option.none), (Str.ofString "remove", Option.none), (Str.ofString "place", Option.none)]
noncomputable abbrev StD (es : List DictEntry) (t it : Addr) : Prop := Dct es (StL t it)
noncomputable abbrev FmL (t it : Addr) : List (Str × Option Value) := [(Str.ofString "tree", some (.ref t)), (Str.ofString "items", some (.ref it)), (Str.ofString "find", Option.none), (Str.ofString "remove", Option.none), (Str.ofString "has", Option.none)]
noncomputable abbrev FmD (es : List DictEntry) (t it : Addr) : Prop := Dct es (FmL t it)
noncomputable abbrev TrL (kk ss nn aa tt pp cc co : Addr) : List (Str × Option Value) := [(Str.ofString "kinds", some (.ref kk)), (Str.ofString "spaces", some (.ref ss)), (Str.ofString "names", some (.ref nn)), (Str.ofString "attrs", some (.ref aa)), (Str.ofString "texts", some (.ref tt)), (Str.ofString "parents", some (.ref pp)), (Str.ofString "children", some (.ref cc)), (Str.ofString "contents", some (.ref co)), (Str.ofString "add", Option.none), (Str.ofString "element", Option.none), (Str.ofString "append", Option.none), (Str.ofString "insert", Option.none), (Str.ofString "remove", Option.none), (Str.ofString "is_html", Option.none)]
noncomputable abbrev TrD (es : List DictEntry) (kk ss nn aa tt pp cc co : Addr) : Prop := Dct es (TrL kk ss nn aa tt pp cc co)
noncomputable abbrev BdL (t st fm er : Addr) (md : Str) (tk : Tok) : List (Str × Option Value) := [(Str.ofString "tree", some (.ref t)), (Str.ofString "stack", some (.ref st)), (Str.ofString "formatting", some (.ref fm)), (Str.ofString "errors", some (.ref er)), (Str.ofString "mode", some (.str md tk)), (Str.ofString "error", Option.none), (Str.ofString "to", Option.none)]
noncomputable abbrev BdD (es : List DictEntry) (t st fm er : Addr) (md : Str) (tk : Tok) : Prop := Dct es (BdL t st fm er md tk)
end Mine
end
section
open PySem PySem.W PySem.PyData PySem.Calls PyProof.Rows
set_option Elab.async false
set_option linter.unusedVariables false
set_option maxRecDepth 100000
set_option maxHeartbeats 0
namespace Mine
/-- the same, every other part said -/
noncomputable abbrev fnG {n : Str} {a : Arguments} {b : List Stmt} {ds : List PySem.Expr} {r : Option PySem.Expr} {tp : List TypeParam} {sc : Scope} {ts : Option Scope} {bd : Str} {p : Pos} {e : Option Stmt} (_h : e = some (.FunctionDef n a b ds r tp sc ts bd p))
  (nn q : Str) (gl : Addr) (clo : List (Str × Addr)) (dV kV doc pm : Value) (an : Option Addr) (cd ct : Value) (bi : Addr) : FuncData :=
  { name := nn, qualname := q, params := a, body := .stmts b, scope := sc, globals := gl, closure := clo, defaults := dV, kwdefaults := kV, doc, pyModule := pm, annotations := an, code := cd, closureTuple := ct, builtins := bi }
noncomputable abbrev pw : Program := PySem.Challenge.pw_pb0145_01
noncomputable abbrev m0 : Nat := (nat_lit 11)
noncomputable abbrev ann0 : Option Value := (some (.ref 6))
noncomputable def env0 : Env := { scope := pw.main.scope, locals := mainNs, globals := mainNs, cells := [], code := (.ref 13), frame := some 14 }
noncomputable abbrev cE : Code := Code.body (behindTheImports pw) env0
noncomputable abbrev fr0 : List Frame := [topFrame ⟨0, 0, 0, 0⟩]
noncomputable def sts (i j : Nat) : List Stmt := ((behindTheImports pw).drop i).take (j - i)
noncomputable def ob0 (P : Params) : Obj := ⟨(.type "tuple"), none, (.seq #[] 0), #[]⟩
noncomputable def ob1 (P : Params) : Obj := ⟨.none, none, (.fields #[]), #[]⟩
noncomputable def ob2 (P : Params) : Obj := ⟨(.type "code"), none, (.fields #[(.str "<module>" 182), (.str "<module>" 183), (.str "/claim/cut.py" 184), (.int 1 0), (.int 0 0), (.int 0 0), (.int 0 0), (.int 0 0), (.ref 11), (.bool false), (.int 181 0), (.ref 12), .none, .none, .none, .none, (.int 185 0), (.int 1 0), (.str "/claim/cut.py" 186)]), #[]⟩
noncomputable def ob3 (P : Params) : Obj := ⟨(.type "frame"), none, .plain, #[(some (.ref 13)), (some (.ref 3)), (some (.ref 3)), none, (some (.str "__main__" 164)), none, (some (.ref 0))]⟩
noncomputable def tr_a (P : Params) : BT := (.node (boot_o_0 P) (.node (boot_o_1 P) (.node (boot_o_3 P) (.node (boot_o_7 P) .nil .nil) (.node (ob0 P) .nil .nil)) (.node (boot_o_5 P) (.node (boot_o_9 P) .nil .nil) (.node (ob2 P) .nil .nil))) (.node (boot_o_2 P) (.node (boot_o_4 P) (.node (boot_o_8 P) .nil .nil) (.node (ob1 P) .nil .nil)) (.node (boot_o_6 P) (.node (boot_o_10 P) .nil .nil) (.node (ob3 P) .nil .nil))))
noncomputable def st_a (w : World) (os : OsState) : SharedT := ⟨tr_a w.params, (nat_lit 15), ⟨[], [], [], 0, [], [], false, #[], [], 0, false, false, false, 0, [2000, 10, 10], false, 0, true, [], [], 0, false⟩, ⟨[]⟩, ⟨0, 0, 0, 0⟩, (nat_lit 187), os⟩
theorem pre0 (w : World) (os : OsState) : topGo treeTable pw w m0 ann0 (nat_lit 12) ⟨boot_heap w.params, ⟨[]⟩, boot_drawn, boot_toks, os⟩ (topStub pw) = some ((st_a w os).abs, ⟨denote treeTable cE, cE, ⟨0, 0, 0, 0⟩, fr0⟩) := by kernel_rfl
noncomputable def tr_b (P : Params) : BT := (.node (boot_o_0 P) (.node (boot_o_1 P) (.node (boot_o_3 P) (.node (boot_o_7 P) .nil .nil) (.node (ob0 P) .nil .nil)) (.node (boot_o_5 P) (.node (boot_o_9 P) .nil .nil) (.node (ob2 P) .nil .nil))) (.node (boot_o_2 P) (.node (boot_o_4 P) (.node (boot_o_8 P) .nil .nil) (.node (ob1 P) .nil .nil)) (.node (boot_o_6 P) (.node (boot_o_10 P) .nil .nil) (.node (ob3 P) .nil .nil))))
noncomputable def st_b (w : World) (os : OsState) : SharedT := ⟨tr_b w.params, (nat_lit 15), ⟨[], [], [], 0, [], [], false, #[], [], 0, false, false, false, 0, [2000, 10, 10], false, 0, true, [], [], 0, false⟩, ⟨[]⟩, ⟨0, 0, 0, 0⟩, (nat_lit 187), os⟩
theorem blk0 (w : World) (os : OsState) : segRunT treeTable pw w m0 ann0 1 (nat_lit 1) (st_a w os) (blockOf (behindTheImports pw) env0 cE ⟨0, 0, 0, 0⟩ fr0) = some (Flow.next, st_b w os, cE, ⟨0, 0, 0, 0⟩) := by kernel_rfl
noncomputable def ob4 (P : Params) : Obj := ⟨(.type "dict"), none, (.dict #[⟨(keyHash P "__name__"), (.str "__name__" 165), (.str "htmltree.openstack" 210)⟩, ⟨(keyHash P "__doc__"), (.str "__doc__" 166), .none⟩, ⟨(keyHash P "__package__"), (.str "__package__" 167), .none⟩, ⟨(keyHash P "__loader__"), (.str "__loader__" 168), (.builtin "__main__.__loader__#opaque")⟩, ⟨(keyHash P "__spec__"), (.str "__spec__" 169), .none⟩, ⟨(keyHash P "__annotations__"), (.str "__annotations__" 170), (.ref 6)⟩, ⟨(keyHash P "__builtins__"), (.str "__builtins__" 171), (.ref 4)⟩, ⟨(keyHash P "__file__"), (.str "__file__" 173), (.str "/claim/cut.py" 172)⟩, ⟨(keyHash P "__cached__"), (.str "__cached__" 174), .none⟩, ⟨(keyHash P "_wall"), (.str "_wall" 193), (.ref 21)⟩, ⟨(keyHash P "is_special"), (.str "is_special" 203), (.ref 28)⟩, ⟨(keyHash P "implied_names"), (.str "implied_names" 209), (.ref 35)⟩] 12), #[]⟩
noncomputable def ob5 (P : Params) : Obj := ⟨.none, none, (.fields #[(.int 1 0), (.int 0 0), (.ref 20), (.int 5 0), (.int 0 0), (.ref 27), (.int 11 0), (.int 0 0), (.ref 34)]), #[]⟩
noncomputable def ob6 (P : Params) : Obj := ⟨(.type "tuple"), none, (.seq #[] 0), #[]⟩
noncomputable def ob7 (P : Params) : Obj := ⟨.none, none, (.fields #[]), #[]⟩
noncomputable def ob8 (P : Params) : Obj := ⟨(.type "tuple"), none, (.seq #[(.str "k" 190)] 0), #[]⟩
noncomputable def ob9 (P : Params) : Obj := ⟨(.type "tuple"), none, (.seq #[] 0), #[]⟩
noncomputable def ob10 (P : Params) : Obj := ⟨.none, none, (.func (fnG (e := (at1 0)) rfl "_wall" "_wall" 0 [] .none .none .none .none none .none .none 0)), #[]⟩
noncomputable def ob11 (P : Params) : Obj := ⟨(.type "code"), none, (.fields #[(.str "_wall" 187), (.str "_wall" 188), (.str "/claim/cut.py" 189), (.int 1 0), (.int 1 0), (.int 0 0), (.int 0 0), (.int 3 0), (.ref 15), (.bool true), (.int 181 0), (.ref 16), .none, (.ref 17), (.ref 18), (.ref 19), (.int 191 0), (.int 1 0), (.str "/claim/cut.py" 192)]), #[]⟩
noncomputable def ob12 (P : Params) : Obj := ⟨(.type "function"), none, (.func (fnG (e := (at1 0)) rfl "_wall" "_wall" 3 [] .none .none .none (.str "__main__" 164) none (.ref 20) .none 0)), #[]⟩
noncomputable def ob13 (P : Params) : Obj := ⟨(.type "tuple"), none, (.seq #[] 0), #[]⟩
noncomputable def ob14 (P : Params) : Obj := ⟨.none, none, (.fields #[]), #[]⟩
noncomputable def ob15 (P : Params) : Obj := ⟨(.type "tuple"), none, (.seq #[(.str "space" 199), (.str "name" 200)] 0), #[]⟩
noncomputable def ob16 (P : Params) : Obj := ⟨(.type "tuple"), none, (.seq #[] 0), #[]⟩
noncomputable def ob17 (P : Params) : Obj := ⟨.none, none, (.func (fnG (e := (at1 2)) rfl "is_special" "is_special" 0 [] .none .none .none .none none .none .none 0)), #[]⟩
noncomputable def ob18 (P : Params) : Obj := ⟨(.type "code"), none, (.fields #[(.str "is_special" 196), (.str "is_special" 197), (.str "/claim/cut.py" 198), (.int 5 0), (.int 2 0), (.int 0 0), (.int 0 0), (.int 3 0), (.ref 22), (.bool true), (.int 181 0), (.ref 23), .none, (.ref 24), (.ref 25), (.ref 26), (.int 201 0), (.int 5 0), (.str "/claim/cut.py" 202)]), #[]⟩
noncomputable def ob19 (P : Params) : Obj := ⟨(.type "function"), none, (.func (fnG (e := (at1 2)) rfl "is_special" "is_special" 3 [] .none .none .none (.str "htmltree.names" 194) none (.ref 27) .none 0)), #[]⟩
noncomputable def ob20 (P : Params) : Obj := ⟨(.type "tuple"), none, (.seq #[] 0), #[]⟩
noncomputable def ob21 (P : Params) : Obj := ⟨.none, none, (.fields #[]), #[]⟩
noncomputable def ob22 (P : Params) : Obj := ⟨(.type "tuple"), none, (.seq #[] 0), #[]⟩
noncomputable def ob23 (P : Params) : Obj := ⟨(.type "tuple"), none, (.seq #[] 0), #[]⟩
noncomputable def ob24 (P : Params) : Obj := ⟨.none, none, (.func (fnG (e := (at1 3)) rfl "implied_names" "implied_names" 0 [] .none .none .none .none none .none .none 0)), #[]⟩
noncomputable def ob25 (P : Params) : Obj := ⟨(.type "code"), none, (.fields #[(.str "implied_names" 204), (.str "implied_names" 205), (.str "/claim/cut.py" 206), (.int 11 0), (.int 0 0), (.int 0 0), (.int 0 0), (.int 3 0), (.ref 29), (.bool true), (.int 181 0), (.ref 30), .none, (.ref 31), (.ref 32), (.ref 33), (.int 207 0), (.int 11 0), (.str "/claim/cut.py" 208)]), #[]⟩
noncomputable def ob26 (P : Params) : Obj := ⟨(.type "function"), none, (.func (fnG (e := (at1 3)) rfl "implied_names" "implied_names" 3 [] .none .none .none (.str "htmltree.names" 194) none (.ref 34) .none 0)), #[]⟩
noncomputable def tr_0 (P : Params) : BT := (.node (boot_o_0 P) (.node (boot_o_1 P) (.node (ob4 P) (.node (boot_o_7 P) (.node (ob6 P) (.node (ob22 P) .nil .nil) .nil) (.node (ob14 P) .nil .nil)) (.node (ob0 P) (.node (ob10 P) (.node (ob26 P) .nil .nil) .nil) (.node (ob18 P) .nil .nil))) (.node (boot_o_5 P) (.node (boot_o_9 P) (.node (ob8 P) (.node (ob24 P) .nil .nil) .nil) (.node (ob16 P) .nil .nil)) (.node (ob2 P) (.node (ob12 P) .nil .nil) (.node (ob20 P) .nil .nil)))) (.node (boot_o_2 P) (.node (boot_o_4 P) (.node (boot_o_8 P) (.node (ob7 P) (.node (ob23 P) .nil .nil) .nil) (.node (ob15 P) .nil .nil)) (.node (ob5 P) (.node (ob11 P) .nil .nil) (.node (ob19 P) .nil .nil))) (.node (boot_o_6 P) (.node (boot_o_10 P) (.node (ob9 P) (.node (ob25 P) .nil .nil) .nil) (.node (ob17 P) .nil .nil)) (.node (ob3 P) (.node (ob13 P) .nil .nil) (.node (ob21 P) .nil .nil)))))
noncomputable def st_0 (w : World) (os : OsState) : SharedT := ⟨tr_0 w.params, (nat_lit 36), ⟨[], [], [], 0, [], [], false, #[], [], 0, false, false, false, 0, [2000, 10, 10], false, 0, true, [], [], 0, false⟩, ⟨[]⟩, ⟨0, 0, 0, 0⟩, (nat_lit 212), os⟩
theorem pc0 (w : World) (os : OsState) : segRunT treeTable pw w m0 ann0 1 (nat_lit 106) (st_b w os) (piecesOf (sts 0 5) env0 cE ⟨0, 0, 0, 0⟩ fr0) = some (Flow.next, st_0 w os, cE, ⟨13, 0, 13, 8⟩) := by kernel_rfl
noncomputable def ob27 (P : Params) : Obj := ⟨(.type "dict"), none, (.dict #[⟨(keyHash P "__name__"), (.str "__name__" 165), (.str "htmltree.openstack" 210)⟩, ⟨(keyHash P "__doc__"), (.str "__doc__" 166), .none⟩, ⟨(keyHash P "__package__"), (.str "__package__" 167), .none⟩, ⟨(keyHash P "__loader__"), (.str "__loader__" 168), (.builtin "__main__.__loader__#opaque")⟩, ⟨(keyHash P "__spec__"), (.str "__spec__" 169), .none⟩, ⟨(keyHash P "__annotations__"), (.str "__annotations__" 170), (.ref 6)⟩, ⟨(keyHash P "__builtins__"), (.str "__builtins__" 171), (.ref 4)⟩, ⟨(keyHash P "__file__"), (.str "__file__" 173), (.str "/claim/cut.py" 172)⟩, ⟨(keyHash P "__cached__"), (.str "__cached__" 174), .none⟩, ⟨(keyHash P "_wall"), (.str "_wall" 193), (.ref 21)⟩, ⟨(keyHash P "is_special"), (.str "is_special" 203), (.ref 28)⟩, ⟨(keyHash P "implied_names"), (.str "implied_names" 209), (.ref 35)⟩, ⟨(keyHash P "OpenStack"), (.str "OpenStack" 335), (.ref 136)⟩, ⟨(keyHash P "stops_scope"), (.str "stops_scope" 346), (.ref 147)⟩, ⟨(keyHash P "node_in_scope"), (.str "node_in_scope" 357), (.ref 155)⟩] 15), #[]⟩
noncomputable def ob28 (P : Params) : Obj := ⟨.none, none, (.fields #[(.int 1 0), (.int 0 0), (.ref 20), (.int 5 0), (.int 0 0), (.ref 27), (.int 11 0), (.int 0 0), (.ref 34), (.int 14 0), (.int 0 0), (.ref 41), (.int 65 0), (.int 0 0), (.ref 146), (.int 81 0), (.int 0 0), (.ref 154)]), #[]⟩
noncomputable def ob29 (P : Params) : Obj := ⟨(.type "tuple"), none, (.seq #[] 0), #[]⟩
noncomputable def ob30 (P : Params) : Obj := ⟨(.type "builtin_function_or_method"), none, (.fields #[(.builtin "type.__prepare__"), (.type "type")]), #[]⟩
noncomputable def ob31 (P : Params) : Obj := ⟨(.type "dict"), none, (.dict #[⟨(keyHash P "__module__"), (.str "__module__" 219), (.str "htmltree.openstack" 210)⟩, ⟨(keyHash P "__qualname__"), (.str "__qualname__" 221), (.str "OpenStack" 220)⟩, ⟨(keyHash P "__firstlineno__"), (.str "__firstlineno__" 223), (.int 14 222)⟩, ⟨(keyHash P "__init__"), (.str "__init__" 231), (.ref 49)⟩, ⟨(keyHash P "push"), (.str "push" 239), (.ref 56)⟩, ⟨(keyHash P "pop"), (.str "pop" 246), (.ref 63)⟩, ⟨(keyHash P "current"), (.str "current" 253), (.ref 70)⟩, ⟨(keyHash P "many"), (.str "many" 260), (.ref 77)⟩, ⟨(keyHash P "has"), (.str "has" 268), (.ref 84)⟩, ⟨(keyHash P "remove"), (.str "remove" 276), (.ref 91)⟩, ⟨(keyHash P "place"), (.str "place" 284), (.ref 98)⟩, ⟨(keyHash P "put_at"), (.str "put_at" 293), (.ref 105)⟩, ⟨(keyHash P "name"), (.str "name" 301), (.ref 112)⟩, ⟨(keyHash P "has_name"), (.str "has_name" 309), (.ref 119)⟩, ⟨(keyHash P "pop_until"), (.str "pop_until" 317), (.ref 126)⟩, ⟨(keyHash P "pop_to"), (.str "pop_to" 325), (.ref 133)⟩, ⟨(keyHash P "__static_attributes__"), (.str "__static_attributes__" 328), (.ref 134)⟩] 17), #[]⟩
noncomputable def ob32 (P : Params) : Obj := ⟨(.type "tuple"), none, (.seq #[] 0), #[]⟩
noncomputable def ob33 (P : Params) : Obj := ⟨.none, none, (.fields #[(.int 16 0), (.int 4 0), (.ref 48), (.int 20 0), (.int 4 0), (.ref 55), (.int 23 0), (.int 4 0), (.ref 62), (.int 28 0), (.int 4 0), (.ref 69), (.int 33 0), (.int 4 0), (.ref 76), (.int 36 0), (.int 4 0), (.ref 83), (.int 39 0), (.int 4 0), (.ref 90), (.int 43 0), (.int 4 0), (.ref 97), (.int 48 0), (.int 4 0), (.ref 104), (.int 51 0), (.int 4 0), (.ref 111), (.int 57 0), (.int 4 0), (.ref 118), (.int 60 0), (.int 4 0), (.ref 125), (.int 63 0), (.int 4 0), (.ref 132)]), #[]⟩
noncomputable def ob34 (P : Params) : Obj := ⟨(.type "code"), none, (.fields #[(.str "OpenStack" 214), (.str "OpenStack" 215), (.str "/claim/cut.py" 216), (.int 14 0), (.int 0 0), (.int 0 0), (.int 0 0), (.int 0 0), (.ref 39), (.bool false), (.int 181 0), (.ref 40), .none, .none, .none, .none, (.int 217 0), (.int 14 0), (.str "/claim/cut.py" 218)]), #[]⟩
noncomputable def ob35 (P : Params) : Obj := ⟨(.type "frame"), none, .plain, #[(some (.ref 41)), (some (.ref 3)), (some (.ref 38)), none, (some (.str "htmltree.openstack" 210)), none, (some (.ref 0))]⟩
noncomputable def ob36 (P : Params) : Obj := ⟨(.type "tuple"), none, (.seq #[] 0), #[]⟩
noncomputable def ob37 (P : Params) : Obj := ⟨.none, none, (.fields #[]), #[]⟩
noncomputable def ob38 (P : Params) : Obj := ⟨(.type "tuple"), none, (.seq #[(.str "self" 227), (.str "tree" 228)] 0), #[]⟩
noncomputable def ob39 (P : Params) : Obj := ⟨(.type "tuple"), none, (.seq #[] 0), #[]⟩
noncomputable def ob40 (P : Params) : Obj := ⟨.none, none, (.func (fnG (e := (at2 5 0)) rfl "__init__" "OpenStack.__init__" 0 [] .none .none .none .none none .none .none 0)), #[]⟩
noncomputable def ob41 (P : Params) : Obj := ⟨(.type "code"), none, (.fields #[(.str "__init__" 224), (.str "OpenStack.__init__" 225), (.str "/claim/cut.py" 226), (.int 16 0), (.int 2 0), (.int 0 0), (.int 0 0), (.int 3 0), (.ref 43), (.bool true), (.int 181 0), (.ref 44), .none, (.ref 45), (.ref 46), (.ref 47), (.int 229 0), (.int 16 0), (.str "/claim/cut.py" 230)]), #[]⟩
noncomputable def ob42 (P : Params) : Obj := ⟨(.type "function"), none, (.func (fnG (e := (at2 5 0)) rfl "__init__" "OpenStack.__init__" 3 [] .none .none .none (.str "htmltree.openstack" 210) none (.ref 48) .none 0)), #[]⟩
noncomputable def ob43 (P : Params) : Obj := ⟨(.type "tuple"), none, (.seq #[] 0), #[]⟩
noncomputable def ob44 (P : Params) : Obj := ⟨.none, none, (.fields #[]), #[]⟩
noncomputable def ob45 (P : Params) : Obj := ⟨(.type "tuple"), none, (.seq #[(.str "self" 235), (.str "node" 236)] 0), #[]⟩
noncomputable def ob46 (P : Params) : Obj := ⟨(.type "tuple"), none, (.seq #[] 0), #[]⟩
noncomputable def ob47 (P : Params) : Obj := ⟨.none, none, (.func (fnG (e := (at2 5 1)) rfl "push" "OpenStack.push" 0 [] .none .none .none .none none .none .none 0)), #[]⟩
noncomputable def ob48 (P : Params) : Obj := ⟨(.type "code"), none, (.fields #[(.str "push" 232), (.str "OpenStack.push" 233), (.str "/claim/cut.py" 234), (.int 20 0), (.int 2 0), (.int 0 0), (.int 0 0), (.int 3 0), (.ref 50), (.bool true), (.int 181 0), (.ref 51), .none, (.ref 52), (.ref 53), (.ref 54), (.int 237 0), (.int 20 0), (.str "/claim/cut.py" 238)]), #[]⟩
noncomputable def ob49 (P : Params) : Obj := ⟨(.type "function"), none, (.func (fnG (e := (at2 5 1)) rfl "push" "OpenStack.push" 3 [] .none .none .none (.str "htmltree.openstack" 210) none (.ref 55) .none 0)), #[]⟩
noncomputable def ob50 (P : Params) : Obj := ⟨(.type "tuple"), none, (.seq #[] 0), #[]⟩
noncomputable def ob51 (P : Params) : Obj := ⟨.none, none, (.fields #[]), #[]⟩
noncomputable def ob52 (P : Params) : Obj := ⟨(.type "tuple"), none, (.seq #[(.str "self" 243)] 0), #[]⟩
noncomputable def ob53 (P : Params) : Obj := ⟨(.type "tuple"), none, (.seq #[] 0), #[]⟩
noncomputable def ob54 (P : Params) : Obj := ⟨.none, none, (.func (fnG (e := (at2 5 2)) rfl "pop" "OpenStack.pop" 0 [] .none .none .none .none none .none .none 0)), #[]⟩
noncomputable def ob55 (P : Params) : Obj := ⟨(.type "code"), none, (.fields #[(.str "pop" 240), (.str "OpenStack.pop" 241), (.str "/claim/cut.py" 242), (.int 23 0), (.int 1 0), (.int 0 0), (.int 0 0), (.int 3 0), (.ref 57), (.bool true), (.int 181 0), (.ref 58), .none, (.ref 59), (.ref 60), (.ref 61), (.int 244 0), (.int 23 0), (.str "/claim/cut.py" 245)]), #[]⟩
noncomputable def ob56 (P : Params) : Obj := ⟨(.type "function"), none, (.func (fnG (e := (at2 5 2)) rfl "pop" "OpenStack.pop" 3 [] .none .none .none (.str "htmltree.openstack" 210) none (.ref 62) .none 0)), #[]⟩
noncomputable def ob57 (P : Params) : Obj := ⟨(.type "tuple"), none, (.seq #[] 0), #[]⟩
noncomputable def ob58 (P : Params) : Obj := ⟨.none, none, (.fields #[]), #[]⟩
noncomputable def ob59 (P : Params) : Obj := ⟨(.type "tuple"), none, (.seq #[(.str "self" 250)] 0), #[]⟩
noncomputable def ob60 (P : Params) : Obj := ⟨(.type "tuple"), none, (.seq #[] 0), #[]⟩
noncomputable def ob61 (P : Params) : Obj := ⟨.none, none, (.func (fnG (e := (at2 5 3)) rfl "current" "OpenStack.current" 0 [] .none .none .none .none none .none .none 0)), #[]⟩
noncomputable def ob62 (P : Params) : Obj := ⟨(.type "code"), none, (.fields #[(.str "current" 247), (.str "OpenStack.current" 248), (.str "/claim/cut.py" 249), (.int 28 0), (.int 1 0), (.int 0 0), (.int 0 0), (.int 3 0), (.ref 64), (.bool true), (.int 181 0), (.ref 65), .none, (.ref 66), (.ref 67), (.ref 68), (.int 251 0), (.int 28 0), (.str "/claim/cut.py" 252)]), #[]⟩
noncomputable def ob63 (P : Params) : Obj := ⟨(.type "function"), none, (.func (fnG (e := (at2 5 3)) rfl "current" "OpenStack.current" 3 [] .none .none .none (.str "htmltree.openstack" 210) none (.ref 69) .none 0)), #[]⟩
noncomputable def ob64 (P : Params) : Obj := ⟨(.type "tuple"), none, (.seq #[] 0), #[]⟩
noncomputable def ob65 (P : Params) : Obj := ⟨.none, none, (.fields #[]), #[]⟩
noncomputable def ob66 (P : Params) : Obj := ⟨(.type "tuple"), none, (.seq #[(.str "self" 257)] 0), #[]⟩
noncomputable def ob67 (P : Params) : Obj := ⟨(.type "tuple"), none, (.seq #[] 0), #[]⟩
noncomputable def ob68 (P : Params) : Obj := ⟨.none, none, (.func (fnG (e := (at2 5 4)) rfl "many" "OpenStack.many" 0 [] .none .none .none .none none .none .none 0)), #[]⟩
noncomputable def ob69 (P : Params) : Obj := ⟨(.type "code"), none, (.fields #[(.str "many" 254), (.str "OpenStack.many" 255), (.str "/claim/cut.py" 256), (.int 33 0), (.int 1 0), (.int 0 0), (.int 0 0), (.int 3 0), (.ref 71), (.bool true), (.int 181 0), (.ref 72), .none, (.ref 73), (.ref 74), (.ref 75), (.int 258 0), (.int 33 0), (.str "/claim/cut.py" 259)]), #[]⟩
noncomputable def ob70 (P : Params) : Obj := ⟨(.type "function"), none, (.func (fnG (e := (at2 5 4)) rfl "many" "OpenStack.many" 3 [] .none .none .none (.str "htmltree.openstack" 210) none (.ref 76) .none 0)), #[]⟩
noncomputable def ob71 (P : Params) : Obj := ⟨(.type "tuple"), none, (.seq #[] 0), #[]⟩
noncomputable def ob72 (P : Params) : Obj := ⟨.none, none, (.fields #[]), #[]⟩
noncomputable def ob73 (P : Params) : Obj := ⟨(.type "tuple"), none, (.seq #[(.str "self" 264), (.str "node" 265)] 0), #[]⟩
noncomputable def ob74 (P : Params) : Obj := ⟨(.type "tuple"), none, (.seq #[] 0), #[]⟩
noncomputable def ob75 (P : Params) : Obj := ⟨.none, none, (.func (fnG (e := (at2 5 5)) rfl "has" "OpenStack.has" 0 [] .none .none .none .none none .none .none 0)), #[]⟩
noncomputable def ob76 (P : Params) : Obj := ⟨(.type "code"), none, (.fields #[(.str "has" 261), (.str "OpenStack.has" 262), (.str "/claim/cut.py" 263), (.int 36 0), (.int 2 0), (.int 0 0), (.int 0 0), (.int 3 0), (.ref 78), (.bool true), (.int 181 0), (.ref 79), .none, (.ref 80), (.ref 81), (.ref 82), (.int 266 0), (.int 36 0), (.str "/claim/cut.py" 267)]), #[]⟩
noncomputable def ob77 (P : Params) : Obj := ⟨(.type "function"), none, (.func (fnG (e := (at2 5 5)) rfl "has" "OpenStack.has" 3 [] .none .none .none (.str "htmltree.openstack" 210) none (.ref 83) .none 0)), #[]⟩
noncomputable def ob78 (P : Params) : Obj := ⟨(.type "tuple"), none, (.seq #[] 0), #[]⟩
noncomputable def ob79 (P : Params) : Obj := ⟨.none, none, (.fields #[]), #[]⟩
noncomputable def ob80 (P : Params) : Obj := ⟨(.type "tuple"), none, (.seq #[(.str "self" 272), (.str "node" 273)] 0), #[]⟩
noncomputable def ob81 (P : Params) : Obj := ⟨(.type "tuple"), none, (.seq #[] 0), #[]⟩
noncomputable def ob82 (P : Params) : Obj := ⟨.none, none, (.func (fnG (e := (at2 5 6)) rfl "remove" "OpenStack.remove" 0 [] .none .none .none .none none .none .none 0)), #[]⟩
noncomputable def ob83 (P : Params) : Obj := ⟨(.type "code"), none, (.fields #[(.str "remove" 269), (.str "OpenStack.remove" 270), (.str "/claim/cut.py" 271), (.int 39 0), (.int 2 0), (.int 0 0), (.int 0 0), (.int 3 0), (.ref 85), (.bool true), (.int 181 0), (.ref 86), .none, (.ref 87), (.ref 88), (.ref 89), (.int 274 0), (.int 39 0), (.str "/claim/cut.py" 275)]), #[]⟩
noncomputable def ob84 (P : Params) : Obj := ⟨(.type "function"), none, (.func (fnG (e := (at2 5 6)) rfl "remove" "OpenStack.remove" 3 [] .none .none .none (.str "htmltree.openstack" 210) none (.ref 90) .none 0)), #[]⟩
noncomputable def ob85 (P : Params) : Obj := ⟨(.type "tuple"), none, (.seq #[] 0), #[]⟩
noncomputable def ob86 (P : Params) : Obj := ⟨.none, none, (.fields #[]), #[]⟩
noncomputable def ob87 (P : Params) : Obj := ⟨(.type "tuple"), none, (.seq #[(.str "self" 280), (.str "node" 281)] 0), #[]⟩
noncomputable def ob88 (P : Params) : Obj := ⟨(.type "tuple"), none, (.seq #[] 0), #[]⟩
noncomputable def ob89 (P : Params) : Obj := ⟨.none, none, (.func (fnG (e := (at2 5 7)) rfl "place" "OpenStack.place" 0 [] .none .none .none .none none .none .none 0)), #[]⟩
noncomputable def ob90 (P : Params) : Obj := ⟨(.type "code"), none, (.fields #[(.str "place" 277), (.str "OpenStack.place" 278), (.str "/claim/cut.py" 279), (.int 43 0), (.int 2 0), (.int 0 0), (.int 0 0), (.int 3 0), (.ref 92), (.bool true), (.int 181 0), (.ref 93), .none, (.ref 94), (.ref 95), (.ref 96), (.int 282 0), (.int 43 0), (.str "/claim/cut.py" 283)]), #[]⟩
noncomputable def ob91 (P : Params) : Obj := ⟨(.type "function"), none, (.func (fnG (e := (at2 5 7)) rfl "place" "OpenStack.place" 3 [] .none .none .none (.str "htmltree.openstack" 210) none (.ref 97) .none 0)), #[]⟩
noncomputable def ob92 (P : Params) : Obj := ⟨(.type "tuple"), none, (.seq #[] 0), #[]⟩
noncomputable def ob93 (P : Params) : Obj := ⟨.none, none, (.fields #[]), #[]⟩
noncomputable def ob94 (P : Params) : Obj := ⟨(.type "tuple"), none, (.seq #[(.str "self" 288), (.str "place" 289), (.str "node" 290)] 0), #[]⟩
noncomputable def ob95 (P : Params) : Obj := ⟨(.type "tuple"), none, (.seq #[] 0), #[]⟩
noncomputable def ob96 (P : Params) : Obj := ⟨.none, none, (.func (fnG (e := (at2 5 8)) rfl "put_at" "OpenStack.put_at" 0 [] .none .none .none .none none .none .none 0)), #[]⟩
noncomputable def ob97 (P : Params) : Obj := ⟨(.type "code"), none, (.fields #[(.str "put_at" 285), (.str "OpenStack.put_at" 286), (.str "/claim/cut.py" 287), (.int 48 0), (.int 3 0), (.int 0 0), (.int 0 0), (.int 3 0), (.ref 99), (.bool true), (.int 181 0), (.ref 100), .none, (.ref 101), (.ref 102), (.ref 103), (.int 291 0), (.int 48 0), (.str "/claim/cut.py" 292)]), #[]⟩
noncomputable def ob98 (P : Params) : Obj := ⟨(.type "function"), none, (.func (fnG (e := (at2 5 8)) rfl "put_at" "OpenStack.put_at" 3 [] .none .none .none (.str "htmltree.openstack" 210) none (.ref 104) .none 0)), #[]⟩
noncomputable def ob99 (P : Params) : Obj := ⟨(.type "tuple"), none, (.seq #[] 0), #[]⟩
noncomputable def ob100 (P : Params) : Obj := ⟨.none, none, (.fields #[]), #[]⟩
noncomputable def ob101 (P : Params) : Obj := ⟨(.type "tuple"), none, (.seq #[(.str "self" 297), (.str "node" 298)] 0), #[]⟩
noncomputable def ob102 (P : Params) : Obj := ⟨(.type "tuple"), none, (.seq #[] 0), #[]⟩
noncomputable def ob103 (P : Params) : Obj := ⟨.none, none, (.func (fnG (e := (at2 5 9)) rfl "name" "OpenStack.name" 0 [] .none .none .none .none none .none .none 0)), #[]⟩
noncomputable def ob104 (P : Params) : Obj := ⟨(.type "code"), none, (.fields #[(.str "name" 294), (.str "OpenStack.name" 295), (.str "/claim/cut.py" 296), (.int 51 0), (.int 1 0), (.int 0 0), (.int 0 0), (.int 3 0), (.ref 106), (.bool true), (.int 181 0), (.ref 107), .none, (.ref 108), (.ref 109), (.ref 110), (.int 299 0), (.int 51 0), (.str "/claim/cut.py" 300)]), #[]⟩
noncomputable def ob105 (P : Params) : Obj := ⟨(.type "function"), none, (.func (fnG (e := (at2 5 9)) rfl "name" "OpenStack.name" 3 [] .none .none .none (.str "htmltree.openstack" 210) none (.ref 111) .none 0)), #[]⟩
noncomputable def ob106 (P : Params) : Obj := ⟨(.type "tuple"), none, (.seq #[] 0), #[]⟩
noncomputable def ob107 (P : Params) : Obj := ⟨.none, none, (.fields #[]), #[]⟩
noncomputable def ob108 (P : Params) : Obj := ⟨(.type "tuple"), none, (.seq #[(.str "self" 305), (.str "name" 306)] 0), #[]⟩
noncomputable def ob109 (P : Params) : Obj := ⟨(.type "tuple"), none, (.seq #[] 0), #[]⟩
noncomputable def ob110 (P : Params) : Obj := ⟨.none, none, (.func (fnG (e := (at2 5 10)) rfl "has_name" "OpenStack.has_name" 0 [] .none .none .none .none none .none .none 0)), #[]⟩
noncomputable def ob111 (P : Params) : Obj := ⟨(.type "code"), none, (.fields #[(.str "has_name" 302), (.str "OpenStack.has_name" 303), (.str "/claim/cut.py" 304), (.int 57 0), (.int 2 0), (.int 0 0), (.int 0 0), (.int 3 0), (.ref 113), (.bool true), (.int 181 0), (.ref 114), .none, (.ref 115), (.ref 116), (.ref 117), (.int 307 0), (.int 57 0), (.str "/claim/cut.py" 308)]), #[]⟩
noncomputable def ob112 (P : Params) : Obj := ⟨(.type "function"), none, (.func (fnG (e := (at2 5 10)) rfl "has_name" "OpenStack.has_name" 3 [] .none .none .none (.str "htmltree.openstack" 210) none (.ref 118) .none 0)), #[]⟩
noncomputable def ob113 (P : Params) : Obj := ⟨(.type "tuple"), none, (.seq #[] 0), #[]⟩
noncomputable def ob114 (P : Params) : Obj := ⟨.none, none, (.fields #[]), #[]⟩
noncomputable def ob115 (P : Params) : Obj := ⟨(.type "tuple"), none, (.seq #[(.str "self" 313), (.str "names" 314)] 0), #[]⟩
noncomputable def ob116 (P : Params) : Obj := ⟨(.type "tuple"), none, (.seq #[] 0), #[]⟩
noncomputable def ob117 (P : Params) : Obj := ⟨.none, none, (.func (fnG (e := (at2 5 11)) rfl "pop_until" "OpenStack.pop_until" 0 [] .none .none .none .none none .none .none 0)), #[]⟩
noncomputable def ob118 (P : Params) : Obj := ⟨(.type "code"), none, (.fields #[(.str "pop_until" 310), (.str "OpenStack.pop_until" 311), (.str "/claim/cut.py" 312), (.int 60 0), (.int 2 0), (.int 0 0), (.int 0 0), (.int 3 0), (.ref 120), (.bool true), (.int 181 0), (.ref 121), .none, (.ref 122), (.ref 123), (.ref 124), (.int 315 0), (.int 60 0), (.str "/claim/cut.py" 316)]), #[]⟩
noncomputable def ob119 (P : Params) : Obj := ⟨(.type "function"), none, (.func (fnG (e := (at2 5 11)) rfl "pop_until" "OpenStack.pop_until" 3 [] .none .none .none (.str "htmltree.openstack" 210) none (.ref 125) .none 0)), #[]⟩
noncomputable def ob120 (P : Params) : Obj := ⟨(.type "tuple"), none, (.seq #[] 0), #[]⟩
noncomputable def ob121 (P : Params) : Obj := ⟨.none, none, (.fields #[]), #[]⟩
noncomputable def ob122 (P : Params) : Obj := ⟨(.type "tuple"), none, (.seq #[(.str "self" 321), (.str "names" 322)] 0), #[]⟩
noncomputable def ob123 (P : Params) : Obj := ⟨(.type "tuple"), none, (.seq #[] 0), #[]⟩
noncomputable def ob124 (P : Params) : Obj := ⟨.none, none, (.func (fnG (e := (at2 5 12)) rfl "pop_to" "OpenStack.pop_to" 0 [] .none .none .none .none none .none .none 0)), #[]⟩
noncomputable def ob125 (P : Params) : Obj := ⟨(.type "code"), none, (.fields #[(.str "pop_to" 318), (.str "OpenStack.pop_to" 319), (.str "/claim/cut.py" 320), (.int 63 0), (.int 2 0), (.int 0 0), (.int 0 0), (.int 3 0), (.ref 127), (.bool true), (.int 181 0), (.ref 128), .none, (.ref 129), (.ref 130), (.ref 131), (.int 323 0), (.int 63 0), (.str "/claim/cut.py" 324)]), #[]⟩
noncomputable def ob126 (P : Params) : Obj := ⟨(.type "function"), none, (.func (fnG (e := (at2 5 12)) rfl "pop_to" "OpenStack.pop_to" 3 [] .none .none .none (.str "htmltree.openstack" 210) none (.ref 132) .none 0)), #[]⟩
noncomputable def ob127 (P : Params) : Obj := ⟨(.type "tuple"), none, (.seq #[(.str "items" 326), (.str "tree" 327)] 0), #[]⟩
noncomputable def ob128 (P : Params) : Obj := ⟨(.type "dict"), none, (.dict #[⟨(keyHash P "__module__"), (.str "__module__" 219), (.str "htmltree.openstack" 210)⟩, ⟨(keyHash P "__firstlineno__"), (.str "__firstlineno__" 223), (.int 14 222)⟩, ⟨(keyHash P "__init__"), (.str "__init__" 231), (.ref 49)⟩, ⟨(keyHash P "push"), (.str "push" 239), (.ref 56)⟩, ⟨(keyHash P "pop"), (.str "pop" 246), (.ref 63)⟩, ⟨(keyHash P "current"), (.str "current" 253), (.ref 70)⟩, ⟨(keyHash P "many"), (.str "many" 260), (.ref 77)⟩, ⟨(keyHash P "has"), (.str "has" 268), (.ref 84)⟩, ⟨(keyHash P "remove"), (.str "remove" 276), (.ref 91)⟩, ⟨(keyHash P "place"), (.str "place" 284), (.ref 98)⟩, ⟨(keyHash P "put_at"), (.str "put_at" 293), (.ref 105)⟩, ⟨(keyHash P "name"), (.str "name" 301), (.ref 112)⟩, ⟨(keyHash P "has_name"), (.str "has_name" 309), (.ref 119)⟩, ⟨(keyHash P "pop_until"), (.str "pop_until" 317), (.ref 126)⟩, ⟨(keyHash P "pop_to"), (.str "pop_to" 325), (.ref 133)⟩, ⟨(keyHash P "__static_attributes__"), (.str "__static_attributes__" 328), (.ref 134)⟩, ⟨(keyHash P "__dict__"), (.str "__dict__" 330), (.ref 137)⟩, ⟨(keyHash P "__weakref__"), (.str "__weakref__" 332), (.ref 138)⟩, ⟨(keyHash P "__doc__"), (.str "__doc__" 333), .none⟩] 4), #[]⟩
noncomputable def ob129 (P : Params) : Obj := ⟨(.type "type"), none, (.cls ⟨"OpenStack", [(.type "object")], [(.ref 136), (.type "object")], 135, "OpenStack", true, [], [], false, none, false⟩), #[none, none, (some (.str "OpenStack" 212)), (some (.str "OpenStack" 220)), (some (.builtin "object.__new__")), (some (.bool true))]⟩
noncomputable def ob130 (P : Params) : Obj := ⟨(.type "getset_descriptor"), none, (.fields #[(.str "__dict__" 329), (.ref 136), (.builtin "function.__dict__"), (.builtin "function.__dict__#set")]), #[]⟩
noncomputable def ob131 (P : Params) : Obj := ⟨(.type "getset_descriptor"), none, (.fields #[(.str "__weakref__" 331), (.ref 136), (.builtin "ExceptionGroup.__weakref__"), .none]), #[]⟩
noncomputable def ob132 (P : Params) : Obj := ⟨(.type "super"), none, (.fields #[(.ref 136), (.ref 136), (.ref 136)]), #[]⟩
noncomputable def ob133 (P : Params) : Obj := ⟨(.type "builtin_function_or_method"), none, (.fields #[(.builtin "object.__init_subclass__"), (.ref 136)]), #[]⟩
noncomputable def ob134 (P : Params) : Obj := ⟨(.type "tuple"), none, (.seq #[] 0), #[]⟩
noncomputable def ob135 (P : Params) : Obj := ⟨.none, none, (.fields #[]), #[]⟩
noncomputable def ob136 (P : Params) : Obj := ⟨(.type "tuple"), none, (.seq #[(.str "tree" 339), (.str "node" 340), (.str "sort" 341), (.str "space" 342), (.str "name" 343)] 0), #[]⟩
noncomputable def ob137 (P : Params) : Obj := ⟨(.type "tuple"), none, (.seq #[] 0), #[]⟩
noncomputable def ob138 (P : Params) : Obj := ⟨.none, none, (.func (fnG (e := (at1 6)) rfl "stops_scope" "stops_scope" 0 [] .none .none .none .none none .none .none 0)), #[]⟩
noncomputable def ob139 (P : Params) : Obj := ⟨(.type "code"), none, (.fields #[(.str "stops_scope" 336), (.str "stops_scope" 337), (.str "/claim/cut.py" 338), (.int 65 0), (.int 3 0), (.int 0 0), (.int 0 0), (.int 3 0), (.ref 141), (.bool true), (.int 181 0), (.ref 142), .none, (.ref 143), (.ref 144), (.ref 145), (.int 344 0), (.int 65 0), (.str "/claim/cut.py" 345)]), #[]⟩
noncomputable def ob140 (P : Params) : Obj := ⟨(.type "function"), none, (.func (fnG (e := (at1 6)) rfl "stops_scope" "stops_scope" 3 [] .none .none .none (.str "htmltree.openstack" 210) none (.ref 146) .none 0)), #[]⟩
noncomputable def ob141 (P : Params) : Obj := ⟨(.type "tuple"), none, (.seq #[(.str "" 347)] 0), #[]⟩
noncomputable def ob142 (P : Params) : Obj := ⟨(.type "tuple"), none, (.seq #[] 0), #[]⟩
noncomputable def ob143 (P : Params) : Obj := ⟨.none, none, (.fields #[]), #[]⟩
noncomputable def ob144 (P : Params) : Obj := ⟨(.type "tuple"), none, (.seq #[(.str "stack" 351), (.str "node" 352), (.str "sort" 353), (.str "at" 354)] 0), #[]⟩
noncomputable def ob145 (P : Params) : Obj := ⟨(.type "tuple"), none, (.seq #[] 0), #[]⟩
noncomputable def ob146 (P : Params) : Obj := ⟨.none, none, (.func (fnG (e := (at1 7)) rfl "node_in_scope" "node_in_scope" 0 [] .none .none .none .none none .none .none 0)), #[]⟩
noncomputable def ob147 (P : Params) : Obj := ⟨(.type "code"), none, (.fields #[(.str "node_in_scope" 348), (.str "node_in_scope" 349), (.str "/claim/cut.py" 350), (.int 81 0), (.int 3 0), (.int 0 0), (.int 0 0), (.int 3 0), (.ref 149), (.bool true), (.int 181 0), (.ref 150), .none, (.ref 151), (.ref 152), (.ref 153), (.int 355 0), (.int 81 0), (.str "/claim/cut.py" 356)]), #[]⟩
noncomputable def ob148 (P : Params) : Obj := ⟨(.type "function"), none, (.func (fnG (e := (at1 7)) rfl "node_in_scope" "node_in_scope" 3 [] (.ref 148) .none .none (.str "htmltree.openstack" 210) none (.ref 154) .none 0)), #[]⟩
noncomputable def tr_1 (P : Params) : BT := (.node (boot_o_0 P) (.node (boot_o_1 P) (.node (ob27 P) (.node (boot_o_7 P) (.node (ob6 P) (.node (ob22 P) (.node (ob56 P) (.node (ob120 P) .nil .nil) .nil) (.node (ob88 P) .nil .nil)) (.node (ob40 P) (.node (ob72 P) (.node (ob136 P) .nil .nil) .nil) (.node (ob104 P) .nil .nil))) (.node (ob14 P) (.node (ob32 P) (.node (ob64 P) (.node (ob128 P) .nil .nil) .nil) (.node (ob96 P) .nil .nil)) (.node (ob48 P) (.node (ob80 P) (.node (ob144 P) .nil .nil) .nil) (.node (ob112 P) .nil .nil)))) (.node (ob0 P) (.node (ob10 P) (.node (ob26 P) (.node (ob60 P) (.node (ob124 P) .nil .nil) .nil) (.node (ob92 P) .nil .nil)) (.node (ob44 P) (.node (ob76 P) (.node (ob140 P) .nil .nil) .nil) (.node (ob108 P) .nil .nil))) (.node (ob18 P) (.node (ob36 P) (.node (ob68 P) (.node (ob132 P) .nil .nil) .nil) (.node (ob100 P) .nil .nil)) (.node (ob52 P) (.node (ob84 P) (.node (ob148 P) .nil .nil) .nil) (.node (ob116 P) .nil .nil))))) (.node (boot_o_5 P) (.node (boot_o_9 P) (.node (ob8 P) (.node (ob24 P) (.node (ob58 P) (.node (ob122 P) .nil .nil) .nil) (.node (ob90 P) .nil .nil)) (.node (ob42 P) (.node (ob74 P) (.node (ob138 P) .nil .nil) .nil) (.node (ob106 P) .nil .nil))) (.node (ob16 P) (.node (ob34 P) (.node (ob66 P) (.node (ob130 P) .nil .nil) .nil) (.node (ob98 P) .nil .nil)) (.node (ob50 P) (.node (ob82 P) (.node (ob146 P) .nil .nil) .nil) (.node (ob114 P) .nil .nil)))) (.node (ob2 P) (.node (ob12 P) (.node (ob30 P) (.node (ob62 P) (.node (ob126 P) .nil .nil) .nil) (.node (ob94 P) .nil .nil)) (.node (ob46 P) (.node (ob78 P) (.node (ob142 P) .nil .nil) .nil) (.node (ob110 P) .nil .nil))) (.node (ob20 P) (.node (ob38 P) (.node (ob70 P) (.node (ob134 P) .nil .nil) .nil) (.node (ob102 P) .nil .nil)) (.node (ob54 P) (.node (ob86 P) .nil .nil) (.node (ob118 P) .nil .nil)))))) (.node (boot_o_2 P) (.node (boot_o_4 P) (.node (boot_o_8 P) (.node (ob7 P) (.node (ob23 P) (.node (ob57 P) (.node (ob121 P) .nil .nil) .nil) (.node (ob89 P) .nil .nil)) (.node (ob41 P) (.node (ob73 P) (.node (ob137 P) .nil .nil) .nil) (.node (ob105 P) .nil .nil))) (.node (ob15 P) (.node (ob33 P) (.node (ob65 P) (.node (ob129 P) .nil .nil) .nil) (.node (ob97 P) .nil .nil)) (.node (ob49 P) (.node (ob81 P) (.node (ob145 P) .nil .nil) .nil) (.node (ob113 P) .nil .nil)))) (.node (ob28 P) (.node (ob11 P) (.node (ob29 P) (.node (ob61 P) (.node (ob125 P) .nil .nil) .nil) (.node (ob93 P) .nil .nil)) (.node (ob45 P) (.node (ob77 P) (.node (ob141 P) .nil .nil) .nil) (.node (ob109 P) .nil .nil))) (.node (ob19 P) (.node (ob37 P) (.node (ob69 P) (.node (ob133 P) .nil .nil) .nil) (.node (ob101 P) .nil .nil)) (.node (ob53 P) (.node (ob85 P) .nil .nil) (.node (ob117 P) .nil .nil))))) (.node (boot_o_6 P) (.node (boot_o_10 P) (.node (ob9 P) (.node (ob25 P) (.node (ob59 P) (.node (ob123 P) .nil .nil) .nil) (.node (ob91 P) .nil .nil)) (.node (ob43 P) (.node (ob75 P) (.node (ob139 P) .nil .nil) .nil) (.node (ob107 P) .nil .nil))) (.node (ob17 P) (.node (ob35 P) (.node (ob67 P) (.node (ob131 P) .nil .nil) .nil) (.node (ob99 P) .nil .nil)) (.node (ob51 P) (.node (ob83 P) (.node (ob147 P) .nil .nil) .nil) (.node (ob115 P) .nil .nil)))) (.node (ob3 P) (.node (ob13 P) (.node (ob31 P) (.node (ob63 P) (.node (ob127 P) .nil .nil) .nil) (.node (ob95 P) .nil .nil)) (.node (ob47 P) (.node (ob79 P) (.node (ob143 P) .nil .nil) .nil) (.node (ob111 P) .nil .nil))) (.node (ob21 P) (.node (ob39 P) (.node (ob71 P) (.node (ob135 P) .nil .nil) .nil) (.node (ob103 P) .nil .nil)) (.node (ob55 P) (.node (ob87 P) .nil .nil) (.node (ob119 P) .nil .nil)))))))
noncomputable def st_1 (w : World) (os : OsState) : SharedT := ⟨tr_1 w.params, (nat_lit 156), ⟨[], [], [], 0, [], [], false, #[], [], 0, false, false, false, 0, [2000, 10, 10], false, 0, true, [], [], 0, false⟩, ⟨[]⟩, ⟨0, 0, 0, 0⟩, (nat_lit 358), os⟩
theorem pc1 (w : World) (os : OsState) : segRunT treeTable pw w m0 ann0 1 (nat_lit 673) (st_0 w os) (piecesOf (sts 5 8) env0 cE ⟨13, 0, 13, 8⟩ fr0) = some (Flow.next, st_1 w os, cE, ⟨81, 0, 87, 16⟩) := by kernel_rfl
noncomputable def ob149 (P : Params) : Obj := ⟨.none, none, (.dict #[⟨(keyHash P "type.__subclasses__.Exception.0"), (.str "type.__subclasses__.Exception.0" 426), (.int 201 0)⟩, ⟨(keyHash P "type.__subclasses__.Exception.n"), (.str "type.__subclasses__.Exception.n" 427), (.int 1 0)⟩] 2), #[]⟩
noncomputable def ob150 (P : Params) : Obj := ⟨(.type "dict"), none, (.dict #[⟨(keyHash P "__name__"), (.str "__name__" 165), (.str "htmltree.formatting" 446)⟩, ⟨(keyHash P "__doc__"), (.str "__doc__" 166), .none⟩, ⟨(keyHash P "__package__"), (.str "__package__" 167), .none⟩, ⟨(keyHash P "__loader__"), (.str "__loader__" 168), (.builtin "__main__.__loader__#opaque")⟩, ⟨(keyHash P "__spec__"), (.str "__spec__" 169), .none⟩, ⟨(keyHash P "__annotations__"), (.str "__annotations__" 170), (.ref 6)⟩, ⟨(keyHash P "__builtins__"), (.str "__builtins__" 171), (.ref 4)⟩, ⟨(keyHash P "__file__"), (.str "__file__" 173), (.str "/claim/cut.py" 172)⟩, ⟨(keyHash P "__cached__"), (.str "__cached__" 174), .none⟩, ⟨(keyHash P "_wall"), (.str "_wall" 193), (.ref 21)⟩, ⟨(keyHash P "is_special"), (.str "is_special" 203), (.ref 28)⟩, ⟨(keyHash P "implied_names"), (.str "implied_names" 209), (.ref 35)⟩, ⟨(keyHash P "OpenStack"), (.str "OpenStack" 335), (.ref 136)⟩, ⟨(keyHash P "stops_scope"), (.str "stops_scope" 346), (.ref 147)⟩, ⟨(keyHash P "node_in_scope"), (.str "node_in_scope" 357), (.ref 155)⟩, ⟨(keyHash P "pop_implied"), (.str "pop_implied" 367), (.ref 163)⟩, ⟨(keyHash P "pop_with"), (.str "pop_with" 377), (.ref 170)⟩, ⟨(keyHash P "any_other_end"), (.str "any_other_end" 389), (.ref 177)⟩, ⟨(keyHash P "find_subject"), (.str "find_subject" 398), (.ref 184)⟩, ⟨(keyHash P "HtmlFault"), (.str "HtmlFault" 429), (.ref 201)⟩, ⟨(keyHash P "Misused"), (.str "Misused" 445), (.ref 214)⟩] 21), #[]⟩
noncomputable def ob151 (P : Params) : Obj := ⟨.none, none, (.fields #[(.int 1 0), (.int 0 0), (.ref 20), (.int 5 0), (.int 0 0), (.ref 27), (.int 11 0), (.int 0 0), (.ref 34), (.int 14 0), (.int 0 0), (.ref 41), (.int 65 0), (.int 0 0), (.ref 146), (.int 81 0), (.int 0 0), (.ref 154), (.int 88 0), (.int 0 0), (.ref 162), (.int 93 0), (.int 0 0), (.ref 169), (.int 97 0), (.int 0 0), (.ref 176), (.int 113 0), (.int 0 0), (.ref 183), (.int 129 0), (.int 0 0), (.ref 190), (.int 134 0), (.int 0 0), (.ref 210)]), #[]⟩
noncomputable def ob152 (P : Params) : Obj := ⟨(.type "tuple"), none, (.seq #[(.str "" 358)] 0), #[]⟩
noncomputable def ob153 (P : Params) : Obj := ⟨(.type "tuple"), none, (.seq #[] 0), #[]⟩
noncomputable def ob154 (P : Params) : Obj := ⟨.none, none, (.fields #[]), #[]⟩
noncomputable def ob155 (P : Params) : Obj := ⟨(.type "tuple"), none, (.seq #[(.str "stack" 362), (.str "but" 363), (.str "names" 364)] 0), #[]⟩
noncomputable def ob156 (P : Params) : Obj := ⟨(.type "tuple"), none, (.seq #[] 0), #[]⟩
noncomputable def ob157 (P : Params) : Obj := ⟨.none, none, (.func (fnG (e := (at1 8)) rfl "pop_implied" "pop_implied" 0 [] .none .none .none .none none .none .none 0)), #[]⟩
noncomputable def ob158 (P : Params) : Obj := ⟨(.type "code"), none, (.fields #[(.str "pop_implied" 359), (.str "pop_implied" 360), (.str "/claim/cut.py" 361), (.int 88 0), (.int 2 0), (.int 0 0), (.int 0 0), (.int 3 0), (.ref 157), (.bool true), (.int 181 0), (.ref 158), .none, (.ref 159), (.ref 160), (.ref 161), (.int 365 0), (.int 88 0), (.str "/claim/cut.py" 366)]), #[]⟩
noncomputable def ob159 (P : Params) : Obj := ⟨(.type "function"), none, (.func (fnG (e := (at1 8)) rfl "pop_implied" "pop_implied" 3 [] (.ref 156) .none .none (.str "htmltree.openstack" 210) none (.ref 162) .none 0)), #[]⟩
noncomputable def ob160 (P : Params) : Obj := ⟨(.type "tuple"), none, (.seq #[] 0), #[]⟩
noncomputable def ob161 (P : Params) : Obj := ⟨.none, none, (.fields #[]), #[]⟩
noncomputable def ob162 (P : Params) : Obj := ⟨(.type "tuple"), none, (.seq #[(.str "stack" 373), (.str "node" 374)] 0), #[]⟩
noncomputable def ob163 (P : Params) : Obj := ⟨(.type "tuple"), none, (.seq #[] 0), #[]⟩
noncomputable def ob164 (P : Params) : Obj := ⟨.none, none, (.func (fnG (e := (at1 10)) rfl "pop_with" "pop_with" 0 [] .none .none .none .none none .none .none 0)), #[]⟩
noncomputable def ob165 (P : Params) : Obj := ⟨(.type "code"), none, (.fields #[(.str "pop_with" 370), (.str "pop_with" 371), (.str "/claim/cut.py" 372), (.int 93 0), (.int 2 0), (.int 0 0), (.int 0 0), (.int 3 0), (.ref 164), (.bool true), (.int 181 0), (.ref 165), .none, (.ref 166), (.ref 167), (.ref 168), (.int 375 0), (.int 93 0), (.str "/claim/cut.py" 376)]), #[]⟩
noncomputable def ob166 (P : Params) : Obj := ⟨(.type "function"), none, (.func (fnG (e := (at1 10)) rfl "pop_with" "pop_with" 3 [] .none .none .none (.str "htmltree.adoption" 368) none (.ref 169) .none 0)), #[]⟩
noncomputable def ob167 (P : Params) : Obj := ⟨(.type "tuple"), none, (.seq #[] 0), #[]⟩
noncomputable def ob168 (P : Params) : Obj := ⟨.none, none, (.fields #[]), #[]⟩
noncomputable def ob169 (P : Params) : Obj := ⟨(.type "tuple"), none, (.seq #[(.str "builder" 381), (.str "name" 382), (.str "tree" 383), (.str "stack" 384), (.str "at" 385), (.str "node" 386)] 0), #[]⟩
noncomputable def ob170 (P : Params) : Obj := ⟨(.type "tuple"), none, (.seq #[] 0), #[]⟩
noncomputable def ob171 (P : Params) : Obj := ⟨.none, none, (.func (fnG (e := (at1 11)) rfl "any_other_end" "any_other_end" 0 [] .none .none .none .none none .none .none 0)), #[]⟩
noncomputable def ob172 (P : Params) : Obj := ⟨(.type "code"), none, (.fields #[(.str "any_other_end" 378), (.str "any_other_end" 379), (.str "/claim/cut.py" 380), (.int 97 0), (.int 2 0), (.int 0 0), (.int 0 0), (.int 3 0), (.ref 171), (.bool true), (.int 181 0), (.ref 172), .none, (.ref 173), (.ref 174), (.ref 175), (.int 387 0), (.int 97 0), (.str "/claim/cut.py" 388)]), #[]⟩
noncomputable def ob173 (P : Params) : Obj := ⟨(.type "function"), none, (.func (fnG (e := (at1 11)) rfl "any_other_end" "any_other_end" 3 [] .none .none .none (.str "htmltree.adoption" 368) none (.ref 176) .none 0)), #[]⟩
noncomputable def ob174 (P : Params) : Obj := ⟨(.type "tuple"), none, (.seq #[] 0), #[]⟩
noncomputable def ob175 (P : Params) : Obj := ⟨.none, none, (.fields #[]), #[]⟩
noncomputable def ob176 (P : Params) : Obj := ⟨(.type "tuple"), none, (.seq #[(.str "builder" 393), (.str "name" 394), (.str "subject" 395)] 0), #[]⟩
noncomputable def ob177 (P : Params) : Obj := ⟨(.type "tuple"), none, (.seq #[] 0), #[]⟩
noncomputable def ob178 (P : Params) : Obj := ⟨.none, none, (.func (fnG (e := (at1 12)) rfl "find_subject" "find_subject" 0 [] .none .none .none .none none .none .none 0)), #[]⟩
noncomputable def ob179 (P : Params) : Obj := ⟨(.type "code"), none, (.fields #[(.str "find_subject" 390), (.str "find_subject" 391), (.str "/claim/cut.py" 392), (.int 113 0), (.int 2 0), (.int 0 0), (.int 0 0), (.int 3 0), (.ref 178), (.bool true), (.int 181 0), (.ref 179), .none, (.ref 180), (.ref 181), (.ref 182), (.int 396 0), (.int 113 0), (.str "/claim/cut.py" 397)]), #[]⟩
noncomputable def ob180 (P : Params) : Obj := ⟨(.type "function"), none, (.func (fnG (e := (at1 12)) rfl "find_subject" "find_subject" 3 [] .none .none .none (.str "htmltree.adoption" 368) none (.ref 183) .none 0)), #[]⟩
noncomputable def ob181 (P : Params) : Obj := ⟨(.type "tuple"), none, (.seq #[(.type "Exception")] 0), #[]⟩
noncomputable def ob182 (P : Params) : Obj := ⟨(.type "builtin_function_or_method"), none, (.fields #[(.builtin "type.__prepare__"), (.type "type")]), #[]⟩
noncomputable def ob183 (P : Params) : Obj := ⟨(.type "dict"), none, (.dict #[⟨(keyHash P "__module__"), (.str "__module__" 408), (.str "htmltree.faults" 399)⟩, ⟨(keyHash P "__qualname__"), (.str "__qualname__" 410), (.str "HtmlFault" 409)⟩, ⟨(keyHash P "__firstlineno__"), (.str "__firstlineno__" 412), (.int 129 411)⟩, ⟨(keyHash P "__init__"), (.str "__init__" 420), (.ref 198)⟩, ⟨(keyHash P "__static_attributes__"), (.str "__static_attributes__" 422), (.ref 199)⟩] 5), #[]⟩
noncomputable def ob184 (P : Params) : Obj := ⟨(.type "tuple"), none, (.seq #[] 0), #[]⟩
noncomputable def ob185 (P : Params) : Obj := ⟨.none, none, (.fields #[(.int 131 0), (.int 4 0), (.ref 197)]), #[]⟩
noncomputable def ob186 (P : Params) : Obj := ⟨(.type "code"), none, (.fields #[(.str "HtmlFault" 403), (.str "HtmlFault" 404), (.str "/claim/cut.py" 405), (.int 129 0), (.int 0 0), (.int 0 0), (.int 0 0), (.int 0 0), (.ref 188), (.bool false), (.int 181 0), (.ref 189), .none, .none, .none, .none, (.int 406 0), (.int 129 0), (.str "/claim/cut.py" 407)]), #[]⟩
noncomputable def ob187 (P : Params) : Obj := ⟨(.type "frame"), none, .plain, #[(some (.ref 190)), (some (.ref 3)), (some (.ref 187)), none, (some (.str "htmltree.faults" 399)), none, (some (.ref 0))]⟩
noncomputable def ob188 (P : Params) : Obj := ⟨(.type "tuple"), none, (.seq #[] 0), #[]⟩
noncomputable def ob189 (P : Params) : Obj := ⟨.none, none, (.fields #[]), #[]⟩
noncomputable def ob190 (P : Params) : Obj := ⟨(.type "tuple"), none, (.seq #[(.str "self" 416), (.str "why" 417)] 0), #[]⟩
noncomputable def ob191 (P : Params) : Obj := ⟨(.type "tuple"), none, (.seq #[] 0), #[]⟩
noncomputable def ob192 (P : Params) : Obj := ⟨.none, none, (.func (fnG (e := (at2 14 0)) rfl "__init__" "HtmlFault.__init__" 0 [] .none .none .none .none none .none .none 0)), #[]⟩
noncomputable def ob193 (P : Params) : Obj := ⟨(.type "code"), none, (.fields #[(.str "__init__" 413), (.str "HtmlFault.__init__" 414), (.str "/claim/cut.py" 415), (.int 131 0), (.int 2 0), (.int 0 0), (.int 0 0), (.int 3 0), (.ref 192), (.bool true), (.int 181 0), (.ref 193), .none, (.ref 194), (.ref 195), (.ref 196), (.int 418 0), (.int 131 0), (.str "/claim/cut.py" 419)]), #[]⟩
noncomputable def ob194 (P : Params) : Obj := ⟨(.type "function"), none, (.func (fnG (e := (at2 14 0)) rfl "__init__" "HtmlFault.__init__" 3 [] .none .none .none (.str "htmltree.faults" 399) none (.ref 197) .none 0)), #[]⟩
noncomputable def ob195 (P : Params) : Obj := ⟨(.type "tuple"), none, (.seq #[(.str "why" 421)] 0), #[]⟩
noncomputable def ob196 (P : Params) : Obj := ⟨(.type "dict"), none, (.dict #[⟨(keyHash P "__module__"), (.str "__module__" 408), (.str "htmltree.faults" 399)⟩, ⟨(keyHash P "__firstlineno__"), (.str "__firstlineno__" 412), (.int 129 411)⟩, ⟨(keyHash P "__init__"), (.str "__init__" 420), (.ref 198)⟩, ⟨(keyHash P "__static_attributes__"), (.str "__static_attributes__" 422), (.ref 199)⟩, ⟨(keyHash P "__weakref__"), (.str "__weakref__" 424), (.ref 202)⟩, ⟨(keyHash P "__doc__"), (.str "__doc__" 425), .none⟩] 3), #[]⟩
noncomputable def ob197 (P : Params) : Obj := ⟨(.type "type"), none, (.cls ⟨"HtmlFault", [(.type "Exception")], [(.ref 201), (.type "Exception"), (.type "BaseException"), (.type "object")], 200, "HtmlFault", true, [], [(.ref 214)], false, none, false⟩), #[(some (.ref 185)), none, (some (.str "HtmlFault" 401)), (some (.str "HtmlFault" 409)), (some (.builtin "Exception.__new__")), (some (.bool true))]⟩
noncomputable def ob198 (P : Params) : Obj := ⟨(.type "getset_descriptor"), none, (.fields #[(.str "__weakref__" 423), (.ref 201), (.builtin "ExceptionGroup.__weakref__"), .none]), #[]⟩
noncomputable def ob199 (P : Params) : Obj := ⟨(.type "super"), none, (.fields #[(.ref 201), (.ref 201), (.ref 201)]), #[]⟩
noncomputable def ob200 (P : Params) : Obj := ⟨(.type "builtin_function_or_method"), none, (.fields #[(.builtin "object.__init_subclass__"), (.ref 201)]), #[]⟩
noncomputable def ob201 (P : Params) : Obj := ⟨(.type "tuple"), none, (.seq #[(.ref 201)] 0), #[]⟩
noncomputable def ob202 (P : Params) : Obj := ⟨(.type "builtin_function_or_method"), none, (.fields #[(.builtin "type.__prepare__"), (.type "type")]), #[]⟩
noncomputable def ob203 (P : Params) : Obj := ⟨(.type "dict"), none, (.dict #[⟨(keyHash P "__module__"), (.str "__module__" 437), (.str "htmltree.faults" 399)⟩, ⟨(keyHash P "__qualname__"), (.str "__qualname__" 439), (.str "Misused" 438)⟩, ⟨(keyHash P "__firstlineno__"), (.str "__firstlineno__" 441), (.int 134 440)⟩, ⟨(keyHash P "__static_attributes__"), (.str "__static_attributes__" 442), (.ref 212)⟩] 4), #[]⟩
noncomputable def ob204 (P : Params) : Obj := ⟨(.type "tuple"), none, (.seq #[] 0), #[]⟩
noncomputable def ob205 (P : Params) : Obj := ⟨.none, none, (.fields #[]), #[]⟩
noncomputable def ob206 (P : Params) : Obj := ⟨(.type "code"), none, (.fields #[(.str "Misused" 432), (.str "Misused" 433), (.str "/claim/cut.py" 434), (.int 134 0), (.int 0 0), (.int 0 0), (.int 0 0), (.int 0 0), (.ref 208), (.bool false), (.int 181 0), (.ref 209), .none, .none, .none, .none, (.int 435 0), (.int 134 0), (.str "/claim/cut.py" 436)]), #[]⟩
noncomputable def ob207 (P : Params) : Obj := ⟨(.type "frame"), none, .plain, #[(some (.ref 210)), (some (.ref 3)), (some (.ref 207)), none, (some (.str "htmltree.faults" 399)), none, (some (.ref 0))]⟩
noncomputable def ob208 (P : Params) : Obj := ⟨(.type "tuple"), none, (.seq #[] 0), #[]⟩
noncomputable def ob209 (P : Params) : Obj := ⟨(.type "dict"), none, (.dict #[⟨(keyHash P "__module__"), (.str "__module__" 437), (.str "htmltree.faults" 399)⟩, ⟨(keyHash P "__firstlineno__"), (.str "__firstlineno__" 441), (.int 134 440)⟩, ⟨(keyHash P "__static_attributes__"), (.str "__static_attributes__" 442), (.ref 212)⟩, ⟨(keyHash P "__doc__"), (.str "__doc__" 443), .none⟩] 2), #[]⟩
noncomputable def ob210 (P : Params) : Obj := ⟨(.type "type"), none, (.cls ⟨"Misused", [(.ref 201)], [(.ref 214), (.ref 201), (.type "Exception"), (.type "BaseException"), (.type "object")], 213, "Misused", true, [], [], false, none, false⟩), #[(some (.ref 205)), none, (some (.str "Misused" 430)), (some (.str "Misused" 438)), (some (.builtin "Exception.__new__")), (some (.bool true))]⟩
noncomputable def ob211 (P : Params) : Obj := ⟨(.type "super"), none, (.fields #[(.ref 214), (.ref 214), (.ref 214)]), #[]⟩
noncomputable def ob212 (P : Params) : Obj := ⟨(.type "builtin_function_or_method"), none, (.fields #[(.builtin "object.__init_subclass__"), (.ref 214)]), #[]⟩
noncomputable def tr_2 (P : Params) : BT := (.node (boot_o_0 P) (.node (boot_o_1 P) (.node (ob150 P) (.node (boot_o_7 P) (.node (ob6 P) (.node (ob22 P) (.node (ob56 P) (.node (ob120 P) .nil .nil) (.node (ob187 P) .nil .nil)) (.node (ob88 P) (.node (ob155 P) .nil .nil) .nil)) (.node (ob40 P) (.node (ob72 P) (.node (ob136 P) .nil .nil) (.node (ob203 P) .nil .nil)) (.node (ob104 P) (.node (ob171 P) .nil .nil) .nil))) (.node (ob14 P) (.node (ob32 P) (.node (ob64 P) (.node (ob128 P) .nil .nil) (.node (ob195 P) .nil .nil)) (.node (ob96 P) (.node (ob163 P) .nil .nil) .nil)) (.node (ob48 P) (.node (ob80 P) (.node (ob144 P) .nil .nil) (.node (ob211 P) .nil .nil)) (.node (ob112 P) (.node (ob179 P) .nil .nil) .nil)))) (.node (ob0 P) (.node (ob10 P) (.node (ob26 P) (.node (ob60 P) (.node (ob124 P) .nil .nil) (.node (ob191 P) .nil .nil)) (.node (ob92 P) (.node (ob159 P) .nil .nil) .nil)) (.node (ob44 P) (.node (ob76 P) (.node (ob140 P) .nil .nil) (.node (ob207 P) .nil .nil)) (.node (ob108 P) (.node (ob175 P) .nil .nil) .nil))) (.node (ob18 P) (.node (ob36 P) (.node (ob68 P) (.node (ob132 P) .nil .nil) (.node (ob199 P) .nil .nil)) (.node (ob100 P) (.node (ob167 P) .nil .nil) .nil)) (.node (ob52 P) (.node (ob84 P) (.node (ob148 P) .nil .nil) .nil) (.node (ob116 P) (.node (ob183 P) .nil .nil) .nil))))) (.node (boot_o_5 P) (.node (boot_o_9 P) (.node (ob8 P) (.node (ob24 P) (.node (ob58 P) (.node (ob122 P) .nil .nil) (.node (ob189 P) .nil .nil)) (.node (ob90 P) (.node (ob157 P) .nil .nil) .nil)) (.node (ob42 P) (.node (ob74 P) (.node (ob138 P) .nil .nil) (.node (ob205 P) .nil .nil)) (.node (ob106 P) (.node (ob173 P) .nil .nil) .nil))) (.node (ob16 P) (.node (ob34 P) (.node (ob66 P) (.node (ob130 P) .nil .nil) (.node (ob197 P) .nil .nil)) (.node (ob98 P) (.node (ob165 P) .nil .nil) .nil)) (.node (ob50 P) (.node (ob82 P) (.node (ob146 P) .nil .nil) .nil) (.node (ob114 P) (.node (ob181 P) .nil .nil) .nil)))) (.node (ob2 P) (.node (ob12 P) (.node (ob30 P) (.node (ob62 P) (.node (ob126 P) .nil .nil) (.node (ob193 P) .nil .nil)) (.node (ob94 P) (.node (ob161 P) .nil .nil) .nil)) (.node (ob46 P) (.node (ob78 P) (.node (ob142 P) .nil .nil) (.node (ob209 P) .nil .nil)) (.node (ob110 P) (.node (ob177 P) .nil .nil) .nil))) (.node (ob20 P) (.node (ob38 P) (.node (ob70 P) (.node (ob134 P) .nil .nil) (.node (ob201 P) .nil .nil)) (.node (ob102 P) (.node (ob169 P) .nil .nil) .nil)) (.node (ob54 P) (.node (ob86 P) (.node (ob153 P) .nil .nil) .nil) (.node (ob118 P) (.node (ob185 P) .nil .nil) .nil)))))) (.node (ob149 P) (.node (boot_o_4 P) (.node (boot_o_8 P) (.node (ob7 P) (.node (ob23 P) (.node (ob57 P) (.node (ob121 P) .nil .nil) (.node (ob188 P) .nil .nil)) (.node (ob89 P) (.node (ob156 P) .nil .nil) .nil)) (.node (ob41 P) (.node (ob73 P) (.node (ob137 P) .nil .nil) (.node (ob204 P) .nil .nil)) (.node (ob105 P) (.node (ob172 P) .nil .nil) .nil))) (.node (ob15 P) (.node (ob33 P) (.node (ob65 P) (.node (ob129 P) .nil .nil) (.node (ob196 P) .nil .nil)) (.node (ob97 P) (.node (ob164 P) .nil .nil) .nil)) (.node (ob49 P) (.node (ob81 P) (.node (ob145 P) .nil .nil) (.node (ob212 P) .nil .nil)) (.node (ob113 P) (.node (ob180 P) .nil .nil) .nil)))) (.node (ob151 P) (.node (ob11 P) (.node (ob29 P) (.node (ob61 P) (.node (ob125 P) .nil .nil) (.node (ob192 P) .nil .nil)) (.node (ob93 P) (.node (ob160 P) .nil .nil) .nil)) (.node (ob45 P) (.node (ob77 P) (.node (ob141 P) .nil .nil) (.node (ob208 P) .nil .nil)) (.node (ob109 P) (.node (ob176 P) .nil .nil) .nil))) (.node (ob19 P) (.node (ob37 P) (.node (ob69 P) (.node (ob133 P) .nil .nil) (.node (ob200 P) .nil .nil)) (.node (ob101 P) (.node (ob168 P) .nil .nil) .nil)) (.node (ob53 P) (.node (ob85 P) (.node (ob152 P) .nil .nil) .nil) (.node (ob117 P) (.node (ob184 P) .nil .nil) .nil))))) (.node (boot_o_6 P) (.node (boot_o_10 P) (.node (ob9 P) (.node (ob25 P) (.node (ob59 P) (.node (ob123 P) .nil .nil) (.node (ob190 P) .nil .nil)) (.node (ob91 P) (.node (ob158 P) .nil .nil) .nil)) (.node (ob43 P) (.node (ob75 P) (.node (ob139 P) .nil .nil) (.node (ob206 P) .nil .nil)) (.node (ob107 P) (.node (ob174 P) .nil .nil) .nil))) (.node (ob17 P) (.node (ob35 P) (.node (ob67 P) (.node (ob131 P) .nil .nil) (.node (ob198 P) .nil .nil)) (.node (ob99 P) (.node (ob166 P) .nil .nil) .nil)) (.node (ob51 P) (.node (ob83 P) (.node (ob147 P) .nil .nil) .nil) (.node (ob115 P) (.node (ob182 P) .nil .nil) .nil)))) (.node (ob3 P) (.node (ob13 P) (.node (ob31 P) (.node (ob63 P) (.node (ob127 P) .nil .nil) (.node (ob194 P) .nil .nil)) (.node (ob95 P) (.node (ob162 P) .nil .nil) .nil)) (.node (ob47 P) (.node (ob79 P) (.node (ob143 P) .nil .nil) (.node (ob210 P) .nil .nil)) (.node (ob111 P) (.node (ob178 P) .nil .nil) .nil))) (.node (ob21 P) (.node (ob39 P) (.node (ob71 P) (.node (ob135 P) .nil .nil) (.node (ob202 P) .nil .nil)) (.node (ob103 P) (.node (ob170 P) .nil .nil) .nil)) (.node (ob55 P) (.node (ob87 P) (.node (ob154 P) .nil .nil) .nil) (.node (ob119 P) (.node (ob186 P) .nil .nil) .nil)))))))
noncomputable def st_2 (w : World) (os : OsState) : SharedT := ⟨tr_2 w.params, (nat_lit 217), ⟨[], [], [], 0, [], [], false, #[], [], 0, false, false, false, 0, [2000, 10, 10], false, 0, true, [], [], 0, false⟩, ⟨[]⟩, ⟨0, 0, 0, 0⟩, (nat_lit 448), os⟩
theorem pc2 (w : World) (os : OsState) : segRunT treeTable pw w m0 ann0 1 (nat_lit 597) (st_1 w os) (piecesOf (sts 8 17) env0 cE ⟨81, 0, 87, 16⟩ fr0) = some (Flow.next, st_2 w os, cE, ⟨136, 0, 136, 8⟩) := by kernel_rfl
noncomputable def ob213 (P : Params) : Obj := ⟨(.type "dict"), none, (.dict #[⟨(keyHash P "__name__"), (.str "__name__" 165), (.str "htmltree.tree" 552)⟩, ⟨(keyHash P "__doc__"), (.str "__doc__" 166), .none⟩, ⟨(keyHash P "__package__"), (.str "__package__" 167), .none⟩, ⟨(keyHash P "__loader__"), (.str "__loader__" 168), (.builtin "__main__.__loader__#opaque")⟩, ⟨(keyHash P "__spec__"), (.str "__spec__" 169), .none⟩, ⟨(keyHash P "__annotations__"), (.str "__annotations__" 170), (.ref 6)⟩, ⟨(keyHash P "__builtins__"), (.str "__builtins__" 171), (.ref 4)⟩, ⟨(keyHash P "__file__"), (.str "__file__" 173), (.str "/claim/cut.py" 172)⟩, ⟨(keyHash P "__cached__"), (.str "__cached__" 174), .none⟩, ⟨(keyHash P "_wall"), (.str "_wall" 193), (.ref 21)⟩, ⟨(keyHash P "is_special"), (.str "is_special" 203), (.ref 28)⟩, ⟨(keyHash P "implied_names"), (.str "implied_names" 209), (.ref 35)⟩, ⟨(keyHash P "OpenStack"), (.str "OpenStack" 335), (.ref 136)⟩, ⟨(keyHash P "stops_scope"), (.str "stops_scope" 346), (.ref 147)⟩, ⟨(keyHash P "node_in_scope"), (.str "node_in_scope" 357), (.ref 155)⟩, ⟨(keyHash P "pop_implied"), (.str "pop_implied" 367), (.ref 163)⟩, ⟨(keyHash P "pop_with"), (.str "pop_with" 377), (.ref 170)⟩, ⟨(keyHash P "any_other_end"), (.str "any_other_end" 389), (.ref 177)⟩, ⟨(keyHash P "find_subject"), (.str "find_subject" 398), (.ref 184)⟩, ⟨(keyHash P "HtmlFault"), (.str "HtmlFault" 429), (.ref 201)⟩, ⟨(keyHash P "Misused"), (.str "Misused" 445), (.ref 214)⟩, ⟨(keyHash P "Formatting"), (.str "Formatting" 551), (.ref 296)⟩] 22), #[]⟩
noncomputable def ob214 (P : Params) : Obj := ⟨.none, none, (.fields #[(.int 1 0), (.int 0 0), (.ref 20), (.int 5 0), (.int 0 0), (.ref 27), (.int 11 0), (.int 0 0), (.ref 34), (.int 14 0), (.int 0 0), (.ref 41), (.int 65 0), (.int 0 0), (.ref 146), (.int 81 0), (.int 0 0), (.ref 154), (.int 88 0), (.int 0 0), (.ref 162), (.int 93 0), (.int 0 0), (.ref 169), (.int 97 0), (.int 0 0), (.ref 176), (.int 113 0), (.int 0 0), (.ref 183), (.int 129 0), (.int 0 0), (.ref 190), (.int 134 0), (.int 0 0), (.ref 210), (.int 137 0), (.int 0 0), (.ref 222)]), #[]⟩
noncomputable def ob215 (P : Params) : Obj := ⟨(.type "tuple"), none, (.seq #[] 0), #[]⟩
noncomputable def ob216 (P : Params) : Obj := ⟨(.type "builtin_function_or_method"), none, (.fields #[(.builtin "type.__prepare__"), (.type "type")]), #[]⟩
noncomputable def ob217 (P : Params) : Obj := ⟨(.type "dict"), none, (.dict #[⟨(keyHash P "__module__"), (.str "__module__" 455), (.str "htmltree.formatting" 446)⟩, ⟨(keyHash P "__qualname__"), (.str "__qualname__" 457), (.str "Formatting" 456)⟩, ⟨(keyHash P "__firstlineno__"), (.str "__firstlineno__" 459), (.int 137 458)⟩, ⟨(keyHash P "__init__"), (.str "__init__" 467), (.ref 230)⟩, ⟨(keyHash P "push"), (.str "push" 475), (.ref 237)⟩, ⟨(keyHash P "mark"), (.str "mark" 482), (.ref 244)⟩, ⟨(keyHash P "clear_to_mark"), (.str "clear_to_mark" 489), (.ref 251)⟩, ⟨(keyHash P "find"), (.str "find" 499), (.ref 258)⟩, ⟨(keyHash P "has"), (.str "has" 507), (.ref 265)⟩, ⟨(keyHash P "place"), (.str "place" 515), (.ref 272)⟩, ⟨(keyHash P "remove"), (.str "remove" 523), (.ref 279)⟩, ⟨(keyHash P "replace"), (.str "replace" 532), (.ref 286)⟩, ⟨(keyHash P "put_at"), (.str "put_at" 541), (.ref 293)⟩, ⟨(keyHash P "__static_attributes__"), (.str "__static_attributes__" 544), (.ref 294)⟩] 14), #[]⟩
noncomputable def ob218 (P : Params) : Obj := ⟨(.type "tuple"), none, (.seq #[] 0), #[]⟩
noncomputable def ob219 (P : Params) : Obj := ⟨.none, none, (.fields #[(.int 139 0), (.int 4 0), (.ref 229), (.int 143 0), (.int 4 0), (.ref 236), (.int 146 0), (.int 4 0), (.ref 243), (.int 149 0), (.int 4 0), (.ref 250), (.int 152 0), (.int 4 0), (.ref 257), (.int 161 0), (.int 4 0), (.ref 264), (.int 164 0), (.int 4 0), (.ref 271), (.int 169 0), (.int 4 0), (.ref 278), (.int 173 0), (.int 4 0), (.ref 285), (.int 176 0), (.int 4 0), (.ref 292)]), #[]⟩
noncomputable def ob220 (P : Params) : Obj := ⟨(.type "code"), none, (.fields #[(.str "Formatting" 450), (.str "Formatting" 451), (.str "/claim/cut.py" 452), (.int 137 0), (.int 0 0), (.int 0 0), (.int 0 0), (.int 0 0), (.ref 220), (.bool false), (.int 181 0), (.ref 221), .none, .none, .none, .none, (.int 453 0), (.int 137 0), (.str "/claim/cut.py" 454)]), #[]⟩
noncomputable def ob221 (P : Params) : Obj := ⟨(.type "frame"), none, .plain, #[(some (.ref 222)), (some (.ref 3)), (some (.ref 219)), none, (some (.str "htmltree.formatting" 446)), none, (some (.ref 0))]⟩
noncomputable def ob222 (P : Params) : Obj := ⟨(.type "tuple"), none, (.seq #[] 0), #[]⟩
noncomputable def ob223 (P : Params) : Obj := ⟨.none, none, (.fields #[]), #[]⟩
noncomputable def ob224 (P : Params) : Obj := ⟨(.type "tuple"), none, (.seq #[(.str "self" 463), (.str "tree" 464)] 0), #[]⟩
noncomputable def ob225 (P : Params) : Obj := ⟨(.type "tuple"), none, (.seq #[] 0), #[]⟩
noncomputable def ob226 (P : Params) : Obj := ⟨.none, none, (.func (fnG (e := (at2 17 0)) rfl "__init__" "Formatting.__init__" 0 [] .none .none .none .none none .none .none 0)), #[]⟩
noncomputable def ob227 (P : Params) : Obj := ⟨(.type "code"), none, (.fields #[(.str "__init__" 460), (.str "Formatting.__init__" 461), (.str "/claim/cut.py" 462), (.int 139 0), (.int 2 0), (.int 0 0), (.int 0 0), (.int 3 0), (.ref 224), (.bool true), (.int 181 0), (.ref 225), .none, (.ref 226), (.ref 227), (.ref 228), (.int 465 0), (.int 139 0), (.str "/claim/cut.py" 466)]), #[]⟩
noncomputable def ob228 (P : Params) : Obj := ⟨(.type "function"), none, (.func (fnG (e := (at2 17 0)) rfl "__init__" "Formatting.__init__" 3 [] .none .none .none (.str "htmltree.formatting" 446) none (.ref 229) .none 0)), #[]⟩
noncomputable def ob229 (P : Params) : Obj := ⟨(.type "tuple"), none, (.seq #[] 0), #[]⟩
noncomputable def ob230 (P : Params) : Obj := ⟨.none, none, (.fields #[]), #[]⟩
noncomputable def ob231 (P : Params) : Obj := ⟨(.type "tuple"), none, (.seq #[(.str "self" 471), (.str "node" 472)] 0), #[]⟩
noncomputable def ob232 (P : Params) : Obj := ⟨(.type "tuple"), none, (.seq #[] 0), #[]⟩
noncomputable def ob233 (P : Params) : Obj := ⟨.none, none, (.func (fnG (e := (at2 17 1)) rfl "push" "Formatting.push" 0 [] .none .none .none .none none .none .none 0)), #[]⟩
noncomputable def ob234 (P : Params) : Obj := ⟨(.type "code"), none, (.fields #[(.str "push" 468), (.str "Formatting.push" 469), (.str "/claim/cut.py" 470), (.int 143 0), (.int 2 0), (.int 0 0), (.int 0 0), (.int 3 0), (.ref 231), (.bool true), (.int 181 0), (.ref 232), .none, (.ref 233), (.ref 234), (.ref 235), (.int 473 0), (.int 143 0), (.str "/claim/cut.py" 474)]), #[]⟩
noncomputable def ob235 (P : Params) : Obj := ⟨(.type "function"), none, (.func (fnG (e := (at2 17 1)) rfl "push" "Formatting.push" 3 [] .none .none .none (.str "htmltree.formatting" 446) none (.ref 236) .none 0)), #[]⟩
noncomputable def ob236 (P : Params) : Obj := ⟨(.type "tuple"), none, (.seq #[] 0), #[]⟩
noncomputable def ob237 (P : Params) : Obj := ⟨.none, none, (.fields #[]), #[]⟩
noncomputable def ob238 (P : Params) : Obj := ⟨(.type "tuple"), none, (.seq #[(.str "self" 479)] 0), #[]⟩
noncomputable def ob239 (P : Params) : Obj := ⟨(.type "tuple"), none, (.seq #[] 0), #[]⟩
noncomputable def ob240 (P : Params) : Obj := ⟨.none, none, (.func (fnG (e := (at2 17 2)) rfl "mark" "Formatting.mark" 0 [] .none .none .none .none none .none .none 0)), #[]⟩
noncomputable def ob241 (P : Params) : Obj := ⟨(.type "code"), none, (.fields #[(.str "mark" 476), (.str "Formatting.mark" 477), (.str "/claim/cut.py" 478), (.int 146 0), (.int 1 0), (.int 0 0), (.int 0 0), (.int 3 0), (.ref 238), (.bool true), (.int 181 0), (.ref 239), .none, (.ref 240), (.ref 241), (.ref 242), (.int 480 0), (.int 146 0), (.str "/claim/cut.py" 481)]), #[]⟩
noncomputable def ob242 (P : Params) : Obj := ⟨(.type "function"), none, (.func (fnG (e := (at2 17 2)) rfl "mark" "Formatting.mark" 3 [] .none .none .none (.str "htmltree.formatting" 446) none (.ref 243) .none 0)), #[]⟩
noncomputable def ob243 (P : Params) : Obj := ⟨(.type "tuple"), none, (.seq #[] 0), #[]⟩
noncomputable def ob244 (P : Params) : Obj := ⟨.none, none, (.fields #[]), #[]⟩
noncomputable def ob245 (P : Params) : Obj := ⟨(.type "tuple"), none, (.seq #[(.str "self" 486)] 0), #[]⟩
noncomputable def ob246 (P : Params) : Obj := ⟨(.type "tuple"), none, (.seq #[] 0), #[]⟩
noncomputable def ob247 (P : Params) : Obj := ⟨.none, none, (.func (fnG (e := (at2 17 3)) rfl "clear_to_mark" "Formatting.clear_to_mark" 0 [] .none .none .none .none none .none .none 0)), #[]⟩
noncomputable def ob248 (P : Params) : Obj := ⟨(.type "code"), none, (.fields #[(.str "clear_to_mark" 483), (.str "Formatting.clear_to_mark" 484), (.str "/claim/cut.py" 485), (.int 149 0), (.int 1 0), (.int 0 0), (.int 0 0), (.int 3 0), (.ref 245), (.bool true), (.int 181 0), (.ref 246), .none, (.ref 247), (.ref 248), (.ref 249), (.int 487 0), (.int 149 0), (.str "/claim/cut.py" 488)]), #[]⟩
noncomputable def ob249 (P : Params) : Obj := ⟨(.type "function"), none, (.func (fnG (e := (at2 17 3)) rfl "clear_to_mark" "Formatting.clear_to_mark" 3 [] .none .none .none (.str "htmltree.formatting" 446) none (.ref 250) .none 0)), #[]⟩
noncomputable def ob250 (P : Params) : Obj := ⟨(.type "tuple"), none, (.seq #[] 0), #[]⟩
noncomputable def ob251 (P : Params) : Obj := ⟨.none, none, (.fields #[]), #[]⟩
noncomputable def ob252 (P : Params) : Obj := ⟨(.type "tuple"), none, (.seq #[(.str "self" 493), (.str "name" 494), (.str "at" 495), (.str "node" 496)] 0), #[]⟩
noncomputable def ob253 (P : Params) : Obj := ⟨(.type "tuple"), none, (.seq #[] 0), #[]⟩
noncomputable def ob254 (P : Params) : Obj := ⟨.none, none, (.func (fnG (e := (at2 17 4)) rfl "find" "Formatting.find" 0 [] .none .none .none .none none .none .none 0)), #[]⟩
noncomputable def ob255 (P : Params) : Obj := ⟨(.type "code"), none, (.fields #[(.str "find" 490), (.str "Formatting.find" 491), (.str "/claim/cut.py" 492), (.int 152 0), (.int 2 0), (.int 0 0), (.int 0 0), (.int 3 0), (.ref 252), (.bool true), (.int 181 0), (.ref 253), .none, (.ref 254), (.ref 255), (.ref 256), (.int 497 0), (.int 152 0), (.str "/claim/cut.py" 498)]), #[]⟩
noncomputable def ob256 (P : Params) : Obj := ⟨(.type "function"), none, (.func (fnG (e := (at2 17 4)) rfl "find" "Formatting.find" 3 [] .none .none .none (.str "htmltree.formatting" 446) none (.ref 257) .none 0)), #[]⟩
noncomputable def ob257 (P : Params) : Obj := ⟨(.type "tuple"), none, (.seq #[] 0), #[]⟩
noncomputable def ob258 (P : Params) : Obj := ⟨.none, none, (.fields #[]), #[]⟩
noncomputable def ob259 (P : Params) : Obj := ⟨(.type "tuple"), none, (.seq #[(.str "self" 503), (.str "node" 504)] 0), #[]⟩
noncomputable def ob260 (P : Params) : Obj := ⟨(.type "tuple"), none, (.seq #[] 0), #[]⟩
noncomputable def ob261 (P : Params) : Obj := ⟨.none, none, (.func (fnG (e := (at2 17 5)) rfl "has" "Formatting.has" 0 [] .none .none .none .none none .none .none 0)), #[]⟩
noncomputable def ob262 (P : Params) : Obj := ⟨(.type "code"), none, (.fields #[(.str "has" 500), (.str "Formatting.has" 501), (.str "/claim/cut.py" 502), (.int 161 0), (.int 2 0), (.int 0 0), (.int 0 0), (.int 3 0), (.ref 259), (.bool true), (.int 181 0), (.ref 260), .none, (.ref 261), (.ref 262), (.ref 263), (.int 505 0), (.int 161 0), (.str "/claim/cut.py" 506)]), #[]⟩
noncomputable def ob263 (P : Params) : Obj := ⟨(.type "function"), none, (.func (fnG (e := (at2 17 5)) rfl "has" "Formatting.has" 3 [] .none .none .none (.str "htmltree.formatting" 446) none (.ref 264) .none 0)), #[]⟩
noncomputable def ob264 (P : Params) : Obj := ⟨(.type "tuple"), none, (.seq #[] 0), #[]⟩
noncomputable def ob265 (P : Params) : Obj := ⟨.none, none, (.fields #[]), #[]⟩
noncomputable def ob266 (P : Params) : Obj := ⟨(.type "tuple"), none, (.seq #[(.str "self" 511), (.str "node" 512)] 0), #[]⟩
noncomputable def ob267 (P : Params) : Obj := ⟨(.type "tuple"), none, (.seq #[] 0), #[]⟩
noncomputable def ob268 (P : Params) : Obj := ⟨.none, none, (.func (fnG (e := (at2 17 6)) rfl "place" "Formatting.place" 0 [] .none .none .none .none none .none .none 0)), #[]⟩
noncomputable def ob269 (P : Params) : Obj := ⟨(.type "code"), none, (.fields #[(.str "place" 508), (.str "Formatting.place" 509), (.str "/claim/cut.py" 510), (.int 164 0), (.int 2 0), (.int 0 0), (.int 0 0), (.int 3 0), (.ref 266), (.bool true), (.int 181 0), (.ref 267), .none, (.ref 268), (.ref 269), (.ref 270), (.int 513 0), (.int 164 0), (.str "/claim/cut.py" 514)]), #[]⟩
noncomputable def ob270 (P : Params) : Obj := ⟨(.type "function"), none, (.func (fnG (e := (at2 17 6)) rfl "place" "Formatting.place" 3 [] .none .none .none (.str "htmltree.formatting" 446) none (.ref 271) .none 0)), #[]⟩
noncomputable def ob271 (P : Params) : Obj := ⟨(.type "tuple"), none, (.seq #[] 0), #[]⟩
noncomputable def ob272 (P : Params) : Obj := ⟨.none, none, (.fields #[]), #[]⟩
noncomputable def ob273 (P : Params) : Obj := ⟨(.type "tuple"), none, (.seq #[(.str "self" 519), (.str "node" 520)] 0), #[]⟩
noncomputable def ob274 (P : Params) : Obj := ⟨(.type "tuple"), none, (.seq #[] 0), #[]⟩
noncomputable def ob275 (P : Params) : Obj := ⟨.none, none, (.func (fnG (e := (at2 17 7)) rfl "remove" "Formatting.remove" 0 [] .none .none .none .none none .none .none 0)), #[]⟩
noncomputable def ob276 (P : Params) : Obj := ⟨(.type "code"), none, (.fields #[(.str "remove" 516), (.str "Formatting.remove" 517), (.str "/claim/cut.py" 518), (.int 169 0), (.int 2 0), (.int 0 0), (.int 0 0), (.int 3 0), (.ref 273), (.bool true), (.int 181 0), (.ref 274), .none, (.ref 275), (.ref 276), (.ref 277), (.int 521 0), (.int 169 0), (.str "/claim/cut.py" 522)]), #[]⟩
noncomputable def ob277 (P : Params) : Obj := ⟨(.type "function"), none, (.func (fnG (e := (at2 17 7)) rfl "remove" "Formatting.remove" 3 [] .none .none .none (.str "htmltree.formatting" 446) none (.ref 278) .none 0)), #[]⟩
noncomputable def ob278 (P : Params) : Obj := ⟨(.type "tuple"), none, (.seq #[] 0), #[]⟩
noncomputable def ob279 (P : Params) : Obj := ⟨.none, none, (.fields #[]), #[]⟩
noncomputable def ob280 (P : Params) : Obj := ⟨(.type "tuple"), none, (.seq #[(.str "self" 527), (.str "old" 528), (.str "new" 529)] 0), #[]⟩
noncomputable def ob281 (P : Params) : Obj := ⟨(.type "tuple"), none, (.seq #[] 0), #[]⟩
noncomputable def ob282 (P : Params) : Obj := ⟨.none, none, (.func (fnG (e := (at2 17 8)) rfl "replace" "Formatting.replace" 0 [] .none .none .none .none none .none .none 0)), #[]⟩
noncomputable def ob283 (P : Params) : Obj := ⟨(.type "code"), none, (.fields #[(.str "replace" 524), (.str "Formatting.replace" 525), (.str "/claim/cut.py" 526), (.int 173 0), (.int 3 0), (.int 0 0), (.int 0 0), (.int 3 0), (.ref 280), (.bool true), (.int 181 0), (.ref 281), .none, (.ref 282), (.ref 283), (.ref 284), (.int 530 0), (.int 173 0), (.str "/claim/cut.py" 531)]), #[]⟩
noncomputable def ob284 (P : Params) : Obj := ⟨(.type "function"), none, (.func (fnG (e := (at2 17 8)) rfl "replace" "Formatting.replace" 3 [] .none .none .none (.str "htmltree.formatting" 446) none (.ref 285) .none 0)), #[]⟩
noncomputable def ob285 (P : Params) : Obj := ⟨(.type "tuple"), none, (.seq #[] 0), #[]⟩
noncomputable def ob286 (P : Params) : Obj := ⟨.none, none, (.fields #[]), #[]⟩
noncomputable def ob287 (P : Params) : Obj := ⟨(.type "tuple"), none, (.seq #[(.str "self" 536), (.str "place" 537), (.str "node" 538)] 0), #[]⟩
noncomputable def ob288 (P : Params) : Obj := ⟨(.type "tuple"), none, (.seq #[] 0), #[]⟩
noncomputable def ob289 (P : Params) : Obj := ⟨.none, none, (.func (fnG (e := (at2 17 9)) rfl "put_at" "Formatting.put_at" 0 [] .none .none .none .none none .none .none 0)), #[]⟩
noncomputable def ob290 (P : Params) : Obj := ⟨(.type "code"), none, (.fields #[(.str "put_at" 533), (.str "Formatting.put_at" 534), (.str "/claim/cut.py" 535), (.int 176 0), (.int 3 0), (.int 0 0), (.int 0 0), (.int 3 0), (.ref 287), (.bool true), (.int 181 0), (.ref 288), .none, (.ref 289), (.ref 290), (.ref 291), (.int 539 0), (.int 176 0), (.str "/claim/cut.py" 540)]), #[]⟩
noncomputable def ob291 (P : Params) : Obj := ⟨(.type "function"), none, (.func (fnG (e := (at2 17 9)) rfl "put_at" "Formatting.put_at" 3 [] .none .none .none (.str "htmltree.formatting" 446) none (.ref 292) .none 0)), #[]⟩
noncomputable def ob292 (P : Params) : Obj := ⟨(.type "tuple"), none, (.seq #[(.str "items" 542), (.str "tree" 543)] 0), #[]⟩
noncomputable def ob293 (P : Params) : Obj := ⟨(.type "dict"), none, (.dict #[⟨(keyHash P "__module__"), (.str "__module__" 455), (.str "htmltree.formatting" 446)⟩, ⟨(keyHash P "__firstlineno__"), (.str "__firstlineno__" 459), (.int 137 458)⟩, ⟨(keyHash P "__init__"), (.str "__init__" 467), (.ref 230)⟩, ⟨(keyHash P "push"), (.str "push" 475), (.ref 237)⟩, ⟨(keyHash P "mark"), (.str "mark" 482), (.ref 244)⟩, ⟨(keyHash P "clear_to_mark"), (.str "clear_to_mark" 489), (.ref 251)⟩, ⟨(keyHash P "find"), (.str "find" 499), (.ref 258)⟩, ⟨(keyHash P "has"), (.str "has" 507), (.ref 265)⟩, ⟨(keyHash P "place"), (.str "place" 515), (.ref 272)⟩, ⟨(keyHash P "remove"), (.str "remove" 523), (.ref 279)⟩, ⟨(keyHash P "replace"), (.str "replace" 532), (.ref 286)⟩, ⟨(keyHash P "put_at"), (.str "put_at" 541), (.ref 293)⟩, ⟨(keyHash P "__static_attributes__"), (.str "__static_attributes__" 544), (.ref 294)⟩, ⟨(keyHash P "__dict__"), (.str "__dict__" 546), (.ref 297)⟩, ⟨(keyHash P "__weakref__"), (.str "__weakref__" 548), (.ref 298)⟩, ⟨(keyHash P "__doc__"), (.str "__doc__" 549), .none⟩] 4), #[]⟩
noncomputable def ob294 (P : Params) : Obj := ⟨(.type "type"), none, (.cls ⟨"Formatting", [(.type "object")], [(.ref 296), (.type "object")], 295, "Formatting", true, [], [], false, none, false⟩), #[none, none, (some (.str "Formatting" 448)), (some (.str "Formatting" 456)), (some (.builtin "object.__new__")), (some (.bool true))]⟩
noncomputable def ob295 (P : Params) : Obj := ⟨(.type "getset_descriptor"), none, (.fields #[(.str "__dict__" 545), (.ref 296), (.builtin "function.__dict__"), (.builtin "function.__dict__#set")]), #[]⟩
noncomputable def ob296 (P : Params) : Obj := ⟨(.type "getset_descriptor"), none, (.fields #[(.str "__weakref__" 547), (.ref 296), (.builtin "ExceptionGroup.__weakref__"), .none]), #[]⟩
noncomputable def ob297 (P : Params) : Obj := ⟨(.type "super"), none, (.fields #[(.ref 296), (.ref 296), (.ref 296)]), #[]⟩
noncomputable def ob298 (P : Params) : Obj := ⟨(.type "builtin_function_or_method"), none, (.fields #[(.builtin "object.__init_subclass__"), (.ref 296)]), #[]⟩
noncomputable def tr_3 (P : Params) : BT := (.node (boot_o_0 P) (.node (boot_o_1 P) (.node (ob213 P) (.node (boot_o_7 P) (.node (ob6 P) (.node (ob22 P) (.node (ob56 P) (.node (ob120 P) (.node (ob253 P) .nil .nil) .nil) (.node (ob187 P) .nil .nil)) (.node (ob88 P) (.node (ob155 P) (.node (ob285 P) .nil .nil) .nil) (.node (ob221 P) .nil .nil))) (.node (ob40 P) (.node (ob72 P) (.node (ob136 P) (.node (ob269 P) .nil .nil) .nil) (.node (ob203 P) .nil .nil)) (.node (ob104 P) (.node (ob171 P) .nil .nil) (.node (ob237 P) .nil .nil)))) (.node (ob14 P) (.node (ob32 P) (.node (ob64 P) (.node (ob128 P) (.node (ob261 P) .nil .nil) .nil) (.node (ob195 P) .nil .nil)) (.node (ob96 P) (.node (ob163 P) (.node (ob293 P) .nil .nil) .nil) (.node (ob229 P) .nil .nil))) (.node (ob48 P) (.node (ob80 P) (.node (ob144 P) (.node (ob277 P) .nil .nil) .nil) (.node (ob211 P) .nil .nil)) (.node (ob112 P) (.node (ob179 P) .nil .nil) (.node (ob245 P) .nil .nil))))) (.node (ob0 P) (.node (ob10 P) (.node (ob26 P) (.node (ob60 P) (.node (ob124 P) (.node (ob257 P) .nil .nil) .nil) (.node (ob191 P) .nil .nil)) (.node (ob92 P) (.node (ob159 P) (.node (ob289 P) .nil .nil) .nil) (.node (ob225 P) .nil .nil))) (.node (ob44 P) (.node (ob76 P) (.node (ob140 P) (.node (ob273 P) .nil .nil) .nil) (.node (ob207 P) .nil .nil)) (.node (ob108 P) (.node (ob175 P) .nil .nil) (.node (ob241 P) .nil .nil)))) (.node (ob18 P) (.node (ob36 P) (.node (ob68 P) (.node (ob132 P) (.node (ob265 P) .nil .nil) .nil) (.node (ob199 P) .nil .nil)) (.node (ob100 P) (.node (ob167 P) (.node (ob297 P) .nil .nil) .nil) (.node (ob233 P) .nil .nil))) (.node (ob52 P) (.node (ob84 P) (.node (ob148 P) (.node (ob281 P) .nil .nil) .nil) (.node (ob217 P) .nil .nil)) (.node (ob116 P) (.node (ob183 P) .nil .nil) (.node (ob249 P) .nil .nil)))))) (.node (boot_o_5 P) (.node (boot_o_9 P) (.node (ob8 P) (.node (ob24 P) (.node (ob58 P) (.node (ob122 P) (.node (ob255 P) .nil .nil) .nil) (.node (ob189 P) .nil .nil)) (.node (ob90 P) (.node (ob157 P) (.node (ob287 P) .nil .nil) .nil) (.node (ob223 P) .nil .nil))) (.node (ob42 P) (.node (ob74 P) (.node (ob138 P) (.node (ob271 P) .nil .nil) .nil) (.node (ob205 P) .nil .nil)) (.node (ob106 P) (.node (ob173 P) .nil .nil) (.node (ob239 P) .nil .nil)))) (.node (ob16 P) (.node (ob34 P) (.node (ob66 P) (.node (ob130 P) (.node (ob263 P) .nil .nil) .nil) (.node (ob197 P) .nil .nil)) (.node (ob98 P) (.node (ob165 P) (.node (ob295 P) .nil .nil) .nil) (.node (ob231 P) .nil .nil))) (.node (ob50 P) (.node (ob82 P) (.node (ob146 P) (.node (ob279 P) .nil .nil) .nil) (.node (ob215 P) .nil .nil)) (.node (ob114 P) (.node (ob181 P) .nil .nil) (.node (ob247 P) .nil .nil))))) (.node (ob2 P) (.node (ob12 P) (.node (ob30 P) (.node (ob62 P) (.node (ob126 P) (.node (ob259 P) .nil .nil) .nil) (.node (ob193 P) .nil .nil)) (.node (ob94 P) (.node (ob161 P) (.node (ob291 P) .nil .nil) .nil) (.node (ob227 P) .nil .nil))) (.node (ob46 P) (.node (ob78 P) (.node (ob142 P) (.node (ob275 P) .nil .nil) .nil) (.node (ob209 P) .nil .nil)) (.node (ob110 P) (.node (ob177 P) .nil .nil) (.node (ob243 P) .nil .nil)))) (.node (ob20 P) (.node (ob38 P) (.node (ob70 P) (.node (ob134 P) (.node (ob267 P) .nil .nil) .nil) (.node (ob201 P) .nil .nil)) (.node (ob102 P) (.node (ob169 P) .nil .nil) (.node (ob235 P) .nil .nil))) (.node (ob54 P) (.node (ob86 P) (.node (ob153 P) (.node (ob283 P) .nil .nil) .nil) (.node (ob219 P) .nil .nil)) (.node (ob118 P) (.node (ob185 P) .nil .nil) (.node (ob251 P) .nil .nil))))))) (.node (ob149 P) (.node (boot_o_4 P) (.node (boot_o_8 P) (.node (ob7 P) (.node (ob23 P) (.node (ob57 P) (.node (ob121 P) (.node (ob254 P) .nil .nil) .nil) (.node (ob188 P) .nil .nil)) (.node (ob89 P) (.node (ob156 P) (.node (ob286 P) .nil .nil) .nil) (.node (ob222 P) .nil .nil))) (.node (ob41 P) (.node (ob73 P) (.node (ob137 P) (.node (ob270 P) .nil .nil) .nil) (.node (ob204 P) .nil .nil)) (.node (ob105 P) (.node (ob172 P) .nil .nil) (.node (ob238 P) .nil .nil)))) (.node (ob15 P) (.node (ob33 P) (.node (ob65 P) (.node (ob129 P) (.node (ob262 P) .nil .nil) .nil) (.node (ob196 P) .nil .nil)) (.node (ob97 P) (.node (ob164 P) (.node (ob294 P) .nil .nil) .nil) (.node (ob230 P) .nil .nil))) (.node (ob49 P) (.node (ob81 P) (.node (ob145 P) (.node (ob278 P) .nil .nil) .nil) (.node (ob212 P) .nil .nil)) (.node (ob113 P) (.node (ob180 P) .nil .nil) (.node (ob246 P) .nil .nil))))) (.node (ob214 P) (.node (ob11 P) (.node (ob29 P) (.node (ob61 P) (.node (ob125 P) (.node (ob258 P) .nil .nil) .nil) (.node (ob192 P) .nil .nil)) (.node (ob93 P) (.node (ob160 P) (.node (ob290 P) .nil .nil) .nil) (.node (ob226 P) .nil .nil))) (.node (ob45 P) (.node (ob77 P) (.node (ob141 P) (.node (ob274 P) .nil .nil) .nil) (.node (ob208 P) .nil .nil)) (.node (ob109 P) (.node (ob176 P) .nil .nil) (.node (ob242 P) .nil .nil)))) (.node (ob19 P) (.node (ob37 P) (.node (ob69 P) (.node (ob133 P) (.node (ob266 P) .nil .nil) .nil) (.node (ob200 P) .nil .nil)) (.node (ob101 P) (.node (ob168 P) (.node (ob298 P) .nil .nil) .nil) (.node (ob234 P) .nil .nil))) (.node (ob53 P) (.node (ob85 P) (.node (ob152 P) (.node (ob282 P) .nil .nil) .nil) (.node (ob218 P) .nil .nil)) (.node (ob117 P) (.node (ob184 P) .nil .nil) (.node (ob250 P) .nil .nil)))))) (.node (boot_o_6 P) (.node (boot_o_10 P) (.node (ob9 P) (.node (ob25 P) (.node (ob59 P) (.node (ob123 P) (.node (ob256 P) .nil .nil) .nil) (.node (ob190 P) .nil .nil)) (.node (ob91 P) (.node (ob158 P) (.node (ob288 P) .nil .nil) .nil) (.node (ob224 P) .nil .nil))) (.node (ob43 P) (.node (ob75 P) (.node (ob139 P) (.node (ob272 P) .nil .nil) .nil) (.node (ob206 P) .nil .nil)) (.node (ob107 P) (.node (ob174 P) .nil .nil) (.node (ob240 P) .nil .nil)))) (.node (ob17 P) (.node (ob35 P) (.node (ob67 P) (.node (ob131 P) (.node (ob264 P) .nil .nil) .nil) (.node (ob198 P) .nil .nil)) (.node (ob99 P) (.node (ob166 P) (.node (ob296 P) .nil .nil) .nil) (.node (ob232 P) .nil .nil))) (.node (ob51 P) (.node (ob83 P) (.node (ob147 P) (.node (ob280 P) .nil .nil) .nil) (.node (ob216 P) .nil .nil)) (.node (ob115 P) (.node (ob182 P) .nil .nil) (.node (ob248 P) .nil .nil))))) (.node (ob3 P) (.node (ob13 P) (.node (ob31 P) (.node (ob63 P) (.node (ob127 P) (.node (ob260 P) .nil .nil) .nil) (.node (ob194 P) .nil .nil)) (.node (ob95 P) (.node (ob162 P) (.node (ob292 P) .nil .nil) .nil) (.node (ob228 P) .nil .nil))) (.node (ob47 P) (.node (ob79 P) (.node (ob143 P) (.node (ob276 P) .nil .nil) .nil) (.node (ob210 P) .nil .nil)) (.node (ob111 P) (.node (ob178 P) .nil .nil) (.node (ob244 P) .nil .nil)))) (.node (ob21 P) (.node (ob39 P) (.node (ob71 P) (.node (ob135 P) (.node (ob268 P) .nil .nil) .nil) (.node (ob202 P) .nil .nil)) (.node (ob103 P) (.node (ob170 P) .nil .nil) (.node (ob236 P) .nil .nil))) (.node (ob55 P) (.node (ob87 P) (.node (ob154 P) (.node (ob284 P) .nil .nil) .nil) (.node (ob220 P) .nil .nil)) (.node (ob119 P) (.node (ob186 P) .nil .nil) (.node (ob252 P) .nil .nil))))))))
noncomputable def st_3 (w : World) (os : OsState) : SharedT := ⟨tr_3 w.params, (nat_lit 301), ⟨[], [], [], 0, [], [], false, #[], [], 0, false, false, false, 0, [2000, 10, 10], false, 0, true, [], [], 0, false⟩, ⟨[]⟩, ⟨0, 0, 0, 0⟩, (nat_lit 554), os⟩
theorem pc3 (w : World) (os : OsState) : segRunT treeTable pw w m0 ann0 1 (nat_lit 523) (st_2 w os) (piecesOf (sts 17 19) env0 cE ⟨136, 0, 136, 8⟩ fr0) = some (Flow.next, st_3 w os, cE, ⟨178, 0, 178, 8⟩) := by kernel_rfl
noncomputable def ob299 (P : Params) : Obj := ⟨(.type "dict"), none, (.dict #[⟨(keyHash P "__name__"), (.str "__name__" 165), (.str "htmltree.tree" 552)⟩, ⟨(keyHash P "__doc__"), (.str "__doc__" 166), .none⟩, ⟨(keyHash P "__package__"), (.str "__package__" 167), .none⟩, ⟨(keyHash P "__loader__"), (.str "__loader__" 168), (.builtin "__main__.__loader__#opaque")⟩, ⟨(keyHash P "__spec__"), (.str "__spec__" 169), .none⟩, ⟨(keyHash P "__annotations__"), (.str "__annotations__" 170), (.ref 6)⟩, ⟨(keyHash P "__builtins__"), (.str "__builtins__" 171), (.ref 4)⟩, ⟨(keyHash P "__file__"), (.str "__file__" 173), (.str "/claim/cut.py" 172)⟩, ⟨(keyHash P "__cached__"), (.str "__cached__" 174), .none⟩, ⟨(keyHash P "_wall"), (.str "_wall" 193), (.ref 21)⟩, ⟨(keyHash P "is_special"), (.str "is_special" 203), (.ref 28)⟩, ⟨(keyHash P "implied_names"), (.str "implied_names" 209), (.ref 35)⟩, ⟨(keyHash P "OpenStack"), (.str "OpenStack" 335), (.ref 136)⟩, ⟨(keyHash P "stops_scope"), (.str "stops_scope" 346), (.ref 147)⟩, ⟨(keyHash P "node_in_scope"), (.str "node_in_scope" 357), (.ref 155)⟩, ⟨(keyHash P "pop_implied"), (.str "pop_implied" 367), (.ref 163)⟩, ⟨(keyHash P "pop_with"), (.str "pop_with" 377), (.ref 170)⟩, ⟨(keyHash P "any_other_end"), (.str "any_other_end" 389), (.ref 177)⟩, ⟨(keyHash P "find_subject"), (.str "find_subject" 398), (.ref 184)⟩, ⟨(keyHash P "HtmlFault"), (.str "HtmlFault" 429), (.ref 201)⟩, ⟨(keyHash P "Misused"), (.str "Misused" 445), (.ref 214)⟩, ⟨(keyHash P "Formatting"), (.str "Formatting" 551), (.ref 296)⟩, ⟨(keyHash P "Tree"), (.str "Tree" 714), (.ref 413)⟩] 23), #[]⟩
noncomputable def ob300 (P : Params) : Obj := ⟨.none, none, (.fields #[(.int 1 0), (.int 0 0), (.ref 20), (.int 5 0), (.int 0 0), (.ref 27), (.int 11 0), (.int 0 0), (.ref 34), (.int 14 0), (.int 0 0), (.ref 41), (.int 65 0), (.int 0 0), (.ref 146), (.int 81 0), (.int 0 0), (.ref 154), (.int 88 0), (.int 0 0), (.ref 162), (.int 93 0), (.int 0 0), (.ref 169), (.int 97 0), (.int 0 0), (.ref 176), (.int 113 0), (.int 0 0), (.ref 183), (.int 129 0), (.int 0 0), (.ref 190), (.int 134 0), (.int 0 0), (.ref 210), (.int 137 0), (.int 0 0), (.ref 222), (.int 179 0), (.int 0 0), (.ref 306)]), #[]⟩
noncomputable def ob301 (P : Params) : Obj := ⟨(.type "tuple"), none, (.seq #[] 0), #[]⟩
noncomputable def ob302 (P : Params) : Obj := ⟨(.type "builtin_function_or_method"), none, (.fields #[(.builtin "type.__prepare__"), (.type "type")]), #[]⟩
noncomputable def ob303 (P : Params) : Obj := ⟨(.type "dict"), none, (.dict #[⟨(keyHash P "__module__"), (.str "__module__" 561), (.str "htmltree.tree" 552)⟩, ⟨(keyHash P "__qualname__"), (.str "__qualname__" 563), (.str "Tree" 562)⟩, ⟨(keyHash P "__firstlineno__"), (.str "__firstlineno__" 565), (.int 179 564)⟩, ⟨(keyHash P "__init__"), (.str "__init__" 572), (.ref 314)⟩, ⟨(keyHash P "add"), (.str "add" 587), (.ref 323)⟩, ⟨(keyHash P "element"), (.str "element" 599), (.ref 332)⟩, ⟨(keyHash P "text"), (.str "text" 607), (.ref 339)⟩, ⟨(keyHash P "comment"), (.str "comment" 615), (.ref 346)⟩, ⟨(keyHash P "doctype"), (.str "doctype" 625), (.ref 353)⟩, ⟨(keyHash P "insert"), (.str "insert" 638), (.ref 361)⟩, ⟨(keyHash P "append"), (.str "append" 647), (.ref 368)⟩, ⟨(keyHash P "remove"), (.str "remove" 655), (.ref 375)⟩, ⟨(keyHash P "move_children"), (.str "move_children" 664), (.ref 382)⟩, ⟨(keyHash P "place"), (.str "place" 672), (.ref 389)⟩, ⟨(keyHash P "last"), (.str "last" 680), (.ref 396)⟩, ⟨(keyHash P "value"), (.str "value" 689), (.ref 403)⟩, ⟨(keyHash P "is_html"), (.str "is_html" 698), (.ref 410)⟩, ⟨(keyHash P "__static_attributes__"), (.str "__static_attributes__" 707), (.ref 411)⟩] 18), #[]⟩
noncomputable def ob304 (P : Params) : Obj := ⟨(.type "tuple"), none, (.seq #[] 0), #[]⟩
noncomputable def ob305 (P : Params) : Obj := ⟨.none, none, (.fields #[(.int 181 0), (.int 4 0), (.ref 313), (.int 192 0), (.int 4 0), (.ref 322), (.int 202 0), (.int 4 0), (.ref 331), (.int 208 0), (.int 4 0), (.ref 338), (.int 211 0), (.int 4 0), (.ref 345), (.int 214 0), (.int 4 0), (.ref 352), (.int 217 0), (.int 4 0), (.ref 360), (.int 231 0), (.int 4 0), (.ref 367), (.int 234 0), (.int 4 0), (.ref 374), (.int 239 0), (.int 4 0), (.ref 381), (.int 242 0), (.int 4 0), (.ref 388), (.int 247 0), (.int 4 0), (.ref 395), (.int 252 0), (.int 4 0), (.ref 402), (.int 255 0), (.int 4 0), (.ref 409)]), #[]⟩
noncomputable def ob306 (P : Params) : Obj := ⟨(.type "code"), none, (.fields #[(.str "Tree" 556), (.str "Tree" 557), (.str "/claim/cut.py" 558), (.int 179 0), (.int 0 0), (.int 0 0), (.int 0 0), (.int 0 0), (.ref 304), (.bool false), (.int 181 0), (.ref 305), .none, .none, .none, .none, (.int 559 0), (.int 179 0), (.str "/claim/cut.py" 560)]), #[]⟩
noncomputable def ob307 (P : Params) : Obj := ⟨(.type "frame"), none, .plain, #[(some (.ref 306)), (some (.ref 3)), (some (.ref 303)), none, (some (.str "htmltree.tree" 552)), none, (some (.ref 0))]⟩
noncomputable def ob308 (P : Params) : Obj := ⟨(.type "tuple"), none, (.seq #[] 0), #[]⟩
noncomputable def ob309 (P : Params) : Obj := ⟨.none, none, (.fields #[]), #[]⟩
noncomputable def ob310 (P : Params) : Obj := ⟨(.type "tuple"), none, (.seq #[(.str "self" 569)] 0), #[]⟩
noncomputable def ob311 (P : Params) : Obj := ⟨(.type "tuple"), none, (.seq #[] 0), #[]⟩
noncomputable def ob312 (P : Params) : Obj := ⟨.none, none, (.func (fnG (e := (at2 19 0)) rfl "__init__" "Tree.__init__" 0 [] .none .none .none .none none .none .none 0)), #[]⟩
noncomputable def ob313 (P : Params) : Obj := ⟨(.type "code"), none, (.fields #[(.str "__init__" 566), (.str "Tree.__init__" 567), (.str "/claim/cut.py" 568), (.int 181 0), (.int 1 0), (.int 0 0), (.int 0 0), (.int 3 0), (.ref 308), (.bool true), (.int 181 0), (.ref 309), .none, (.ref 310), (.ref 311), (.ref 312), (.int 570 0), (.int 181 0), (.str "/claim/cut.py" 571)]), #[]⟩
noncomputable def ob314 (P : Params) : Obj := ⟨(.type "function"), none, (.func (fnG (e := (at2 19 0)) rfl "__init__" "Tree.__init__" 3 [] .none .none .none (.str "htmltree.tree" 552) none (.ref 313) .none 0)), #[]⟩
noncomputable def ob315 (P : Params) : Obj := ⟨(.type "tuple"), none, (.seq #[] 0), #[]⟩
noncomputable def ob316 (P : Params) : Obj := ⟨(.type "tuple"), none, (.seq #[(.str "" 573), (.str "" 574), (.ref 315), (.str "" 575)] 0), #[]⟩
noncomputable def ob317 (P : Params) : Obj := ⟨(.type "tuple"), none, (.seq #[] 0), #[]⟩
noncomputable def ob318 (P : Params) : Obj := ⟨.none, none, (.fields #[]), #[]⟩
noncomputable def ob319 (P : Params) : Obj := ⟨(.type "tuple"), none, (.seq #[(.str "self" 579), (.str "kind" 580), (.str "space" 581), (.str "name" 582), (.str "attrs" 583), (.str "text" 584)] 0), #[]⟩
noncomputable def ob320 (P : Params) : Obj := ⟨(.type "tuple"), none, (.seq #[] 0), #[]⟩
noncomputable def ob321 (P : Params) : Obj := ⟨.none, none, (.func (fnG (e := (at2 19 1)) rfl "add" "Tree.add" 0 [] .none .none .none .none none .none .none 0)), #[]⟩
noncomputable def ob322 (P : Params) : Obj := ⟨(.type "code"), none, (.fields #[(.str "add" 576), (.str "Tree.add" 577), (.str "/claim/cut.py" 578), (.int 192 0), (.int 6 0), (.int 0 0), (.int 0 0), (.int 3 0), (.ref 317), (.bool true), (.int 181 0), (.ref 318), .none, (.ref 319), (.ref 320), (.ref 321), (.int 585 0), (.int 192 0), (.str "/claim/cut.py" 586)]), #[]⟩
noncomputable def ob323 (P : Params) : Obj := ⟨(.type "function"), none, (.func (fnG (e := (at2 19 1)) rfl "add" "Tree.add" 3 [] (.ref 316) .none .none (.str "htmltree.tree" 552) none (.ref 322) .none 0)), #[]⟩
noncomputable def ob324 (P : Params) : Obj := ⟨(.type "tuple"), none, (.seq #[] 0), #[]⟩
noncomputable def ob325 (P : Params) : Obj := ⟨(.type "tuple"), none, (.seq #[(.str "html" 588), (.ref 324)] 0), #[]⟩
noncomputable def ob326 (P : Params) : Obj := ⟨(.type "tuple"), none, (.seq #[] 0), #[]⟩
noncomputable def ob327 (P : Params) : Obj := ⟨.none, none, (.fields #[]), #[]⟩
noncomputable def ob328 (P : Params) : Obj := ⟨(.type "tuple"), none, (.seq #[(.str "self" 592), (.str "name" 593), (.str "space" 594), (.str "attrs" 595), (.str "node" 596)] 0), #[]⟩
noncomputable def ob329 (P : Params) : Obj := ⟨(.type "tuple"), none, (.seq #[] 0), #[]⟩
noncomputable def ob330 (P : Params) : Obj := ⟨.none, none, (.func (fnG (e := (at2 19 2)) rfl "element" "Tree.element" 0 [] .none .none .none .none none .none .none 0)), #[]⟩
noncomputable def ob331 (P : Params) : Obj := ⟨(.type "code"), none, (.fields #[(.str "element" 589), (.str "Tree.element" 590), (.str "/claim/cut.py" 591), (.int 202 0), (.int 4 0), (.int 0 0), (.int 0 0), (.int 3 0), (.ref 326), (.bool true), (.int 181 0), (.ref 327), .none, (.ref 328), (.ref 329), (.ref 330), (.int 597 0), (.int 202 0), (.str "/claim/cut.py" 598)]), #[]⟩
noncomputable def ob332 (P : Params) : Obj := ⟨(.type "function"), none, (.func (fnG (e := (at2 19 2)) rfl "element" "Tree.element" 3 [] (.ref 325) .none .none (.str "htmltree.tree" 552) none (.ref 331) .none 0)), #[]⟩
noncomputable def ob333 (P : Params) : Obj := ⟨(.type "tuple"), none, (.seq #[] 0), #[]⟩
noncomputable def ob334 (P : Params) : Obj := ⟨.none, none, (.fields #[]), #[]⟩
noncomputable def ob335 (P : Params) : Obj := ⟨(.type "tuple"), none, (.seq #[(.str "self" 603), (.str "text" 604)] 0), #[]⟩
noncomputable def ob336 (P : Params) : Obj := ⟨(.type "tuple"), none, (.seq #[] 0), #[]⟩
noncomputable def ob337 (P : Params) : Obj := ⟨.none, none, (.func (fnG (e := (at2 19 3)) rfl "text" "Tree.text" 0 [] .none .none .none .none none .none .none 0)), #[]⟩
noncomputable def ob338 (P : Params) : Obj := ⟨(.type "code"), none, (.fields #[(.str "text" 600), (.str "Tree.text" 601), (.str "/claim/cut.py" 602), (.int 208 0), (.int 2 0), (.int 0 0), (.int 0 0), (.int 3 0), (.ref 333), (.bool true), (.int 181 0), (.ref 334), .none, (.ref 335), (.ref 336), (.ref 337), (.int 605 0), (.int 208 0), (.str "/claim/cut.py" 606)]), #[]⟩
noncomputable def ob339 (P : Params) : Obj := ⟨(.type "function"), none, (.func (fnG (e := (at2 19 3)) rfl "text" "Tree.text" 3 [] .none .none .none (.str "htmltree.tree" 552) none (.ref 338) .none 0)), #[]⟩
noncomputable def ob340 (P : Params) : Obj := ⟨(.type "tuple"), none, (.seq #[] 0), #[]⟩
noncomputable def ob341 (P : Params) : Obj := ⟨.none, none, (.fields #[]), #[]⟩
noncomputable def ob342 (P : Params) : Obj := ⟨(.type "tuple"), none, (.seq #[(.str "self" 611), (.str "text" 612)] 0), #[]⟩
noncomputable def ob343 (P : Params) : Obj := ⟨(.type "tuple"), none, (.seq #[] 0), #[]⟩
noncomputable def ob344 (P : Params) : Obj := ⟨.none, none, (.func (fnG (e := (at2 19 4)) rfl "comment" "Tree.comment" 0 [] .none .none .none .none none .none .none 0)), #[]⟩
noncomputable def ob345 (P : Params) : Obj := ⟨(.type "code"), none, (.fields #[(.str "comment" 608), (.str "Tree.comment" 609), (.str "/claim/cut.py" 610), (.int 211 0), (.int 2 0), (.int 0 0), (.int 0 0), (.int 3 0), (.ref 340), (.bool true), (.int 181 0), (.ref 341), .none, (.ref 342), (.ref 343), (.ref 344), (.int 613 0), (.int 211 0), (.str "/claim/cut.py" 614)]), #[]⟩
noncomputable def ob346 (P : Params) : Obj := ⟨(.type "function"), none, (.func (fnG (e := (at2 19 4)) rfl "comment" "Tree.comment" 3 [] .none .none .none (.str "htmltree.tree" 552) none (.ref 345) .none 0)), #[]⟩
noncomputable def ob347 (P : Params) : Obj := ⟨(.type "tuple"), none, (.seq #[] 0), #[]⟩
noncomputable def ob348 (P : Params) : Obj := ⟨.none, none, (.fields #[]), #[]⟩
noncomputable def ob349 (P : Params) : Obj := ⟨(.type "tuple"), none, (.seq #[(.str "self" 619), (.str "name" 620), (.str "public" 621), (.str "system" 622)] 0), #[]⟩
noncomputable def ob350 (P : Params) : Obj := ⟨(.type "tuple"), none, (.seq #[] 0), #[]⟩
noncomputable def ob351 (P : Params) : Obj := ⟨.none, none, (.func (fnG (e := (at2 19 5)) rfl "doctype" "Tree.doctype" 0 [] .none .none .none .none none .none .none 0)), #[]⟩
noncomputable def ob352 (P : Params) : Obj := ⟨(.type "code"), none, (.fields #[(.str "doctype" 616), (.str "Tree.doctype" 617), (.str "/claim/cut.py" 618), (.int 214 0), (.int 4 0), (.int 0 0), (.int 0 0), (.int 3 0), (.ref 347), (.bool true), (.int 181 0), (.ref 348), .none, (.ref 349), (.ref 350), (.ref 351), (.int 623 0), (.int 214 0), (.str "/claim/cut.py" 624)]), #[]⟩
noncomputable def ob353 (P : Params) : Obj := ⟨(.type "function"), none, (.func (fnG (e := (at2 19 5)) rfl "doctype" "Tree.doctype" 3 [] .none .none .none (.str "htmltree.tree" 552) none (.ref 352) .none 0)), #[]⟩
noncomputable def ob354 (P : Params) : Obj := ⟨(.type "tuple"), none, (.seq #[(.int (-1) 627)] 0), #[]⟩
noncomputable def ob355 (P : Params) : Obj := ⟨(.type "tuple"), none, (.seq #[] 0), #[]⟩
noncomputable def ob356 (P : Params) : Obj := ⟨.none, none, (.fields #[]), #[]⟩
noncomputable def ob357 (P : Params) : Obj := ⟨(.type "tuple"), none, (.seq #[(.str "self" 631), (.str "parent" 632), (.str "node" 633), (.str "before" 634), (.str "at" 635)] 0), #[]⟩
noncomputable def ob358 (P : Params) : Obj := ⟨(.type "tuple"), none, (.seq #[] 0), #[]⟩
noncomputable def ob359 (P : Params) : Obj := ⟨.none, none, (.func (fnG (e := (at2 19 6)) rfl "insert" "Tree.insert" 0 [] .none .none .none .none none .none .none 0)), #[]⟩
noncomputable def ob360 (P : Params) : Obj := ⟨(.type "code"), none, (.fields #[(.str "insert" 628), (.str "Tree.insert" 629), (.str "/claim/cut.py" 630), (.int 217 0), (.int 4 0), (.int 0 0), (.int 0 0), (.int 3 0), (.ref 355), (.bool true), (.int 181 0), (.ref 356), .none, (.ref 357), (.ref 358), (.ref 359), (.int 636 0), (.int 217 0), (.str "/claim/cut.py" 637)]), #[]⟩
noncomputable def ob361 (P : Params) : Obj := ⟨(.type "function"), none, (.func (fnG (e := (at2 19 6)) rfl "insert" "Tree.insert" 3 [] (.ref 354) .none .none (.str "htmltree.tree" 552) none (.ref 360) .none 0)), #[]⟩
noncomputable def ob362 (P : Params) : Obj := ⟨(.type "tuple"), none, (.seq #[] 0), #[]⟩
noncomputable def ob363 (P : Params) : Obj := ⟨.none, none, (.fields #[]), #[]⟩
noncomputable def ob364 (P : Params) : Obj := ⟨(.type "tuple"), none, (.seq #[(.str "self" 642), (.str "parent" 643), (.str "node" 644)] 0), #[]⟩
noncomputable def ob365 (P : Params) : Obj := ⟨(.type "tuple"), none, (.seq #[] 0), #[]⟩
noncomputable def ob366 (P : Params) : Obj := ⟨.none, none, (.func (fnG (e := (at2 19 7)) rfl "append" "Tree.append" 0 [] .none .none .none .none none .none .none 0)), #[]⟩
noncomputable def ob367 (P : Params) : Obj := ⟨(.type "code"), none, (.fields #[(.str "append" 639), (.str "Tree.append" 640), (.str "/claim/cut.py" 641), (.int 231 0), (.int 3 0), (.int 0 0), (.int 0 0), (.int 3 0), (.ref 362), (.bool true), (.int 181 0), (.ref 363), .none, (.ref 364), (.ref 365), (.ref 366), (.int 645 0), (.int 231 0), (.str "/claim/cut.py" 646)]), #[]⟩
noncomputable def ob368 (P : Params) : Obj := ⟨(.type "function"), none, (.func (fnG (e := (at2 19 7)) rfl "append" "Tree.append" 3 [] .none .none .none (.str "htmltree.tree" 552) none (.ref 367) .none 0)), #[]⟩
noncomputable def ob369 (P : Params) : Obj := ⟨(.type "tuple"), none, (.seq #[] 0), #[]⟩
noncomputable def ob370 (P : Params) : Obj := ⟨.none, none, (.fields #[]), #[]⟩
noncomputable def ob371 (P : Params) : Obj := ⟨(.type "tuple"), none, (.seq #[(.str "self" 651), (.str "node" 652)] 0), #[]⟩
noncomputable def ob372 (P : Params) : Obj := ⟨(.type "tuple"), none, (.seq #[] 0), #[]⟩
noncomputable def ob373 (P : Params) : Obj := ⟨.none, none, (.func (fnG (e := (at2 19 8)) rfl "remove" "Tree.remove" 0 [] .none .none .none .none none .none .none 0)), #[]⟩
noncomputable def ob374 (P : Params) : Obj := ⟨(.type "code"), none, (.fields #[(.str "remove" 648), (.str "Tree.remove" 649), (.str "/claim/cut.py" 650), (.int 234 0), (.int 2 0), (.int 0 0), (.int 0 0), (.int 3 0), (.ref 369), (.bool true), (.int 181 0), (.ref 370), .none, (.ref 371), (.ref 372), (.ref 373), (.int 653 0), (.int 234 0), (.str "/claim/cut.py" 654)]), #[]⟩
noncomputable def ob375 (P : Params) : Obj := ⟨(.type "function"), none, (.func (fnG (e := (at2 19 8)) rfl "remove" "Tree.remove" 3 [] .none .none .none (.str "htmltree.tree" 552) none (.ref 374) .none 0)), #[]⟩
noncomputable def ob376 (P : Params) : Obj := ⟨(.type "tuple"), none, (.seq #[] 0), #[]⟩
noncomputable def ob377 (P : Params) : Obj := ⟨.none, none, (.fields #[]), #[]⟩
noncomputable def ob378 (P : Params) : Obj := ⟨(.type "tuple"), none, (.seq #[(.str "self" 659), (.str "here" 660), (.str "there" 661)] 0), #[]⟩
noncomputable def ob379 (P : Params) : Obj := ⟨(.type "tuple"), none, (.seq #[] 0), #[]⟩
noncomputable def ob380 (P : Params) : Obj := ⟨.none, none, (.func (fnG (e := (at2 19 9)) rfl "move_children" "Tree.move_children" 0 [] .none .none .none .none none .none .none 0)), #[]⟩
noncomputable def ob381 (P : Params) : Obj := ⟨(.type "code"), none, (.fields #[(.str "move_children" 656), (.str "Tree.move_children" 657), (.str "/claim/cut.py" 658), (.int 239 0), (.int 3 0), (.int 0 0), (.int 0 0), (.int 3 0), (.ref 376), (.bool true), (.int 181 0), (.ref 377), .none, (.ref 378), (.ref 379), (.ref 380), (.int 662 0), (.int 239 0), (.str "/claim/cut.py" 663)]), #[]⟩
noncomputable def ob382 (P : Params) : Obj := ⟨(.type "function"), none, (.func (fnG (e := (at2 19 9)) rfl "move_children" "Tree.move_children" 3 [] .none .none .none (.str "htmltree.tree" 552) none (.ref 381) .none 0)), #[]⟩
noncomputable def ob383 (P : Params) : Obj := ⟨(.type "tuple"), none, (.seq #[] 0), #[]⟩
noncomputable def ob384 (P : Params) : Obj := ⟨.none, none, (.fields #[]), #[]⟩
noncomputable def ob385 (P : Params) : Obj := ⟨(.type "tuple"), none, (.seq #[(.str "self" 668), (.str "node" 669)] 0), #[]⟩
noncomputable def ob386 (P : Params) : Obj := ⟨(.type "tuple"), none, (.seq #[] 0), #[]⟩
noncomputable def ob387 (P : Params) : Obj := ⟨.none, none, (.func (fnG (e := (at2 19 10)) rfl "place" "Tree.place" 0 [] .none .none .none .none none .none .none 0)), #[]⟩
noncomputable def ob388 (P : Params) : Obj := ⟨(.type "code"), none, (.fields #[(.str "place" 665), (.str "Tree.place" 666), (.str "/claim/cut.py" 667), (.int 242 0), (.int 2 0), (.int 0 0), (.int 0 0), (.int 3 0), (.ref 383), (.bool true), (.int 181 0), (.ref 384), .none, (.ref 385), (.ref 386), (.ref 387), (.int 670 0), (.int 242 0), (.str "/claim/cut.py" 671)]), #[]⟩
noncomputable def ob389 (P : Params) : Obj := ⟨(.type "function"), none, (.func (fnG (e := (at2 19 10)) rfl "place" "Tree.place" 3 [] .none .none .none (.str "htmltree.tree" 552) none (.ref 388) .none 0)), #[]⟩
noncomputable def ob390 (P : Params) : Obj := ⟨(.type "tuple"), none, (.seq #[] 0), #[]⟩
noncomputable def ob391 (P : Params) : Obj := ⟨.none, none, (.fields #[]), #[]⟩
noncomputable def ob392 (P : Params) : Obj := ⟨(.type "tuple"), none, (.seq #[(.str "self" 676), (.str "parent" 677)] 0), #[]⟩
noncomputable def ob393 (P : Params) : Obj := ⟨(.type "tuple"), none, (.seq #[] 0), #[]⟩
noncomputable def ob394 (P : Params) : Obj := ⟨.none, none, (.func (fnG (e := (at2 19 11)) rfl "last" "Tree.last" 0 [] .none .none .none .none none .none .none 0)), #[]⟩
noncomputable def ob395 (P : Params) : Obj := ⟨(.type "code"), none, (.fields #[(.str "last" 673), (.str "Tree.last" 674), (.str "/claim/cut.py" 675), (.int 247 0), (.int 2 0), (.int 0 0), (.int 0 0), (.int 3 0), (.ref 390), (.bool true), (.int 181 0), (.ref 391), .none, (.ref 392), (.ref 393), (.ref 394), (.int 678 0), (.int 247 0), (.str "/claim/cut.py" 679)]), #[]⟩
noncomputable def ob396 (P : Params) : Obj := ⟨(.type "function"), none, (.func (fnG (e := (at2 19 11)) rfl "last" "Tree.last" 3 [] .none .none .none (.str "htmltree.tree" 552) none (.ref 395) .none 0)), #[]⟩
noncomputable def ob397 (P : Params) : Obj := ⟨(.type "tuple"), none, (.seq #[] 0), #[]⟩
noncomputable def ob398 (P : Params) : Obj := ⟨.none, none, (.fields #[]), #[]⟩
noncomputable def ob399 (P : Params) : Obj := ⟨(.type "tuple"), none, (.seq #[(.str "self" 684), (.str "node" 685), (.str "name" 686)] 0), #[]⟩
noncomputable def ob400 (P : Params) : Obj := ⟨(.type "tuple"), none, (.seq #[] 0), #[]⟩
noncomputable def ob401 (P : Params) : Obj := ⟨.none, none, (.func (fnG (e := (at2 19 12)) rfl "value" "Tree.value" 0 [] .none .none .none .none none .none .none 0)), #[]⟩
noncomputable def ob402 (P : Params) : Obj := ⟨(.type "code"), none, (.fields #[(.str "value" 681), (.str "Tree.value" 682), (.str "/claim/cut.py" 683), (.int 252 0), (.int 3 0), (.int 0 0), (.int 0 0), (.int 3 0), (.ref 397), (.bool true), (.int 181 0), (.ref 398), .none, (.ref 399), (.ref 400), (.ref 401), (.int 687 0), (.int 252 0), (.str "/claim/cut.py" 688)]), #[]⟩
noncomputable def ob403 (P : Params) : Obj := ⟨(.type "function"), none, (.func (fnG (e := (at2 19 12)) rfl "value" "Tree.value" 3 [] .none .none .none (.str "htmltree.tree" 552) none (.ref 402) .none 0)), #[]⟩
noncomputable def ob404 (P : Params) : Obj := ⟨(.type "tuple"), none, (.seq #[] 0), #[]⟩
noncomputable def ob405 (P : Params) : Obj := ⟨.none, none, (.fields #[]), #[]⟩
noncomputable def ob406 (P : Params) : Obj := ⟨(.type "tuple"), none, (.seq #[(.str "self" 693), (.str "node" 694), (.str "name" 695)] 0), #[]⟩
noncomputable def ob407 (P : Params) : Obj := ⟨(.type "tuple"), none, (.seq #[] 0), #[]⟩
noncomputable def ob408 (P : Params) : Obj := ⟨.none, none, (.func (fnG (e := (at2 19 13)) rfl "is_html" "Tree.is_html" 0 [] .none .none .none .none none .none .none 0)), #[]⟩
noncomputable def ob409 (P : Params) : Obj := ⟨(.type "code"), none, (.fields #[(.str "is_html" 690), (.str "Tree.is_html" 691), (.str "/claim/cut.py" 692), (.int 255 0), (.int 3 0), (.int 0 0), (.int 0 0), (.int 3 0), (.ref 404), (.bool true), (.int 181 0), (.ref 405), .none, (.ref 406), (.ref 407), (.ref 408), (.int 696 0), (.int 255 0), (.str "/claim/cut.py" 697)]), #[]⟩
noncomputable def ob410 (P : Params) : Obj := ⟨(.type "function"), none, (.func (fnG (e := (at2 19 13)) rfl "is_html" "Tree.is_html" 3 [] .none .none .none (.str "htmltree.tree" 552) none (.ref 409) .none 0)), #[]⟩
noncomputable def ob411 (P : Params) : Obj := ⟨(.type "tuple"), none, (.seq #[(.str "attrs" 699), (.str "children" 700), (.str "contents" 701), (.str "kinds" 702), (.str "names" 703), (.str "parents" 704), (.str "spaces" 705), (.str "texts" 706)] 0), #[]⟩
noncomputable def ob412 (P : Params) : Obj := ⟨(.type "dict"), none, (.dict #[⟨(keyHash P "__module__"), (.str "__module__" 561), (.str "htmltree.tree" 552)⟩, ⟨(keyHash P "__firstlineno__"), (.str "__firstlineno__" 565), (.int 179 564)⟩, ⟨(keyHash P "__init__"), (.str "__init__" 572), (.ref 314)⟩, ⟨(keyHash P "add"), (.str "add" 587), (.ref 323)⟩, ⟨(keyHash P "element"), (.str "element" 599), (.ref 332)⟩, ⟨(keyHash P "text"), (.str "text" 607), (.ref 339)⟩, ⟨(keyHash P "comment"), (.str "comment" 615), (.ref 346)⟩, ⟨(keyHash P "doctype"), (.str "doctype" 625), (.ref 353)⟩, ⟨(keyHash P "insert"), (.str "insert" 638), (.ref 361)⟩, ⟨(keyHash P "append"), (.str "append" 647), (.ref 368)⟩, ⟨(keyHash P "remove"), (.str "remove" 655), (.ref 375)⟩, ⟨(keyHash P "move_children"), (.str "move_children" 664), (.ref 382)⟩, ⟨(keyHash P "place"), (.str "place" 672), (.ref 389)⟩, ⟨(keyHash P "last"), (.str "last" 680), (.ref 396)⟩, ⟨(keyHash P "value"), (.str "value" 689), (.ref 403)⟩, ⟨(keyHash P "is_html"), (.str "is_html" 698), (.ref 410)⟩, ⟨(keyHash P "__static_attributes__"), (.str "__static_attributes__" 707), (.ref 411)⟩, ⟨(keyHash P "__dict__"), (.str "__dict__" 709), (.ref 414)⟩, ⟨(keyHash P "__weakref__"), (.str "__weakref__" 711), (.ref 415)⟩, ⟨(keyHash P "__doc__"), (.str "__doc__" 712), .none⟩] 4), #[]⟩
noncomputable def ob413 (P : Params) : Obj := ⟨(.type "type"), none, (.cls ⟨"Tree", [(.type "object")], [(.ref 413), (.type "object")], 412, "Tree", true, [], [], false, none, false⟩), #[none, none, (some (.str "Tree" 554)), (some (.str "Tree" 562)), (some (.builtin "object.__new__")), (some (.bool true))]⟩
noncomputable def ob414 (P : Params) : Obj := ⟨(.type "getset_descriptor"), none, (.fields #[(.str "__dict__" 708), (.ref 413), (.builtin "function.__dict__"), (.builtin "function.__dict__#set")]), #[]⟩
noncomputable def ob415 (P : Params) : Obj := ⟨(.type "getset_descriptor"), none, (.fields #[(.str "__weakref__" 710), (.ref 413), (.builtin "ExceptionGroup.__weakref__"), .none]), #[]⟩
noncomputable def ob416 (P : Params) : Obj := ⟨(.type "super"), none, (.fields #[(.ref 413), (.ref 413), (.ref 413)]), #[]⟩
noncomputable def ob417 (P : Params) : Obj := ⟨(.type "builtin_function_or_method"), none, (.fields #[(.builtin "object.__init_subclass__"), (.ref 413)]), #[]⟩
noncomputable def tr_4 (P : Params) : BT := (.node (boot_o_0 P) (.node (boot_o_1 P) (.node (ob299 P) (.node (boot_o_7 P) (.node (ob6 P) (.node (ob22 P) (.node (ob56 P) (.node (ob120 P) (.node (ob253 P) .nil .nil) (.node (ob383 P) .nil .nil)) (.node (ob187 P) (.node (ob319 P) .nil .nil) .nil)) (.node (ob88 P) (.node (ob155 P) (.node (ob285 P) .nil .nil) (.node (ob415 P) .nil .nil)) (.node (ob221 P) (.node (ob351 P) .nil .nil) .nil))) (.node (ob40 P) (.node (ob72 P) (.node (ob136 P) (.node (ob269 P) .nil .nil) (.node (ob399 P) .nil .nil)) (.node (ob203 P) (.node (ob335 P) .nil .nil) .nil)) (.node (ob104 P) (.node (ob171 P) (.node (ob303 P) .nil .nil) .nil) (.node (ob237 P) (.node (ob367 P) .nil .nil) .nil)))) (.node (ob14 P) (.node (ob32 P) (.node (ob64 P) (.node (ob128 P) (.node (ob261 P) .nil .nil) (.node (ob391 P) .nil .nil)) (.node (ob195 P) (.node (ob327 P) .nil .nil) .nil)) (.node (ob96 P) (.node (ob163 P) (.node (ob293 P) .nil .nil) .nil) (.node (ob229 P) (.node (ob359 P) .nil .nil) .nil))) (.node (ob48 P) (.node (ob80 P) (.node (ob144 P) (.node (ob277 P) .nil .nil) (.node (ob407 P) .nil .nil)) (.node (ob211 P) (.node (ob343 P) .nil .nil) .nil)) (.node (ob112 P) (.node (ob179 P) (.node (ob311 P) .nil .nil) .nil) (.node (ob245 P) (.node (ob375 P) .nil .nil) .nil))))) (.node (ob0 P) (.node (ob10 P) (.node (ob26 P) (.node (ob60 P) (.node (ob124 P) (.node (ob257 P) .nil .nil) (.node (ob387 P) .nil .nil)) (.node (ob191 P) (.node (ob323 P) .nil .nil) .nil)) (.node (ob92 P) (.node (ob159 P) (.node (ob289 P) .nil .nil) .nil) (.node (ob225 P) (.node (ob355 P) .nil .nil) .nil))) (.node (ob44 P) (.node (ob76 P) (.node (ob140 P) (.node (ob273 P) .nil .nil) (.node (ob403 P) .nil .nil)) (.node (ob207 P) (.node (ob339 P) .nil .nil) .nil)) (.node (ob108 P) (.node (ob175 P) (.node (ob307 P) .nil .nil) .nil) (.node (ob241 P) (.node (ob371 P) .nil .nil) .nil)))) (.node (ob18 P) (.node (ob36 P) (.node (ob68 P) (.node (ob132 P) (.node (ob265 P) .nil .nil) (.node (ob395 P) .nil .nil)) (.node (ob199 P) (.node (ob331 P) .nil .nil) .nil)) (.node (ob100 P) (.node (ob167 P) (.node (ob297 P) .nil .nil) .nil) (.node (ob233 P) (.node (ob363 P) .nil .nil) .nil))) (.node (ob52 P) (.node (ob84 P) (.node (ob148 P) (.node (ob281 P) .nil .nil) (.node (ob411 P) .nil .nil)) (.node (ob217 P) (.node (ob347 P) .nil .nil) .nil)) (.node (ob116 P) (.node (ob183 P) (.node (ob315 P) .nil .nil) .nil) (.node (ob249 P) (.node (ob379 P) .nil .nil) .nil)))))) (.node (boot_o_5 P) (.node (boot_o_9 P) (.node (ob8 P) (.node (ob24 P) (.node (ob58 P) (.node (ob122 P) (.node (ob255 P) .nil .nil) (.node (ob385 P) .nil .nil)) (.node (ob189 P) (.node (ob321 P) .nil .nil) .nil)) (.node (ob90 P) (.node (ob157 P) (.node (ob287 P) .nil .nil) (.node (ob417 P) .nil .nil)) (.node (ob223 P) (.node (ob353 P) .nil .nil) .nil))) (.node (ob42 P) (.node (ob74 P) (.node (ob138 P) (.node (ob271 P) .nil .nil) (.node (ob401 P) .nil .nil)) (.node (ob205 P) (.node (ob337 P) .nil .nil) .nil)) (.node (ob106 P) (.node (ob173 P) (.node (ob305 P) .nil .nil) .nil) (.node (ob239 P) (.node (ob369 P) .nil .nil) .nil)))) (.node (ob16 P) (.node (ob34 P) (.node (ob66 P) (.node (ob130 P) (.node (ob263 P) .nil .nil) (.node (ob393 P) .nil .nil)) (.node (ob197 P) (.node (ob329 P) .nil .nil) .nil)) (.node (ob98 P) (.node (ob165 P) (.node (ob295 P) .nil .nil) .nil) (.node (ob231 P) (.node (ob361 P) .nil .nil) .nil))) (.node (ob50 P) (.node (ob82 P) (.node (ob146 P) (.node (ob279 P) .nil .nil) (.node (ob409 P) .nil .nil)) (.node (ob215 P) (.node (ob345 P) .nil .nil) .nil)) (.node (ob114 P) (.node (ob181 P) (.node (ob313 P) .nil .nil) .nil) (.node (ob247 P) (.node (ob377 P) .nil .nil) .nil))))) (.node (ob2 P) (.node (ob12 P) (.node (ob30 P) (.node (ob62 P) (.node (ob126 P) (.node (ob259 P) .nil .nil) (.node (ob389 P) .nil .nil)) (.node (ob193 P) (.node (ob325 P) .nil .nil) .nil)) (.node (ob94 P) (.node (ob161 P) (.node (ob291 P) .nil .nil) .nil) (.node (ob227 P) (.node (ob357 P) .nil .nil) .nil))) (.node (ob46 P) (.node (ob78 P) (.node (ob142 P) (.node (ob275 P) .nil .nil) (.node (ob405 P) .nil .nil)) (.node (ob209 P) (.node (ob341 P) .nil .nil) .nil)) (.node (ob110 P) (.node (ob177 P) (.node (ob309 P) .nil .nil) .nil) (.node (ob243 P) (.node (ob373 P) .nil .nil) .nil)))) (.node (ob20 P) (.node (ob38 P) (.node (ob70 P) (.node (ob134 P) (.node (ob267 P) .nil .nil) (.node (ob397 P) .nil .nil)) (.node (ob201 P) (.node (ob333 P) .nil .nil) .nil)) (.node (ob102 P) (.node (ob169 P) (.node (ob301 P) .nil .nil) .nil) (.node (ob235 P) (.node (ob365 P) .nil .nil) .nil))) (.node (ob54 P) (.node (ob86 P) (.node (ob153 P) (.node (ob283 P) .nil .nil) (.node (ob413 P) .nil .nil)) (.node (ob219 P) (.node (ob349 P) .nil .nil) .nil)) (.node (ob118 P) (.node (ob185 P) (.node (ob317 P) .nil .nil) .nil) (.node (ob251 P) (.node (ob381 P) .nil .nil) .nil))))))) (.node (ob149 P) (.node (boot_o_4 P) (.node (boot_o_8 P) (.node (ob7 P) (.node (ob23 P) (.node (ob57 P) (.node (ob121 P) (.node (ob254 P) .nil .nil) (.node (ob384 P) .nil .nil)) (.node (ob188 P) (.node (ob320 P) .nil .nil) .nil)) (.node (ob89 P) (.node (ob156 P) (.node (ob286 P) .nil .nil) (.node (ob416 P) .nil .nil)) (.node (ob222 P) (.node (ob352 P) .nil .nil) .nil))) (.node (ob41 P) (.node (ob73 P) (.node (ob137 P) (.node (ob270 P) .nil .nil) (.node (ob400 P) .nil .nil)) (.node (ob204 P) (.node (ob336 P) .nil .nil) .nil)) (.node (ob105 P) (.node (ob172 P) (.node (ob304 P) .nil .nil) .nil) (.node (ob238 P) (.node (ob368 P) .nil .nil) .nil)))) (.node (ob15 P) (.node (ob33 P) (.node (ob65 P) (.node (ob129 P) (.node (ob262 P) .nil .nil) (.node (ob392 P) .nil .nil)) (.node (ob196 P) (.node (ob328 P) .nil .nil) .nil)) (.node (ob97 P) (.node (ob164 P) (.node (ob294 P) .nil .nil) .nil) (.node (ob230 P) (.node (ob360 P) .nil .nil) .nil))) (.node (ob49 P) (.node (ob81 P) (.node (ob145 P) (.node (ob278 P) .nil .nil) (.node (ob408 P) .nil .nil)) (.node (ob212 P) (.node (ob344 P) .nil .nil) .nil)) (.node (ob113 P) (.node (ob180 P) (.node (ob312 P) .nil .nil) .nil) (.node (ob246 P) (.node (ob376 P) .nil .nil) .nil))))) (.node (ob300 P) (.node (ob11 P) (.node (ob29 P) (.node (ob61 P) (.node (ob125 P) (.node (ob258 P) .nil .nil) (.node (ob388 P) .nil .nil)) (.node (ob192 P) (.node (ob324 P) .nil .nil) .nil)) (.node (ob93 P) (.node (ob160 P) (.node (ob290 P) .nil .nil) .nil) (.node (ob226 P) (.node (ob356 P) .nil .nil) .nil))) (.node (ob45 P) (.node (ob77 P) (.node (ob141 P) (.node (ob274 P) .nil .nil) (.node (ob404 P) .nil .nil)) (.node (ob208 P) (.node (ob340 P) .nil .nil) .nil)) (.node (ob109 P) (.node (ob176 P) (.node (ob308 P) .nil .nil) .nil) (.node (ob242 P) (.node (ob372 P) .nil .nil) .nil)))) (.node (ob19 P) (.node (ob37 P) (.node (ob69 P) (.node (ob133 P) (.node (ob266 P) .nil .nil) (.node (ob396 P) .nil .nil)) (.node (ob200 P) (.node (ob332 P) .nil .nil) .nil)) (.node (ob101 P) (.node (ob168 P) (.node (ob298 P) .nil .nil) .nil) (.node (ob234 P) (.node (ob364 P) .nil .nil) .nil))) (.node (ob53 P) (.node (ob85 P) (.node (ob152 P) (.node (ob282 P) .nil .nil) (.node (ob412 P) .nil .nil)) (.node (ob218 P) (.node (ob348 P) .nil .nil) .nil)) (.node (ob117 P) (.node (ob184 P) (.node (ob316 P) .nil .nil) .nil) (.node (ob250 P) (.node (ob380 P) .nil .nil) .nil)))))) (.node (boot_o_6 P) (.node (boot_o_10 P) (.node (ob9 P) (.node (ob25 P) (.node (ob59 P) (.node (ob123 P) (.node (ob256 P) .nil .nil) (.node (ob386 P) .nil .nil)) (.node (ob190 P) (.node (ob322 P) .nil .nil) .nil)) (.node (ob91 P) (.node (ob158 P) (.node (ob288 P) .nil .nil) .nil) (.node (ob224 P) (.node (ob354 P) .nil .nil) .nil))) (.node (ob43 P) (.node (ob75 P) (.node (ob139 P) (.node (ob272 P) .nil .nil) (.node (ob402 P) .nil .nil)) (.node (ob206 P) (.node (ob338 P) .nil .nil) .nil)) (.node (ob107 P) (.node (ob174 P) (.node (ob306 P) .nil .nil) .nil) (.node (ob240 P) (.node (ob370 P) .nil .nil) .nil)))) (.node (ob17 P) (.node (ob35 P) (.node (ob67 P) (.node (ob131 P) (.node (ob264 P) .nil .nil) (.node (ob394 P) .nil .nil)) (.node (ob198 P) (.node (ob330 P) .nil .nil) .nil)) (.node (ob99 P) (.node (ob166 P) (.node (ob296 P) .nil .nil) .nil) (.node (ob232 P) (.node (ob362 P) .nil .nil) .nil))) (.node (ob51 P) (.node (ob83 P) (.node (ob147 P) (.node (ob280 P) .nil .nil) (.node (ob410 P) .nil .nil)) (.node (ob216 P) (.node (ob346 P) .nil .nil) .nil)) (.node (ob115 P) (.node (ob182 P) (.node (ob314 P) .nil .nil) .nil) (.node (ob248 P) (.node (ob378 P) .nil .nil) .nil))))) (.node (ob3 P) (.node (ob13 P) (.node (ob31 P) (.node (ob63 P) (.node (ob127 P) (.node (ob260 P) .nil .nil) (.node (ob390 P) .nil .nil)) (.node (ob194 P) (.node (ob326 P) .nil .nil) .nil)) (.node (ob95 P) (.node (ob162 P) (.node (ob292 P) .nil .nil) .nil) (.node (ob228 P) (.node (ob358 P) .nil .nil) .nil))) (.node (ob47 P) (.node (ob79 P) (.node (ob143 P) (.node (ob276 P) .nil .nil) (.node (ob406 P) .nil .nil)) (.node (ob210 P) (.node (ob342 P) .nil .nil) .nil)) (.node (ob111 P) (.node (ob178 P) (.node (ob310 P) .nil .nil) .nil) (.node (ob244 P) (.node (ob374 P) .nil .nil) .nil)))) (.node (ob21 P) (.node (ob39 P) (.node (ob71 P) (.node (ob135 P) (.node (ob268 P) .nil .nil) (.node (ob398 P) .nil .nil)) (.node (ob202 P) (.node (ob334 P) .nil .nil) .nil)) (.node (ob103 P) (.node (ob170 P) (.node (ob302 P) .nil .nil) .nil) (.node (ob236 P) (.node (ob366 P) .nil .nil) .nil))) (.node (ob55 P) (.node (ob87 P) (.node (ob154 P) (.node (ob284 P) .nil .nil) (.node (ob414 P) .nil .nil)) (.node (ob220 P) (.node (ob350 P) .nil .nil) .nil)) (.node (ob119 P) (.node (ob186 P) (.node (ob318 P) .nil .nil) .nil) (.node (ob252 P) (.node (ob382 P) .nil .nil) .nil))))))))
noncomputable def st_4 (w : World) (os : OsState) : SharedT := ⟨tr_4 w.params, (nat_lit 418), ⟨[], [], [], 0, [], [], false, #[], [], 0, false, false, false, 0, [2000, 10, 10], false, 0, true, [], [], 0, false⟩, ⟨[]⟩, ⟨0, 0, 0, 0⟩, (nat_lit 715), os⟩
theorem pc4 (w : World) (os : OsState) : segRunT treeTable pw w m0 ann0 1 (nat_lit 678) (st_3 w os) (piecesOf (sts 19 20) env0 cE ⟨178, 0, 178, 8⟩ fr0) = some (Flow.next, st_4 w os, cE, ⟨179, 0, 256, 88⟩) := by kernel_rfl
noncomputable def ob418 (P : Params) : Obj := ⟨(.type "dict"), none, (.dict #[⟨(keyHash P "__name__"), (.str "__name__" 165), (.str "law_pb0145_01" 832)⟩, ⟨(keyHash P "__doc__"), (.str "__doc__" 166), .none⟩, ⟨(keyHash P "__package__"), (.str "__package__" 167), .none⟩, ⟨(keyHash P "__loader__"), (.str "__loader__" 168), (.builtin "__main__.__loader__#opaque")⟩, ⟨(keyHash P "__spec__"), (.str "__spec__" 169), .none⟩, ⟨(keyHash P "__annotations__"), (.str "__annotations__" 170), (.ref 6)⟩, ⟨(keyHash P "__builtins__"), (.str "__builtins__" 171), (.ref 4)⟩, ⟨(keyHash P "__file__"), (.str "__file__" 173), (.str "/claim/cut.py" 172)⟩, ⟨(keyHash P "__cached__"), (.str "__cached__" 174), .none⟩, ⟨(keyHash P "_wall"), (.str "_wall" 193), (.ref 21)⟩, ⟨(keyHash P "is_special"), (.str "is_special" 203), (.ref 28)⟩, ⟨(keyHash P "implied_names"), (.str "implied_names" 209), (.ref 35)⟩, ⟨(keyHash P "OpenStack"), (.str "OpenStack" 335), (.ref 136)⟩, ⟨(keyHash P "stops_scope"), (.str "stops_scope" 346), (.ref 147)⟩, ⟨(keyHash P "node_in_scope"), (.str "node_in_scope" 357), (.ref 155)⟩, ⟨(keyHash P "pop_implied"), (.str "pop_implied" 367), (.ref 163)⟩, ⟨(keyHash P "pop_with"), (.str "pop_with" 377), (.ref 170)⟩, ⟨(keyHash P "any_other_end"), (.str "any_other_end" 389), (.ref 177)⟩, ⟨(keyHash P "find_subject"), (.str "find_subject" 398), (.ref 184)⟩, ⟨(keyHash P "HtmlFault"), (.str "HtmlFault" 429), (.ref 201)⟩, ⟨(keyHash P "Misused"), (.str "Misused" 445), (.ref 214)⟩, ⟨(keyHash P "Formatting"), (.str "Formatting" 551), (.ref 296)⟩, ⟨(keyHash P "Tree"), (.str "Tree" 714), (.ref 413)⟩, ⟨(keyHash P "above"), (.str "above" 724), (.ref 424)⟩, ⟨(keyHash P "Builder"), (.str "Builder" 831), (.ref 491)⟩, ⟨(keyHash P "_law_digit"), (.str "_law_digit" 842), (.ref 502)⟩, ⟨(keyHash P "_law_pool"), (.str "_law_pool" 851), (.ref 509)⟩, ⟨(keyHash P "_law_enders"), (.str "_law_enders" 858), (.ref 516)⟩, ⟨(keyHash P "_law_specials"), (.str "_law_specials" 864), (.ref 523)⟩, ⟨(keyHash P "_law_implied"), (.str "_law_implied" 870), (.ref 530)⟩, ⟨(keyHash P "_law_other"), (.str "_law_other" 876), (.ref 535)⟩] 31), #[]⟩
noncomputable def ob419 (P : Params) : Obj := ⟨.none, none, (.fields (List.toArray ((.int 1 0) :: (.int 0 0) :: (.ref 20) :: (.int 5 0) :: (.int 0 0) :: (.ref 27) :: (.int 11 0) :: (.int 0 0) :: (.ref 34) :: (.int 14 0) :: (.int 0 0) :: (.ref 41) :: (.int 65 0) :: (.int 0 0) :: (.ref 146) :: (.int 81 0) :: (.int 0 0) :: (.ref 154) :: (.int 88 0) :: (.int 0 0) :: (.ref 162) :: (.int 93 0) :: (.int 0 0) :: (.ref 169) :: (.int 97 0) :: (.int 0 0) :: (.ref 176) :: (.int 113 0) :: (.int 0 0) :: (.ref 183) :: (.int 129 0) :: (.int 0 0) :: (.ref 190) :: (.int 134 0) :: (.int 0 0) :: (.ref 210) :: (.int 137 0) :: (.int 0 0) :: (.ref 222) :: (.int 179 0) :: (.int 0 0) :: (.ref 306) :: (.int 257 0) :: (.int 0 0) :: (.ref 423) :: (.int 265 0) :: (.int 0 0) :: (.ref 430) :: (.int 311 0) :: (.int 0 0) :: (.ref 501) :: (.int 314 0) :: (.int 0 0) :: (.ref 508) :: (.int 319 0) :: (.int 0 0) :: (.ref 515) :: (.int 322 0) :: (.int 0 0) :: (.ref 522) :: (.int 324 0) :: (.int 0 0) :: (.ref 529) :: (.int 326 0) :: (.int 0 0) :: (.ref 534) :: []))), #[]⟩
noncomputable def ob420 (P : Params) : Obj := ⟨(.type "tuple"), none, (.seq #[] 0), #[]⟩
noncomputable def ob421 (P : Params) : Obj := ⟨.none, none, (.fields #[]), #[]⟩
noncomputable def ob422 (P : Params) : Obj := ⟨(.type "tuple"), none, (.seq #[(.str "tree" 718), (.str "node" 719), (.str "out" 720), (.str "up" 721)] 0), #[]⟩
noncomputable def ob423 (P : Params) : Obj := ⟨(.type "tuple"), none, (.seq #[] 0), #[]⟩
noncomputable def ob424 (P : Params) : Obj := ⟨.none, none, (.func (fnG (e := (at1 20)) rfl "above" "above" 0 [] .none .none .none .none none .none .none 0)), #[]⟩
noncomputable def ob425 (P : Params) : Obj := ⟨(.type "code"), none, (.fields #[(.str "above" 715), (.str "above" 716), (.str "/claim/cut.py" 717), (.int 257 0), (.int 2 0), (.int 0 0), (.int 0 0), (.int 3 0), (.ref 418), (.bool true), (.int 181 0), (.ref 419), .none, (.ref 420), (.ref 421), (.ref 422), (.int 722 0), (.int 257 0), (.str "/claim/cut.py" 723)]), #[]⟩
noncomputable def ob426 (P : Params) : Obj := ⟨(.type "function"), none, (.func (fnG (e := (at1 20)) rfl "above" "above" 3 [] .none .none .none (.str "htmltree.tree" 552) none (.ref 423) .none 0)), #[]⟩
noncomputable def ob427 (P : Params) : Obj := ⟨(.type "tuple"), none, (.seq #[] 0), #[]⟩
noncomputable def ob428 (P : Params) : Obj := ⟨(.type "builtin_function_or_method"), none, (.fields #[(.builtin "type.__prepare__"), (.type "type")]), #[]⟩
noncomputable def ob429 (P : Params) : Obj := ⟨(.type "dict"), none, (.dict #[⟨(keyHash P "__module__"), (.str "__module__" 734), (.str "htmltree.builder" 725)⟩, ⟨(keyHash P "__qualname__"), (.str "__qualname__" 736), (.str "Builder" 735)⟩, ⟨(keyHash P "__firstlineno__"), (.str "__firstlineno__" 738), (.int 265 737)⟩, ⟨(keyHash P "__init__"), (.str "__init__" 747), (.ref 439)⟩, ⟨(keyHash P "error"), (.str "error" 755), (.ref 446)⟩, ⟨(keyHash P "to"), (.str "to" 763), (.ref 453)⟩, ⟨(keyHash P "use"), (.str "use" 772), (.ref 460)⟩, ⟨(keyHash P "process"), (.str "process" 780), (.ref 467)⟩, ⟨(keyHash P "feed"), (.str "feed" 788), (.ref 474)⟩, ⟨(keyHash P "adjusted"), (.str "adjusted" 795), (.ref 481)⟩, ⟨(keyHash P "is_foreign"), (.str "is_foreign" 802), (.ref 488)⟩, ⟨(keyHash P "__static_attributes__"), (.str "__static_attributes__" 824), (.ref 489)⟩] 12), #[]⟩
noncomputable def ob430 (P : Params) : Obj := ⟨(.type "tuple"), none, (.seq #[] 0), #[]⟩
noncomputable def ob431 (P : Params) : Obj := ⟨.none, none, (.fields #[(.int 267 0), (.int 4 0), (.ref 438), (.int 290 0), (.int 4 0), (.ref 445), (.int 293 0), (.int 4 0), (.ref 452), (.int 296 0), (.int 4 0), (.ref 459), (.int 299 0), (.int 4 0), (.ref 466), (.int 302 0), (.int 4 0), (.ref 473), (.int 305 0), (.int 4 0), (.ref 480), (.int 308 0), (.int 4 0), (.ref 487)]), #[]⟩
noncomputable def ob432 (P : Params) : Obj := ⟨(.type "code"), none, (.fields #[(.str "Builder" 729), (.str "Builder" 730), (.str "/claim/cut.py" 731), (.int 265 0), (.int 0 0), (.int 0 0), (.int 0 0), (.int 0 0), (.ref 428), (.bool false), (.int 181 0), (.ref 429), .none, .none, .none, .none, (.int 732 0), (.int 265 0), (.str "/claim/cut.py" 733)]), #[]⟩
noncomputable def ob433 (P : Params) : Obj := ⟨(.type "frame"), none, .plain, #[(some (.ref 430)), (some (.ref 3)), (some (.ref 427)), none, (some (.str "htmltree.builder" 725)), none, (some (.ref 0))]⟩
noncomputable def ob434 (P : Params) : Obj := ⟨(.type "tuple"), none, (.seq #[(.bool false)] 0), #[]⟩
noncomputable def ob435 (P : Params) : Obj := ⟨(.type "tuple"), none, (.seq #[] 0), #[]⟩
noncomputable def ob436 (P : Params) : Obj := ⟨.none, none, (.fields #[]), #[]⟩
noncomputable def ob437 (P : Params) : Obj := ⟨(.type "tuple"), none, (.seq #[(.str "self" 742), (.str "rules" 743), (.str "is_scripting" 744)] 0), #[]⟩
noncomputable def ob438 (P : Params) : Obj := ⟨(.type "tuple"), none, (.seq #[] 0), #[]⟩
noncomputable def ob439 (P : Params) : Obj := ⟨.none, none, (.func (fnG (e := (at2 22 0)) rfl "__init__" "Builder.__init__" 0 [] .none .none .none .none none .none .none 0)), #[]⟩
noncomputable def ob440 (P : Params) : Obj := ⟨(.type "code"), none, (.fields #[(.str "__init__" 739), (.str "Builder.__init__" 740), (.str "/claim/cut.py" 741), (.int 267 0), (.int 3 0), (.int 0 0), (.int 0 0), (.int 3 0), (.ref 433), (.bool true), (.int 181 0), (.ref 434), .none, (.ref 435), (.ref 436), (.ref 437), (.int 745 0), (.int 267 0), (.str "/claim/cut.py" 746)]), #[]⟩
noncomputable def ob441 (P : Params) : Obj := ⟨(.type "function"), none, (.func (fnG (e := (at2 22 0)) rfl "__init__" "Builder.__init__" 3 [] (.ref 432) .none .none (.str "htmltree.builder" 725) none (.ref 438) .none 0)), #[]⟩
noncomputable def ob442 (P : Params) : Obj := ⟨(.type "tuple"), none, (.seq #[] 0), #[]⟩
noncomputable def ob443 (P : Params) : Obj := ⟨.none, none, (.fields #[]), #[]⟩
noncomputable def ob444 (P : Params) : Obj := ⟨(.type "tuple"), none, (.seq #[(.str "self" 751), (.str "word" 752)] 0), #[]⟩
noncomputable def ob445 (P : Params) : Obj := ⟨(.type "tuple"), none, (.seq #[] 0), #[]⟩
noncomputable def ob446 (P : Params) : Obj := ⟨.none, none, (.func (fnG (e := (at2 22 1)) rfl "error" "Builder.error" 0 [] .none .none .none .none none .none .none 0)), #[]⟩
noncomputable def ob447 (P : Params) : Obj := ⟨(.type "code"), none, (.fields #[(.str "error" 748), (.str "Builder.error" 749), (.str "/claim/cut.py" 750), (.int 290 0), (.int 2 0), (.int 0 0), (.int 0 0), (.int 3 0), (.ref 440), (.bool true), (.int 181 0), (.ref 441), .none, (.ref 442), (.ref 443), (.ref 444), (.int 753 0), (.int 290 0), (.str "/claim/cut.py" 754)]), #[]⟩
noncomputable def ob448 (P : Params) : Obj := ⟨(.type "function"), none, (.func (fnG (e := (at2 22 1)) rfl "error" "Builder.error" 3 [] .none .none .none (.str "htmltree.builder" 725) none (.ref 445) .none 0)), #[]⟩
noncomputable def ob449 (P : Params) : Obj := ⟨(.type "tuple"), none, (.seq #[] 0), #[]⟩
noncomputable def ob450 (P : Params) : Obj := ⟨.none, none, (.fields #[]), #[]⟩
noncomputable def ob451 (P : Params) : Obj := ⟨(.type "tuple"), none, (.seq #[(.str "self" 759), (.str "mode" 760)] 0), #[]⟩
noncomputable def ob452 (P : Params) : Obj := ⟨(.type "tuple"), none, (.seq #[] 0), #[]⟩
noncomputable def ob453 (P : Params) : Obj := ⟨.none, none, (.func (fnG (e := (at2 22 2)) rfl "to" "Builder.to" 0 [] .none .none .none .none none .none .none 0)), #[]⟩
noncomputable def ob454 (P : Params) : Obj := ⟨(.type "code"), none, (.fields #[(.str "to" 756), (.str "Builder.to" 757), (.str "/claim/cut.py" 758), (.int 293 0), (.int 2 0), (.int 0 0), (.int 0 0), (.int 3 0), (.ref 447), (.bool true), (.int 181 0), (.ref 448), .none, (.ref 449), (.ref 450), (.ref 451), (.int 761 0), (.int 293 0), (.str "/claim/cut.py" 762)]), #[]⟩
noncomputable def ob455 (P : Params) : Obj := ⟨(.type "function"), none, (.func (fnG (e := (at2 22 2)) rfl "to" "Builder.to" 3 [] .none .none .none (.str "htmltree.builder" 725) none (.ref 452) .none 0)), #[]⟩
noncomputable def ob456 (P : Params) : Obj := ⟨(.type "tuple"), none, (.seq #[] 0), #[]⟩
noncomputable def ob457 (P : Params) : Obj := ⟨.none, none, (.fields #[]), #[]⟩
noncomputable def ob458 (P : Params) : Obj := ⟨(.type "tuple"), none, (.seq #[(.str "self" 767), (.str "name" 768), (.str "token" 769)] 0), #[]⟩
noncomputable def ob459 (P : Params) : Obj := ⟨(.type "tuple"), none, (.seq #[] 0), #[]⟩
noncomputable def ob460 (P : Params) : Obj := ⟨.none, none, (.func (fnG (e := (at2 22 3)) rfl "use" "Builder.use" 0 [] .none .none .none .none none .none .none 0)), #[]⟩
noncomputable def ob461 (P : Params) : Obj := ⟨(.type "code"), none, (.fields #[(.str "use" 764), (.str "Builder.use" 765), (.str "/claim/cut.py" 766), (.int 296 0), (.int 3 0), (.int 0 0), (.int 0 0), (.int 3 0), (.ref 454), (.bool true), (.int 181 0), (.ref 455), .none, (.ref 456), (.ref 457), (.ref 458), (.int 770 0), (.int 296 0), (.str "/claim/cut.py" 771)]), #[]⟩
noncomputable def ob462 (P : Params) : Obj := ⟨(.type "function"), none, (.func (fnG (e := (at2 22 3)) rfl "use" "Builder.use" 3 [] .none .none .none (.str "htmltree.builder" 725) none (.ref 459) .none 0)), #[]⟩
noncomputable def ob463 (P : Params) : Obj := ⟨(.type "tuple"), none, (.seq #[] 0), #[]⟩
noncomputable def ob464 (P : Params) : Obj := ⟨.none, none, (.fields #[]), #[]⟩
noncomputable def ob465 (P : Params) : Obj := ⟨(.type "tuple"), none, (.seq #[(.str "self" 776), (.str "token" 777)] 0), #[]⟩
noncomputable def ob466 (P : Params) : Obj := ⟨(.type "tuple"), none, (.seq #[] 0), #[]⟩
noncomputable def ob467 (P : Params) : Obj := ⟨.none, none, (.func (fnG (e := (at2 22 4)) rfl "process" "Builder.process" 0 [] .none .none .none .none none .none .none 0)), #[]⟩
noncomputable def ob468 (P : Params) : Obj := ⟨(.type "code"), none, (.fields #[(.str "process" 773), (.str "Builder.process" 774), (.str "/claim/cut.py" 775), (.int 299 0), (.int 2 0), (.int 0 0), (.int 0 0), (.int 3 0), (.ref 461), (.bool true), (.int 181 0), (.ref 462), .none, (.ref 463), (.ref 464), (.ref 465), (.int 778 0), (.int 299 0), (.str "/claim/cut.py" 779)]), #[]⟩
noncomputable def ob469 (P : Params) : Obj := ⟨(.type "function"), none, (.func (fnG (e := (at2 22 4)) rfl "process" "Builder.process" 3 [] .none .none .none (.str "htmltree.builder" 725) none (.ref 466) .none 0)), #[]⟩
noncomputable def ob470 (P : Params) : Obj := ⟨(.type "tuple"), none, (.seq #[] 0), #[]⟩
noncomputable def ob471 (P : Params) : Obj := ⟨.none, none, (.fields #[]), #[]⟩
noncomputable def ob472 (P : Params) : Obj := ⟨(.type "tuple"), none, (.seq #[(.str "self" 784), (.str "token" 785)] 0), #[]⟩
noncomputable def ob473 (P : Params) : Obj := ⟨(.type "tuple"), none, (.seq #[] 0), #[]⟩
noncomputable def ob474 (P : Params) : Obj := ⟨.none, none, (.func (fnG (e := (at2 22 5)) rfl "feed" "Builder.feed" 0 [] .none .none .none .none none .none .none 0)), #[]⟩
noncomputable def ob475 (P : Params) : Obj := ⟨(.type "code"), none, (.fields #[(.str "feed" 781), (.str "Builder.feed" 782), (.str "/claim/cut.py" 783), (.int 302 0), (.int 2 0), (.int 0 0), (.int 0 0), (.int 3 0), (.ref 468), (.bool true), (.int 181 0), (.ref 469), .none, (.ref 470), (.ref 471), (.ref 472), (.int 786 0), (.int 302 0), (.str "/claim/cut.py" 787)]), #[]⟩
noncomputable def ob476 (P : Params) : Obj := ⟨(.type "function"), none, (.func (fnG (e := (at2 22 5)) rfl "feed" "Builder.feed" 3 [] .none .none .none (.str "htmltree.builder" 725) none (.ref 473) .none 0)), #[]⟩
noncomputable def ob477 (P : Params) : Obj := ⟨(.type "tuple"), none, (.seq #[] 0), #[]⟩
noncomputable def ob478 (P : Params) : Obj := ⟨.none, none, (.fields #[]), #[]⟩
noncomputable def ob479 (P : Params) : Obj := ⟨(.type "tuple"), none, (.seq #[(.str "self" 792)] 0), #[]⟩
noncomputable def ob480 (P : Params) : Obj := ⟨(.type "tuple"), none, (.seq #[] 0), #[]⟩
noncomputable def ob481 (P : Params) : Obj := ⟨.none, none, (.func (fnG (e := (at2 22 6)) rfl "adjusted" "Builder.adjusted" 0 [] .none .none .none .none none .none .none 0)), #[]⟩
noncomputable def ob482 (P : Params) : Obj := ⟨(.type "code"), none, (.fields #[(.str "adjusted" 789), (.str "Builder.adjusted" 790), (.str "/claim/cut.py" 791), (.int 305 0), (.int 1 0), (.int 0 0), (.int 0 0), (.int 3 0), (.ref 475), (.bool true), (.int 181 0), (.ref 476), .none, (.ref 477), (.ref 478), (.ref 479), (.int 793 0), (.int 305 0), (.str "/claim/cut.py" 794)]), #[]⟩
noncomputable def ob483 (P : Params) : Obj := ⟨(.type "function"), none, (.func (fnG (e := (at2 22 6)) rfl "adjusted" "Builder.adjusted" 3 [] .none .none .none (.str "htmltree.builder" 725) none (.ref 480) .none 0)), #[]⟩
noncomputable def ob484 (P : Params) : Obj := ⟨(.type "tuple"), none, (.seq #[] 0), #[]⟩
noncomputable def ob485 (P : Params) : Obj := ⟨.none, none, (.fields #[]), #[]⟩
noncomputable def ob486 (P : Params) : Obj := ⟨(.type "tuple"), none, (.seq #[(.str "self" 799)] 0), #[]⟩
noncomputable def ob487 (P : Params) : Obj := ⟨(.type "tuple"), none, (.seq #[] 0), #[]⟩
noncomputable def ob488 (P : Params) : Obj := ⟨.none, none, (.func (fnG (e := (at2 22 7)) rfl "is_foreign" "Builder.is_foreign" 0 [] .none .none .none .none none .none .none 0)), #[]⟩
noncomputable def ob489 (P : Params) : Obj := ⟨(.type "code"), none, (.fields #[(.str "is_foreign" 796), (.str "Builder.is_foreign" 797), (.str "/claim/cut.py" 798), (.int 308 0), (.int 1 0), (.int 0 0), (.int 0 0), (.int 3 0), (.ref 482), (.bool true), (.int 181 0), (.ref 483), .none, (.ref 484), (.ref 485), (.ref 486), (.int 800 0), (.int 308 0), (.str "/claim/cut.py" 801)]), #[]⟩
noncomputable def ob490 (P : Params) : Obj := ⟨(.type "function"), none, (.func (fnG (e := (at2 22 7)) rfl "is_foreign" "Builder.is_foreign" 3 [] .none .none .none (.str "htmltree.builder" 725) none (.ref 487) .none 0)), #[]⟩
noncomputable def ob491 (P : Params) : Obj := ⟨(.type "tuple"), none, (.seq #[(.str "context" 803), (.str "errors" 804), (.str "form" 805), (.str "formatting" 806), (.str "head" 807), (.str "is_acknowledged" 808), (.str "is_done" 809), (.str "is_foster" 810), (.str "is_frameset_ok" 811), (.str "is_scripting" 812), (.str "is_skipping" 813), (.str "mode" 814), (.str "modes" 815), (.str "original" 816), (.str "owners" 817), (.str "pending" 818), (.str "quirks" 819), (.str "rules" 820), (.str "stack" 821), (.str "tree" 822), (.str "wish" 823)] 0), #[]⟩
noncomputable def ob492 (P : Params) : Obj := ⟨(.type "dict"), none, (.dict #[⟨(keyHash P "__module__"), (.str "__module__" 734), (.str "htmltree.builder" 725)⟩, ⟨(keyHash P "__firstlineno__"), (.str "__firstlineno__" 738), (.int 265 737)⟩, ⟨(keyHash P "__init__"), (.str "__init__" 747), (.ref 439)⟩, ⟨(keyHash P "error"), (.str "error" 755), (.ref 446)⟩, ⟨(keyHash P "to"), (.str "to" 763), (.ref 453)⟩, ⟨(keyHash P "use"), (.str "use" 772), (.ref 460)⟩, ⟨(keyHash P "process"), (.str "process" 780), (.ref 467)⟩, ⟨(keyHash P "feed"), (.str "feed" 788), (.ref 474)⟩, ⟨(keyHash P "adjusted"), (.str "adjusted" 795), (.ref 481)⟩, ⟨(keyHash P "is_foreign"), (.str "is_foreign" 802), (.ref 488)⟩, ⟨(keyHash P "__static_attributes__"), (.str "__static_attributes__" 824), (.ref 489)⟩, ⟨(keyHash P "__dict__"), (.str "__dict__" 826), (.ref 492)⟩, ⟨(keyHash P "__weakref__"), (.str "__weakref__" 828), (.ref 493)⟩, ⟨(keyHash P "__doc__"), (.str "__doc__" 829), .none⟩] 4), #[]⟩
noncomputable def ob493 (P : Params) : Obj := ⟨(.type "type"), none, (.cls ⟨"Builder", [(.type "object")], [(.ref 491), (.type "object")], 490, "Builder", true, [], [], false, none, false⟩), #[none, none, (some (.str "Builder" 727)), (some (.str "Builder" 735)), (some (.builtin "object.__new__")), (some (.bool true))]⟩
noncomputable def ob494 (P : Params) : Obj := ⟨(.type "getset_descriptor"), none, (.fields #[(.str "__dict__" 825), (.ref 491), (.builtin "function.__dict__"), (.builtin "function.__dict__#set")]), #[]⟩
noncomputable def ob495 (P : Params) : Obj := ⟨(.type "getset_descriptor"), none, (.fields #[(.str "__weakref__" 827), (.ref 491), (.builtin "ExceptionGroup.__weakref__"), .none]), #[]⟩
noncomputable def ob496 (P : Params) : Obj := ⟨(.type "super"), none, (.fields #[(.ref 491), (.ref 491), (.ref 491)]), #[]⟩
noncomputable def ob497 (P : Params) : Obj := ⟨(.type "builtin_function_or_method"), none, (.fields #[(.builtin "object.__init_subclass__"), (.ref 491)]), #[]⟩
noncomputable def ob498 (P : Params) : Obj := ⟨(.type "tuple"), none, (.seq #[] 0), #[]⟩
noncomputable def ob499 (P : Params) : Obj := ⟨.none, none, (.fields #[]), #[]⟩
noncomputable def ob500 (P : Params) : Obj := ⟨(.type "tuple"), none, (.seq #[(.str "script" 837), (.str "place" 838), (.str "usual" 839)] 0), #[]⟩
noncomputable def ob501 (P : Params) : Obj := ⟨(.type "tuple"), none, (.seq #[] 0), #[]⟩
noncomputable def ob502 (P : Params) : Obj := ⟨.none, none, (.func (fnG (e := (at1 24)) rfl "_law_digit" "_law_digit" 0 [] .none .none .none .none none .none .none 0)), #[]⟩
noncomputable def ob503 (P : Params) : Obj := ⟨(.type "code"), none, (.fields #[(.str "_law_digit" 834), (.str "_law_digit" 835), (.str "/claim/cut.py" 836), (.int 311 0), (.int 2 0), (.int 0 0), (.int 0 0), (.int 3 0), (.ref 496), (.bool true), (.int 181 0), (.ref 497), .none, (.ref 498), (.ref 499), (.ref 500), (.int 840 0), (.int 311 0), (.str "/claim/cut.py" 841)]), #[]⟩
noncomputable def ob504 (P : Params) : Obj := ⟨(.type "function"), none, (.func (fnG (e := (at1 24)) rfl "_law_digit" "_law_digit" 3 [] .none .none .none (.str "law_pb0145_01" 832) none (.ref 501) .none 0)), #[]⟩
noncomputable def ob505 (P : Params) : Obj := ⟨(.type "tuple"), none, (.seq #[] 0), #[]⟩
noncomputable def ob506 (P : Params) : Obj := ⟨.none, none, (.fields #[]), #[]⟩
noncomputable def ob507 (P : Params) : Obj := ⟨(.type "tuple"), none, (.seq #[(.str "first" 846), (.str "second" 847), (.str "third" 848)] 0), #[]⟩
noncomputable def ob508 (P : Params) : Obj := ⟨(.type "tuple"), none, (.seq #[] 0), #[]⟩
noncomputable def ob509 (P : Params) : Obj := ⟨.none, none, (.func (fnG (e := (at1 25)) rfl "_law_pool" "_law_pool" 0 [] .none .none .none .none none .none .none 0)), #[]⟩
noncomputable def ob510 (P : Params) : Obj := ⟨(.type "code"), none, (.fields #[(.str "_law_pool" 843), (.str "_law_pool" 844), (.str "/claim/cut.py" 845), (.int 314 0), (.int 0 0), (.int 0 0), (.int 0 0), (.int 3 0), (.ref 503), (.bool true), (.int 181 0), (.ref 504), .none, (.ref 505), (.ref 506), (.ref 507), (.int 849 0), (.int 314 0), (.str "/claim/cut.py" 850)]), #[]⟩
noncomputable def ob511 (P : Params) : Obj := ⟨(.type "function"), none, (.func (fnG (e := (at1 25)) rfl "_law_pool" "_law_pool" 3 [] .none .none .none (.str "law_pb0145_01" 832) none (.ref 508) .none 0)), #[]⟩
noncomputable def ob512 (P : Params) : Obj := ⟨(.type "tuple"), none, (.seq #[] 0), #[]⟩
noncomputable def ob513 (P : Params) : Obj := ⟨.none, none, (.fields #[]), #[]⟩
noncomputable def ob514 (P : Params) : Obj := ⟨(.type "tuple"), none, (.seq #[(.str "first" 855)] 0), #[]⟩
noncomputable def ob515 (P : Params) : Obj := ⟨(.type "tuple"), none, (.seq #[] 0), #[]⟩
noncomputable def ob516 (P : Params) : Obj := ⟨.none, none, (.func (fnG (e := (at1 26)) rfl "_law_enders" "_law_enders" 0 [] .none .none .none .none none .none .none 0)), #[]⟩
noncomputable def ob517 (P : Params) : Obj := ⟨(.type "code"), none, (.fields #[(.str "_law_enders" 852), (.str "_law_enders" 853), (.str "/claim/cut.py" 854), (.int 319 0), (.int 0 0), (.int 0 0), (.int 0 0), (.int 3 0), (.ref 510), (.bool true), (.int 181 0), (.ref 511), .none, (.ref 512), (.ref 513), (.ref 514), (.int 856 0), (.int 319 0), (.str "/claim/cut.py" 857)]), #[]⟩
noncomputable def ob518 (P : Params) : Obj := ⟨(.type "function"), none, (.func (fnG (e := (at1 26)) rfl "_law_enders" "_law_enders" 3 [] .none .none .none (.str "law_pb0145_01" 832) none (.ref 515) .none 0)), #[]⟩
noncomputable def ob519 (P : Params) : Obj := ⟨(.type "tuple"), none, (.seq #[] 0), #[]⟩
noncomputable def ob520 (P : Params) : Obj := ⟨.none, none, (.fields #[]), #[]⟩
noncomputable def ob521 (P : Params) : Obj := ⟨(.type "tuple"), none, (.seq #[] 0), #[]⟩
noncomputable def ob522 (P : Params) : Obj := ⟨(.type "tuple"), none, (.seq #[] 0), #[]⟩
noncomputable def ob523 (P : Params) : Obj := ⟨.none, none, (.func (fnG (e := (at1 27)) rfl "_law_specials" "_law_specials" 0 [] .none .none .none .none none .none .none 0)), #[]⟩
noncomputable def ob524 (P : Params) : Obj := ⟨(.type "code"), none, (.fields #[(.str "_law_specials" 859), (.str "_law_specials" 860), (.str "/claim/cut.py" 861), (.int 322 0), (.int 0 0), (.int 0 0), (.int 0 0), (.int 3 0), (.ref 517), (.bool true), (.int 181 0), (.ref 518), .none, (.ref 519), (.ref 520), (.ref 521), (.int 862 0), (.int 322 0), (.str "/claim/cut.py" 863)]), #[]⟩
noncomputable def ob525 (P : Params) : Obj := ⟨(.type "function"), none, (.func (fnG (e := (at1 27)) rfl "_law_specials" "_law_specials" 3 [] .none .none .none (.str "law_pb0145_01" 832) none (.ref 522) .none 0)), #[]⟩
noncomputable def ob526 (P : Params) : Obj := ⟨(.type "tuple"), none, (.seq #[] 0), #[]⟩
noncomputable def ob527 (P : Params) : Obj := ⟨.none, none, (.fields #[]), #[]⟩
noncomputable def ob528 (P : Params) : Obj := ⟨(.type "tuple"), none, (.seq #[] 0), #[]⟩
noncomputable def ob529 (P : Params) : Obj := ⟨(.type "tuple"), none, (.seq #[] 0), #[]⟩
noncomputable def ob530 (P : Params) : Obj := ⟨.none, none, (.func (fnG (e := (at1 28)) rfl "_law_implied" "_law_implied" 0 [] .none .none .none .none none .none .none 0)), #[]⟩
noncomputable def ob531 (P : Params) : Obj := ⟨(.type "code"), none, (.fields #[(.str "_law_implied" 865), (.str "_law_implied" 866), (.str "/claim/cut.py" 867), (.int 324 0), (.int 0 0), (.int 0 0), (.int 0 0), (.int 3 0), (.ref 524), (.bool true), (.int 181 0), (.ref 525), .none, (.ref 526), (.ref 527), (.ref 528), (.int 868 0), (.int 324 0), (.str "/claim/cut.py" 869)]), #[]⟩
noncomputable def ob532 (P : Params) : Obj := ⟨(.type "function"), none, (.func (fnG (e := (at1 28)) rfl "_law_implied" "_law_implied" 3 [] .none .none .none (.str "law_pb0145_01" 832) none (.ref 529) .none 0)), #[]⟩
noncomputable def ob533 (P : Params) : Obj := ⟨(.type "tuple"), none, (.seq #[] 0), #[]⟩
noncomputable def ob534 (P : Params) : Obj := ⟨.none, none, (.fields #[]), #[]⟩
noncomputable def ob535 (P : Params) : Obj := ⟨.none, none, (.func (fnG (e := (at1 29)) rfl "_law_other" "_law_other" 0 [] .none .none .none .none none .none .none 0)), #[]⟩
noncomputable def ob536 (P : Params) : Obj := ⟨(.type "code"), none, (.fields #[(.str "_law_other" 871), (.str "_law_other" 872), (.str "/claim/cut.py" 873), (.int 326 0), (.int 3 0), (.int 0 0), (.int 0 0), (.int 3 0), (.ref 531), (.bool true), (.int 181 0), (.ref 532), .none, .none, .none, (.ref 533), (.int 874 0), (.int 326 0), (.str "/claim/cut.py" 875)]), #[]⟩
noncomputable def ob537 (P : Params) : Obj := ⟨(.type "function"), none, (.func (fnG (e := (at1 29)) rfl "_law_other" "_law_other" 3 [] .none .none .none (.str "law_pb0145_01" 832) none (.ref 534) .none 0)), #[]⟩
noncomputable def tr_5 (P : Params) : BT := (.node (boot_o_0 P) (.node (boot_o_1 P) (.node (ob418 P) (.node (boot_o_7 P) (.node (ob6 P) (.node (ob22 P) (.node (ob56 P) (.node (ob120 P) (.node (ob253 P) (.node (ob513 P) .nil .nil) .nil) (.node (ob383 P) .nil .nil)) (.node (ob187 P) (.node (ob319 P) .nil .nil) (.node (ob449 P) .nil .nil))) (.node (ob88 P) (.node (ob155 P) (.node (ob285 P) .nil .nil) (.node (ob415 P) .nil .nil)) (.node (ob221 P) (.node (ob351 P) .nil .nil) (.node (ob481 P) .nil .nil)))) (.node (ob40 P) (.node (ob72 P) (.node (ob136 P) (.node (ob269 P) (.node (ob529 P) .nil .nil) .nil) (.node (ob399 P) .nil .nil)) (.node (ob203 P) (.node (ob335 P) .nil .nil) (.node (ob465 P) .nil .nil))) (.node (ob104 P) (.node (ob171 P) (.node (ob303 P) .nil .nil) (.node (ob433 P) .nil .nil)) (.node (ob237 P) (.node (ob367 P) .nil .nil) (.node (ob497 P) .nil .nil))))) (.node (ob14 P) (.node (ob32 P) (.node (ob64 P) (.node (ob128 P) (.node (ob261 P) (.node (ob521 P) .nil .nil) .nil) (.node (ob391 P) .nil .nil)) (.node (ob195 P) (.node (ob327 P) .nil .nil) (.node (ob457 P) .nil .nil))) (.node (ob96 P) (.node (ob163 P) (.node (ob293 P) .nil .nil) (.node (ob425 P) .nil .nil)) (.node (ob229 P) (.node (ob359 P) .nil .nil) (.node (ob489 P) .nil .nil)))) (.node (ob48 P) (.node (ob80 P) (.node (ob144 P) (.node (ob277 P) (.node (ob537 P) .nil .nil) .nil) (.node (ob407 P) .nil .nil)) (.node (ob211 P) (.node (ob343 P) .nil .nil) (.node (ob473 P) .nil .nil))) (.node (ob112 P) (.node (ob179 P) (.node (ob311 P) .nil .nil) (.node (ob441 P) .nil .nil)) (.node (ob245 P) (.node (ob375 P) .nil .nil) (.node (ob505 P) .nil .nil)))))) (.node (ob0 P) (.node (ob10 P) (.node (ob26 P) (.node (ob60 P) (.node (ob124 P) (.node (ob257 P) (.node (ob517 P) .nil .nil) .nil) (.node (ob387 P) .nil .nil)) (.node (ob191 P) (.node (ob323 P) .nil .nil) (.node (ob453 P) .nil .nil))) (.node (ob92 P) (.node (ob159 P) (.node (ob289 P) .nil .nil) (.node (ob421 P) .nil .nil)) (.node (ob225 P) (.node (ob355 P) .nil .nil) (.node (ob485 P) .nil .nil)))) (.node (ob44 P) (.node (ob76 P) (.node (ob140 P) (.node (ob273 P) (.node (ob533 P) .nil .nil) .nil) (.node (ob403 P) .nil .nil)) (.node (ob207 P) (.node (ob339 P) .nil .nil) (.node (ob469 P) .nil .nil))) (.node (ob108 P) (.node (ob175 P) (.node (ob307 P) .nil .nil) (.node (ob437 P) .nil .nil)) (.node (ob241 P) (.node (ob371 P) .nil .nil) (.node (ob501 P) .nil .nil))))) (.node (ob18 P) (.node (ob36 P) (.node (ob68 P) (.node (ob132 P) (.node (ob265 P) (.node (ob525 P) .nil .nil) .nil) (.node (ob395 P) .nil .nil)) (.node (ob199 P) (.node (ob331 P) .nil .nil) (.node (ob461 P) .nil .nil))) (.node (ob100 P) (.node (ob167 P) (.node (ob297 P) .nil .nil) (.node (ob429 P) .nil .nil)) (.node (ob233 P) (.node (ob363 P) .nil .nil) (.node (ob493 P) .nil .nil)))) (.node (ob52 P) (.node (ob84 P) (.node (ob148 P) (.node (ob281 P) .nil .nil) (.node (ob411 P) .nil .nil)) (.node (ob217 P) (.node (ob347 P) .nil .nil) (.node (ob477 P) .nil .nil))) (.node (ob116 P) (.node (ob183 P) (.node (ob315 P) .nil .nil) (.node (ob445 P) .nil .nil)) (.node (ob249 P) (.node (ob379 P) .nil .nil) (.node (ob509 P) .nil .nil))))))) (.node (boot_o_5 P) (.node (boot_o_9 P) (.node (ob8 P) (.node (ob24 P) (.node (ob58 P) (.node (ob122 P) (.node (ob255 P) (.node (ob515 P) .nil .nil) .nil) (.node (ob385 P) .nil .nil)) (.node (ob189 P) (.node (ob321 P) .nil .nil) (.node (ob451 P) .nil .nil))) (.node (ob90 P) (.node (ob157 P) (.node (ob287 P) .nil .nil) (.node (ob417 P) .nil .nil)) (.node (ob223 P) (.node (ob353 P) .nil .nil) (.node (ob483 P) .nil .nil)))) (.node (ob42 P) (.node (ob74 P) (.node (ob138 P) (.node (ob271 P) (.node (ob531 P) .nil .nil) .nil) (.node (ob401 P) .nil .nil)) (.node (ob205 P) (.node (ob337 P) .nil .nil) (.node (ob467 P) .nil .nil))) (.node (ob106 P) (.node (ob173 P) (.node (ob305 P) .nil .nil) (.node (ob435 P) .nil .nil)) (.node (ob239 P) (.node (ob369 P) .nil .nil) (.node (ob499 P) .nil .nil))))) (.node (ob16 P) (.node (ob34 P) (.node (ob66 P) (.node (ob130 P) (.node (ob263 P) (.node (ob523 P) .nil .nil) .nil) (.node (ob393 P) .nil .nil)) (.node (ob197 P) (.node (ob329 P) .nil .nil) (.node (ob459 P) .nil .nil))) (.node (ob98 P) (.node (ob165 P) (.node (ob295 P) .nil .nil) (.node (ob427 P) .nil .nil)) (.node (ob231 P) (.node (ob361 P) .nil .nil) (.node (ob491 P) .nil .nil)))) (.node (ob50 P) (.node (ob82 P) (.node (ob146 P) (.node (ob279 P) .nil .nil) (.node (ob409 P) .nil .nil)) (.node (ob215 P) (.node (ob345 P) .nil .nil) (.node (ob475 P) .nil .nil))) (.node (ob114 P) (.node (ob181 P) (.node (ob313 P) .nil .nil) (.node (ob443 P) .nil .nil)) (.node (ob247 P) (.node (ob377 P) .nil .nil) (.node (ob507 P) .nil .nil)))))) (.node (ob2 P) (.node (ob12 P) (.node (ob30 P) (.node (ob62 P) (.node (ob126 P) (.node (ob259 P) (.node (ob519 P) .nil .nil) .nil) (.node (ob389 P) .nil .nil)) (.node (ob193 P) (.node (ob325 P) .nil .nil) (.node (ob455 P) .nil .nil))) (.node (ob94 P) (.node (ob161 P) (.node (ob291 P) .nil .nil) (.node (ob423 P) .nil .nil)) (.node (ob227 P) (.node (ob357 P) .nil .nil) (.node (ob487 P) .nil .nil)))) (.node (ob46 P) (.node (ob78 P) (.node (ob142 P) (.node (ob275 P) (.node (ob535 P) .nil .nil) .nil) (.node (ob405 P) .nil .nil)) (.node (ob209 P) (.node (ob341 P) .nil .nil) (.node (ob471 P) .nil .nil))) (.node (ob110 P) (.node (ob177 P) (.node (ob309 P) .nil .nil) (.node (ob439 P) .nil .nil)) (.node (ob243 P) (.node (ob373 P) .nil .nil) (.node (ob503 P) .nil .nil))))) (.node (ob20 P) (.node (ob38 P) (.node (ob70 P) (.node (ob134 P) (.node (ob267 P) (.node (ob527 P) .nil .nil) .nil) (.node (ob397 P) .nil .nil)) (.node (ob201 P) (.node (ob333 P) .nil .nil) (.node (ob463 P) .nil .nil))) (.node (ob102 P) (.node (ob169 P) (.node (ob301 P) .nil .nil) (.node (ob431 P) .nil .nil)) (.node (ob235 P) (.node (ob365 P) .nil .nil) (.node (ob495 P) .nil .nil)))) (.node (ob54 P) (.node (ob86 P) (.node (ob153 P) (.node (ob283 P) .nil .nil) (.node (ob413 P) .nil .nil)) (.node (ob219 P) (.node (ob349 P) .nil .nil) (.node (ob479 P) .nil .nil))) (.node (ob118 P) (.node (ob185 P) (.node (ob317 P) .nil .nil) (.node (ob447 P) .nil .nil)) (.node (ob251 P) (.node (ob381 P) .nil .nil) (.node (ob511 P) .nil .nil)))))))) (.node (ob149 P) (.node (boot_o_4 P) (.node (boot_o_8 P) (.node (ob7 P) (.node (ob23 P) (.node (ob57 P) (.node (ob121 P) (.node (ob254 P) (.node (ob514 P) .nil .nil) .nil) (.node (ob384 P) .nil .nil)) (.node (ob188 P) (.node (ob320 P) .nil .nil) (.node (ob450 P) .nil .nil))) (.node (ob89 P) (.node (ob156 P) (.node (ob286 P) .nil .nil) (.node (ob416 P) .nil .nil)) (.node (ob222 P) (.node (ob352 P) .nil .nil) (.node (ob482 P) .nil .nil)))) (.node (ob41 P) (.node (ob73 P) (.node (ob137 P) (.node (ob270 P) (.node (ob530 P) .nil .nil) .nil) (.node (ob400 P) .nil .nil)) (.node (ob204 P) (.node (ob336 P) .nil .nil) (.node (ob466 P) .nil .nil))) (.node (ob105 P) (.node (ob172 P) (.node (ob304 P) .nil .nil) (.node (ob434 P) .nil .nil)) (.node (ob238 P) (.node (ob368 P) .nil .nil) (.node (ob498 P) .nil .nil))))) (.node (ob15 P) (.node (ob33 P) (.node (ob65 P) (.node (ob129 P) (.node (ob262 P) (.node (ob522 P) .nil .nil) .nil) (.node (ob392 P) .nil .nil)) (.node (ob196 P) (.node (ob328 P) .nil .nil) (.node (ob458 P) .nil .nil))) (.node (ob97 P) (.node (ob164 P) (.node (ob294 P) .nil .nil) (.node (ob426 P) .nil .nil)) (.node (ob230 P) (.node (ob360 P) .nil .nil) (.node (ob490 P) .nil .nil)))) (.node (ob49 P) (.node (ob81 P) (.node (ob145 P) (.node (ob278 P) .nil .nil) (.node (ob408 P) .nil .nil)) (.node (ob212 P) (.node (ob344 P) .nil .nil) (.node (ob474 P) .nil .nil))) (.node (ob113 P) (.node (ob180 P) (.node (ob312 P) .nil .nil) (.node (ob442 P) .nil .nil)) (.node (ob246 P) (.node (ob376 P) .nil .nil) (.node (ob506 P) .nil .nil)))))) (.node (ob419 P) (.node (ob11 P) (.node (ob29 P) (.node (ob61 P) (.node (ob125 P) (.node (ob258 P) (.node (ob518 P) .nil .nil) .nil) (.node (ob388 P) .nil .nil)) (.node (ob192 P) (.node (ob324 P) .nil .nil) (.node (ob454 P) .nil .nil))) (.node (ob93 P) (.node (ob160 P) (.node (ob290 P) .nil .nil) (.node (ob422 P) .nil .nil)) (.node (ob226 P) (.node (ob356 P) .nil .nil) (.node (ob486 P) .nil .nil)))) (.node (ob45 P) (.node (ob77 P) (.node (ob141 P) (.node (ob274 P) (.node (ob534 P) .nil .nil) .nil) (.node (ob404 P) .nil .nil)) (.node (ob208 P) (.node (ob340 P) .nil .nil) (.node (ob470 P) .nil .nil))) (.node (ob109 P) (.node (ob176 P) (.node (ob308 P) .nil .nil) (.node (ob438 P) .nil .nil)) (.node (ob242 P) (.node (ob372 P) .nil .nil) (.node (ob502 P) .nil .nil))))) (.node (ob19 P) (.node (ob37 P) (.node (ob69 P) (.node (ob133 P) (.node (ob266 P) (.node (ob526 P) .nil .nil) .nil) (.node (ob396 P) .nil .nil)) (.node (ob200 P) (.node (ob332 P) .nil .nil) (.node (ob462 P) .nil .nil))) (.node (ob101 P) (.node (ob168 P) (.node (ob298 P) .nil .nil) (.node (ob430 P) .nil .nil)) (.node (ob234 P) (.node (ob364 P) .nil .nil) (.node (ob494 P) .nil .nil)))) (.node (ob53 P) (.node (ob85 P) (.node (ob152 P) (.node (ob282 P) .nil .nil) (.node (ob412 P) .nil .nil)) (.node (ob218 P) (.node (ob348 P) .nil .nil) (.node (ob478 P) .nil .nil))) (.node (ob117 P) (.node (ob184 P) (.node (ob316 P) .nil .nil) (.node (ob446 P) .nil .nil)) (.node (ob250 P) (.node (ob380 P) .nil .nil) (.node (ob510 P) .nil .nil))))))) (.node (boot_o_6 P) (.node (boot_o_10 P) (.node (ob9 P) (.node (ob25 P) (.node (ob59 P) (.node (ob123 P) (.node (ob256 P) (.node (ob516 P) .nil .nil) .nil) (.node (ob386 P) .nil .nil)) (.node (ob190 P) (.node (ob322 P) .nil .nil) (.node (ob452 P) .nil .nil))) (.node (ob91 P) (.node (ob158 P) (.node (ob288 P) .nil .nil) (.node (ob420 P) .nil .nil)) (.node (ob224 P) (.node (ob354 P) .nil .nil) (.node (ob484 P) .nil .nil)))) (.node (ob43 P) (.node (ob75 P) (.node (ob139 P) (.node (ob272 P) (.node (ob532 P) .nil .nil) .nil) (.node (ob402 P) .nil .nil)) (.node (ob206 P) (.node (ob338 P) .nil .nil) (.node (ob468 P) .nil .nil))) (.node (ob107 P) (.node (ob174 P) (.node (ob306 P) .nil .nil) (.node (ob436 P) .nil .nil)) (.node (ob240 P) (.node (ob370 P) .nil .nil) (.node (ob500 P) .nil .nil))))) (.node (ob17 P) (.node (ob35 P) (.node (ob67 P) (.node (ob131 P) (.node (ob264 P) (.node (ob524 P) .nil .nil) .nil) (.node (ob394 P) .nil .nil)) (.node (ob198 P) (.node (ob330 P) .nil .nil) (.node (ob460 P) .nil .nil))) (.node (ob99 P) (.node (ob166 P) (.node (ob296 P) .nil .nil) (.node (ob428 P) .nil .nil)) (.node (ob232 P) (.node (ob362 P) .nil .nil) (.node (ob492 P) .nil .nil)))) (.node (ob51 P) (.node (ob83 P) (.node (ob147 P) (.node (ob280 P) .nil .nil) (.node (ob410 P) .nil .nil)) (.node (ob216 P) (.node (ob346 P) .nil .nil) (.node (ob476 P) .nil .nil))) (.node (ob115 P) (.node (ob182 P) (.node (ob314 P) .nil .nil) (.node (ob444 P) .nil .nil)) (.node (ob248 P) (.node (ob378 P) .nil .nil) (.node (ob508 P) .nil .nil)))))) (.node (ob3 P) (.node (ob13 P) (.node (ob31 P) (.node (ob63 P) (.node (ob127 P) (.node (ob260 P) (.node (ob520 P) .nil .nil) .nil) (.node (ob390 P) .nil .nil)) (.node (ob194 P) (.node (ob326 P) .nil .nil) (.node (ob456 P) .nil .nil))) (.node (ob95 P) (.node (ob162 P) (.node (ob292 P) .nil .nil) (.node (ob424 P) .nil .nil)) (.node (ob228 P) (.node (ob358 P) .nil .nil) (.node (ob488 P) .nil .nil)))) (.node (ob47 P) (.node (ob79 P) (.node (ob143 P) (.node (ob276 P) (.node (ob536 P) .nil .nil) .nil) (.node (ob406 P) .nil .nil)) (.node (ob210 P) (.node (ob342 P) .nil .nil) (.node (ob472 P) .nil .nil))) (.node (ob111 P) (.node (ob178 P) (.node (ob310 P) .nil .nil) (.node (ob440 P) .nil .nil)) (.node (ob244 P) (.node (ob374 P) .nil .nil) (.node (ob504 P) .nil .nil))))) (.node (ob21 P) (.node (ob39 P) (.node (ob71 P) (.node (ob135 P) (.node (ob268 P) (.node (ob528 P) .nil .nil) .nil) (.node (ob398 P) .nil .nil)) (.node (ob202 P) (.node (ob334 P) .nil .nil) (.node (ob464 P) .nil .nil))) (.node (ob103 P) (.node (ob170 P) (.node (ob302 P) .nil .nil) (.node (ob432 P) .nil .nil)) (.node (ob236 P) (.node (ob366 P) .nil .nil) (.node (ob496 P) .nil .nil)))) (.node (ob55 P) (.node (ob87 P) (.node (ob154 P) (.node (ob284 P) .nil .nil) (.node (ob414 P) .nil .nil)) (.node (ob220 P) (.node (ob350 P) .nil .nil) (.node (ob480 P) .nil .nil))) (.node (ob119 P) (.node (ob186 P) (.node (ob318 P) .nil .nil) (.node (ob448 P) .nil .nil)) (.node (ob252 P) (.node (ob382 P) .nil .nil) (.node (ob512 P) .nil .nil)))))))))
noncomputable def st_5 (w : World) (os : OsState) : SharedT := ⟨tr_5 w.params, (nat_lit 536), ⟨[], [], [], 0, [], [], false, #[], [], 0, false, false, false, 0, [2000, 10, 10], false, 0, true, [], [], 0, false⟩, ⟨[]⟩, ⟨0, 0, 0, 0⟩, (nat_lit 877), os⟩
theorem pc5 (w : World) (os : OsState) : segRunT treeTable pw w m0 ann0 1 (nat_lit 691) (st_4 w os) (piecesOf (sts 20 30) env0 cE ⟨179, 0, 256, 88⟩ fr0) = some (Flow.next, st_5 w os, cE, ⟨326, 0, 336, 65⟩) := by kernel_rfl
noncomputable def ob538 (P : Params) : Obj := ⟨(.type "dict"), none, (.dict #[⟨(keyHash P "__name__"), (.str "__name__" 165), (.str "law_pb0145_01" 832)⟩, ⟨(keyHash P "__doc__"), (.str "__doc__" 166), .none⟩, ⟨(keyHash P "__package__"), (.str "__package__" 167), .none⟩, ⟨(keyHash P "__loader__"), (.str "__loader__" 168), (.builtin "__main__.__loader__#opaque")⟩, ⟨(keyHash P "__spec__"), (.str "__spec__" 169), .none⟩, ⟨(keyHash P "__annotations__"), (.str "__annotations__" 170), (.ref 6)⟩, ⟨(keyHash P "__builtins__"), (.str "__builtins__" 171), (.ref 4)⟩, ⟨(keyHash P "__file__"), (.str "__file__" 173), (.str "/claim/cut.py" 172)⟩, ⟨(keyHash P "__cached__"), (.str "__cached__" 174), .none⟩, ⟨(keyHash P "_wall"), (.str "_wall" 193), (.ref 21)⟩, ⟨(keyHash P "is_special"), (.str "is_special" 203), (.ref 28)⟩, ⟨(keyHash P "implied_names"), (.str "implied_names" 209), (.ref 35)⟩, ⟨(keyHash P "OpenStack"), (.str "OpenStack" 335), (.ref 136)⟩, ⟨(keyHash P "stops_scope"), (.str "stops_scope" 346), (.ref 147)⟩, ⟨(keyHash P "node_in_scope"), (.str "node_in_scope" 357), (.ref 155)⟩, ⟨(keyHash P "pop_implied"), (.str "pop_implied" 367), (.ref 163)⟩, ⟨(keyHash P "pop_with"), (.str "pop_with" 377), (.ref 170)⟩, ⟨(keyHash P "any_other_end"), (.str "any_other_end" 389), (.ref 177)⟩, ⟨(keyHash P "find_subject"), (.str "find_subject" 398), (.ref 184)⟩, ⟨(keyHash P "HtmlFault"), (.str "HtmlFault" 429), (.ref 201)⟩, ⟨(keyHash P "Misused"), (.str "Misused" 445), (.ref 214)⟩, ⟨(keyHash P "Formatting"), (.str "Formatting" 551), (.ref 296)⟩, ⟨(keyHash P "Tree"), (.str "Tree" 714), (.ref 413)⟩, ⟨(keyHash P "above"), (.str "above" 724), (.ref 424)⟩, ⟨(keyHash P "Builder"), (.str "Builder" 831), (.ref 491)⟩, ⟨(keyHash P "_law_digit"), (.str "_law_digit" 842), (.ref 502)⟩, ⟨(keyHash P "_law_pool"), (.str "_law_pool" 851), (.ref 509)⟩, ⟨(keyHash P "_law_enders"), (.str "_law_enders" 858), (.ref 516)⟩, ⟨(keyHash P "_law_specials"), (.str "_law_specials" 864), (.ref 523)⟩, ⟨(keyHash P "_law_implied"), (.str "_law_implied" 870), (.ref 530)⟩, ⟨(keyHash P "_law_other"), (.str "_law_other" 876), (.ref 535)⟩, ⟨(keyHash P "_law_due"), (.str "_law_due" 882), (.ref 540)⟩, ⟨(keyHash P "_law_is_found"), (.str "_law_is_found" 888), (.ref 545)⟩, ⟨(keyHash P "law"), (.str "law" 894), (.ref 550)⟩] 34), #[]⟩
noncomputable def ob539 (P : Params) : Obj := ⟨.none, none, (.fields (List.toArray ((.int 1 0) :: (.int 0 0) :: (.ref 20) :: (.int 5 0) :: (.int 0 0) :: (.ref 27) :: (.int 11 0) :: (.int 0 0) :: (.ref 34) :: (.int 14 0) :: (.int 0 0) :: (.ref 41) :: (.int 65 0) :: (.int 0 0) :: (.ref 146) :: (.int 81 0) :: (.int 0 0) :: (.ref 154) :: (.int 88 0) :: (.int 0 0) :: (.ref 162) :: (.int 93 0) :: (.int 0 0) :: (.ref 169) :: (.int 97 0) :: (.int 0 0) :: (.ref 176) :: (.int 113 0) :: (.int 0 0) :: (.ref 183) :: (.int 129 0) :: (.int 0 0) :: (.ref 190) :: (.int 134 0) :: (.int 0 0) :: (.ref 210) :: (.int 137 0) :: (.int 0 0) :: (.ref 222) :: (.int 179 0) :: (.int 0 0) :: (.ref 306) :: (.int 257 0) :: (.int 0 0) :: (.ref 423) :: (.int 265 0) :: (.int 0 0) :: (.ref 430) :: (.int 311 0) :: (.int 0 0) :: (.ref 501) :: (.int 314 0) :: (.int 0 0) :: (.ref 508) :: (.int 319 0) :: (.int 0 0) :: (.ref 515) :: (.int 322 0) :: (.int 0 0) :: (.ref 522) :: (.int 324 0) :: (.int 0 0) :: (.ref 529) :: (.int 326 0) :: (.int 0 0) :: (.ref 534) :: (.int 337 0) :: (.int 0 0) :: (.ref 539) :: (.int 352 0) :: (.int 0 0) :: (.ref 544) :: (.int 361 0) :: (.int 0 0) :: (.ref 549) :: []))), #[]⟩
noncomputable def ob540 (P : Params) : Obj := ⟨(.type "tuple"), none, (.seq #[] 0), #[]⟩
noncomputable def ob541 (P : Params) : Obj := ⟨.none, none, (.fields #[]), #[]⟩
noncomputable def ob542 (P : Params) : Obj := ⟨.none, none, (.func (fnG (e := (at1 30)) rfl "_law_due" "_law_due" 0 [] .none .none .none .none none .none .none 0)), #[]⟩
noncomputable def ob543 (P : Params) : Obj := ⟨(.type "code"), none, (.fields #[(.str "_law_due" 877), (.str "_law_due" 878), (.str "/claim/cut.py" 879), (.int 337 0), (.int 5 0), (.int 0 0), (.int 0 0), (.int 3 0), (.ref 536), (.bool true), (.int 181 0), (.ref 537), .none, .none, .none, (.ref 538), (.int 880 0), (.int 337 0), (.str "/claim/cut.py" 881)]), #[]⟩
noncomputable def ob544 (P : Params) : Obj := ⟨(.type "function"), none, (.func (fnG (e := (at1 30)) rfl "_law_due" "_law_due" 3 [] .none .none .none (.str "law_pb0145_01" 832) none (.ref 539) .none 0)), #[]⟩
noncomputable def ob545 (P : Params) : Obj := ⟨(.type "tuple"), none, (.seq #[] 0), #[]⟩
noncomputable def ob546 (P : Params) : Obj := ⟨.none, none, (.fields #[]), #[]⟩
noncomputable def ob547 (P : Params) : Obj := ⟨.none, none, (.func (fnG (e := (at1 31)) rfl "_law_is_found" "_law_is_found" 0 [] .none .none .none .none none .none .none 0)), #[]⟩
noncomputable def ob548 (P : Params) : Obj := ⟨(.type "code"), none, (.fields #[(.str "_law_is_found" 883), (.str "_law_is_found" 884), (.str "/claim/cut.py" 885), (.int 352 0), (.int 6 0), (.int 0 0), (.int 0 0), (.int 3 0), (.ref 541), (.bool true), (.int 181 0), (.ref 542), .none, .none, .none, (.ref 543), (.int 886 0), (.int 352 0), (.str "/claim/cut.py" 887)]), #[]⟩
noncomputable def ob549 (P : Params) : Obj := ⟨(.type "function"), none, (.func (fnG (e := (at1 31)) rfl "_law_is_found" "_law_is_found" 3 [] .none .none .none (.str "law_pb0145_01" 832) none (.ref 544) .none 0)), #[]⟩
noncomputable def ob550 (P : Params) : Obj := ⟨(.type "tuple"), none, (.seq #[] 0), #[]⟩
noncomputable def ob551 (P : Params) : Obj := ⟨.none, none, (.fields #[]), #[]⟩
noncomputable def ob552 (P : Params) : Obj := ⟨.none, none, (.func (fnG (e := (at1 32)) rfl "law" "law" 0 [] .none .none .none .none none .none .none 0)), #[]⟩
noncomputable def ob553 (P : Params) : Obj := ⟨(.type "code"), none, (.fields #[(.str "law" 889), (.str "law" 890), (.str "/claim/cut.py" 891), (.int 361 0), (.int 1 0), (.int 0 0), (.int 0 0), (.int 3 0), (.ref 546), (.bool true), (.int 181 0), (.ref 547), .none, .none, .none, (.ref 548), (.int 892 0), (.int 361 0), (.str "/claim/cut.py" 893)]), #[]⟩
noncomputable def ob554 (P : Params) : Obj := ⟨(.type "function"), none, (.func (fnG (e := (at1 32)) rfl "law" "law" 3 [] .none .none .none (.str "law_pb0145_01" 832) none (.ref 549) .none 0)), #[]⟩
noncomputable def tr_6 (P : Params) : BT := (.node (boot_o_0 P) (.node (boot_o_1 P) (.node (ob538 P) (.node (boot_o_7 P) (.node (ob6 P) (.node (ob22 P) (.node (ob56 P) (.node (ob120 P) (.node (ob253 P) (.node (ob513 P) .nil .nil) .nil) (.node (ob383 P) .nil .nil)) (.node (ob187 P) (.node (ob319 P) .nil .nil) (.node (ob449 P) .nil .nil))) (.node (ob88 P) (.node (ob155 P) (.node (ob285 P) (.node (ob547 P) .nil .nil) .nil) (.node (ob415 P) .nil .nil)) (.node (ob221 P) (.node (ob351 P) .nil .nil) (.node (ob481 P) .nil .nil)))) (.node (ob40 P) (.node (ob72 P) (.node (ob136 P) (.node (ob269 P) (.node (ob529 P) .nil .nil) .nil) (.node (ob399 P) .nil .nil)) (.node (ob203 P) (.node (ob335 P) .nil .nil) (.node (ob465 P) .nil .nil))) (.node (ob104 P) (.node (ob171 P) (.node (ob303 P) .nil .nil) (.node (ob433 P) .nil .nil)) (.node (ob237 P) (.node (ob367 P) .nil .nil) (.node (ob497 P) .nil .nil))))) (.node (ob14 P) (.node (ob32 P) (.node (ob64 P) (.node (ob128 P) (.node (ob261 P) (.node (ob521 P) .nil .nil) .nil) (.node (ob391 P) .nil .nil)) (.node (ob195 P) (.node (ob327 P) .nil .nil) (.node (ob457 P) .nil .nil))) (.node (ob96 P) (.node (ob163 P) (.node (ob293 P) .nil .nil) (.node (ob425 P) .nil .nil)) (.node (ob229 P) (.node (ob359 P) .nil .nil) (.node (ob489 P) .nil .nil)))) (.node (ob48 P) (.node (ob80 P) (.node (ob144 P) (.node (ob277 P) (.node (ob537 P) .nil .nil) .nil) (.node (ob407 P) .nil .nil)) (.node (ob211 P) (.node (ob343 P) .nil .nil) (.node (ob473 P) .nil .nil))) (.node (ob112 P) (.node (ob179 P) (.node (ob311 P) .nil .nil) (.node (ob441 P) .nil .nil)) (.node (ob245 P) (.node (ob375 P) .nil .nil) (.node (ob505 P) .nil .nil)))))) (.node (ob0 P) (.node (ob10 P) (.node (ob26 P) (.node (ob60 P) (.node (ob124 P) (.node (ob257 P) (.node (ob517 P) .nil .nil) .nil) (.node (ob387 P) .nil .nil)) (.node (ob191 P) (.node (ob323 P) .nil .nil) (.node (ob453 P) .nil .nil))) (.node (ob92 P) (.node (ob159 P) (.node (ob289 P) (.node (ob551 P) .nil .nil) .nil) (.node (ob421 P) .nil .nil)) (.node (ob225 P) (.node (ob355 P) .nil .nil) (.node (ob485 P) .nil .nil)))) (.node (ob44 P) (.node (ob76 P) (.node (ob140 P) (.node (ob273 P) (.node (ob533 P) .nil .nil) .nil) (.node (ob403 P) .nil .nil)) (.node (ob207 P) (.node (ob339 P) .nil .nil) (.node (ob469 P) .nil .nil))) (.node (ob108 P) (.node (ob175 P) (.node (ob307 P) .nil .nil) (.node (ob437 P) .nil .nil)) (.node (ob241 P) (.node (ob371 P) .nil .nil) (.node (ob501 P) .nil .nil))))) (.node (ob18 P) (.node (ob36 P) (.node (ob68 P) (.node (ob132 P) (.node (ob265 P) (.node (ob525 P) .nil .nil) .nil) (.node (ob395 P) .nil .nil)) (.node (ob199 P) (.node (ob331 P) .nil .nil) (.node (ob461 P) .nil .nil))) (.node (ob100 P) (.node (ob167 P) (.node (ob297 P) .nil .nil) (.node (ob429 P) .nil .nil)) (.node (ob233 P) (.node (ob363 P) .nil .nil) (.node (ob493 P) .nil .nil)))) (.node (ob52 P) (.node (ob84 P) (.node (ob148 P) (.node (ob281 P) (.node (ob543 P) .nil .nil) .nil) (.node (ob411 P) .nil .nil)) (.node (ob217 P) (.node (ob347 P) .nil .nil) (.node (ob477 P) .nil .nil))) (.node (ob116 P) (.node (ob183 P) (.node (ob315 P) .nil .nil) (.node (ob445 P) .nil .nil)) (.node (ob249 P) (.node (ob379 P) .nil .nil) (.node (ob509 P) .nil .nil))))))) (.node (boot_o_5 P) (.node (boot_o_9 P) (.node (ob8 P) (.node (ob24 P) (.node (ob58 P) (.node (ob122 P) (.node (ob255 P) (.node (ob515 P) .nil .nil) .nil) (.node (ob385 P) .nil .nil)) (.node (ob189 P) (.node (ob321 P) .nil .nil) (.node (ob451 P) .nil .nil))) (.node (ob90 P) (.node (ob157 P) (.node (ob287 P) (.node (ob549 P) .nil .nil) .nil) (.node (ob417 P) .nil .nil)) (.node (ob223 P) (.node (ob353 P) .nil .nil) (.node (ob483 P) .nil .nil)))) (.node (ob42 P) (.node (ob74 P) (.node (ob138 P) (.node (ob271 P) (.node (ob531 P) .nil .nil) .nil) (.node (ob401 P) .nil .nil)) (.node (ob205 P) (.node (ob337 P) .nil .nil) (.node (ob467 P) .nil .nil))) (.node (ob106 P) (.node (ob173 P) (.node (ob305 P) .nil .nil) (.node (ob435 P) .nil .nil)) (.node (ob239 P) (.node (ob369 P) .nil .nil) (.node (ob499 P) .nil .nil))))) (.node (ob16 P) (.node (ob34 P) (.node (ob66 P) (.node (ob130 P) (.node (ob263 P) (.node (ob523 P) .nil .nil) .nil) (.node (ob393 P) .nil .nil)) (.node (ob197 P) (.node (ob329 P) .nil .nil) (.node (ob459 P) .nil .nil))) (.node (ob98 P) (.node (ob165 P) (.node (ob295 P) .nil .nil) (.node (ob427 P) .nil .nil)) (.node (ob231 P) (.node (ob361 P) .nil .nil) (.node (ob491 P) .nil .nil)))) (.node (ob50 P) (.node (ob82 P) (.node (ob146 P) (.node (ob279 P) (.node (ob541 P) .nil .nil) .nil) (.node (ob409 P) .nil .nil)) (.node (ob215 P) (.node (ob345 P) .nil .nil) (.node (ob475 P) .nil .nil))) (.node (ob114 P) (.node (ob181 P) (.node (ob313 P) .nil .nil) (.node (ob443 P) .nil .nil)) (.node (ob247 P) (.node (ob377 P) .nil .nil) (.node (ob507 P) .nil .nil)))))) (.node (ob2 P) (.node (ob12 P) (.node (ob30 P) (.node (ob62 P) (.node (ob126 P) (.node (ob259 P) (.node (ob519 P) .nil .nil) .nil) (.node (ob389 P) .nil .nil)) (.node (ob193 P) (.node (ob325 P) .nil .nil) (.node (ob455 P) .nil .nil))) (.node (ob94 P) (.node (ob161 P) (.node (ob291 P) (.node (ob553 P) .nil .nil) .nil) (.node (ob423 P) .nil .nil)) (.node (ob227 P) (.node (ob357 P) .nil .nil) (.node (ob487 P) .nil .nil)))) (.node (ob46 P) (.node (ob78 P) (.node (ob142 P) (.node (ob275 P) (.node (ob535 P) .nil .nil) .nil) (.node (ob405 P) .nil .nil)) (.node (ob209 P) (.node (ob341 P) .nil .nil) (.node (ob471 P) .nil .nil))) (.node (ob110 P) (.node (ob177 P) (.node (ob309 P) .nil .nil) (.node (ob439 P) .nil .nil)) (.node (ob243 P) (.node (ob373 P) .nil .nil) (.node (ob503 P) .nil .nil))))) (.node (ob20 P) (.node (ob38 P) (.node (ob70 P) (.node (ob134 P) (.node (ob267 P) (.node (ob527 P) .nil .nil) .nil) (.node (ob397 P) .nil .nil)) (.node (ob201 P) (.node (ob333 P) .nil .nil) (.node (ob463 P) .nil .nil))) (.node (ob102 P) (.node (ob169 P) (.node (ob301 P) .nil .nil) (.node (ob431 P) .nil .nil)) (.node (ob235 P) (.node (ob365 P) .nil .nil) (.node (ob495 P) .nil .nil)))) (.node (ob54 P) (.node (ob86 P) (.node (ob153 P) (.node (ob283 P) (.node (ob545 P) .nil .nil) .nil) (.node (ob413 P) .nil .nil)) (.node (ob219 P) (.node (ob349 P) .nil .nil) (.node (ob479 P) .nil .nil))) (.node (ob118 P) (.node (ob185 P) (.node (ob317 P) .nil .nil) (.node (ob447 P) .nil .nil)) (.node (ob251 P) (.node (ob381 P) .nil .nil) (.node (ob511 P) .nil .nil)))))))) (.node (ob149 P) (.node (boot_o_4 P) (.node (boot_o_8 P) (.node (ob7 P) (.node (ob23 P) (.node (ob57 P) (.node (ob121 P) (.node (ob254 P) (.node (ob514 P) .nil .nil) .nil) (.node (ob384 P) .nil .nil)) (.node (ob188 P) (.node (ob320 P) .nil .nil) (.node (ob450 P) .nil .nil))) (.node (ob89 P) (.node (ob156 P) (.node (ob286 P) (.node (ob548 P) .nil .nil) .nil) (.node (ob416 P) .nil .nil)) (.node (ob222 P) (.node (ob352 P) .nil .nil) (.node (ob482 P) .nil .nil)))) (.node (ob41 P) (.node (ob73 P) (.node (ob137 P) (.node (ob270 P) (.node (ob530 P) .nil .nil) .nil) (.node (ob400 P) .nil .nil)) (.node (ob204 P) (.node (ob336 P) .nil .nil) (.node (ob466 P) .nil .nil))) (.node (ob105 P) (.node (ob172 P) (.node (ob304 P) .nil .nil) (.node (ob434 P) .nil .nil)) (.node (ob238 P) (.node (ob368 P) .nil .nil) (.node (ob498 P) .nil .nil))))) (.node (ob15 P) (.node (ob33 P) (.node (ob65 P) (.node (ob129 P) (.node (ob262 P) (.node (ob522 P) .nil .nil) .nil) (.node (ob392 P) .nil .nil)) (.node (ob196 P) (.node (ob328 P) .nil .nil) (.node (ob458 P) .nil .nil))) (.node (ob97 P) (.node (ob164 P) (.node (ob294 P) .nil .nil) (.node (ob426 P) .nil .nil)) (.node (ob230 P) (.node (ob360 P) .nil .nil) (.node (ob490 P) .nil .nil)))) (.node (ob49 P) (.node (ob81 P) (.node (ob145 P) (.node (ob278 P) (.node (ob540 P) .nil .nil) .nil) (.node (ob408 P) .nil .nil)) (.node (ob212 P) (.node (ob344 P) .nil .nil) (.node (ob474 P) .nil .nil))) (.node (ob113 P) (.node (ob180 P) (.node (ob312 P) .nil .nil) (.node (ob442 P) .nil .nil)) (.node (ob246 P) (.node (ob376 P) .nil .nil) (.node (ob506 P) .nil .nil)))))) (.node (ob539 P) (.node (ob11 P) (.node (ob29 P) (.node (ob61 P) (.node (ob125 P) (.node (ob258 P) (.node (ob518 P) .nil .nil) .nil) (.node (ob388 P) .nil .nil)) (.node (ob192 P) (.node (ob324 P) .nil .nil) (.node (ob454 P) .nil .nil))) (.node (ob93 P) (.node (ob160 P) (.node (ob290 P) (.node (ob552 P) .nil .nil) .nil) (.node (ob422 P) .nil .nil)) (.node (ob226 P) (.node (ob356 P) .nil .nil) (.node (ob486 P) .nil .nil)))) (.node (ob45 P) (.node (ob77 P) (.node (ob141 P) (.node (ob274 P) (.node (ob534 P) .nil .nil) .nil) (.node (ob404 P) .nil .nil)) (.node (ob208 P) (.node (ob340 P) .nil .nil) (.node (ob470 P) .nil .nil))) (.node (ob109 P) (.node (ob176 P) (.node (ob308 P) .nil .nil) (.node (ob438 P) .nil .nil)) (.node (ob242 P) (.node (ob372 P) .nil .nil) (.node (ob502 P) .nil .nil))))) (.node (ob19 P) (.node (ob37 P) (.node (ob69 P) (.node (ob133 P) (.node (ob266 P) (.node (ob526 P) .nil .nil) .nil) (.node (ob396 P) .nil .nil)) (.node (ob200 P) (.node (ob332 P) .nil .nil) (.node (ob462 P) .nil .nil))) (.node (ob101 P) (.node (ob168 P) (.node (ob298 P) .nil .nil) (.node (ob430 P) .nil .nil)) (.node (ob234 P) (.node (ob364 P) .nil .nil) (.node (ob494 P) .nil .nil)))) (.node (ob53 P) (.node (ob85 P) (.node (ob152 P) (.node (ob282 P) (.node (ob544 P) .nil .nil) .nil) (.node (ob412 P) .nil .nil)) (.node (ob218 P) (.node (ob348 P) .nil .nil) (.node (ob478 P) .nil .nil))) (.node (ob117 P) (.node (ob184 P) (.node (ob316 P) .nil .nil) (.node (ob446 P) .nil .nil)) (.node (ob250 P) (.node (ob380 P) .nil .nil) (.node (ob510 P) .nil .nil))))))) (.node (boot_o_6 P) (.node (boot_o_10 P) (.node (ob9 P) (.node (ob25 P) (.node (ob59 P) (.node (ob123 P) (.node (ob256 P) (.node (ob516 P) .nil .nil) .nil) (.node (ob386 P) .nil .nil)) (.node (ob190 P) (.node (ob322 P) .nil .nil) (.node (ob452 P) .nil .nil))) (.node (ob91 P) (.node (ob158 P) (.node (ob288 P) (.node (ob550 P) .nil .nil) .nil) (.node (ob420 P) .nil .nil)) (.node (ob224 P) (.node (ob354 P) .nil .nil) (.node (ob484 P) .nil .nil)))) (.node (ob43 P) (.node (ob75 P) (.node (ob139 P) (.node (ob272 P) (.node (ob532 P) .nil .nil) .nil) (.node (ob402 P) .nil .nil)) (.node (ob206 P) (.node (ob338 P) .nil .nil) (.node (ob468 P) .nil .nil))) (.node (ob107 P) (.node (ob174 P) (.node (ob306 P) .nil .nil) (.node (ob436 P) .nil .nil)) (.node (ob240 P) (.node (ob370 P) .nil .nil) (.node (ob500 P) .nil .nil))))) (.node (ob17 P) (.node (ob35 P) (.node (ob67 P) (.node (ob131 P) (.node (ob264 P) (.node (ob524 P) .nil .nil) .nil) (.node (ob394 P) .nil .nil)) (.node (ob198 P) (.node (ob330 P) .nil .nil) (.node (ob460 P) .nil .nil))) (.node (ob99 P) (.node (ob166 P) (.node (ob296 P) .nil .nil) (.node (ob428 P) .nil .nil)) (.node (ob232 P) (.node (ob362 P) .nil .nil) (.node (ob492 P) .nil .nil)))) (.node (ob51 P) (.node (ob83 P) (.node (ob147 P) (.node (ob280 P) (.node (ob542 P) .nil .nil) .nil) (.node (ob410 P) .nil .nil)) (.node (ob216 P) (.node (ob346 P) .nil .nil) (.node (ob476 P) .nil .nil))) (.node (ob115 P) (.node (ob182 P) (.node (ob314 P) .nil .nil) (.node (ob444 P) .nil .nil)) (.node (ob248 P) (.node (ob378 P) .nil .nil) (.node (ob508 P) .nil .nil)))))) (.node (ob3 P) (.node (ob13 P) (.node (ob31 P) (.node (ob63 P) (.node (ob127 P) (.node (ob260 P) (.node (ob520 P) .nil .nil) .nil) (.node (ob390 P) .nil .nil)) (.node (ob194 P) (.node (ob326 P) .nil .nil) (.node (ob456 P) .nil .nil))) (.node (ob95 P) (.node (ob162 P) (.node (ob292 P) (.node (ob554 P) .nil .nil) .nil) (.node (ob424 P) .nil .nil)) (.node (ob228 P) (.node (ob358 P) .nil .nil) (.node (ob488 P) .nil .nil)))) (.node (ob47 P) (.node (ob79 P) (.node (ob143 P) (.node (ob276 P) (.node (ob536 P) .nil .nil) .nil) (.node (ob406 P) .nil .nil)) (.node (ob210 P) (.node (ob342 P) .nil .nil) (.node (ob472 P) .nil .nil))) (.node (ob111 P) (.node (ob178 P) (.node (ob310 P) .nil .nil) (.node (ob440 P) .nil .nil)) (.node (ob244 P) (.node (ob374 P) .nil .nil) (.node (ob504 P) .nil .nil))))) (.node (ob21 P) (.node (ob39 P) (.node (ob71 P) (.node (ob135 P) (.node (ob268 P) (.node (ob528 P) .nil .nil) .nil) (.node (ob398 P) .nil .nil)) (.node (ob202 P) (.node (ob334 P) .nil .nil) (.node (ob464 P) .nil .nil))) (.node (ob103 P) (.node (ob170 P) (.node (ob302 P) .nil .nil) (.node (ob432 P) .nil .nil)) (.node (ob236 P) (.node (ob366 P) .nil .nil) (.node (ob496 P) .nil .nil)))) (.node (ob55 P) (.node (ob87 P) (.node (ob154 P) (.node (ob284 P) (.node (ob546 P) .nil .nil) .nil) (.node (ob414 P) .nil .nil)) (.node (ob220 P) (.node (ob350 P) .nil .nil) (.node (ob480 P) .nil .nil))) (.node (ob119 P) (.node (ob186 P) (.node (ob318 P) .nil .nil) (.node (ob448 P) .nil .nil)) (.node (ob252 P) (.node (ob382 P) .nil .nil) (.node (ob512 P) .nil .nil)))))))))
noncomputable def st_6 (w : World) (os : OsState) : SharedT := ⟨tr_6 w.params, (nat_lit 551), ⟨[], [], [], 0, [], [], false, #[], [], 0, false, false, false, 0, [2000, 10, 10], false, 0, true, [], [], 0, false⟩, ⟨[]⟩, ⟨0, 0, 0, 0⟩, (nat_lit 895), os⟩
theorem pc6 (w : World) (os : OsState) : segRunT treeTable pw w m0 ann0 1 (nat_lit 79) (st_5 w os) (piecesOf (sts 30 33) env0 cE ⟨326, 0, 336, 65⟩ fr0) = some (Flow.next, st_6 w os, cE, ⟨361, 0, 394, 100⟩) := by kernel_rfl
noncomputable def hp1 (P : Params) : Heap := ⟨⟨boot_o_0 P :: boot_o_1 P :: ob149 P :: ob538 P :: boot_o_4 P :: boot_o_5 P :: boot_o_6 P :: boot_o_7 P :: boot_o_8 P :: boot_o_9 P :: boot_o_10 P :: ob0 P :: ob539 P :: ob2 P :: ob3 P :: ob6 P :: ob7 P :: ob8 P :: ob9 P :: ob10 P :: ob11 P :: ob12 P :: ob13 P :: ob14 P :: ob15 P :: ob16 P :: ob17 P :: ob18 P :: ob19 P :: ob20 P :: ob21 P :: ob22 P :: ob23 P :: ob24 P :: ob25 P :: ob26 P :: ob29 P :: ob30 P :: ob31 P :: ob32 P :: ob33 P :: ob34 P :: ob35 P :: ob36 P :: ob37 P :: ob38 P :: ob39 P :: ob40 P :: ob41 P :: ob42 P :: ob43 P :: ob44 P :: ob45 P :: ob46 P :: ob47 P :: ob48 P :: ob49 P :: ob50 P :: ob51 P :: ob52 P :: ob53 P :: ob54 P :: ob55 P :: ob56 P :: ob57 P :: ob58 P :: ob59 P :: ob60 P :: ob61 P :: ob62 P :: ob63 P :: ob64 P :: ob65 P :: ob66 P :: ob67 P :: ob68 P :: ob69 P :: ob70 P :: ob71 P :: ob72 P :: ob73 P :: ob74 P :: ob75 P :: ob76 P :: ob77 P :: ob78 P :: ob79 P :: ob80 P :: ob81 P :: ob82 P :: ob83 P :: ob84 P :: ob85 P :: ob86 P :: ob87 P :: ob88 P :: ob89 P :: ob90 P :: ob91 P :: ob92 P :: ob93 P :: ob94 P :: ob95 P :: ob96 P :: ob97 P :: ob98 P :: ob99 P :: ob100 P :: ob101 P :: ob102 P :: ob103 P :: ob104 P :: ob105 P :: ob106 P :: ob107 P :: ob108 P :: ob109 P :: ob110 P :: ob111 P :: ob112 P :: ob113 P :: ob114 P :: ob115 P :: ob116 P :: ob117 P :: ob118 P :: ob119 P :: ob120 P :: ob121 P :: ob122 P :: ob123 P :: ob124 P :: ob125 P :: ob126 P :: ob127 P :: ob128 P :: ob129 P :: ob130 P :: ob131 P :: ob132 P :: ob133 P :: ob134 P :: ob135 P :: ob136 P :: ob137 P :: ob138 P :: ob139 P :: ob140 P :: ob141 P :: ob142 P :: ob143 P :: ob144 P :: ob145 P :: ob146 P :: ob147 P :: ob148 P :: ob152 P :: ob153 P :: ob154 P :: ob155 P :: ob156 P :: ob157 P :: ob158 P :: ob159 P :: ob160 P :: ob161 P :: ob162 P :: ob163 P :: ob164 P :: ob165 P :: ob166 P :: ob167 P :: ob168 P :: ob169 P :: ob170 P :: ob171 P :: ob172 P :: ob173 P :: ob174 P :: ob175 P :: ob176 P :: ob177 P :: ob178 P :: ob179 P :: ob180 P :: ob181 P :: ob182 P :: ob183 P :: ob184 P :: ob185 P :: ob186 P :: ob187 P :: ob188 P :: ob189 P :: ob190 P :: ob191 P :: ob192 P :: ob193 P :: ob194 P :: ob195 P :: ob196 P :: ob197 P :: ob198 P :: ob199 P :: ob200 P :: ob201 P :: ob202 P :: ob203 P :: ob204 P :: ob205 P :: ob206 P :: ob207 P :: ob208 P :: ob209 P :: ob210 P :: ob211 P :: ob212 P :: ob215 P :: ob216 P :: ob217 P :: ob218 P :: ob219 P :: ob220 P :: ob221 P :: ob222 P :: ob223 P :: ob224 P :: ob225 P :: ob226 P :: ob227 P :: ob228 P :: ob229 P :: ob230 P :: ob231 P :: ob232 P :: ob233 P :: ob234 P :: ob235 P :: ob236 P :: ob237 P :: ob238 P :: ob239 P :: ob240 P :: ob241 P :: ob242 P :: ob243 P :: ob244 P :: ob245 P :: ob246 P :: ob247 P :: ob248 P :: ob249 P :: ob250 P :: ob251 P :: ob252 P :: ob253 P :: ob254 P :: ob255 P :: ob256 P :: ob257 P :: ob258 P :: ob259 P :: ob260 P :: ob261 P :: ob262 P :: ob263 P :: ob264 P :: ob265 P :: ob266 P :: ob267 P :: ob268 P :: ob269 P :: ob270 P :: ob271 P :: ob272 P :: ob273 P :: ob274 P :: ob275 P :: ob276 P :: ob277 P :: ob278 P :: ob279 P :: ob280 P :: ob281 P :: ob282 P :: ob283 P :: ob284 P :: ob285 P :: ob286 P :: ob287 P :: ob288 P :: ob289 P :: ob290 P :: ob291 P :: ob292 P :: ob293 P :: ob294 P :: ob295 P :: ob296 P :: ob297 P :: ob298 P :: ob301 P :: ob302 P :: ob303 P :: ob304 P :: ob305 P :: ob306 P :: ob307 P :: ob308 P :: ob309 P :: ob310 P :: ob311 P :: ob312 P :: ob313 P :: ob314 P :: ob315 P :: ob316 P :: ob317 P :: ob318 P :: ob319 P :: ob320 P :: ob321 P :: ob322 P :: ob323 P :: ob324 P :: ob325 P :: ob326 P :: ob327 P :: ob328 P :: ob329 P :: ob330 P :: ob331 P :: ob332 P :: ob333 P :: ob334 P :: ob335 P :: ob336 P :: ob337 P :: ob338 P :: ob339 P :: ob340 P :: ob341 P :: ob342 P :: ob343 P :: ob344 P :: ob345 P :: ob346 P :: ob347 P :: ob348 P :: ob349 P :: ob350 P :: ob351 P :: ob352 P :: ob353 P :: ob354 P :: ob355 P :: ob356 P :: ob357 P :: ob358 P :: ob359 P :: ob360 P :: ob361 P :: ob362 P :: ob363 P :: ob364 P :: ob365 P :: ob366 P :: ob367 P :: ob368 P :: ob369 P :: ob370 P :: ob371 P :: ob372 P :: ob373 P :: ob374 P :: ob375 P :: ob376 P :: ob377 P :: ob378 P :: ob379 P :: ob380 P :: ob381 P :: ob382 P :: ob383 P :: ob384 P :: ob385 P :: ob386 P :: ob387 P :: ob388 P :: ob389 P :: ob390 P :: ob391 P :: ob392 P :: ob393 P :: ob394 P :: ob395 P :: ob396 P :: ob397 P :: ob398 P :: ob399 P :: ob400 P :: ob401 P :: ob402 P :: ob403 P :: ob404 P :: ob405 P :: ob406 P :: ob407 P :: ob408 P :: ob409 P :: ob410 P :: ob411 P :: ob412 P :: ob413 P :: ob414 P :: ob415 P :: ob416 P :: ob417 P :: ob420 P :: ob421 P :: ob422 P :: ob423 P :: ob424 P :: ob425 P :: ob426 P :: ob427 P :: ob428 P :: ob429 P :: ob430 P :: ob431 P :: ob432 P :: ob433 P :: ob434 P :: ob435 P :: ob436 P :: ob437 P :: ob438 P :: ob439 P :: ob440 P :: ob441 P :: ob442 P :: ob443 P :: ob444 P :: ob445 P :: ob446 P :: ob447 P :: ob448 P :: ob449 P :: ob450 P :: ob451 P :: ob452 P :: ob453 P :: ob454 P :: ob455 P :: ob456 P :: ob457 P :: ob458 P :: ob459 P :: ob460 P :: ob461 P :: ob462 P :: ob463 P :: ob464 P :: ob465 P :: ob466 P :: ob467 P :: ob468 P :: ob469 P :: ob470 P :: ob471 P :: ob472 P :: ob473 P :: ob474 P :: ob475 P :: ob476 P :: ob477 P :: ob478 P :: ob479 P :: ob480 P :: ob481 P :: ob482 P :: ob483 P :: ob484 P :: ob485 P :: ob486 P :: ob487 P :: ob488 P :: ob489 P :: ob490 P :: ob491 P :: ob492 P :: ob493 P :: ob494 P :: ob495 P :: ob496 P :: ob497 P :: ob498 P :: ob499 P :: ob500 P :: ob501 P :: ob502 P :: ob503 P :: ob504 P :: ob505 P :: ob506 P :: ob507 P :: ob508 P :: ob509 P :: ob510 P :: ob511 P :: ob512 P :: ob513 P :: ob514 P :: ob515 P :: ob516 P :: ob517 P :: ob518 P :: ob519 P :: ob520 P :: ob521 P :: ob522 P :: ob523 P :: ob524 P :: ob525 P :: ob526 P :: ob527 P :: ob528 P :: ob529 P :: ob530 P :: ob531 P :: ob532 P :: ob533 P :: ob534 P :: ob535 P :: ob536 P :: ob537 P :: ob540 P :: ob541 P :: ob542 P :: ob543 P :: ob544 P :: ob545 P :: ob546 P :: ob547 P :: ob548 P :: ob549 P :: ob550 P :: ob551 P :: ob552 P :: ob553 P :: ob554 P :: []⟩, ⟨[], [], [], 0, [], [], false, #[], [], 0, false, false, false, 0, [2000, 10, 10], false, 0, true, [], [], 0, false⟩⟩
theorem fin0 (w : World) (os : OsState) : topRun treeTable pw w m0 ann0 (nat_lit 2) (st_6 w os).abs ⟨doneF .next, cE, ⟨361, 0, 394, 100⟩, fr0⟩ = some ⟨hp1 w.params, ⟨[]⟩, ⟨0, 0, 0, 0⟩, (nat_lit 895), os⟩ := by kernel_rfl
theorem body0 : behindTheImports pw = sts 0 5 ++ (sts 5 8 ++ (sts 8 17 ++ (sts 17 19 ++ (sts 19 20 ++ (sts 20 30 ++ (sts 30 33 ++ ([]))))))) := by kernel_rfl
theorem chain0 (w : World) (os : OsState) : topRun treeTable pw w m0 ann0 ((nat_lit 106) + ((nat_lit 673) + ((nat_lit 597) + ((nat_lit 523) + ((nat_lit 678) + ((nat_lit 691) + ((nat_lit 79) + ((nat_lit 2))))))))) (st_b w os).abs (restOf (sts 0 5 ++ (sts 5 8 ++ (sts 8 17 ++ (sts 17 19 ++ (sts 19 20 ++ (sts 20 30 ++ (sts 30 33 ++ ([])))))))) env0 cE ⟨0, 0, 0, 0⟩ fr0) = some ⟨hp1 w.params, ⟨[]⟩, ⟨0, 0, 0, 0⟩, (nat_lit 895), os⟩ :=
  piece_app (segRun_of (pc0 w os)) (piece_app (segRun_of (pc1 w os)) (piece_app (segRun_of (pc2 w os)) (piece_app (segRun_of (pc3 w os)) (piece_app (segRun_of (pc4 w os)) (piece_app (segRun_of (pc5 w os)) (piece_app (segRun_of (pc6 w os)) (piece_nil (fin0 w os))))))))
theorem chain1 (w : World) (os : OsState) : topRun treeTable pw w m0 ann0 ((nat_lit 106) + ((nat_lit 673) + ((nat_lit 597) + ((nat_lit 523) + ((nat_lit 678) + ((nat_lit 691) + ((nat_lit 79) + ((nat_lit 2))))))))) (st_b w os).abs (restOf (behindTheImports pw) env0 cE ⟨0, 0, 0, 0⟩ fr0) = some ⟨hp1 w.params, ⟨[]⟩, ⟨0, 0, 0, 0⟩, (nat_lit 895), os⟩ :=
  (congrArg (fun l => topRun treeTable pw w m0 ann0 ((nat_lit 106) + ((nat_lit 673) + ((nat_lit 597) + ((nat_lit 523) + ((nat_lit 678) + ((nat_lit 691) + ((nat_lit 79) + ((nat_lit 2))))))))) (st_b w os).abs (restOf l env0 cE ⟨0, 0, 0, 0⟩ fr0)) body0).trans (chain0 w os)
theorem run0 (w : World) (os : OsState) : topRun treeTable pw w m0 ann0 ((nat_lit 12) + ((nat_lit 1) + ((nat_lit 106) + ((nat_lit 673) + ((nat_lit 597) + ((nat_lit 523) + ((nat_lit 678) + ((nat_lit 691) + ((nat_lit 79) + ((nat_lit 2))))))))))) ⟨boot_heap w.params, ⟨[]⟩, boot_drawn, boot_toks, os⟩ (topStub pw) = some ⟨hp1 w.params, ⟨[]⟩, ⟨0, 0, 0, 0⟩, (nat_lit 895), os⟩ :=
  go_top (pre0 w os) (piece_block (segRun_of (blk0 w os)) (chain1 w os))
noncomputable abbrev fin_st (w : World) (os : OsState) : Shared := ⟨hp1 w.params, ⟨[]⟩, ⟨0, 0, 0, 0⟩, (nat_lit 895), os⟩
end Mine
end
section
open PySem PySem.W PySem.PyData PySem.Calls PyProof.Rows
set_option Elab.async false
set_option maxRecDepth 100000
set_option maxHeartbeats 0
namespace Mine
theorem asK_eq : ∀ P, asK = (K P).map (·.1) := fun P => by kernel_rfl
noncomputable abbrev lawRow : RowW := PySem.Challenge.rw_pb0145_01.row.toRowW
noncomputable abbrev Hk : Hook := kHook K asK asK_eq
noncomputable abbrev seenX (s : Shared) : Bool := xlAt view [] s && recOk (RowW.records PySem.Challenge.rw_pb0145_01.row.toRowW) s
theorem opened (w : World) : (fencedOpening treeTable pw w 6806).map (fun s => (s.heap, s.gens, s.drawn, s.toks)) = some (boot_heap w.params, Array.mk [], boot_drawn, boot_toks) :=
  boot_open (p := pw) (N := 6806) (by kernel_rfl) (by kernel_rfl) (fun s => by kernel_rfl) w
theorem sized (w : World) : ((boot_heap w.params).isNs mainGlobals && (Array.mk [] : Array GenState).size == 0, (boot_heap w.params).objs.size, (boot_heap w.params).nsMap mainGlobals (Str.ofString "__annotations__")) = (true, m0, ann0) := by kernel_rfl
theorem look1 (w : World) (os : OsState) : (staticsOk (importedModules pw.main.body) (boot_heap w.params) (hp1 w.params) && namesBound pw (hp1 w.params) && gensDone (fin_st w os) && laidKept (boot_heap w.params) (hp1 w.params)) = true := by kernel_rfl
theorem look2 (w : World) (os : OsState) : openSeen view looseK (importedModules pw.main.body) seenX true (fin_st w os) = openGood view looseK := by kernel_rfl
theorem look3 (w : World) (os : OsState) : (Hook.obs Hk) (fin_st w os) = Hook.val Hk w := by kernel_rfl
theorem look (w : World) : (fun os => ((staticsOk (importedModules pw.main.body) (boot_heap w.params) (hp1 w.params) && namesBound pw (hp1 w.params) && gensDone (fin_st w os) && laidKept (boot_heap w.params) (hp1 w.params)),
    openSeen view looseK (importedModules pw.main.body) seenX true (fin_st w os), (Hook.obs Hk) (fin_st w os))) = fun _ => (true, openGood view looseK, Hook.val Hk w) :=
  funext fun os => looks_pair (look1 w os) (looks_pair (look2 w os) (look3 w os))
theorem left : LeftO pw view looseK seenX (Hook.obs Hk) (Hook.val Hk) 6806 :=
  LeftO.of_pieces opened sized run0 (by kernel_rfl) look
theorem said : PySem.Challenge.rw_pb0145_01.wellSaid = true := by kernel_rfl
theorem hd2 {d : DefRec} {kwd : List (Str × PySem.Expr)} (hdef : defOf view PySem.Challenge.rw_pb0145_01.row.toRowW.name = some (d, kwd))
  (hp : PySem.Challenge.rw_pb0145_01.row.prog.theDef PySem.Challenge.rw_pb0145_01.row.name = some (d.params, d.body, d.scope)) (hkw : kwWritten? d.params.kwonlyargs d.params.kw_defaults = some kwd)
  (walk : WalkO view looseK (XL view []) (kHook K asK asK_eq).says PySem.Challenge.rw_pb0145_01.row.toRowW d kwd fun f vs => PySem.call f vs) : PySem.Challenge.rw_pb0145_01.Holds := by
  refine holds_law said fun sd => ?_
  refine holds_open (q := view) (loose := looseK) (Xt := seenX) (XP := XL view []) (Yf := Hook.obs Hk) (Ya := Hook.val Hk) (YP := Hook.says Hk) (N := 6806) left (Hook.of Hk) (Hook.keeps Hk) (fun s e => xl_of s (Bool.and_eq_true_iff.mp e).1) XL.keeps hdef hp hkw
    (fun s e => recFacts_of (Bool.and_eq_true_iff.mp e).2) (by rfl) sd (by kernel_rfl) ⟨rfl, rfl, rfl, rfl, rfl, by decide +kernel⟩ ?hw walk
  case hw => w_witness2
end Mine
end
section
open PySem PySem.W PySem.PyData PySem.Calls PyProof.Rows PyProof.Rows.LCg PyProof.Rows.LCt
set_option Elab.async false
namespace Mine
section
variable {prog : Program} {w : World} {A : Around} {E : Value → Shared → Prop} {s : Shared} {h₀ : Heap} {L : Addr} {m : Str → Option Value} {env : Env} {news : List (Addr × Obj)}
  {ct elt : PySem.Expr} {x : Str} {scope : Scope} {cl : List (Str × Addr)} {S : List (Addr × Obj) → Prop} {P : Nat → Value → Prop} {Fin : List Value → List (Addr × Obj) → Prop}
/-- the turns of a comprehension with one test and its own name for element, of any number -/
theorem rest_go {α : Type} {Are : List Value → List α → Prop} {R : α → Value → Prop} (snoc : ∀ ys l x v, Are ys l → R x v → Are (ys ++ [v]) (l ++ [x])) {src : List α} (c : α → Bool)
    (hP : ∀ (i : Nat) v, i < src.length → P i v → ∃ x, src[i]? = some x ∧ R x v)
    (step : ∀ (i : Nat) y v I oI C oC D ys m₂ h tk (E' : Value → Shared → Prop), src[i]? = some y → R y v → NsObj oC m₂ → m₂ x = some v → Fr h₀ L h m → News h₀ L h ((I, oI) :: (C, oC) :: (D, lst ys) :: news) → Off3 I C D news → ((@Ne Nat I C) ∧ (@Ne Nat I D) ∧ (@Ne Nat C D)) →
      wpAny (model prog w) A (isTrue ct (compEnvC scope cl C env) (eval ct (compEnvC scope cl C env))) (fun ok s' => if ok = true then
        wpAny (model prog w) A (eval elt (compEnvC scope cl C env)) (CompEnd h₀ L m { s with heap := h, toks := tk } I oI C oC D (lst ys) S (fun v' news' => news' = news ∧ v' = v ∧ c y = true)) E' s'
        else CompEnd h₀ L m { s with heap := h, toks := tk } I oI C oC D (lst ys) S (fun _ news' => news' = news ∧ c y = false) Value.none s') E' { s with heap := h, toks := tk })
    (fin : ∀ ys, Are ys (src.filter c) → Fin ys news) :
    ∀ (k i : Nat) (ys : List Value), i + k = src.length → Are ys ((src.take i).filter c) → CompRestT prog w A h₀ L m env ct elt x scope cl s S P Fin k i ys news := by
  intro k
  induction k with
  | zero => exact fun i ys hk ha => CompRestT.zero (fin ys (by rw [List.take_of_length_le (by omega)] at ha; exact ha))
  | succ k ih =>
    intro i ys hk ha
    refine CompRestT.succ fun v I oI C oC D m₂ h tk E' hv hC hx F' N' off' ne' => ?_
    obtain ⟨y, hy, hR⟩ := hP i v (by omega) hv
    have hi : i < src.length := by omega
    have et : src.take (i + 1) = src.take i ++ [y] := by rw [List.take_add_one, hy]; rfl
    refine wpAny_mono (step i y v I oI C oC D ys m₂ h tk E' hy hR hC hx F' N' off' ne') (fun ok s' hok => ?_) fun _ _ e => e
    cases ok with
    | true =>
      simp only [if_true] at hok ⊢
      refine wpAny_mono hok (fun v' s'' he => ?_) fun _ _ e => e
      obtain ⟨h', tk', news', e1, F1, N1, o1, S1, rfl, rfl, hc⟩ := he
      refine ⟨h', tk', news', e1, F1, N1, o1, S1, ih (i + 1) (ys ++ [v']) (by omega) ?_⟩
      rw [et, List.filter_append, List.filter_cons, hc]
      exact snoc _ _ _ _ ha hR
    | false =>
      simp only [Bool.false_eq_true, if_false] at hok ⊢
      obtain ⟨h', tk', news', e1, F1, N1, o1, S1, rfl, hc⟩ := hok
      refine ⟨h', tk', news', e1, F1, N1, o1, S1, ih (i + 1) ys (by omega) ?_⟩
      rw [et, List.filter_append, List.filter_cons, hc]
      simpa using ha
theorem ints_snoc {t : Tok} : ∀ {ys : List Value} {l : List Int} {x : Int}, IntsAre ys l → IntsAre (ys ++ [.int x t]) (l ++ [x]) := by
  intro ys l x h
  induction h with
  | nil => exact .cons _ _ .nil
  | cons n u _ ih => exact .cons n u ih
theorem strs_snoc {t : Tok} : ∀ {ys : List Value} {l : List Str} {x : Str}, StrsAre ys l → StrsAre (ys ++ [.str x t]) (l ++ [x]) := by
  intro ys l x h
  induction h with
  | nil => exact .cons _ _ .nil
  | cons n u _ ih => exact .cons n u ih
theorem ints_gets : ∀ {vs : List Value} {ns : List Int} {i : Nat} {v : Value}, IntsAre vs ns → vs[i]? = some v → ∃ x, ns[i]? = some x ∧ ∃ t, v = .int x t := by
  intro vs ns i v h e
  induction h generalizing i with
  | nil => exact absurd e (by simp)
  | cons n t _ ih =>
    cases i with
    | zero => exact ⟨n, rfl, t, (Option.some.inj e).symm⟩
    | succ i => exact ih (i := i) e
theorem strs_gets : ∀ {vs : List Value} {ns : List Str} {i : Nat} {v : Value}, StrsAre vs ns → vs[i]? = some v → ∃ x, ns[i]? = some x ∧ ∃ t, v = .str x t := by
  intro vs ns i v h e
  induction h generalizing i with
  | nil => exact absurd e (by simp)
  | cons n t _ ih =>
    cases i with
    | zero => exact ⟨n, rfl, t, (Option.some.inj e).symm⟩
    | succ i => exact ih (i := i) e
/-- over ints -/
theorem rest_ints {src : List Int} (c : Int → Bool) (hP : ∀ (i : Nat) v, i < src.length → P i v → ∃ x, src[i]? = some x ∧ ∃ t, v = .int x t)
    (step : ∀ (i : Nat) y t I oI C oC D ys m₂ h tk (E' : Value → Shared → Prop), y ∈ src → src[i]? = some y → NsObj oC m₂ → m₂ x = some (.int y t) → Fr h₀ L h m → News h₀ L h ((I, oI) :: (C, oC) :: (D, lst ys) :: news) → Off3 I C D news → ((@Ne Nat I C) ∧ (@Ne Nat I D) ∧ (@Ne Nat C D)) →
      wpAny (model prog w) A (isTrue ct (compEnvC scope cl C env) (eval ct (compEnvC scope cl C env))) (fun ok s' => if ok = true then
        wpAny (model prog w) A (eval elt (compEnvC scope cl C env)) (CompEnd h₀ L m { s with heap := h, toks := tk } I oI C oC D (lst ys) S (fun v' news' => news' = news ∧ v' = .int y t ∧ c y = true)) E' s'
        else CompEnd h₀ L m { s with heap := h, toks := tk } I oI C oC D (lst ys) S (fun _ news' => news' = news ∧ c y = false) Value.none s') E' { s with heap := h, toks := tk })
    (fin : ∀ ys, IntsAre ys (src.filter c) → Fin ys news) {n : Nat} (hn : n = src.length) : CompRestT prog w A h₀ L m env ct elt x scope cl s S P Fin n 0 [] news :=
  rest_go (Are := IntsAre) (R := fun x v => ∃ t, v = .int x t) (fun ys l x v h ⟨t, e⟩ => e ▸ ints_snoc h) c hP
    (fun i y v I oI C oC D ys m₂ h tk E' hy ⟨t, e⟩ hC hx F' N' off' ne' => by subst e; exact step i y t I oI C oC D ys m₂ h tk E' (List.mem_of_getElem? hy) hy hC hx F' N' off' ne') fin n 0 [] (by omega) .nil
/-- over texts -/
theorem rest_strs {src : List Str} (c : Str → Bool) (hP : ∀ (i : Nat) v, i < src.length → P i v → ∃ x, src[i]? = some x ∧ ∃ t, v = .str x t)
    (step : ∀ (i : Nat) y t I oI C oC D ys m₂ h tk (E' : Value → Shared → Prop), y ∈ src → src[i]? = some y → NsObj oC m₂ → m₂ x = some (.str y t) → Fr h₀ L h m → News h₀ L h ((I, oI) :: (C, oC) :: (D, lst ys) :: news) → Off3 I C D news → ((@Ne Nat I C) ∧ (@Ne Nat I D) ∧ (@Ne Nat C D)) →
      wpAny (model prog w) A (isTrue ct (compEnvC scope cl C env) (eval ct (compEnvC scope cl C env))) (fun ok s' => if ok = true then
        wpAny (model prog w) A (eval elt (compEnvC scope cl C env)) (CompEnd h₀ L m { s with heap := h, toks := tk } I oI C oC D (lst ys) S (fun v' news' => news' = news ∧ v' = .str y t ∧ c y = true)) E' s'
        else CompEnd h₀ L m { s with heap := h, toks := tk } I oI C oC D (lst ys) S (fun _ news' => news' = news ∧ c y = false) Value.none s') E' { s with heap := h, toks := tk })
    (fin : ∀ ys, StrsAre ys (src.filter c) → Fin ys news) {n : Nat} (hn : n = src.length) : CompRestT prog w A h₀ L m env ct elt x scope cl s S P Fin n 0 [] news :=
  rest_go (Are := StrsAre) (R := fun x v => ∃ t, v = .str x t) (fun ys l x v h ⟨t, e⟩ => e ▸ strs_snoc h) c hP
    (fun i y v I oI C oC D ys m₂ h tk E' hy ⟨t, e⟩ hC hx F' N' off' ne' => by subst e; exact step i y t I oI C oC D ys m₂ h tk E' (List.mem_of_getElem? hy) hy hC hx F' N' off' ne') fin n 0 [] (by omega) .nil
theorem compT_held {Fin : Shared → List Value → List (Addr × Obj) → Prop} {v : Value} (h : heldP (CompSrcT prog w A h₀ L m env ct elt x scope cl Fin v s)) : CompSrcT prog w A h₀ L m env ct elt x scope cl Fin v s := heldP_of h
theorem comp_end {I C D : Addr} {oI oC oD : Obj} {s₁ : Shared} {rest : Value → List (Addr × Obj) → Prop} {y : Value} {h' : Heap} {tk : Nat} (F1 : Fr h₀ L h' m) (N1 : News h₀ L h' ((I, oI) :: (C, oC) :: (D, oD) :: news)) (o3 : Off3 I C D news) (hS : S news) (hr : rest y news) :
    CompEnd h₀ L m s₁ I oI C oC D oD S rest y { s₁ with heap := h', toks := tk } := ⟨h', tk, news, rfl, F1, N1, o3, hS, hr⟩
noncomputable def upto (n : Nat) : List Int := (List.range n).map Int.ofNat
theorem upto_len (n : Nat) : n = (upto n).length := by simp [upto]
theorem upto_get {n i : Nat} (h : i < n) : (upto n)[i]? = some (i : Int) := by simp [upto, h]
theorem upto_mem {n : Nat} {y : Int} (h : y ∈ upto n) : 0 ≤ y ∧ y < n := by
  obtain ⟨i, hi, rfl⟩ := List.mem_map.mp h
  have := List.mem_range.mp hi
  exact ⟨Int.natCast_nonneg i, Int.ofNat_lt.mpr this⟩
end
section
variable {prog : Program} {w : World} {A : Around} {E : Value → Shared → Prop} {s : Shared} {h₀ : Heap} {L a b : Addr} {m : Str → Option Value} {news : List (Addr × Obj)} {us vs : List Value} {n1 n2 : Nat} {xs ys : List Str} {Q : Value → Shared → Prop}
theorem strs_app : ∀ {us vs : List Value} {xs ys : List Str}, StrsAre us xs → StrsAre vs ys → StrsAre (us ++ vs) (xs ++ ys) := by
  intro us vs xs ys g h
  induction g with
  | nil => exact h
  | cons x t _ ih => exact .cons x t ih
theorem led_add (F : Fr h₀ L s.heap m) (N : News h₀ L s.heap news) (ha : (a, listOf us.toArray n1) ∈ news) (hb : (b, listOf vs.toArray n2) ∈ news) (hi : StrsAre us xs) (hj : StrsAre vs ys) (hz : xs.length + ys.length ≤ 1000)
    (h : ∀ D ws h', StrsAre ws (xs ++ ys) → Fr h₀ L h' m → News h₀ L h' ((D, listOf (List.toArray ws) 0) :: news) → (∀ p ∈ news, p.1 < D) → Q (.ref D) { s with heap := h' }) : wpAny (model prog w) A (binaryOp .Add (.ref a) (.ref b)) Q E s := by
  refine add_lists F N (N.isList ha) (N.isList hb) (fun h' F' N' => h _ (us ++ vs) h' (strs_app hi hj) F' N' fun p hp => Heap.lt_size (N p hp).1) ?_
  have := StrsAre.length hi; have := StrsAre.length hj; rw [sizeLine_eq]; omega
end
end Mine
end
section
open PySem PySem.W PySem.PyData PySem.Calls PyProof.Rows PyProof.V PySem.Spec
set_option Elab.async false
namespace Mine
theorem se_canLayAll0 : ∀ ns : List Str, (∀ x ∈ ns, PyData.strOk x = true) → PyData.canLayAll0 (ns.map PyData.str) = true
  | [], _ => rfl
  | x :: r, h => by simp [PyData.canLayAll0, PyData.canLay0, se_canLayAll0 r (fun y hy => h y (.tail _ hy)), h x (.head _)]
theorem se_depthAll : ∀ ns : List Str, PyData.depthAll (ns.map PyData.str) = 0
  | [] => rfl
  | _ :: r => by simp [PyData.depthAll, PyData.depth, se_depthAll r]
theorem se_shaped (ns : List Str) (h : ∀ x ∈ ns, PyData.strOk x = true) : SeqAt.shaped (.list (ns.map PyData.str)) = true := by
  simp [SeqAt.shaped, PyData.canLay0, PyData.depth, se_canLayAll0 ns h, se_depthAll]
theorem se_sameAll : ∀ ns ms : List Str, PySem.Spec.sameAll (ns.map PyData.str) (ms.map PyData.str) = decide (ns = ms)
  | [], [] => by simp [PySem.Spec.sameAll]
  | [], _ :: _ => by simp [PySem.Spec.sameAll]
  | _ :: _, [] => by simp [PySem.Spec.sameAll]
  | a :: r, b :: t => by
    simp only [List.map_cons, PySem.Spec.sameAll, PySem.Spec.same, se_sameAll r t]
    by_cases h : a = b <;> by_cases h' : r = t <;> simp [h, h']
theorem se_same (ns ms : List Str) : PySem.Spec.same (.list (ns.map PyData.str)) (.list (ms.map PyData.str)) = decide (ns = ms) := by
  simp only [PySem.Spec.same]; exact se_sameAll ns ms
theorem se_carried : ∀ {vs : List Value} {ns : List Str}, StrsAre vs ns → CarriedAll vs (ns.map PyData.str)
  | _, _, .nil => .nil
  | _, _, .cons _ t r => .cons (.str _ t) (se_carried r)
section
variable {prog : Program} {w : World} {A : Around} {E : Value → Shared → Prop} {s : Shared} {h₀ : Heap} {L a b : Addr} {news : List (Addr × Obj)} {xs ys : List Value} {n1 n2 : Nat} {ns ms : List Int} {ss ts : List Str} {Q : Value → Shared → Prop}
theorem led_eq_ints (N : News h₀ L s.heap news) (ha : (a, listOf xs.toArray n1) ∈ news) (hi : IntsAre xs ns) (hb : (b, listOf ys.toArray n2) ∈ news) (hj : IntsAre ys ms) (hu : A.units + 64 < cLine) (h : Q (.bool (decide (ns = ms))) s) :
    wpAny (model prog w) A (compareOp .Eq (.ref a) (.ref b)) Q E s := ke_eq_ints (N.isList ha) (N.isList hb) hi hj hu h
theorem led_ne_ints (N : News h₀ L s.heap news) (ha : (a, listOf xs.toArray n1) ∈ news) (hi : IntsAre xs ns) (hb : (b, listOf ys.toArray n2) ∈ news) (hj : IntsAre ys ms) (hu : A.units + 64 < cLine) (h : Q (.bool (!decide (ns = ms))) s) :
    wpAny (model prog w) A (compareOp .NotEq (.ref a) (.ref b)) Q E s := ke_ne_ints (N.isList ha) (N.isList hb) hi hj hu h
theorem led_eq_strs (N : News h₀ L s.heap news) (ha : (a, listOf xs.toArray n1) ∈ news) (hi : StrsAre xs ss) (hb : (b, listOf ys.toArray n2) ∈ news) (hj : StrsAre ys ts) (o1 : ∀ x ∈ ss, PyData.strOk x = true) (o2 : ∀ x ∈ ts, PyData.strOk x = true) (hu : A.units + 64 < cLine) (h : Q (.bool (decide (ss = ts))) s) :
    wpAny (model prog w) A (compareOp .Eq (.ref a) (.ref b)) Q E s :=
  eq_dataH_same (reads_newData (N.isList ha) (se_carried hi)) (reads_newData (N.isList hb) (se_carried hj)) (se_shaped _ o1) (se_shaped _ o2) hu (SeqAt.noMix_of_shape (.list .str) rfl _ _ (list_map_has fun _ => rfl) (list_map_has fun _ => rfl)) (by rw [se_same]; exact h)
theorem led_ne_strs (N : News h₀ L s.heap news) (ha : (a, listOf xs.toArray n1) ∈ news) (hi : StrsAre xs ss) (hb : (b, listOf ys.toArray n2) ∈ news) (hj : StrsAre ys ts) (o1 : ∀ x ∈ ss, PyData.strOk x = true) (o2 : ∀ x ∈ ts, PyData.strOk x = true) (hu : A.units + 64 < cLine) (h : Q (.bool (!decide (ss = ts))) s) :
    wpAny (model prog w) A (compareOp .NotEq (.ref a) (.ref b)) Q E s :=
  ne_dataH_same (reads_newData (N.isList ha) (se_carried hi)) (reads_newData (N.isList hb) (se_carried hj)) (se_shaped _ o1) (se_shaped _ o2) hu (SeqAt.noMix_of_shape (.list .str) rfl _ _ (list_map_has fun _ => rfl) (list_map_has fun _ => rfl)) (by rw [se_same]; exact h)
end
theorem clamp9 {x : Int} {n : Nat} (h : 0 ≤ x) : max 0 (min x (n : Int)) = ((min x.toNat n : Nat) : Int) := by omega
theorem pick_upto9 (vs : List Value) {y : Int} (h : 0 ≤ y) : (slicePick vs.toArray Option.none (some y) Option.none).toList = vs.take y.toNat := by
  have e : sliceBounds Option.none (some y) Option.none vs.toArray.size = (((0 : Nat) : Int), ((min y.toNat vs.toArray.size : Nat) : Int), 1) := by
    simp only [sliceBounds, Option.getD_none, show (1 : Int) > 0 by decide, if_true, if_neg (show ¬ (y < 0) by omega)]
    congr 1
    congr 1
    exact clamp9 h
  rw [kmk_pick_nat _ e]
  show ((vs.drop 0).take (min y.toNat vs.toArray.size - 0)) = _
  rw [List.drop_zero, Nat.sub_zero, List.size_toArray, kmk_take_min]
theorem pick_from9 (vs : List Value) {x : Int} (h : 0 ≤ x) : (slicePick vs.toArray (some x) Option.none Option.none).toList = vs.drop x.toNat := by
  have e : sliceBounds (some x) Option.none Option.none vs.toArray.size = (((min x.toNat vs.toArray.size : Nat) : Int), ((vs.toArray.size : Nat) : Int), 1) := by
    simp only [sliceBounds, Option.getD_none, show (1 : Int) > 0 by decide, if_true, if_neg (show ¬ (x < 0) by omega)]
    congr 1
    exact clamp9 h
  rw [kmk_pick_nat _ e]
  show ((vs.drop (min x.toNat vs.toArray.size)).take (vs.toArray.size - min x.toNat vs.toArray.size)) = _
  rw [List.size_toArray, kmk_drop_min, List.take_of_length_le (by rw [List.length_drop]; omega)]
theorem pick_run9 (vs : List Value) {x y : Int} (h : 0 ≤ x) (h2 : 0 ≤ y) : (slicePick vs.toArray (some x) (some y) Option.none).toList = (vs.take y.toNat).drop x.toNat := by
  have e : sliceBounds (some x) (some y) Option.none vs.toArray.size = (((min x.toNat vs.toArray.size : Nat) : Int), ((min y.toNat vs.toArray.size : Nat) : Int), 1) := by
    simp only [sliceBounds, Option.getD_none, show (1 : Int) > 0 by decide, if_true, if_neg (show ¬ (x < 0) by omega), if_neg (show ¬ (y < 0) by omega)]
    congr 1
    · exact clamp9 h
    · congr 1
      exact clamp9 h2
  rw [kmk_pick_nat _ e]
  show ((vs.drop (min x.toNat vs.toArray.size)).take (min y.toNat vs.toArray.size - min x.toNat vs.toArray.size)) = _
  rw [List.size_toArray]
  rcases Nat.le_total x.toNat vs.length with hx | hx
  · rw [Nat.min_eq_left hx]
    rcases Nat.le_total y.toNat vs.length with hy | hy
    · rw [Nat.min_eq_left hy, List.drop_take]
    · rw [Nat.min_eq_right hy, List.drop_take, List.take_of_length_le (by rw [List.length_drop]; exact Nat.le_refl _), List.take_of_length_le (by rw [List.length_drop]; exact Nat.sub_le_sub_right hy _)]
  · rw [Nat.min_eq_right hx, List.drop_eq_nil_of_le (Nat.le_refl _), List.take_nil, List.drop_eq_nil_of_le (Nat.le_trans (List.length_take_le' ..) hx)]
theorem pick_all9 (vs : List Value) : (slicePick vs.toArray Option.none Option.none Option.none).toList = vs := by
  have e : sliceBounds Option.none Option.none Option.none vs.toArray.size = (((0 : Nat) : Int), ((vs.toArray.size : Nat) : Int), 1) := by
    simp [sliceBounds]
  rw [kmk_pick_nat _ e]
  show ((vs.drop 0).take (vs.toArray.size - 0)) = _
  rw [List.drop_zero, Nat.sub_zero, List.size_toArray, List.take_length]
theorem strs_take : ∀ {vs : List Value} {ns : List Str} (k : Nat), StrsAre vs ns → StrsAre (vs.take k) (ns.take k)
  | _, _, 0, _ => by simpa using StrsAre.nil
  | _, _, _ + 1, .nil => .nil
  | _, _, k + 1, .cons x t h => .cons x t (strs_take k h)
theorem strs_drop : ∀ {vs : List Value} {ns : List Str} (k : Nat), StrsAre vs ns → StrsAre (vs.drop k) (ns.drop k)
  | _, _, 0, h => h
  | _, _, _ + 1, .nil => .nil
  | _, _, k + 1, .cons _ _ h => strs_drop k h
section
variable {prog : Program} {w : World} {A : Around} {E : Value → Shared → Prop} {s : Shared} {h₀ : Heap} {L l : Addr} {m : Str → Option Value} {news : List (Addr × Obj)} {value slice : PySem.Expr} {vs : List Value} {n : Nat} {ns : List Int} {ss : List Str} {x y : Int} {t u : Tok} {Q : Value → Shared → Prop}
theorem upto_ints (F : Fr h₀ L s.heap m) (N : News h₀ L s.heap news) (hm : (l, listOf vs.toArray n) ∈ news) (hi : IntsAre vs ns) (hy : 0 ≤ y) (hz : ns.length ≤ 1000)
    (h : ∀ D us h', IntsAre us (ns.take y.toNat) → Fr h₀ L h' m → News h₀ L h' ((D, listOf (List.toArray us) 0) :: news) → (∀ p ∈ news, p.1 < D) → Q (.ref D) { s with heap := h' })
    (hs : subscripted slice false (.ref l) (.ref s.heap.objs.size) = operate [.ref s.heap.objs.size, .ref l] (getItem (.ref l) (.ref s.heap.objs.size))) (ht : ∀ r, letTemporaryGo value (.ref l) r = pure ()) :
    wpAny (model prog w) A (subscriptTail value slice (.ref l) (.ref s.heap.objs.size)) Q E { s with heap := s.heap.push { cls := .type "slice", data := .fields #[.none, (.int y u), .none] } } :=
  kmk_slice_lit F N (N.isList hm) IsPart.none (IsPart.int _ _) (pick_upto9 vs hy) (fun D h' F' N' l1 => h D _ h' (hi.take _) F' N' l1) hs ht (by rw [sizeLine_eq, List.size_toArray, hi.length]; omega)
theorem from_ints (F : Fr h₀ L s.heap m) (N : News h₀ L s.heap news) (hm : (l, listOf vs.toArray n) ∈ news) (hi : IntsAre vs ns) (hx : 0 ≤ x) (hz : ns.length ≤ 1000)
    (h : ∀ D us h', IntsAre us (ns.drop x.toNat) → Fr h₀ L h' m → News h₀ L h' ((D, listOf (List.toArray us) 0) :: news) → (∀ p ∈ news, p.1 < D) → Q (.ref D) { s with heap := h' })
    (hs : subscripted slice false (.ref l) (.ref s.heap.objs.size) = operate [.ref s.heap.objs.size, .ref l] (getItem (.ref l) (.ref s.heap.objs.size))) (ht : ∀ r, letTemporaryGo value (.ref l) r = pure ()) :
    wpAny (model prog w) A (subscriptTail value slice (.ref l) (.ref s.heap.objs.size)) Q E { s with heap := s.heap.push { cls := .type "slice", data := .fields #[(.int x t), .none, .none] } } :=
  kmk_slice_lit F N (N.isList hm) (IsPart.int _ _) IsPart.none (pick_from9 vs hx) (fun D h' F' N' l1 => h D _ h' (hi.drop _) F' N' l1) hs ht (by rw [sizeLine_eq, List.size_toArray, hi.length]; omega)
theorem run_ints (F : Fr h₀ L s.heap m) (N : News h₀ L s.heap news) (hm : (l, listOf vs.toArray n) ∈ news) (hi : IntsAre vs ns) (hx : 0 ≤ x) (hy : 0 ≤ y) (hz : ns.length ≤ 1000)
    (h : ∀ D us h', IntsAre us ((ns.take y.toNat).drop x.toNat) → Fr h₀ L h' m → News h₀ L h' ((D, listOf (List.toArray us) 0) :: news) → (∀ p ∈ news, p.1 < D) → Q (.ref D) { s with heap := h' })
    (hs : subscripted slice false (.ref l) (.ref s.heap.objs.size) = operate [.ref s.heap.objs.size, .ref l] (getItem (.ref l) (.ref s.heap.objs.size))) (ht : ∀ r, letTemporaryGo value (.ref l) r = pure ()) :
    wpAny (model prog w) A (subscriptTail value slice (.ref l) (.ref s.heap.objs.size)) Q E { s with heap := s.heap.push { cls := .type "slice", data := .fields #[(.int x t), (.int y u), .none] } } :=
  kmk_slice_lit F N (N.isList hm) (IsPart.int _ _) (IsPart.int _ _) (pick_run9 vs hx hy) (fun D h' F' N' l1 => h D _ h' ((hi.take _).drop _) F' N' l1) hs ht (by rw [sizeLine_eq, List.size_toArray, hi.length]; omega)
theorem all_ints (F : Fr h₀ L s.heap m) (N : News h₀ L s.heap news) (hm : (l, listOf vs.toArray n) ∈ news) (hi : IntsAre vs ns)  (hz : ns.length ≤ 1000)
    (h : ∀ D us h', IntsAre us (ns) → Fr h₀ L h' m → News h₀ L h' ((D, listOf (List.toArray us) 0) :: news) → (∀ p ∈ news, p.1 < D) → Q (.ref D) { s with heap := h' })
    (hs : subscripted slice false (.ref l) (.ref s.heap.objs.size) = operate [.ref s.heap.objs.size, .ref l] (getItem (.ref l) (.ref s.heap.objs.size))) (ht : ∀ r, letTemporaryGo value (.ref l) r = pure ()) :
    wpAny (model prog w) A (subscriptTail value slice (.ref l) (.ref s.heap.objs.size)) Q E { s with heap := s.heap.push { cls := .type "slice", data := .fields #[.none, .none, .none] } } :=
  kmk_slice_lit F N (N.isList hm) IsPart.none IsPart.none (pick_all9 vs) (fun D h' F' N' l1 => h D _ h' (hi) F' N' l1) hs ht (by rw [sizeLine_eq, List.size_toArray, hi.length]; omega)
theorem upto_strs (F : Fr h₀ L s.heap m) (N : News h₀ L s.heap news) (hm : (l, listOf vs.toArray n) ∈ news) (hi : StrsAre vs ss) (hy : 0 ≤ y) (hz : ss.length ≤ 1000)
    (h : ∀ D us h', StrsAre us (ss.take y.toNat) → Fr h₀ L h' m → News h₀ L h' ((D, listOf (List.toArray us) 0) :: news) → (∀ p ∈ news, p.1 < D) → Q (.ref D) { s with heap := h' })
    (hs : subscripted slice false (.ref l) (.ref s.heap.objs.size) = operate [.ref s.heap.objs.size, .ref l] (getItem (.ref l) (.ref s.heap.objs.size))) (ht : ∀ r, letTemporaryGo value (.ref l) r = pure ()) :
    wpAny (model prog w) A (subscriptTail value slice (.ref l) (.ref s.heap.objs.size)) Q E { s with heap := s.heap.push { cls := .type "slice", data := .fields #[.none, (.int y u), .none] } } :=
  kmk_slice_lit F N (N.isList hm) IsPart.none (IsPart.int _ _) (pick_upto9 vs hy) (fun D h' F' N' l1 => h D _ h' (strs_take _ hi) F' N' l1) hs ht (by rw [sizeLine_eq, List.size_toArray, StrsAre.length hi]; omega)
theorem from_strs (F : Fr h₀ L s.heap m) (N : News h₀ L s.heap news) (hm : (l, listOf vs.toArray n) ∈ news) (hi : StrsAre vs ss) (hx : 0 ≤ x) (hz : ss.length ≤ 1000)
    (h : ∀ D us h', StrsAre us (ss.drop x.toNat) → Fr h₀ L h' m → News h₀ L h' ((D, listOf (List.toArray us) 0) :: news) → (∀ p ∈ news, p.1 < D) → Q (.ref D) { s with heap := h' })
    (hs : subscripted slice false (.ref l) (.ref s.heap.objs.size) = operate [.ref s.heap.objs.size, .ref l] (getItem (.ref l) (.ref s.heap.objs.size))) (ht : ∀ r, letTemporaryGo value (.ref l) r = pure ()) :
    wpAny (model prog w) A (subscriptTail value slice (.ref l) (.ref s.heap.objs.size)) Q E { s with heap := s.heap.push { cls := .type "slice", data := .fields #[(.int x t), .none, .none] } } :=
  kmk_slice_lit F N (N.isList hm) (IsPart.int _ _) IsPart.none (pick_from9 vs hx) (fun D h' F' N' l1 => h D _ h' (strs_drop _ hi) F' N' l1) hs ht (by rw [sizeLine_eq, List.size_toArray, StrsAre.length hi]; omega)
theorem run_strs (F : Fr h₀ L s.heap m) (N : News h₀ L s.heap news) (hm : (l, listOf vs.toArray n) ∈ news) (hi : StrsAre vs ss) (hx : 0 ≤ x) (hy : 0 ≤ y) (hz : ss.length ≤ 1000)
    (h : ∀ D us h', StrsAre us ((ss.take y.toNat).drop x.toNat) → Fr h₀ L h' m → News h₀ L h' ((D, listOf (List.toArray us) 0) :: news) → (∀ p ∈ news, p.1 < D) → Q (.ref D) { s with heap := h' })
    (hs : subscripted slice false (.ref l) (.ref s.heap.objs.size) = operate [.ref s.heap.objs.size, .ref l] (getItem (.ref l) (.ref s.heap.objs.size))) (ht : ∀ r, letTemporaryGo value (.ref l) r = pure ()) :
    wpAny (model prog w) A (subscriptTail value slice (.ref l) (.ref s.heap.objs.size)) Q E { s with heap := s.heap.push { cls := .type "slice", data := .fields #[(.int x t), (.int y u), .none] } } :=
  kmk_slice_lit F N (N.isList hm) (IsPart.int _ _) (IsPart.int _ _) (pick_run9 vs hx hy) (fun D h' F' N' l1 => h D _ h' (strs_drop _ (strs_take _ hi)) F' N' l1) hs ht (by rw [sizeLine_eq, List.size_toArray, StrsAre.length hi]; omega)
theorem all_strs (F : Fr h₀ L s.heap m) (N : News h₀ L s.heap news) (hm : (l, listOf vs.toArray n) ∈ news) (hi : StrsAre vs ss)  (hz : ss.length ≤ 1000)
    (h : ∀ D us h', StrsAre us (ss) → Fr h₀ L h' m → News h₀ L h' ((D, listOf (List.toArray us) 0) :: news) → (∀ p ∈ news, p.1 < D) → Q (.ref D) { s with heap := h' })
    (hs : subscripted slice false (.ref l) (.ref s.heap.objs.size) = operate [.ref s.heap.objs.size, .ref l] (getItem (.ref l) (.ref s.heap.objs.size))) (ht : ∀ r, letTemporaryGo value (.ref l) r = pure ()) :
    wpAny (model prog w) A (subscriptTail value slice (.ref l) (.ref s.heap.objs.size)) Q E { s with heap := s.heap.push { cls := .type "slice", data := .fields #[.none, .none, .none] } } :=
  kmk_slice_lit F N (N.isList hm) IsPart.none IsPart.none (pick_all9 vs) (fun D h' F' N' l1 => h D _ h' (hi) F' N' l1) hs ht (by rw [sizeLine_eq, List.size_toArray, StrsAre.length hi]; omega)
end
/-- the last int of a list, -1 where there is none -/
noncomputable def last9 (ns : List Int) : Int := ns.getLast?.getD (-1)
theorem last9_some {ns : List Int} (h : ns ≠ []) : ns.getLast? = some (last9 ns) := by
  unfold last9
  rw [List.getLast?_eq_some_getLast h]
  rfl
theorem last9_mem {ns : List Int} (h : ns ≠ []) : last9 ns ∈ ns := List.mem_of_getLast? (last9_some h)
section
variable {prog : Program} {w : World} {A : Around} {E : Value → Shared → Prop} {s : Shared} {h₀ : Heap} {L D : Addr} {news : List (Addr × Obj)} {value slice : PySem.Expr} {vs : List Value} {n : Nat} {ns : List Int} {t : Tok} {Q : Value → Shared → Prop}
theorem led_neg (N : News h₀ L s.heap news) (hm : (D, listOf vs.toArray n) ∈ news) (hi : IntsAre vs ns) (hne : ns ≠ [])
    (h : ∀ t, last9 ns ∈ ns → Q (.int (last9 ns) t) s)
    (hs : subscripted slice false (.ref D) (.int (-1) t) = operate [.ref D, .int (-1) t] (getItem (.ref D) (.int (-1) t)) := by with_unfolding_all rfl) :
    wpAny (model prog w) A (subscriptTail value slice (.ref D) (.int (-1) t)) Q E s := by
  have hl := N.isList hm
  have hlen : 0 < ns.length := List.length_pos_iff.mpr hne
  have hv := hi.length
  obtain ⟨u, hu⟩ := hi.get (ns.length - 1) (last9 ns) (by rw [← List.getLast?_eq_getElem?]; exact last9_some hne)
  refine tail_any hl.typeIs slot_list_getitem.lookup (wpAny_getItem_list_neg hl (by decide) (by rw [List.size_toArray]; omega) (by decide) ?_ (h u (last9_mem hne))) hs
  rw [List.size_toArray, hv, show (-1 + (ns.length : Int)).toNat = ns.length - 1 by omega]
  simpa using hu
end
end Mine
end
section
open PySem PySem.W PySem.PyData PySem.Calls PyProof.Rows
set_option Elab.async false
namespace Mine
/-- a list of ints that some step hands on, and nothing else changed -/
noncomputable def AList (g : Heap) (L : Addr) (m : Str → Option Value) (news : List (Addr × Obj)) (ns : List Int) (s : Shared) (v : Value) (s' : Shared) : Prop :=
  ∃ D bv nb h' tk', v = Value.ref D ∧ s' = { s with heap := h', toks := tk' } ∧ IntsAre bv ns ∧ Fr g L h' m ∧ News g L h' ((D, listOf (List.toArray bv) nb) :: news)
theorem mono_list {M : Model} {A : Around} {t : Sem Value} {Q : Value → Shared → Prop} {E : Value → Shared → Prop} {s : Shared} {g : Heap} {L : Addr} {m : Str → Option Value} {news : List (Addr × Obj)} (ns : List Int) (_ : Fr g L s.heap m) (_ : News g L s.heap news)
    (h : wpAny M A t (AList g L m news ns s) E s) (k : ∀ D bv nb h' tk', IntsAre bv ns → Fr g L h' m → News g L h' ((D, listOf (List.toArray bv) nb) :: news) → Q (.ref D) { s with heap := h', toks := tk' }) : wpAny M A t Q E s :=
  wpAny_mono h (fun _ _ q9 => by obtain ⟨D, bv, nb, h', tk', e1, e2, hb, F, N⟩ := q9; subst e1; subst e2; exact k D bv nb h' tk' hb F N) fun _ _ e => e
theorem cell_apart {g h : Heap} {L D c : Addr} {vs : List Value} {n : Nat} {o : Obj} {v : Option Value} {news : List (Addr × Obj)} (N : News g L h ((D, listOf vs.toArray n) :: news)) (hm : (c, o) ∈ news) (d : o.data = .cell v) : D ≠ c ∧ c ≠ D := by
  have e : D ≠ c := News.twoPlaces N (.head _) (.tail _ hm) (fun e => by have e2 : listOf vs.toArray n = o := e; rw [← e2] at d; cases d)
  exact ⟨e, Ne.symm e⟩
theorem sub_three {α : Type} {a b c : α} {l r : List α} (h1 : a ∈ l) (h2 : b ∈ l) (h4 : c ∈ l) (h3 : ∀ p ∈ r, p ∈ l) : ∀ p ∈ a :: b :: c :: r, p ∈ l := fun p hp => by
  rcases List.mem_cons.mp hp with e | hp
  · exact e ▸ h1
  · rcases List.mem_cons.mp hp with e | hp
    · exact e ▸ h2
    · rcases List.mem_cons.mp hp with e | hp
      · exact e ▸ h4
      · exact h3 p hp
theorem q_of {it er : Addr} {xs : List Addr} (h : ∀ x ∈ xs, x < it ∧ x < er) : xs.all (fun x => x != it && x != er) = true :=
  List.all_eq_true.mpr fun x hx => Bool.and_eq_true_iff.mpr ⟨bne_iff_ne.mpr (Nat.ne_of_lt (h x hx).1), bne_iff_ne.mpr (Nat.ne_of_lt (h x hx).2)⟩
theorem lt_lo {a d : Addr} {o : Obj} {l : List (Addr × Obj)} (h : ∀ p ∈ l, p.1 < d) (m : (a, o) ∈ l) : a < d := h _ m
theorem comp_one {g : Heap} {L I C D t : Addr} {m : Str → Option Value} {s₁ : Shared} {oI oC oD o : Obj} {news : List (Addr × Obj)} {S : List (Addr × Obj) → Prop} {rest : Value → List (Addr × Obj) → Prop} {h' : Heap} {tk : Nat} (F : Fr g L h' m) (N : News g L h' ((t, o) :: (I, oI) :: (C, oC) :: (D, oD) :: news))
    (hf : ∀ p ∈ (I, oI) :: (C, oC) :: (D, oD) :: news, p.1 < t) (off : LCg.Off3 I C D news) (hS : S ((t, o) :: news)) (hr : rest (.ref t) ((t, o) :: news)) : LCg.CompEnd g L m s₁ I oI C oC D oD S rest (.ref t) { s₁ with heap := h', toks := tk } :=
  ⟨h', tk, (t, o) :: news, rfl, F, News.perm N (List.forall_mem_cons.mpr ⟨.tail _ (.head _), List.forall_mem_cons.mpr ⟨.tail _ (.tail _ (.head _)), List.forall_mem_cons.mpr ⟨.tail _ (.tail _ (.tail _ (.head _))), List.forall_mem_cons.mpr ⟨.head _, fun p hp => .tail _ (.tail _ (.tail _ (.tail _ hp)))⟩⟩⟩⟩),
    ⟨⟨Nat.ne_of_gt (hf _ (.head _)), Nat.ne_of_gt (hf _ (.tail _ (.head _))), Nat.ne_of_gt (hf _ (.tail _ (.tail _ (.head _))))⟩, off⟩, hS, hr⟩
theorem compG_held {prog : Program} {w : World} {A : Around} {s : Shared} {h₀ : Heap} {L : Addr} {m : Str → Option Value} {env : Env} {elt : PySem.Expr} {x : Str} {scope : Scope} {cl : List (Str × Addr)} {Fin : Shared → List Value → List (Addr × Obj) → Prop} {v : Value}
    (h : heldP (LCg.CompSrc prog w A h₀ L m env elt x scope cl Fin v s)) : LCg.CompSrc prog w A h₀ L m env elt x scope cl Fin v s := heldP_of h
end Mine
end
section
open PySem PySem.W PySem.PyData PySem.Calls PyProof.Rows PyProof.V PySem.Spec
set_option Elab.async false
namespace Mine
noncomputable abbrev kidsD (ls : List (List Int)) : List PyData := ls.map fun l => PyData.list (l.map PyData.int)
theorem kids_canLay : ∀ ls : List (List Int), PyData.canLayAll0 (kidsD ls) = true
  | [] => rfl
  | l :: r => by simp [PyData.canLayAll0, PyData.canLay0, ke_canLayAll0, kids_canLay r]
theorem kids_depth : ∀ ls : List (List Int), PyData.depthAll (kidsD ls) ≤ 1
  | [] => by simp [PyData.depthAll]
  | l :: r => by have := kids_depth r; simp only [kidsD, List.map_cons, PyData.depthAll, PyData.depth, ke_depthAll] at this ⊢; omega
theorem kids_shaped (ls : List (List Int)) : SeqAt.shaped (.list (kidsD ls)) = true := by
  have := kids_depth ls
  simp [SeqAt.shaped, PyData.canLay0, PyData.depth, kids_canLay ls]; omega
theorem kids_eqv : ∀ ls : List (List Int), PyData.eqvAll (kidsD ls) (kidsD ls) = true
  | [] => by simp [PyData.eqvAll]
  | l :: r => by simp only [kidsD, List.map_cons, PyData.eqvAll, PyData.eqv, ked_eqvAll, decide_true, Bool.true_and]; exact kids_eqv r
theorem strs_eqv : ∀ ns : List Str, PyData.eqvAll (ns.map PyData.str) (ns.map PyData.str) = true
  | [] => by simp [PyData.eqvAll]
  | a :: r => by simp [PyData.eqvAll, PyData.eqv, strs_eqv r]
section
variable {prog : Program} {w : World} {A : Around} {E : Value → Shared → Prop} {s : Shared} {h₀ : Heap} {L a b c d : Addr} {news : List (Addr × Obj)} {xs ys : List Value} {n1 n2 : Nat} {Q : Value → Shared → Prop}
theorem led_eq_nil (N : News h₀ L s.heap news) (ha : (a, listOf #[] n1) ∈ news) (hb : (b, listOf #[] n2) ∈ news) (hu : A.units + 64 < cLine) (h : Q (.bool true) s) :
    wpAny (model prog w) A (compareOp .Eq (.ref a) (.ref b)) Q E s :=
  eq_dataH (reads_list_at (News.get N ha) rfl rfl .nil) (reads_list_at (News.get N hb) rfl rfl .nil) (by decide) (by decide) hu (by simpa [PyData.eqv, PyData.eqvAll] using h)
theorem led_eq_note {x y : Str} {t1 t2 t3 t4 : Tok} (N : News h₀ L s.heap news) (ha : (a, listOf #[.ref c] n1) ∈ news) (hb : (b, listOf #[.ref d] n2) ∈ news)
    (hc : (c, ({ cls := .type "tuple", data := .seq #[.str x t1, .str y t2] } : Obj)) ∈ news) (hd : (d, ({ cls := .type "tuple", data := .seq #[.str x t3, .str y t4] } : Obj)) ∈ news) (o1 : PyData.strOk x = true) (o2 : PyData.strOk y = true) (hu : A.units + 64 < cLine) (h : Q (.bool true) s) :
    wpAny (model prog w) A (compareOp .Eq (.ref a) (.ref b)) Q E s := by
  have hs : SeqAt.shaped (.list [.tuple [.str x, .str y]]) = true := by simp [SeqAt.shaped, PyData.canLay0, PyData.canLayAll0, PyData.depth, PyData.depthAll, o1, o2]
  exact eq_dataH (reads_list_at (News.get N ha) rfl rfl (.cons (reads_tuple_at (News.get N hc) rfl rfl (.cons (.str _ _) (.cons (.str _ _) .nil))) .nil)) (reads_list_at (News.get N hb) rfl rfl (.cons (reads_tuple_at (News.get N hd) rfl rfl (.cons (.str _ _) (.cons (.str _ _) .nil))) .nil)) hs hs hu (by simpa [PyData.eqv, PyData.eqvAll] using h)
end
end Mine
end
section
open PySem PySem.W PySem.Calls PyProof.Rows PyProof.V PySem.Spec
set_option Elab.async false
namespace Mine
/-- a tuple that stands at the top, or in the ledger's rest -/
noncomputable def TupAt (p : Params) (rest : List (Addr × Obj)) (ax : Addr) (ai : Array Value) : Prop :=
  (∃ o, (K p).lookup ax = some o ∧ o.cls = .type "tuple" ∧ ∃ n, o.data = .seq ai n) ∨ ∃ o, (ax, o) ∈ rest ∧ o.cls = .type "tuple" ∧ ∃ n, o.data = .seq ai n
theorem TupAt.is {p : Params} {rest l : List (Addr × Obj)} {ax : Addr} {ai : Array Value} {g h : Heap} {L : Addr} {m : Str → Option Value} (x : TupAt p rest ax ai) (X : (K p).In g) (F : Fr g L h m) (N : News g L h l) (hs : ∀ q ∈ rest, q ∈ l) : IsTup h ax ai := by
  rcases x with ⟨o, e, c⟩ | ⟨o, e, c⟩
  · exact ⟨o, F.keep _ _ (X _ _ e), c⟩
  · exact ⟨o, (N _ (hs _ e)).1, c⟩
theorem TupAt.more {p : Params} {rest l : List (Addr × Obj)} {ax : Addr} {ai : Array Value} (x : TupAt p rest ax ai) (hs : ∀ q ∈ rest, q ∈ l) : TupAt p l ax ai := by
  rcases x with e | ⟨o, e, c⟩
  · exact .inl e
  · exact .inr ⟨o, hs _ e, c⟩
theorem flat_int {x : Value} {n : Int} (h : Flat x (.int n)) : ∃ t, x = .int n t := by
  cases h default with
  | int i t => exact ⟨t, rfl⟩
/-- a dict of ints under ints -/
noncomputable def CoIs (w : World) (oc : Obj) (cf : Int → Option Int) (b : Nat) : Prop :=
  ∃ kvs T, oc.IsDictOf (intKind P0 w) kvs ∧ FlatPairs PyData.int kvs T ∧ (∀ i, lookup (.int i) T = (cf i).map PyData.int) ∧ T.length ≤ b
section
variable {w : World} {A : Around} {E : Value → Shared → Prop} {s : Shared} {h₀ : Heap} {L d : Addr} {m : Str → Option Value} {news : List (Addr × Obj)} {g : Obj → List (Addr × Obj)} {oc : Obj} {cf : Int → Option Int} {b : Nat}
theorem co_set {i v : Int} {t u : Tok} {Q : Unit → Shared → Prop} (F : Fr h₀ L s.heap m) (N : News h₀ L s.heap news) (U : UpdF d oc news g) (hc : CoIs w oc cf b) (hb : b ≤ 1000)
    (k : ∀ h' o' tk, Fr h₀ L h' m → News h₀ L h' (g o') → CoIs w o' (fun j => if j = i then some v else cf j) (b + 1) → Q () { s with heap := h', toks := tk }) : wpAny (model P0 w) A (setItem (.ref d) (.int i t) (.int v u)) Q E s := by
  obtain ⟨kvs, T, h1, h2, h3, h4⟩ := hc
  refine setItem_K PyProof.V.same_int (intKind_is _ _ _ _) (Flat.int _ _) F N U h1 h2 (fun h' o' F' N' hd' hf' => k h' o' _ F' N' ⟨_, _, hd', hf', fun j => ?_, ?_⟩) (by rw [sizeLine_eq]; omega)
  · rw [lookup_putD_int, h3]; dsimp only; split <;> rfl
  · have := putD_length_le (PyData.int i) (PyData.int v) T; omega
theorem co_get {i v : Int} {t u : Tok} {Q : Value → Shared → Prop} (N : News h₀ L s.heap news) (hm : (d, oc) ∈ news) (lo : (d == sysModules) = false) (hc : CoIs w oc cf b)
    (k : ∀ t' tk, Q (.int ((cf i).getD v) t') { s with toks := tk }) : wpAny (model P0 w) A (call (.builtin "dict.get") [.ref d, .int i t, .int v u]) Q E s := by
  obtain ⟨kvs, T, h1, h2, h3, h4⟩ := hc
  refine call_get2_intTab (TabAt.ofNews N hm lo h1 h2) (Flat.int v u) fun x hx => ?_
  rw [h3 i] at hx
  have e : ((cf i).map PyData.int).getD (PyData.int v) = PyData.int ((cf i).getD v) := by cases cf i <;> rfl
  rw [e] at hx
  obtain ⟨t', rfl⟩ := flat_int hx
  exact k _ _
end
/-- the lists of children: the values that name them, where they lie, what they hold -/
inductive Kids : List Value → List (Addr × Obj) → List (List Int) → Prop
  | nil : Kids [] [] []
  | cons {c : Addr} {vs : List Value} {e : Nat} {ns : List Int} {rs es ls} : IntsAre vs ns → Kids rs es ls → Kids (.ref c :: rs) ((c, listOf vs.toArray e) :: es) (ns :: ls)
theorem Kids.len : ∀ {rs es ls}, Kids rs es ls → rs.length = ls.length := by
  intro rs es ls h
  induction h with
  | nil => rfl
  | cons _ _ ih => exact congrArg (· + 1) ih
theorem Kids.snoc {c : Addr} {e : Nat} : ∀ {rs es ls}, Kids rs es ls → Kids (rs ++ [.ref c]) (es ++ [(c, listOf #[] e)]) (ls ++ [[]])
  | _, _, _, .nil => .cons (vs := []) .nil .nil
  | _, _, _, .cons i h => .cons i h.snoc
theorem Kids.get : ∀ {rs es ls} (_ : Kids rs es ls) (i : Nat), i < ls.length → ∃ c vs e ns, rs[i]? = some (.ref c) ∧ (c, listOf (List.toArray vs) e) ∈ es ∧ ls[i]? = some ns ∧ IntsAre vs ns := by
  intro rs es ls h
  induction h with
  | nil => intro i q; exact absurd q (Nat.not_lt_zero _)
  | cons j _ ih =>
    intro i q
    cases i with
    | zero => exact ⟨_, _, _, _, rfl, .head _, rfl, j⟩
    | succ k =>
      obtain ⟨c, vs, e, ns, a, b, d, f⟩ := ih k (Nat.lt_of_succ_lt_succ q)
      exact ⟨c, vs, e, ns, a, .tail _ b, d, f⟩
/-- one of them changed -/
theorem Kids.upd : ∀ {rs es ls} (_ : Kids rs es ls) (i : Nat), (es.map (·.1)).Nodup → i < ls.length → ∃ c vs e ns, rs[i]? = some (.ref c) ∧ ls[i]? = some ns ∧ IntsAre vs ns ∧ (c, listOf (List.toArray vs) e) ∈ es ∧
    ∃ g : Obj → List (Addr × Obj), (∀ o, Upd c (listOf (List.toArray vs) e) o es (g o)) ∧ (∀ o, (g o).map (·.1) = es.map (·.1)) ∧ ∀ vs' ns' e', IntsAre vs' ns' → Kids rs (g (listOf (List.toArray vs') e')) (ls.set i ns') := by
  intro rs es ls h
  induction h with
  | nil => intro i _ q; exact absurd q (Nat.not_lt_zero _)
  | @cons c0 vs0 e0 ns0 rs es ls j h ih =>
    intro i nd q
    cases i with
    | zero =>
      obtain ⟨n1, n2⟩ := List.nodup_cons.mp nd
      refine ⟨c0, vs0, e0, ns0, rfl, rfl, j, .head _, fun o => (c0, o) :: es, fun o => .head fun p hp e => n1 (List.mem_map.mpr ⟨p, hp, e⟩), fun o => rfl, fun vs' ns' e' q => .cons q h⟩
    | succ k =>
      obtain ⟨n1, n2⟩ := List.nodup_cons.mp nd
      obtain ⟨c, vs, e, ns, a, b, d, f, g, u1, u2, u3⟩ := ih k n2 (Nat.lt_of_succ_lt_succ q)
      refine ⟨c, vs, e, ns, a, b, d, .tail _ f, fun o => (c0, listOf vs0.toArray e0) :: g o, fun o => .tail (fun e => n1 (List.mem_map.mpr ⟨_, f, Eq.symm e⟩)) (u1 o), fun o => by rw [List.map_cons, List.map_cons, u2], fun vs' ns' e' q => .cons j (u3 vs' ns' e' q)⟩
theorem upd_app {d : Addr} {o o' : Obj} {l l' r : List (Addr × Obj)} (U : Upd d o o' l l') (h : ∀ p ∈ r, p.1 ≠ d) : Upd d o o' (l ++ r) (l' ++ r) := by
  induction U with
  | head q => exact .head fun p hp => (List.mem_append.mp hp).elim (q p) (h p)
  | tail q _ ih => exact .tail q ih
end Mine
end
section
open PySem PySem.W PySem.Calls PyProof.Rows PyProof.V PySem.Spec
set_option Elab.async false
namespace Mine
theorem ins_end (vs : List Value) (y : Value) {x : Int} (h : x = vs.length) : kl_ins vs x y = vs ++ [y] := by
  subst h
  unfold kl_ins
  rw [if_neg (by omega)]
  simp
section
variable {prog : Program} {w : World} {A : Around} {E : Value → Shared → Prop} {s : Shared} {h₀ : Heap} {L D : Addr} {m : Str → Option Value} {news news' : List (Addr × Obj)} {vs : List Value} {n : Nat} {Q : Value → Shared → Prop}
theorem led_ref {c : Addr} {k : Int} {t : Tok} {value slice : PySem.Expr} (N : News h₀ L s.heap news) (hm : (D, listOf vs.toArray n) ∈ news) (hx : vs[k.toNat]? = some (.ref c)) (h0 : 0 ≤ k) (hz : k < 1000) (h : Q (.ref c) s)
    (hs : subscripted slice false (.ref D) (.int k t) = operate [.ref D, .int k t] (getItem (.ref D) (.int k t)) := by with_unfolding_all rfl) :
    wpAny (model prog w) A (subscriptTail value slice (.ref D) (.int k t)) Q E s := by
  have hl := N.isList hm
  exact tail_any hl.typeIs slot_list_getitem.lookup (wpAny_getItem_list hl h0 (by omega) (by simpa using hx) h) hs
theorem led_insert {x : Int} {u : Tok} {y : Value} (F : Fr h₀ L s.heap m) (N : News h₀ L s.heap news) (e : x = vs.length) (hz : vs.length ≤ 1000) (U : Upd D (listOf vs.toArray n) (listOf (vs ++ [y]).toArray (n + 1)) news news')
    (h : ∀ h', Fr h₀ L h' m → News h₀ L h' news' → Q .none { s with heap := h' }) : wpAny (model prog w) A (call (.builtin "list.insert") [.ref D, .int x u, y]) Q E s :=
  kl_insert F N (by subst e; simp only [Builtin.List.listFitsIndex, Bool.and_eq_true, decide_eq_true_eq]; omega) (ins_end vs y e) U (by rw [sizeLine_eq]; show vs.length ≤ _; omega) h
end
end Mine
end
section
open PySem PySem.W PySem.Calls PyProof.Rows PyProof.V PySem.Spec
set_option Elab.async false
namespace Mine
/-- what stands between two turns of a loop: the ledger may grow -/
noncomputable def LpJ {σ : Type} (Led : σ → List (Addr × Obj)) (ps : σ → List (Str × Value)) (stored : List Str) (x : Str) (m₀ : Str → Option Value) (P : Nat → σ → Prop) (i : Nat) (m : Str → Option Value) (nx : List (Addr × Obj)) : Prop :=
  ∃ c, nx = Led c ∧ (∀ p ∈ ps c, m p.1 = some p.2) ∧ (∀ z, z ≠ x → (∀ p ∈ ps c, z ≠ p.1) → stored.contains z = false → m z = m₀ z) ∧ P i c
section
variable {prog : Program} {w : World} {A : Around} {E : Value → Shared → Prop} {s : Shared} {env : Env} {h₀ : Heap} {x : Str} {body : List Stmt} {Q : Flow → Shared → Prop} {σ : Type}
theorem lp_end {Led : σ → List (Addr × Obj)} {ps : σ → List (Str × Value)} {stored : List Str} {m₀ : Str → Option Value} {P : Nat → σ → Prop} {i : Nat} (c : σ) {L : Addr} {m' : Str → Option Value} {own news' : List (Addr × Obj)} {s₁ : Shared} {h' : Heap} {tk : Nat}
    (F : Fr h₀ L h' m') (N : News h₀ L h' news') (hn : ∀ p ∈ Led c, p ∈ news') (ho : ∀ p ∈ own, p ∈ news') (ha : OwnOff own ((Led c).map (·.1))) (hk : ∀ p ∈ ps c, m' p.1 = some p.2) (hr : ∀ z, z ≠ x → (∀ p ∈ ps c, z ≠ p.1) → stored.contains z = false → m' z = m₀ z) (hp : P i c) :
    InvEndG h₀ L (LpJ Led ps stored x m₀ P i) own s₁ { s₁ with heap := h', toks := tk } := ⟨h', tk, m', news', Led c, rfl, F, N, hn, ho, ha, c, rfl, hk, hr, hp⟩
end
section
variable {prog : Program} {w : World} {A : Around} {E : Value → Shared → Prop} {s : Shared} {h₀ : Heap} {L D : Addr} {news : List (Addr × Obj)} {Q : Value → Shared → Prop}
/-- one of a tuple's texts -/
theorem led_menu {vs : List Value} {ss : List Str} {k : Int} {t : Tok} {value slice : PySem.Expr} (N : News h₀ L s.heap news) (hm : (D, tupO vs) ∈ news) (hi : StrsAre vs ss) (h0 : 0 ≤ k) (hk : k < ss.length) (hz : ss.length < 1000)
    (h : ∀ y t, y ∈ ss → Q (.str y t) s)
    (hs : subscripted slice false (.ref D) (.int k t) = operate [.ref D, .int k t] (getItem (.ref D) (.int k t)) := by with_unfolding_all rfl) :
    wpAny (model prog w) A (subscriptTail value slice (.ref D) (.int k t)) Q E s := by
  have hlt : k.toNat < ss.length := by omega
  obtain ⟨u, hu⟩ := StrsAre.get hi k.toNat (sAt ss k) (by unfold sAt; simp [hlt])
  have hv := StrsAre.length hi
  have hs2 : seqIndex? k vs.length = some k.toNat := by
    unfold seqIndex?
    have e : (if k < 0 then k + (vs.length : Int) else k) = k := if_neg (by omega)
    simp only [e]
    exact if_pos (by simp only [Bool.and_eq_true, decide_eq_true_eq]; omega)
  exact item_tupleT (News.isTup N hm) (by omega) (by omega) hs2 hu (h _ u (by unfold sAt; simp [hlt])) hs
end
theorem units_make (A : Around) (C : Addr) (vals : List Value) : (A.under (.builtin "type.__call__" ⟨.ref C :: vals, []⟩)).units = A.units + 1 := by first | rfl | simp [Around.under, Code.cUnits, Code.frames, Code.isFrame]
theorem flip10 {g h : Heap} {L : Addr} {a0 a1 a2 a3 a4 a5 a6 a7 a8 a9 : Addr × Obj} {r : List (Addr × Obj)} (N : News g L h (a9 :: a8 :: a7 :: a6 :: a5 :: a4 :: a3 :: a2 :: a0 :: a1 :: r)) : News g L h (a0 :: a1 :: a2 :: a3 :: a4 :: a5 :: a6 :: a7 :: a8 :: a9 :: r) :=
  News.perm N (by
    repeat refine List.forall_mem_cons.mpr ⟨by repeat (first | exact List.Mem.head _ | refine List.Mem.tail _ ?_), ?_⟩
    intro p hp; repeat (first | exact hp | refine List.mem_cons_of_mem _ ?_))
end Mine
end
section
open PySem PySem.W PySem.Calls PyProof.Rows PyProof.V PySem.Spec
set_option Elab.async false
set_option maxRecDepth 100000
namespace Mine
noncomputable def stE (P : Params) (k0 k1 : Tok) (t i : Addr) : List DictEntry := [⟨PyData.keyHash P (Str.ofString "tree"), .str (Str.ofString "tree") k0, .ref t⟩, ⟨PyData.keyHash P (Str.ofString "items"), .str (Str.ofString "items") k1, .ref i⟩]
noncomputable def bdE (P : Params) (k0 k1 k2 k3 k4 k5 k6 k7 k8 k9 k10 k11 k12 k13 k14 k15 k16 k17 k18 k19 k20 : Tok) (v0 v5 v6 v7 v8 v9 v10 v11 v12 v13 v14 v16 v17 v18 v19 v20 : Value) (t st fm : Addr) (mv : Value) (er : Addr) : List DictEntry := [⟨PyData.keyHash P (Str.ofString "rules"), .str (Str.ofString "rules") k0, v0⟩,
  ⟨PyData.keyHash P (Str.ofString "tree"), .str (Str.ofString "tree") k1, .ref t⟩,
  ⟨PyData.keyHash P (Str.ofString "stack"), .str (Str.ofString "stack") k2, .ref st⟩,
  ⟨PyData.keyHash P (Str.ofString "formatting"), .str (Str.ofString "formatting") k3, .ref fm⟩,
  ⟨PyData.keyHash P (Str.ofString "mode"), .str (Str.ofString "mode") k4, mv⟩,
  ⟨PyData.keyHash P (Str.ofString "original"), .str (Str.ofString "original") k5, v5⟩,
  ⟨PyData.keyHash P (Str.ofString "modes"), .str (Str.ofString "modes") k6, v6⟩,
  ⟨PyData.keyHash P (Str.ofString "head"), .str (Str.ofString "head") k7, v7⟩,
  ⟨PyData.keyHash P (Str.ofString "form"), .str (Str.ofString "form") k8, v8⟩,
  ⟨PyData.keyHash P (Str.ofString "owners"), .str (Str.ofString "owners") k9, v9⟩,
  ⟨PyData.keyHash P (Str.ofString "is_frameset_ok"), .str (Str.ofString "is_frameset_ok") k10, v10⟩,
  ⟨PyData.keyHash P (Str.ofString "is_scripting"), .str (Str.ofString "is_scripting") k11, v11⟩,
  ⟨PyData.keyHash P (Str.ofString "is_foster"), .str (Str.ofString "is_foster") k12, v12⟩,
  ⟨PyData.keyHash P (Str.ofString "context"), .str (Str.ofString "context") k13, v13⟩,
  ⟨PyData.keyHash P (Str.ofString "quirks"), .str (Str.ofString "quirks") k14, v14⟩,
  ⟨PyData.keyHash P (Str.ofString "errors"), .str (Str.ofString "errors") k15, .ref er⟩,
  ⟨PyData.keyHash P (Str.ofString "pending"), .str (Str.ofString "pending") k16, v16⟩,
  ⟨PyData.keyHash P (Str.ofString "wish"), .str (Str.ofString "wish") k17, v17⟩,
  ⟨PyData.keyHash P (Str.ofString "is_skipping"), .str (Str.ofString "is_skipping") k18, v18⟩,
  ⟨PyData.keyHash P (Str.ofString "is_acknowledged"), .str (Str.ofString "is_acknowledged") k19, v19⟩,
  ⟨PyData.keyHash P (Str.ofString "is_done"), .str (Str.ofString "is_done") k20, v20⟩]
theorem stE_st {P : Params} {k0 k1 : Tok} {t : Addr} (i : Addr) : StD (stE P k0 k1 t i) t i := by
  refine ⟨?_⟩
  repeat refine List.forall_mem_cons.mpr ⟨rfl, ?_⟩
  exact List.forall_mem_nil _
theorem stE_fm {P : Params} {k0 k1 : Tok} {t : Addr} (i : Addr) : FmD (stE P k0 k1 t i) t i := by
  refine ⟨?_⟩
  repeat refine List.forall_mem_cons.mpr ⟨rfl, ?_⟩
  exact List.forall_mem_nil _
theorem stE_put {P : Params} {k0 k1 : Tok} {t : Addr} (i j : Addr) (h : Int) (k : Value) : (putL (Str.ofString "items") h k (.ref j) (stE P k0 k1 t i), putN (Str.ofString "items") (stE P k0 k1 t i) 2) = (stE P k0 k1 t j, 2) := rfl
section
variable {P : Params} {k0 k1 k2 k3 k4 k5 k6 k7 k8 k9 k10 k11 k12 k13 k14 k15 k16 k17 k18 k19 k20 : Tok} {v0 v5 v6 v7 v8 v9 v10 v11 v12 v13 v14 v16 v17 v18 v19 v20 : Value} {t st fm : Addr}
theorem bdE_bd (d : Str) (tk : Tok) (i : Addr) : BdD (bdE P k0 k1 k2 k3 k4 k5 k6 k7 k8 k9 k10 k11 k12 k13 k14 k15 k16 k17 k18 k19 k20 v0 v5 v6 v7 v8 v9 v10 v11 v12 v13 v14 v16 v17 v18 v19 v20 t st fm (.str d tk) i) t st fm i d tk := by
  refine ⟨?_⟩
  repeat refine List.forall_mem_cons.mpr ⟨rfl, ?_⟩
  exact List.forall_mem_nil _
theorem bdE_err (v : Value) (i j : Addr) (h : Int) (k : Value) : (putL (Str.ofString "errors") h k (.ref j) (bdE P k0 k1 k2 k3 k4 k5 k6 k7 k8 k9 k10 k11 k12 k13 k14 k15 k16 k17 k18 k19 k20 v0 v5 v6 v7 v8 v9 v10 v11 v12 v13 v14 v16 v17 v18 v19 v20 t st fm v i), putN (Str.ofString "errors") (bdE P k0 k1 k2 k3 k4 k5 k6 k7 k8 k9 k10 k11 k12 k13 k14 k15 k16 k17 k18 k19 k20 v0 v5 v6 v7 v8 v9 v10 v11 v12 v13 v14 v16 v17 v18 v19 v20 t st fm v i) 21) = (bdE P k0 k1 k2 k3 k4 k5 k6 k7 k8 k9 k10 k11 k12 k13 k14 k15 k16 k17 k18 k19 k20 v0 v5 v6 v7 v8 v9 v10 v11 v12 v13 v14 v16 v17 v18 v19 v20 t st fm v j, 21) := rfl
theorem bdE_mode (v v' : Value) (i : Addr) (h : Int) (k : Value) : (putL (Str.ofString "mode") h k v' (bdE P k0 k1 k2 k3 k4 k5 k6 k7 k8 k9 k10 k11 k12 k13 k14 k15 k16 k17 k18 k19 k20 v0 v5 v6 v7 v8 v9 v10 v11 v12 v13 v14 v16 v17 v18 v19 v20 t st fm v i), putN (Str.ofString "mode") (bdE P k0 k1 k2 k3 k4 k5 k6 k7 k8 k9 k10 k11 k12 k13 k14 k15 k16 k17 k18 k19 k20 v0 v5 v6 v7 v8 v9 v10 v11 v12 v13 v14 v16 v17 v18 v19 v20 t st fm v i) 21) = (bdE P k0 k1 k2 k3 k4 k5 k6 k7 k8 k9 k10 k11 k12 k13 k14 k15 k16 k17 k18 k19 k20 v0 v5 v6 v7 v8 v9 v10 v11 v12 v13 v14 v16 v17 v18 v19 v20 t st fm v' i, 21) := rfl
end
theorem bld_fin {g h : Heap} {L pe er ow mo fi fm fmd it st std b bd t : Addr} {oo o1 o2 o3 o4 o5 : Obj} {x0 x1 x2 x3 x4 x5 x6 x7 x8 x9 c : Addr × Obj} {news : List (Addr × Obj)} {P : Params} {a0 a1 b0 b1 k0 k1 k2 k3 k4 k5 k6 k7 k8 k9 k10 k11 k12 k13 k14 k15 k16 k17 k18 k19 k20 : Tok} {v0 v5 v6 v7 v8 v9 v10 v11 v12 v13 v14 v16 v17 v18 v19 v20 mv : Value}
    (N : News g L h ((pe, o1) :: (er, o2) :: (ow, oo) :: (mo, o3) :: (fi, o4) :: (fm, instObj 296 fmd) :: (fmd, dictOf (stE P b0 b1 t fi) 2) :: (it, o5) :: (st, instObj 136 std) :: (std, dictOf (stE P a0 a1 t it) 2) :: x0 :: x1 :: x2 :: x3 :: x4 :: x5 :: x6 :: x7 :: x8 :: x9 :: c :: (b, instObj 491 bd) :: (bd, dictOf (bdE P k0 k1 k2 k3 k4 k5 k6 k7 k8 k9 k10 k11 k12 k13 k14 k15 k16 k17 k18 k19 k20 v0 v5 v6 v7 v8 v9 v10 v11 v12 v13 v14 v16 v17 v18 v19 v20 t st fm mv er) 21) :: news)) :
    News g L h ((std, dictOf (stE P a0 a1 t it) 2) :: (fmd, dictOf (stE P b0 b1 t fi) 2) :: (bd, dictOf (bdE P k0 k1 k2 k3 k4 k5 k6 k7 k8 k9 k10 k11 k12 k13 k14 k15 k16 k17 k18 k19 k20 v0 v5 v6 v7 v8 v9 v10 v11 v12 v13 v14 v16 v17 v18 v19 v20 t st fm mv er) 21) :: x0 :: x1 :: x2 :: x3 :: x4 :: x5 :: x6 :: x7 :: x8 :: x9 :: ([c] ++ ((st, instObj 136 std) :: (fm, instObj 296 fmd) :: (b, instObj 491 bd) :: news))) :=
  News.perm N (by
    show ∀ p ∈ (std, dictOf (stE P a0 a1 t it) 2) :: (fmd, dictOf (stE P b0 b1 t fi) 2) :: (bd, dictOf (bdE P k0 k1 k2 k3 k4 k5 k6 k7 k8 k9 k10 k11 k12 k13 k14 k15 k16 k17 k18 k19 k20 v0 v5 v6 v7 v8 v9 v10 v11 v12 v13 v14 v16 v17 v18 v19 v20 t st fm mv er) 21) :: x0 :: x1 :: x2 :: x3 :: x4 :: x5 :: x6 :: x7 :: x8 :: x9 :: c :: (st, instObj 136 std) :: (fm, instObj 296 fmd) :: (b, instObj 491 bd) :: news, p ∈ _
    repeat refine List.forall_mem_cons.mpr ⟨by repeat (first | exact List.Mem.head _ | refine List.Mem.tail _ ?_), ?_⟩
    intro p hp; repeat (first | exact hp | refine List.mem_cons_of_mem _ ?_))
end Mine
end
section
open PySem PySem.W PySem.Calls PyProof.Rows PyProof.V PySem.Spec
set_option Elab.async false
namespace Mine
theorem rot5 {g h : Heap} {L : Addr} {x0 x1 x2 x3 x4 a0 a1 a2 a3 a4 a5 a6 a7 a8 a9 c : Addr × Obj} {r : List (Addr × Obj)} (N : News g L h (x0 :: x1 :: x2 :: x3 :: x4 :: a0 :: a1 :: a2 :: a3 :: a4 :: a5 :: a6 :: a7 :: a8 :: a9 :: c :: r)) : News g L h (a0 :: a1 :: a2 :: a3 :: a4 :: a5 :: a6 :: a7 :: a8 :: a9 :: ([c] ++ (x0 :: x1 :: x2 :: x3 :: x4 :: r))) :=
  News.perm N (by
    show ∀ p ∈ a0 :: a1 :: a2 :: a3 :: a4 :: a5 :: a6 :: a7 :: a8 :: a9 :: c :: x0 :: x1 :: x2 :: x3 :: x4 :: r, p ∈ _
    repeat refine List.forall_mem_cons.mpr ⟨by repeat (first | exact List.Mem.head _ | refine List.Mem.tail _ ?_), ?_⟩
    intro p hp; repeat (first | exact hp | refine List.mem_cons_of_mem _ ?_))
end Mine
end
section
open PySem PySem.W PySem.Calls PyProof.Rows PyProof.V PySem.Spec
set_option Elab.async false
namespace Mine
/-- what a tree holds -/
structure TD where
  kinds : List Str
  spaces : List Str
  names : List Str
  texts : List Str
  parents : List Int
  kids : List (List Int)
  cont : Int → Option Int
noncomputable def TD.add (D : TD) (kind space name : Str) : TD := { D with kinds := D.kinds ++ [kind], spaces := D.spaces ++ [space], names := D.names ++ [name], texts := D.texts ++ [Str.ofString ""], parents := D.parents ++ [-1], kids := D.kids ++ [[]] }
noncomputable def TD.put (D : TD) (i v : Int) : TD := { D with cont := fun j => if j = i then some v else D.cont j }
noncomputable def TD.elem (D : TD) (space name : Str) : TD :=
  if (space == Str.ofString "html") = true ∧ (name == Str.ofString "template") = true then ((D.add (Str.ofString "element") space name).add (Str.ofString "fragment") (Str.ofString "") (Str.ofString "")).put D.kinds.length (D.kinds.length + 1)
  else D.add (Str.ofString "element") space name
structure TreeIs (w : World) (D : TD) (kv sv nv av tv pv cv : List Value) (oc : Obj) (es : List (Addr × Obj)) : Prop where
  k : StrsAre kv D.kinds
  s : StrsAre sv D.spaces
  n : StrsAre nv D.names
  a : av.length = D.kinds.length
  t : StrsAre tv D.texts
  p : IntsAre pv D.parents
  c : Kids cv es D.kids
  o : CoIs w oc D.cont D.kinds.length
  ls : D.spaces.length = D.kinds.length
  ln : D.names.length = D.kinds.length
  lt : D.texts.length = D.kinds.length
  lp : D.parents.length = D.kinds.length
  lc : D.kids.length = D.kinds.length
theorem TreeIs.add {w : World} {D : TD} {kv sv nv av tv pv cv : List Value} {oc : Obj} {es : List (Addr × Obj)} (H : TreeIs w D kv sv nv av tv pv cv oc es) {kind space name : Str} {t1 t2 t3 t4 t6 : Tok} {al c : Addr} :
    TreeIs w (D.add kind space name) (kv ++ [.str kind t1]) (sv ++ [.str space t2]) (nv ++ [.str name t3]) (av ++ [.ref al]) (tv ++ [.str (Str.ofString "") t4]) (pv ++ [.int (-1) t6]) (cv ++ [.ref c]) oc (es ++ [(c, listOf #[] 0)]) where
  k := strs_snoc H.k
  s := strs_snoc H.s
  n := strs_snoc H.n
  a := by simp [TD.add, H.a]
  t := strs_snoc H.t
  p := ints_snoc H.p
  c := H.c.snoc
  o := by obtain ⟨kvs, T, a, b, d, e⟩ := H.o; exact ⟨kvs, T, a, b, d, by simp [TD.add]; omega⟩
  ls := by simp [TD.add, H.ls]
  ln := by simp [TD.add, H.ln]
  lt := by simp [TD.add, H.lt]
  lp := by simp [TD.add, H.lp]
  lc := by simp [TD.add, H.lc]
theorem TreeIs.addE {w : World} {D D' : TD} {kv sv nv av tv pv cv : List Value} {oc : Obj} {es : List (Addr × Obj)} (H : TreeIs w D kv sv nv av tv pv cv oc es) {kind space name : Str} {t1 t2 t3 t4 t6 : Tok} {al c : Addr} (e : D' = D.add kind space name) :
    TreeIs w D' (kv ++ [.str kind t1]) (sv ++ [.str space t2]) (nv ++ [.str name t3]) (av ++ [.ref al]) (tv ++ [.str (Str.ofString "") t4]) (pv ++ [.int (-1) t6]) (cv ++ [.ref c]) oc (es ++ [(c, listOf #[] 0)]) := e ▸ H.add
theorem TreeIs.putE {w : World} {D D' : TD} {kv sv nv av tv pv cv : List Value} {oc oc' : Obj} {es : List (Addr × Obj)} (H : TreeIs w D kv sv nv av tv pv cv oc es) {i v : Int} (e : D' = D.put i v) (hc : CoIs w oc' (D.put i v).cont D.kinds.length) :
    TreeIs w D' kv sv nv av tv pv cv oc' es := by
  subst e
  exact ⟨H.k, H.s, H.n, H.a, H.t, H.p, H.c, hc, H.ls, H.ln, H.lt, H.lp, H.lc⟩
theorem CoIs.to {w : World} {oc : Obj} {cf cg : Int → Option Int} {b c : Nat} (h : CoIs w oc cf b) (e : cf = cg) (hb : b ≤ c) : CoIs w oc cg c := by
  subst e
  obtain ⟨kvs, T, a1, a2, a3, a4⟩ := h
  exact ⟨kvs, T, a1, a2, a3, by omega⟩
theorem mem_mid {α : Type} {es rest : List α} {x p : α} (h : p ∈ es ++ [x] ++ rest) : p ∈ x :: (es ++ rest) := by
  simp only [List.mem_append, List.mem_cons, List.not_mem_nil, or_false] at h ⊢
  rcases h with (h | h) | h
  · exact .inr (.inl h)
  · exact .inl h
  · exact .inr (.inr h)
theorem mem_mid2 {α : Type} {es rest : List α} {x y p : α} (h : p ∈ es ++ [x] ++ [y] ++ rest) : p ∈ y :: x :: (es ++ rest) := by
  rcases List.mem_cons.mp (mem_mid h) with e | h
  · rw [e]; exact .head _
  · exact .tail _ (mem_mid h)
theorem all_mid {α : Type} {P : α → Prop} {es rest : List α} {x : α} (h : ∀ p ∈ es ++ rest, P p) (hx : P x) : ∀ p ∈ es ++ [x] ++ rest, P p := fun p hp => by
  rcases List.mem_cons.mp (mem_mid hp) with e | hp
  · rw [e]; exact hx
  · exact h p hp
theorem nodup_snoc {es : List (Addr × Obj)} {c : Addr} {o : Obj} (nd : (es.map (·.1)).Nodup) (h : ∀ p ∈ es, p.1 < c) : ((es ++ [(c, o)]).map (·.1)).Nodup := by
  rw [List.map_append, List.nodup_append]
  refine ⟨nd, List.nodup_cons.mpr ⟨List.not_mem_nil, List.nodup_nil⟩, ?_⟩
  intro a ha b hb e
  obtain ⟨p, hp, rfl⟩ := List.mem_map.mp ha
  have hb' : b = c := by simpa using hb
  have h1 : @LT.lt Nat _ p.1 c := h p hp
  have h2 : @Eq Nat p.1 c := by rw [← hb']; exact e
  omega
theorem new_snoc {es rest : List (Addr × Obj)} {c : Addr} {o : Obj} {S : List (Addr × Obj)} (h : ∀ p ∈ es, p ∈ S ∨ ∀ q ∈ rest, @LT.lt Nat _ q.1 p.1) (hf : ∀ q ∈ rest, q.1 < c) : ∀ p ∈ es ++ [(c, o)], p ∈ S ∨ ∀ q ∈ rest, @LT.lt Nat _ q.1 p.1 := fun p hp => by
  rcases List.mem_append.mp hp with hp | hp
  · exact h p hp
  · refine .inr fun q hq => ?_
    rw [List.mem_singleton.mp hp]; exact hf q hq
theorem elem_yes {D : TD} {space name : Str} (h1 : (space == Str.ofString "html") = true) (h2 : (name == Str.ofString "template") = true) : D.elem space name = ((D.add (Str.ofString "element") space name).add (Str.ofString "fragment") (Str.ofString "") (Str.ofString "")).put D.kinds.length (D.kinds.length + 1) := if_pos ⟨h1, h2⟩
theorem elem_no1 {D : TD} {space name : Str} (h1 : (space == Str.ofString "html") = false) : D.elem space name = D.add (Str.ofString "element") space name := if_neg fun h => by rw [h1] at h; cases h.1
theorem elem_no2 {D : TD} {space name : Str} (h1 : (name == Str.ofString "template") = false) : D.elem space name = D.add (Str.ofString "element") space name := if_neg fun h => by rw [h1] at h; cases h.2
end Mine
end
section
open PySem PySem.W PySem.Calls PyProof.Rows PyProof.V PySem.Spec
set_option Elab.async false
namespace Mine
section
variable {prog : Program} {w : World} {A : Around} {E : Value → Shared → Prop} {s : Shared} {env : Env} {h₀ : Heap} {x : Str} {body : List Stmt} {Q : Flow → Shared → Prop} {σ : Type}
/-- a loop whose one iterator lies at I: what is the loop's own lies there -/
theorem lp_loop {I : Addr} {n : Nat} {P : Nat → Value → Prop} {St : Nat → Heap → Prop} {m₀ : Str → Option Value} {news : List (Addr × Obj)} (J : Nat → (Str → Option Value) → List (Addr × Obj) → Prop)
    (W : Walks prog w A I [I] [I] n P St) (hob : ∀ i h, St i h → ∃ o, h.get? I = some o) (hL : env.locals ≠ I) (hwr : h₀.get? I = Option.none) (hnw : ∀ p ∈ news, p.1 ≠ I) (hst : St 0 s.heap)
    (F : Fr h₀ env.locals s.heap m₀) (N : News h₀ env.locals s.heap news) (hj : J 0 m₀ news)
    (turn : ∀ i v m₁ nx h tk own, i < n → P i v → OwnOff own (nx.map (·.1)) → (∀ p ∈ own, p.1 = I) → J i m₁ nx → Fr h₀ env.locals h (fun y => if y = x then some v else m₁ y) → News h₀ env.locals h (nx ++ own) →
      wpAny (model prog w) A (execs body env) (InvPostG h₀ env.locals (J (i + 1)) own { s with heap := h, toks := tk } Q) E { s with heap := h, toks := tk })
    (done : ∀ m₁ nx h tk, J n m₁ nx → Fr h₀ env.locals h m₁ → News h₀ env.locals h nx → Q .next { s with heap := h, toks := tk }) : LoopAtV prog w A h₀ env x body Q E (.ref I) s := by
  refine ⟨I, [I], [I], n, P, St, m₀, news, J, rfl, W, fun h => hL (List.mem_singleton.mp h), fun b hb => by rw [List.mem_singleton.mp hb]; exact hwr, fun p hp h => hnw p hp (List.mem_singleton.mp h), hst, F, N, hj, ?_, fun h' tk m' news' F' N' _ hJ => done m' news' h' tk hJ F' N'⟩
  rintro i v m₁ nx s₁ own ⟨h, tk, rfl⟩ hi hP hJ hnx hown _ hmem hst' F₁ N₁
  have hI : ∀ p ∈ own, p.1 = I := fun p hp => List.mem_singleton.mp (hown p hp)
  have hoff : OwnOff own (nx.map (·.1)) := fun p hp b hb e => by
    obtain ⟨q, hq, rfl⟩ := List.mem_map.mp hb
    exact hnx q hq (by rw [← e, hI p hp]; exact List.mem_singleton.mpr rfl)
  have N₂ : News h₀ env.locals h (nx ++ own) := News.perm N₁ fun p hp => (List.mem_append.mp hp).elim (List.mem_append_right _) (List.mem_append_left _)
  refine wpAny_mono (turn i v m₁ nx h tk own hi hP hoff hI hJ F₁ N₂) (fun f s₂ p => ?_) fun _ _ e => e
  have fin : InvEndG h₀ env.locals (J (i + 1)) own { s with heap := h, toks := tk } s₂ → LoopStepU h₀ env.locals [I] own (J (i + 1)) { s with heap := h, toks := tk } .next s₂ := by
    rintro ⟨h', tk', m', news', nx', e, F', N', hn, ho, ha, hm⟩
    refine ⟨rfl, h', tk', m', nx', e, F', News.perm N' fun p hp => (List.mem_append.mp hp).elim (ho p) (hn p), fun p hp hq => ?_, hm⟩
    obtain ⟨o, hb⟩ := hob _ _ hst'
    exact ha _ (hmem I (List.mem_singleton.mpr rfl) hwr o hb) p.1 (List.mem_map.mpr ⟨p, hp, rfl⟩) (List.mem_singleton.mp hq).symm
  cases f with
  | ret v => exact .ret p
  | brk => exact .brk p
  | next => exact .next (fin p)
  | cont => exact .cont (fin p)
theorem lq_up {r : Addr} {a₀ b₀ : Int} {t₀ u₀ v₀ : Tok} {n : Nat} {m₀ : Str → Option Value} (Led : σ → List (Addr × Obj)) (ps : σ → List (Str × Value)) (stored : List Str) (P : Nat → σ → Prop) (c₀ : σ)
    (hh : A.handled = none) (hr : IsRange s.heap r a₀ b₀ 1 t₀ u₀ v₀) (hsmall : Builtin.Range.small a₀ b₀ 1 = true) (hn : Builtin.Range.rangeSize a₀ b₀ 1 = (n : Int)) (F : Fr h₀ env.locals s.heap m₀) (N : News h₀ env.locals s.heap (Led c₀)) (hk : ∀ p ∈ ps c₀, m₀ p.1 = some p.2) (hp : P 0 c₀)
    (turn : ∀ (c : σ) (i : Nat) t (u : Str → Option Value) h tk own, i < n → OwnOff own ((Led c).map (·.1)) → (∀ p ∈ own, ∀ q ∈ Led c₀, @LT.lt Nat _ q.1 p.1) → P i c →
      Fr h₀ env.locals h (fun y => if y = x then some (.int (a₀ + (i : Int)) t) else kstB (fun z => if stored.contains z then u z else m₀ z) (ps c) y) → News h₀ env.locals h (Led c ++ own) →
      wpAny (model prog w) A (execs body env) (InvPostG h₀ env.locals (LpJ Led ps stored x m₀ P (i + 1)) own { s with heap := h, toks := tk } Q) E { s with heap := h, toks := tk })
    (done : ∀ (c : σ) (u : Str → Option Value) h tk, P n c → Fr h₀ env.locals h (fun y => if y = x then u y else kstB (fun z => if stored.contains z then u z else m₀ z) (ps c) y) → News h₀ env.locals h (Led c) → Q .next { s with heap := h, toks := tk }) :
    wpAny (model prog w) A (pyIter (.ref r)) (fun it s₂ => LoopAtV prog w A h₀ env x body Q E it s₂) E s := by
  refine wpAny_pyIter_range hr hsmall ?_
  have W : Walks prog w A s.heap.objs.size [s.heap.objs.size] [s.heap.objs.size] n (fun i v => i < n ∧ ∃ t, v = .int (a₀ + i * 1) t)
      (fun i h => IsRangeIter h s.heap.objs.size (a₀ + (i : Nat) * 1) ((n : Int) - (i : Nat)) 1) := (Walks.range hh _ a₀ 1 n).bound
  refine lp_loop (fun i m nx => LpJ Led ps stored x m₀ P i m nx) W ?_ ?_ ?_ ?_ (by show IsRangeIter _ _ _ _ _; rw [hn]; simpa using Heap.get?_push_size _ rfl) (F.push _) (fun p hp => ⟨Heap.get?_push_of_some _ (N p hp).1, (N p hp).2⟩) ⟨c₀, rfl, hk, fun _ _ _ _ => rfl, hp⟩ ?_ ?_
  · intro i h hi
    exact ⟨_, hi⟩
  · exact fun hm => absurd F.ns.lt (hm ▸ Nat.lt_irrefl _)
  · exact next_is_new F
  · exact fun p hp e => absurd (Heap.lt_size (N p hp).1) (e ▸ Nat.lt_irrefl _)
  · rintro i v m₁ nx h tk own hi ⟨_, t, rfl⟩ hoff hI ⟨c, rfl, h1, h2, hp'⟩ F₁ N₁
    have e1 : a₀ + (i : Int) * 1 = a₀ + (i : Int) := by omega
    rw [e1] at F₁
    exact turn c i t m₁ h tk own hi hoff (fun p hp q hq => by rw [hI p hp]; exact Heap.lt_size (N q hq).1) hp' (kst_fr h1 h2 F₁) N₁
  · rintro m₁ nx h tk ⟨c, rfl, h1, h2, hp'⟩ F₁ N₁
    exact done c m₁ h tk hp' (kst_frOut h1 h2 F₁) N₁
theorem lq_down {r : Addr} {a₀ b₀ : Int} {t₀ u₀ v₀ : Tok} {n : Nat} {m₀ : Str → Option Value} (Led : σ → List (Addr × Obj)) (ps : σ → List (Str × Value)) (stored : List Str) (P : Nat → σ → Prop) (c₀ : σ)
    (hh : A.handled = none) (hr : IsRange s.heap r a₀ b₀ (-1) t₀ u₀ v₀) (hsmall : Builtin.Range.small a₀ b₀ (-1) = true) (hn : Builtin.Range.rangeSize a₀ b₀ (-1) = (n : Int)) (F : Fr h₀ env.locals s.heap m₀) (N : News h₀ env.locals s.heap (Led c₀)) (hk : ∀ p ∈ ps c₀, m₀ p.1 = some p.2) (hp : P 0 c₀)
    (turn : ∀ (c : σ) (i : Nat) t (u : Str → Option Value) h tk own, i < n → OwnOff own ((Led c).map (·.1)) → (∀ p ∈ own, ∀ q ∈ Led c₀, @LT.lt Nat _ q.1 p.1) → P i c →
      Fr h₀ env.locals h (fun y => if y = x then some (.int (a₀ - (i : Int)) t) else kstB (fun z => if stored.contains z then u z else m₀ z) (ps c) y) → News h₀ env.locals h (Led c ++ own) →
      wpAny (model prog w) A (execs body env) (InvPostG h₀ env.locals (LpJ Led ps stored x m₀ P (i + 1)) own { s with heap := h, toks := tk } Q) E { s with heap := h, toks := tk })
    (done : ∀ (c : σ) (u : Str → Option Value) h tk, P n c → Fr h₀ env.locals h (fun y => if y = x then u y else kstB (fun z => if stored.contains z then u z else m₀ z) (ps c) y) → News h₀ env.locals h (Led c) → Q .next { s with heap := h, toks := tk }) :
    wpAny (model prog w) A (pyIter (.ref r)) (fun it s₂ => LoopAtV prog w A h₀ env x body Q E it s₂) E s := by
  refine wpAny_pyIter_range hr hsmall ?_
  have W : Walks prog w A s.heap.objs.size [s.heap.objs.size] [s.heap.objs.size] n (fun i v => i < n ∧ ∃ t, v = .int (a₀ + i * (-1)) t)
      (fun i h => IsRangeIter h s.heap.objs.size (a₀ + (i : Nat) * (-1)) ((n : Int) - (i : Nat)) (-1)) := (Walks.range hh _ a₀ (-1) n).bound
  refine lp_loop (fun i m nx => LpJ Led ps stored x m₀ P i m nx) W ?_ ?_ ?_ ?_ (by show IsRangeIter _ _ _ _ _; rw [hn]; simpa using Heap.get?_push_size _ rfl) (F.push _) (fun p hp => ⟨Heap.get?_push_of_some _ (N p hp).1, (N p hp).2⟩) ⟨c₀, rfl, hk, fun _ _ _ _ => rfl, hp⟩ ?_ ?_
  · intro i h hi
    exact ⟨_, hi⟩
  · exact fun hm => absurd F.ns.lt (hm ▸ Nat.lt_irrefl _)
  · exact next_is_new F
  · exact fun p hp e => absurd (Heap.lt_size (N p hp).1) (e ▸ Nat.lt_irrefl _)
  · rintro i v m₁ nx h tk own hi ⟨_, t, rfl⟩ hoff hI ⟨c, rfl, h1, h2, hp'⟩ F₁ N₁
    have e1 : a₀ + (i : Int) * (-1) = a₀ - (i : Int) := by omega
    rw [e1] at F₁
    exact turn c i t m₁ h tk own hi hoff (fun p hp q hq => by rw [hI p hp]; exact Heap.lt_size (N q hq).1) hp' (kst_fr h1 h2 F₁) N₁
  · rintro m₁ nx h tk ⟨c, rfl, h1, h2, hp'⟩ F₁ N₁
    exact done c m₁ h tk hp' (kst_frOut h1 h2 F₁) N₁
end
end Mine
end
section
open PySem PySem.W
set_option Elab.async false
namespace Mine
/-- every address of the list lies below d -/
noncomputable def AL (d : Nat) : List Nat → Prop
  | [] => True
  | a :: l => a < d ∧ AL d l
theorem AL.of {d : Addr} : ∀ {l : List (Addr × Obj)}, (∀ p ∈ l, p.1 < d) → AL d (l.map (·.1))
  | [], _ => trivial
  | p :: _, h => ⟨h p (.head _), AL.of fun q hq => h q (.tail _ hq)⟩
theorem AL.lt {d a : Nat} : ∀ {l : List Nat}, AL d l → a ∈ l → a < d
  | [], _, m => nomatch m
  | b :: l, h, m => by
    rcases List.mem_cons.mp m with e | m
    · rw [e]; exact h.1
    · exact AL.lt h.2 m
theorem AL.mono {d x : Nat} (h : d < x) : ∀ {l : List Nat}, AL d l → AL x l
  | [], _ => trivial
  | _ :: _, k => ⟨Nat.lt_trans k.1 h, AL.mono h k.2⟩
theorem AL.up {d x : Nat} {l : List Nat} (k : AL d l) (h : d < x) : AL x (d :: l) := ⟨h, k.mono h⟩
theorem AL.one {d x : Nat} (h : d < x) : AL x [d] := ⟨h, trivial⟩
theorem AL.hi {d a : Nat} {l : List Nat} (h : AL d l) (m : a ∈ l) : a ≠ d := Nat.ne_of_lt (h.lt m)
theorem AL.lo {d a : Nat} {l : List Nat} (h : AL d l) (m : a ∈ l) : d ≠ a := Nat.ne_of_gt (h.lt m)
theorem off_blk {rest : List (Addr × Obj)} {td co x : Nat} (hr : ∀ p ∈ rest, @LT.lt Nat _ p.1 td ∨ @LT.lt Nat _ co p.1) (h1 : td < x) (h2 : x < co) : ∀ p ∈ rest, p.1 ≠ x := fun p hp =>
  (hr p hp).elim (fun h => Nat.ne_of_lt (Nat.lt_trans h h1)) (fun h => Nat.ne_of_gt (Nat.lt_trans h2 h))
theorem le_snoc98 {l : List Value} {x : Value} (h : l.length ≤ 98) : (l ++ [x]).length ≤ 100 := by
  rw [List.length_append]; exact Nat.add_le_add h (show [x].length ≤ 2 from Nat.le_succ 1)
theorem le_up98 {l : List Value} (h : l.length ≤ 98) : l.length ≤ 100 := Nat.le_trans h (Nat.le_of_ble_eq_true rfl)
theorem blk_le {t td kk ss nn ta tx pp cc co : Addr} (ord : @LT.lt Nat _ td t ∧ @LT.lt Nat _ t kk ∧ @LT.lt Nat _ kk ss ∧ @LT.lt Nat _ ss nn ∧ @LT.lt Nat _ nn ta ∧ @LT.lt Nat _ ta tx ∧ @LT.lt Nat _ tx pp ∧ @LT.lt Nat _ pp cc ∧ @LT.lt Nat _ cc co) :
    ∀ x ∈ [t, td, kk, ss, nn, ta, tx, pp, cc, co], @LE.le Nat _ td x ∧ @LE.le Nat _ x co := by
  obtain ⟨o1, o2, o3, o4, o5, o6, o7, o8, o9⟩ := ord
  have p1 : @LE.le Nat _ td t := Nat.le_of_lt o1
  have p2 : @LE.le Nat _ td kk := Nat.le_trans p1 (Nat.le_of_lt o2)
  have p3 : @LE.le Nat _ td ss := Nat.le_trans p2 (Nat.le_of_lt o3)
  have p4 : @LE.le Nat _ td nn := Nat.le_trans p3 (Nat.le_of_lt o4)
  have p5 : @LE.le Nat _ td ta := Nat.le_trans p4 (Nat.le_of_lt o5)
  have p6 : @LE.le Nat _ td tx := Nat.le_trans p5 (Nat.le_of_lt o6)
  have p7 : @LE.le Nat _ td pp := Nat.le_trans p6 (Nat.le_of_lt o7)
  have p8 : @LE.le Nat _ td cc := Nat.le_trans p7 (Nat.le_of_lt o8)
  have p9 : @LE.le Nat _ td co := Nat.le_trans p8 (Nat.le_of_lt o9)
  have r8 : @LE.le Nat _ cc co := Nat.le_of_lt o9
  have r7 : @LE.le Nat _ pp co := Nat.le_trans (Nat.le_of_lt o8) r8
  have r6 : @LE.le Nat _ tx co := Nat.le_trans (Nat.le_of_lt o7) r7
  have r5 : @LE.le Nat _ ta co := Nat.le_trans (Nat.le_of_lt o6) r6
  have r4 : @LE.le Nat _ nn co := Nat.le_trans (Nat.le_of_lt o5) r5
  have r3 : @LE.le Nat _ ss co := Nat.le_trans (Nat.le_of_lt o4) r4
  have r2 : @LE.le Nat _ kk co := Nat.le_trans (Nat.le_of_lt o3) r3
  have r1 : @LE.le Nat _ t co := Nat.le_trans (Nat.le_of_lt o2) r2
  have r0 : @LE.le Nat _ td co := Nat.le_trans (Nat.le_of_lt o1) r1
  refine List.forall_mem_cons.mpr ⟨⟨p1, r1⟩, ?_⟩
  refine List.forall_mem_cons.mpr ⟨⟨Nat.le_refl _, r0⟩, ?_⟩
  refine List.forall_mem_cons.mpr ⟨⟨p2, r2⟩, ?_⟩
  refine List.forall_mem_cons.mpr ⟨⟨p3, r3⟩, ?_⟩
  refine List.forall_mem_cons.mpr ⟨⟨p4, r4⟩, ?_⟩
  refine List.forall_mem_cons.mpr ⟨⟨p5, r5⟩, ?_⟩
  refine List.forall_mem_cons.mpr ⟨⟨p6, r6⟩, ?_⟩
  refine List.forall_mem_cons.mpr ⟨⟨p7, r7⟩, ?_⟩
  refine List.forall_mem_cons.mpr ⟨⟨p8, r8⟩, ?_⟩
  refine List.forall_mem_cons.mpr ⟨⟨p9, Nat.le_refl _⟩, ?_⟩
  exact List.forall_mem_nil _
theorem blk_ne {td co x d : Addr} (a : @LE.le Nat _ td x) (b : @LE.le Nat _ x co) (h : @LT.lt Nat _ d td ∨ @LT.lt Nat _ co d) : x ≠ d :=
  h.elim (fun h => Nat.ne_of_gt (Nat.lt_of_lt_of_le h a)) (fun h => Nat.ne_of_lt (Nat.lt_of_le_of_lt b h))
end Mine
end
section
open PySem PySem.W PyProof.Rows PySem.Calls PySem.PyData
set_option Elab.async false
namespace Mine
theorem z_of {w : World} {D : TD} {kv sv nv av tv pv cv : List Value} {oc : Obj} {es : List (Addr × Obj)} (H : TreeIs w D kv sv nv av tv pv cv oc es) (hz : D.kinds.length ≤ 90) :
    kv.length ≤ 98 ∧ sv.length ≤ 98 ∧ nv.length ≤ 98 ∧ av.length ≤ 98 ∧ tv.length ≤ 98 ∧ pv.length ≤ 98 ∧ cv.length ≤ 98 := by
  have hz' : D.kinds.length ≤ 98 := Nat.le_trans hz (Nat.le_of_ble_eq_true rfl)
  rw [StrsAre.length H.k, StrsAre.length H.s, StrsAre.length H.n, H.a, StrsAre.length H.t, H.p.length, H.c.len, H.ls, H.ln, H.lt, H.lp, H.lc]
  exact ⟨hz', hz', hz', hz', hz', hz', hz'⟩
theorem off_co {rest : List (Addr × Obj)} {td co : Nat} (hr : ∀ p ∈ rest, @LT.lt Nat _ p.1 td ∨ @LT.lt Nat _ co p.1) (h1 : td < co) : ∀ p ∈ rest, p.1 ≠ co := fun p hp =>
  (hr p hp).elim (fun h => Nat.ne_of_lt (Nat.lt_trans h h1)) (fun h => Nat.ne_of_gt h)
theorem ord_ne {bd b td t kk ss nn ta tx pp cc co c0 std st fmd : Addr} (ord : @LT.lt Nat _ td t ∧ @LT.lt Nat _ t kk ∧ @LT.lt Nat _ kk ss ∧ @LT.lt Nat _ ss nn ∧ @LT.lt Nat _ nn ta ∧ @LT.lt Nat _ ta tx ∧ @LT.lt Nat _ tx pp ∧ @LT.lt Nat _ pp cc ∧ @LT.lt Nat _ cc co)
    (od1 : @LT.lt Nat _ bd b) (od2 : @LT.lt Nat _ b td) (od3 : @LT.lt Nat _ co c0) (od4 : @LT.lt Nat _ c0 std) (od5 : @LT.lt Nat _ std st) (od6 : @LT.lt Nat _ st fmd) : @LT.lt Nat _ bd std ∧ @LT.lt Nat _ bd fmd ∧ @LT.lt Nat _ std fmd := by
  obtain ⟨o1, o2, o3, o4, o5, o6, o7, o8, o9⟩ := ord
  have h1 : @LT.lt Nat _ bd std := Nat.lt_trans od1 (Nat.lt_trans od2 (Nat.lt_trans o1 (Nat.lt_trans o2 (Nat.lt_trans o3 (Nat.lt_trans o4 (Nat.lt_trans o5 (Nat.lt_trans o6 (Nat.lt_trans o7 (Nat.lt_trans o8 (Nat.lt_trans o9 (Nat.lt_trans od3 od4)))))))))))
  have h2 : @LT.lt Nat _ std fmd := Nat.lt_trans od5 od6
  exact ⟨h1, Nat.lt_trans h1 h2, h2⟩
end Mine
end
section
open PySem PySem.W PySem.PyData PySem.Calls PyProof.Rows
set_option Elab.async false
namespace Mine
/-- the same state, but for the heap and the count of tokens -/
noncomputable def SameS (s s' : Shared) : Prop := ∃ h tk, s' = { s with heap := h, toks := tk }
theorem SameS.refl (s : Shared) : SameS s s := ⟨s.heap, s.toks, rfl⟩
theorem SameS.up {s s' : Shared} {h : Heap} {tk : Nat} (R : SameS s s') : SameS s { s' with heap := h, toks := tk } := by
  obtain ⟨a, b, rfl⟩ := R
  exact ⟨h, tk, rfl⟩
theorem SameS.fin {s s' : Shared} {Q : Value → Shared → Prop} {v : Value} (R : SameS s s') (k : Q v { s with heap := s'.heap, toks := s'.toks }) : Q v s' := by
  obtain ⟨a, b, rfl⟩ := R
  exact k
section
variable {w : World} {prog : Program} {A : Around} {E : Value → Shared → Prop} {s s0 : Shared} {h₀ : Heap} {L x C dx : Addr} {ox : Obj} {m : Str → Option Value} {K : Frag} {news news' : List (Addr × Obj)} {es es' : List DictEntry} {n n' : Nat} {name : Str} {v : Value}
theorem set_dict9 {Q : Unit → Shared → Prop} (F : Fr h₀ L s.heap m) (X₀ : K.In h₀) (N : News h₀ L s.heap news) (I : InstAt s.heap x ox C (some (dictOf es n))) (hd : ox.dict = some dx)
    (hs : findIn K (.ref C) "__setattr__" = some (some (.builtin "object.__setattr__"))) (hp : plainOver K C = true) (ht : takerIn K C name = some Option.none) (hh : hasDictIn K C = true) (hl : (getL name es).isSome = true)
    (e : (putL name (PyData.keyHash w.params name) (.str name (s.toks + 1)) v es, putN name es n) = (es', n')) (U : Upd dx (dictOf es n) (dictOf es' n') news news') (hz : es'.length ≤ 1000)
    (R : SameS s0 s) (h : ∀ s', SameS s0 s' → Fr h₀ L s'.heap m → News h₀ L s'.heap news' → Q () s') :
    wpAny (model prog w) A (setAttr (.ref x) name v) Q E s :=
  set_dict F X₀ N I hd hs hp ht hh hl e U hz fun h' F' N' => h _ R.up F' N'
end
end Mine
end
section
open PySem PySem.W PySem.PyData PySem.Calls PyProof.Rows
set_option maxRecDepth 100000
namespace Mine
local macro_rules | `(tactic| walk_at $s:str) => `(tactic| k_extra $s)
local macro_rules | `(tactic| k_room) => `(tactic| ktr_room)
local macro_rules | `(tactic| k_units) => `(tactic| ktr_units)
local macro_rules | `(tactic| walk_at "memR") => `(tactic| first | k_extra "mem" | with_reducible assumption | with_reducible exact List.mem_cons_self | (with_reducible refine List.mem_cons_of_mem _ ?_; walk_at "memR"))
local macro_rules | `(tactic| walk_at "memD") => `(tactic| first | exact List.Mem.head _ | (refine List.mem_cons_of_mem _ ?_; walk_at "memD"))
local macro_rules | `(tactic| k_mem) => `(tactic| first | walk_at "memR" | walk_at "memD")
local macro_rules | `(tactic| k_lt $h:ident) => `(tactic| (have l8 := $h; (try (first | (k_extra "ltmode"; replace $h := AL.of $h; dsimp only [List.map] at $h:ident) | ((fail_if_success (k_extra "ltmode")); replace $h := allLt_of $h; simp only [AllLt, and_true] at $h:ident)))))
local macro_rules | `(tactic| k_ne) => `(tactic| first | with_reducible assumption | k_extra "ne" | (refine neN ?_; (try dsimp only); omega) | (rename ∀ p, _ ∈ _ → _ < _ => l9; first | exact ne_lo l9 (by k_mem) | exact ne_hi l9 (by k_mem) | (clear l9; k_ne)))
local macro_rules | `(tactic| k_all) => `(tactic| first | assumption | k_extra "all" | exact List.forall_mem_nil _ | (refine' List.forall_mem_cons.mpr ⟨?a, ?b⟩; (case a => k_ne); (case b => k_all)) | (rename ∀ p, _ ∈ _ → _ < _ => l9; first | exact ne_sub l9 (by intro p hp; repeat (first | exact hp | refine List.Mem.tail _ ?_)) (by omega) | (clear l9; k_all)))
local macro_rules | `(tactic| k_get) => `(tactic| k_extra "k_get")
local macro_rules | `(tactic| k_steps) => `(tactic| k_extra "k_steps")
local macro_rules | `(tactic| k_upd) => `(tactic| k_extra "k_upd")
local macro_rules | `(tactic| kst_same) => `(tactic| k_extra "kst_same")
local macro_rules | `(tactic| ktr_enter) => `(tactic| k_extra "ktr_enter")
local macro_rules | `(tactic| walk_at "tl1") => `(tactic| (intro g' L' h' FG' F' N' B' X' T'; (try dsimp only); (try k_fold)))
local macro_rules | `(tactic| walk_at "tl2") => `(tactic| (intro g' L' h' tk' cells' FG' F' N' Y' B' X' T' l1; (try k_lt l1); k_cells Y'; (try simp only [List.cons_append, List.nil_append] at N'); (try dsimp only); (try k_fold)))
local macro_rules | `(tactic| walk_at "tl3") => `(tactic| (intro _ _ _ _ _ _ l9; (try k_lt l9)))
local macro_rules | `(tactic| walk_at "tl4") => `(tactic| (intro D' c' h' F' N' l1; (try k_lt l1); (try k_sweep)))
local macro_rules | `(tactic| walk_at "tl5") => `(tactic| (intro s' R' F' N'; (try k_sweep)))
local macro_rules | `(tactic| walk_at "tl6") => `(tactic| (intro h' F' N'; (try k_sweep)))
local macro_rules | `(tactic| walk_at "tl7") => `(tactic| (intro _ _ _ _ _ F' N' _))
local macro_rules | `(tactic| walk_at "tl8") => `(tactic| (intro _ h' F' N' _; (try k_sweep)))
section
section
variable {w : World} {mean : ExcName → Option Value} {mg mb : Str → Option Value} {dp un : Nat} {gd : Option (List Code)} {cn : Str} {cs : Scope} {a : Addr} {ccd : Value} {cl : List (Str × Addr)} {outer : List Env} {A₀ : Around} {base h₀ : Heap} {L : Addr} {m : Str → Option Value} {news : List (Addr × Obj)} {s : Shared} {Q E : Value → Shared → Prop}
noncomputable def mathL : List Str := ["mi", "mo", "mn", "ms", "mtext", "annotation-xml"]
noncomputable def svgL : List Str := ["foreignObject", "desc", "title"]
noncomputable def htmlL : List Str := (["address", "applet", "area", "article", "aside", "base", "basefont", "bgsound", "blockquote", "body", "br", "button", "caption", "center", "col", "colgroup", "dd", "details", "dir", "div", "dl", "dt", "embed", "fieldset", "figcaption", "figure", "footer", "form", "frame", "frameset"] : List Str) ++ (["h1", "h2", "h3", "h4", "h5", "h6", "head", "header", "hgroup", "hr", "html", "iframe", "img", "input", "keygen", "li", "link", "listing", "main", "marquee", "menu", "meta", "nav", "noembed", "noframes", "noscript", "object", "ol", "p", "param"] : List Str) ++ (["plaintext", "pre", "script", "search", "section", "select", "source", "style", "summary", "table", "tbody", "td", "template", "textarea", "tfoot", "th", "thead", "title", "tr", "track", "ul", "wbr", "xmp"] : List Str)
noncomputable def isSpec (space name : Str) : Bool :=
  if space == Str.ofString "math" then hasS mathL name else if space == Str.ofString "svg" then hasS svgL name else space == Str.ofString "html" && hasS htmlL name
set_option maxHeartbeats 8000000 in
theorem special_c {x y : Str} {t1 t2 : Tok}
  (B : Below A₀ base outer h₀) (F : Fr h₀ L s.heap m) (X : (K w.params).In h₀) (N : News h₀ L s.heap news) (T : TopP mean mg mb h₀) (hk : cs.kind = .function) (hd : dp + 3 < recursionLimit) (hu : un + 30 < cLine)
  (k : ∀ r h' tk', r = isSpec x y → Fr h₀ L h' m → News h₀ L h' news → Q (.bool r) { s with heap := h', toks := tk' }) :
  wpAny (model PySem.Challenge.rw_pb0145_01.row.prog w) (ktrTop dp un gd cn cs L a ccd cl outer) (call (.ref 28) [.str x t1, .str y t2]) Q E s := by
  k_with_none
  k_with "om" => first | assumption | exact Nat.le_trans (by assumption) (Nat.le_of_ble_eq_true rfl) | exact Nat.lt_of_le_of_lt (by assumption) (Nat.le_of_ble_eq_true rfl) | decide | omega
  k_with "k_get" => (first | k_extra "getd" | with_reducible assumption | with_reducible_and_instances exact Dct.get (by assumption) (by k_mem) | exact Dct.get (by assumption) (by k_mem))
  k_with "k_upd" => first | assumption | k_extra "upd" | (refine' Upd.head ?a; (case a => k_all)) | (refine' Upd.tail ?a ?b; (case a => k_ne); (case b => k_upd))
  k_with "exec While" => refine held_of ?_
  k_with "call builtin:len" => (k_here; (with_reducible show wpAny _ _ (call (Value.builtin "len") [Value.ref _]) _ _ _); k_dflt (refine' led_len ?k1 ?k2 ?k3 ?k4 ?_; (case k1 => k_asm); (case k2 => k_mem); (case k3 => first | exact IntsAre.length (by assumption) | exact PyProof.Rows.StrsAre.length (by assumption) | assumption); (case k4 => walk_at "om"); k_whole); intro _ _)
  k_with "subs9" => (k_here; (with_reducible show wpAny _ _ (subscriptTail _ _ (Value.ref _) (Value.int _ _)) _ _ _); k_dflt (first | (refine' led_int ?k1 ?k2 ?k3 ?k4 ?k5 ?k6 ?_ ?k7; (case k1 => k_asm); (case k2 => k_mem); (case k3 => assumption); (case k4 => first | omega | k_extra "bnd"); (case k5 => first | omega | k_extra "bnd"); (case k6 => omega); (case k7 => with_unfolding_all rfl); k_whole; intro _ _; (try k_extra "fact")) | (refine' led_str ?k1 ?k2 ?k3 ?k4 ?k5 ?k6 ?_ ?k7; (case k1 => k_asm); (case k2 => k_mem); (case k3 => assumption); (case k4 => first | omega | k_extra "bnd"); (case k5 => first | omega | k_extra "bnd"); (case k6 => omega); (case k7 => with_unfolding_all rfl); k_whole; intro _)))
  k_with "subscriptTail" => walk_at "subs9"
  k_with "subscriptTail Name Name ref int" => walk_at "subs9"
  k_with "subscriptTail Attribute Name ref int" => walk_at "subs9"
  k_with "compareOp In int ref" => (k_here; k_dflt (refine' led_in ?k1 ?k2 ?k3 ?_; (case k1 => k_asm); (case k2 => k_mem); (case k3 => assumption); k_whole))
  k_with "compareOp NotIn int ref" => (k_here; k_dflt (refine' led_notin ?k1 ?k2 ?k3 ?_; (case k1 => k_asm); (case k2 => k_mem); (case k3 => assumption); k_whole))
  k_with "compareOp In str ref" => (k_here; k_dflt (first | (refine' led_in_str ?k1 ?k2 ?k3 ?_; (case k1 => k_asm); (case k2 => walk_at "memR"); (case k3 => with_reducible assumption); k_whole) | (refine' led_in_tup ?k1 ?k2 ?k3 ?_; (case k1 => k_asm); (case k2 => walk_at "memR"); (case k3 => with_reducible assumption); k_whole) | (refine' led_in_tup ?k1 ?k2 ?k3 ?_; (case k1 => k_asm); (case k2 => k_mem); (case k3 => with_reducible assumption); k_whole) | (refine' led_in_str ?k1 ?k2 ?k3 ?_; (case k1 => k_asm); (case k2 => k_mem); (case k3 => with_reducible assumption); k_whole)))
  k_with "compareOp NotIn str ref" => (k_here; k_dflt (first | (refine' led_notin_str ?k1 ?k2 ?k3 ?_; (case k1 => k_asm); (case k2 => walk_at "memR"); (case k3 => with_reducible assumption); k_whole) | (refine' led_notin_tup ?k1 ?k2 ?k3 ?_; (case k1 => k_asm); (case k2 => walk_at "memR"); (case k3 => with_reducible assumption); k_whole) | (refine' led_notin_tup ?k1 ?k2 ?k3 ?_; (case k1 => k_asm); (case k2 => k_mem); (case k3 => with_reducible assumption); k_whole) | (refine' led_notin_str ?k1 ?k2 ?k3 ?_; (case k1 => k_asm); (case k2 => k_mem); (case k3 => with_reducible assumption); k_whole)))
  k_with "eval Tuple" => (k_here; k_dflt (refine' tup_lit ?k1 ?k2 ?k3 ?k4 ?_; (case k1 => exact rfl); (case k2 => exact Nat.le_of_ble_eq_true rfl); (case k3 => k_asm); (case k4 => k_asm); k_whole); intro _ _ _ _ _ _ _ _)
  k_with "call builtin:list.index" => (k_here; (with_reducible show wpAny _ _ (call (Value.builtin _) [Value.ref _, Value.int _ _]) _ _ _); k_dflt (refine' led_index ?k1 ?k2 ?k3 ?k4 ?k5 ?_; (case k1 => k_asm); (case k2 => k_mem); (case k3 => assumption); (case k4 => assumption); (case k5 => omega); k_whole))
  k_with "pyIter ref" => refine held_of ?_
  k_with "InvEndN" => k_extra "InvEndN"
  k_with "k_steps" => repeat' (first | (k_unfold; (try dsimp only)) | (k_end; fail_if_success skip) | walk1 | (dsimp only; walk1) | fail "no step")
  k_with "kst_same" => (intro z h1 h2 h3; (try simp only [List.contains_cons, List.contains_nil, Bool.or_false, Bool.or_eq_false_iff, beq_eq_false_iff_ne, ne_eq] at h3); (simp [h1, h3, kstB]; done))
  k_with "ktr_enter" => first | (refine' code_def ?k1 ?k2 ?k3 ?k4 ?k5 ?kA ?kF ?kK ?k6 ?k7 ?k8 ?k9 ?kB ?_ ?c2 ?c3 ?c4 ?c5; (case kA => exact rfl); (case kF => exact rfl); (case kK => assumption); (case k1 => k_asm); (case k2 => k_asm); (case k3 => k_asm); (case k4 => k_asm); (case k5 => k_asm); (case k6 => k_is); (case k7 => k_is); (case k8 => ktr_room); (case k9 => first | exact BindsTo.of_eq rfl | exact binds_K (by k_in) rfl (by k_is) rfl rfl rfl); (case c5 => decide); (case kB => exact locs rfl); (case c2 => exact rfl); (case c3 => exact rfl); (case c4 => exact rfl); k_whole; walk_at "tl1") | (refine' code_defC ?k1 ?k2 ?k3 ?k4 ?k5 ?kA ?kF ?kK ?k6 ?k7 ?k8 ?k9 ?kB ?kD ?_ ?c2 ?c3 ?c4; (case kA => exact rfl); (case kF => exact rfl); (case kK => assumption); (case k1 => k_asm); (case k2 => k_asm); (case k3 => k_asm); (case k4 => k_asm); (case k5 => k_asm); (case k6 => k_is); (case k7 => k_is); (case k8 => ktr_room); (case k9 => first | exact BindsTo.of_eq rfl | exact binds_K (by k_in) rfl (by k_is) rfl rfl rfl); (case kB => exact rfl); (case kD => decide +kernel); (case c2 => exact rfl); (case c3 => exact rfl); (case c4 => exact rfl); k_whole; walk_at "tl2")
  revert X; k_fill; intro X
  refine wpAny_call ?_
  k_dflt ktr_enter
  k_steps
  all_goals (rename Fr h₀ L _ _ => kF; rename News h₀ L _ _ => kN)
  · exact k _ _ _ (by unfold isSpec; rw [if_pos (by assumption)]; rfl) kF fun p hp => kN p (List.mem_cons_of_mem _ hp)
  · exact k _ _ _ (by unfold isSpec; rw [if_neg (by simp only [*]; exact Bool.false_ne_true), if_pos (by assumption)]; rfl) kF fun p hp => kN p (List.mem_cons_of_mem _ hp)
  · rename (x == Str.ofString "math") = false => c1; rename (x == Str.ofString "svg") = false => c2; rename (x == Str.ofString "html") = true => c3
    exact k _ _ _ (by unfold isSpec; rw [c1, c2, c3, if_neg Bool.false_ne_true, if_neg Bool.false_ne_true]; rfl) kF fun p hp => kN p (List.mem_cons_of_mem _ hp)
  · rename (x == Str.ofString "math") = false => c1; rename (x == Str.ofString "svg") = false => c2; rename (x == Str.ofString "html") = false => c3
    exact k _ _ _ (by unfold isSpec; rw [c1, c2, c3, if_neg Bool.false_ne_true, if_neg Bool.false_ne_true]; rfl) kF kN
end
end
section
section
variable {w : World} {mean : ExcName → Option Value} {mg mb : Str → Option Value} {dp un : Nat} {gd : Option (List Code)} {cn : Str} {cs : Scope} {a : Addr} {ccd : Value} {cl : List (Str × Addr)} {outer : List Env} {A₀ : Around} {base h₀ : Heap} {L : Addr} {m : Str → Option Value} {news : List (Addr × Obj)} {s : Shared} {Q E : Value → Shared → Prop}

/-- the last item, -1 when there is none -/
noncomputable def lastI (l : List Int) : Int := l.getLast?.getD (-1)
theorem lastI_at {l : List Int} (h : (l.length : Int) ≠ 0) : iAt l (l.length - 1) = lastI l := by
  unfold iAt lastI
  rw [List.getLast?_eq_getElem?, List.getD_eq_getElem?_getD, show ((l.length : Int) - 1).toNat = l.length - 1 by omega]
  have : l.length - 1 < l.length := by omega
  simp [this]
theorem lastI_nil {l : List Int} (h : (l.length : Int) = 0) : lastI l = -1 := by
  have : l = [] := List.eq_nil_of_length_eq_zero (by omega)
  subst this; rfl
theorem lastI_mem {l : List Int} (h : lastI l ≠ -1) : lastI l ∈ l := by
  unfold lastI at h ⊢
  cases e : l.getLast? with
  | none => rw [e] at h; exact absurd rfl h
  | some x => exact List.mem_of_getLast? e
set_option maxHeartbeats 8000000 in
theorem current_c {st std t it : Addr} {es : List DictEntry} {ne ni : Nat} {sv : List Value} {stk : List Int}
  (B : Below A₀ base outer h₀) (F : Fr h₀ L s.heap m) (X : (K w.params).In h₀) (N : News h₀ L s.heap news) (T : TopP mean mg mb h₀) (hk : cs.kind = .function) (hd : dp + 3 < recursionLimit) (hu : un + 30 < cLine)
  (h1 : (st, instObj 136 std) ∈ news) (h2 : (std, dictOf es ne) ∈ news) (h3 : (it, listOf sv.toArray ni) ∈ news) (D : StD es t it) (hi : IntsAre sv stk) (hz : stk.length ≤ 100)
  (k : ∀ r tk h' tk', r = lastI stk → Fr h₀ L h' m → News h₀ L h' news → Q (.int r tk) { s with heap := h', toks := tk' }) :
  wpAny (model PySem.Challenge.rw_pb0145_01.row.prog w) (ktrTop dp un gd cn cs L a ccd cl outer) (call (.ref 70) [.ref st]) Q E s := by
  revert X; k_fill; intro X
  refine wpAny_call ?_
  k_dflt ktr_enter
  k_steps
  all_goals (rename Fr h₀ L _ _ => kF; rename News h₀ L _ _ => kN)
  · exact k _ _ _ _ (lastI_nil (by assumption)).symm kF kN
  · exact k _ _ _ _ (lastI_at (by assumption)) kF kN
end
end
section
section
variable {w : World} {mean : ExcName → Option Value} {mg mb : Str → Option Value} {dp un : Nat} {gd : Option (List Code)} {cn : Str} {cs : Scope} {a : Addr} {ccd : Value} {cl : List (Str × Addr)} {outer : List Env} {A₀ : Around} {base h₀ : Heap} {L : Addr} {m : Str → Option Value} {news : List (Addr × Obj)} {s : Shared} {Q E : Value → Shared → Prop}

noncomputable def nameOf (spaces names : List Str) (stk : List Int) : Str :=
  if lastI stk = -1 then Str.ofString "" else if sAt spaces (lastI stk) == Str.ofString "html" then sAt names (lastI stk) else Str.ofString ""
theorem nameOf_1 {spaces names : List Str} {stk : List Int} {r : Int} (e : r = lastI stk) (c : r = -1) : Str.ofString "" = nameOf spaces names stk := by
  subst e; unfold nameOf; rw [if_pos c]
theorem nameOf_2 {spaces names : List Str} {stk : List Int} {r : Int} (e : r = lastI stk) (c : ¬ r = -1) (d : (sAt spaces r != Str.ofString "html") = true) : Str.ofString "" = nameOf spaces names stk := by
  subst e; unfold nameOf; rw [if_neg c, if_neg (by simpa [bne] using d)]
theorem nameOf_3 {spaces names : List Str} {stk : List Int} {r : Int} (e : r = lastI stk) (c : ¬ r = -1) (d : (sAt spaces r != Str.ofString "html") = false) : sAt names r = nameOf spaces names stk := by
  subst e; unfold nameOf; rw [if_neg c, if_pos (by simpa [bne] using d)]
set_option maxHeartbeats 8000000 in
theorem name_c {st std t td it kk ss nn aa tt pp cc co : Addr} {es et : List DictEntry} {ne nt ni n1 n2 : Nat} {sv s1 s2 : List Value} {stk : List Int} {spaces names : List Str}
  (B : Below A₀ base outer h₀) (F : Fr h₀ L s.heap m) (X : (K w.params).In h₀) (N : News h₀ L s.heap news) (T : TopP mean mg mb h₀) (hk : cs.kind = .function) (hd : dp + 6 < recursionLimit) (hu : un + 60 < cLine)
  (h1 : (st, instObj 136 std) ∈ news) (h2 : (std, dictOf es ne) ∈ news) (h3 : (it, listOf sv.toArray ni) ∈ news) (D : StD es t it) (hi : IntsAre sv stk) (hz : stk.length ≤ 100)
  (h4 : (t, instObj 413 td) ∈ news) (h5 : (td, dictOf et nt) ∈ news) (D2 : TrD et kk ss nn aa tt pp cc co) (h6 : (ss, listOf s1.toArray n1) ∈ news) (h7 : (nn, listOf s2.toArray n2) ∈ news)
  (g1 : StrsAre s1 spaces) (g2 : StrsAre s2 names) (hl : spaces.length = names.length) (hl2 : names.length ≤ 100) (hin : ∀ x ∈ stk, 0 ≤ x ∧ x < (names.length : Int))
  (k : ∀ r tk h' tk', r = nameOf spaces names stk → Fr h₀ L h' m → News h₀ L h' news → Q (.str r tk) { s with heap := h', toks := tk' }) :
  wpAny (model PySem.Challenge.rw_pb0145_01.row.prog w) (ktrTop dp un gd cn cs L a ccd cl outer) (call (.ref 112) [.ref st]) Q E s := by
  k_with "call ref" => (k_here; (with_reducible show wpAny _ _ (call (Value.ref 70) _) _ _ _); k_dflt (refine' current_c ?B ?F ?X ?N ?T ?hk ?hd ?hu ?h1 ?h2 ?h3 ?D ?hi ?hz ?_; (case B => k_asm); (case F => k_asm); (case X => k_asm); (case N => k_asm); (case T => k_asm); (case hk => first | exact rfl | assumption); (case h1 => k_mem); (case h2 => k_mem); (case D => assumption); (case h3 => k_mem); (case hi => assumption); (case hz => omega); (case hd => ktr_room); (case hu => first | ktr_units | exact Nat.le_of_ble_eq_true rfl); k_whole); intro _ _ _ _ _ _ _)
  revert X; k_fill; intro X
  refine wpAny_call ?_
  k_dflt ktr_enter
  k_with "bnd" =>
    subst_vars
    have hb := hin _ (lastI_mem (by assumption))
    omega
  k_steps
  all_goals (rename Fr h₀ L _ _ => kF; rename News h₀ L _ _ => kN)
  · exact k _ _ _ _ (nameOf_1 (by assumption) (by assumption)) kF kN
  · exact k _ _ _ _ (nameOf_2 (by assumption) (by assumption) (by assumption)) kF kN
  · exact k _ _ _ _ (nameOf_3 (by assumption) (by assumption) (by assumption)) kF kN
end
end
section
/-- what Formatting.find gives: the list from its end -/
noncomputable def findR (names : List Str) (name : Str) : List Int → Int
  | [] => -1
  | x :: r => if x = -1 then -1 else if (sAt names x == name) = true then x else findR names name r
theorem findR_hit1 {names : List Str} {name : Str} {act : List Int} {i : Nat} {k : Int} (hP : findR names name act.reverse = findR names name (act.reverse.drop i)) (hk : k = (act.length : Int) - 1 - i) (hi : i < act.length) (e : iAt act k = -1) :
    findR names name act.reverse = -1 := by
  rw [hP, drop_at _ _ _ (rev_at act i k hk hi), findR, if_pos e]
theorem findR_hit2 {names : List Str} {name : Str} {act : List Int} {i : Nat} {k : Int} (hP : findR names name act.reverse = findR names name (act.reverse.drop i)) (hk : k = (act.length : Int) - 1 - i) (hi : i < act.length) (e : ¬ iAt act k = -1)
    (e2 : (sAt names (iAt act k) == name) = true) : findR names name act.reverse = iAt act k := by
  rw [hP, drop_at _ _ _ (rev_at act i k hk hi), findR, if_neg e, if_pos e2]
theorem findR_next {names : List Str} {name : Str} {act : List Int} {i : Nat} {k : Int} (hP : findR names name act.reverse = findR names name (act.reverse.drop i)) (hk : k = (act.length : Int) - 1 - i) (hi : i < act.length) (e : ¬ iAt act k = -1)
    (e2 : (sAt names (iAt act k) == name) = false) : findR names name act.reverse = findR names name (act.reverse.drop (i + 1)) := by
  rw [hP, drop_at _ _ _ (rev_at act i k hk hi), findR, if_neg e, e2, if_neg Bool.false_ne_true]
theorem findR_end {names : List Str} {name : Str} {act : List Int} {i : Nat} (hP : findR names name act.reverse = findR names name (act.reverse.drop i)) (hi : act.length ≤ i) : findR names name act.reverse = -1 := by
  rw [hP, List.drop_eq_nil_of_le (by simpa using hi)]; rfl
section
variable {w : World} {mean : ExcName → Option Value} {mg mb : Str → Option Value} {dp un : Nat} {gd : Option (List Code)} {cn : Str} {cs : Scope} {a : Addr} {ccd : Value} {cl : List (Str × Addr)} {outer : List Env} {A₀ : Around} {base h₀ : Heap} {L : Addr} {m : Str → Option Value} {news : List (Addr × Obj)} {s : Shared} {Q E : Value → Shared → Prop}

set_option maxHeartbeats 8000000 in
theorem find_c {fm fmd t td it kk ss nm aa tt pp cc co : Addr} {es et : List DictEntry} {ne nt ni nn : Nat} {av nv : List Value} {act : List Int} {names : List Str} {name : Str} {tk : Tok}
  (B : Below A₀ base outer h₀) (F : Fr h₀ L s.heap m) (X : (K w.params).In h₀) (N : News h₀ L s.heap news) (T : TopP mean mg mb h₀) (hk : cs.kind = .function) (hd : dp + 5 < recursionLimit) (hu : un + 50 < cLine)
  (h1 : (fm, instObj 296 fmd) ∈ news) (h2 : (fmd, dictOf es ne) ∈ news) (h3 : (t, instObj 413 td) ∈ news) (h4 : (td, dictOf et nt) ∈ news)
  (h5 : (it, listOf av.toArray ni) ∈ news) (h6 : (nm, listOf nv.toArray nn) ∈ news)
  (D : FmD es t it) (D2 : TrD et kk ss nm aa tt pp cc co)
  (ha : IntsAre av act) (hn : StrsAre nv names) (hz : act.length ≤ 100) (hz2 : names.length ≤ 100) (hin : ∀ x ∈ act, x = -1 ∨ (0 ≤ x ∧ x < names.length))
  (k : ∀ r tk h' tk', r = findR names name act.reverse → Fr h₀ L h' m → News h₀ L h' news → Q (.int r tk) { s with heap := h', toks := tk' }) :
  wpAny (model PySem.Challenge.rw_pb0145_01.row.prog w) (ktrTop dp un gd cn cs L a ccd cl outer) (call (.ref 258) [.ref fm, .str name tk]) Q E s := by
  k_with "InvEndN" => refine heldP_of ?_
  k_with "bnd" =>
    have hb := hin _ (by assumption)
    omega
  revert X; k_fill; intro X
  refine wpAny_call ?_
  k_dflt ktr_enter
  k_steps
  rename Fr _ _ _ _ => lF'; rename News _ _ _ _ => lN'; rename IsRange _ _ _ _ _ _ _ _ => rgX
  refine held_go (kst_rangeD (σ := Unit) (fun _ => news) (fun _ => []) (fun _ => True) [Str.ofString "node"] (fun pre _ => findR names name act.reverse = findR names name (act.reverse.drop pre.length)) () (by rfl) rgX (small_down (by omega) (by omega) (by omega) (by omega)) (rangeSize_downNat _ _) lF' lN' trivial (by nofun) (by rfl) ?_ ?_)
  · intro c pre kk t1 u h1' tk1 own hkk hlt hoff hf hP F1 N1
    k_steps
    · rename Fr h₀ L _ _ => kF; rename News h₀ L _ _ => kN; rename iAt act _ = -1 => c1
      exact k _ _ _ _ (findR_hit1 hP hkk (by omega) c1).symm kF fun p hp => kN p (List.mem_append_left _ hp)
    · rename Fr h₀ L _ _ => kF; rename News h₀ L _ _ => kN; rename ¬ iAt act _ = -1 => c1; rename (_ == _) = true => c2
      exact k _ _ _ _ (findR_hit2 hP hkk (by omega) c1 c2).symm kF fun p hp => kN p (List.mem_append_left _ hp)
    · rename ¬ iAt act _ = -1 => c1; rename (_ == _) = false => c2
      refine heldP_go ?_
      exact kst_end () (by assumption) (by assumption) (fun p hp => List.mem_append_left _ hp) (fun p hp => List.mem_append_right _ hp) rfl trivial (by nofun) (by kst_same)
        (by rw [List.length_append]; exact findR_next hP hkk (by omega) c1 c2)
  · intro c u h1' tk1 hf hP F1 N1
    k_steps
    rename Fr h₀ L _ _ => kF; rename News h₀ L _ _ => kN
    exact k _ _ _ _ (findR_end hP (by rw [downKs_length]; omega)).symm kF kN
end
end
section
section
variable {w : World} {mean : ExcName → Option Value} {mg mb : Str → Option Value} {dp un : Nat} {gd : Option (List Code)} {cn : Str} {cs : Scope} {a : Addr} {ccd : Value} {cl : List (Str × Addr)} {outer : List Env} {A₀ : Around} {base h₀ : Heap} {L : Addr} {m : Str → Option Value} {news : List (Addr × Obj)} {s : Shared} {Q E : Value → Shared → Prop}

noncomputable def impliedL : List Str := ["dd", "dt", "li", "optgroup", "option", "p", "rb", "rp", "rt", "rtc"]
set_option maxHeartbeats 8000000 in
theorem implied_c
  (B : Below A₀ base outer h₀) (F : Fr h₀ L s.heap m) (X : (K w.params).In h₀) (N : News h₀ L s.heap news) (T : TopP mean mg mb h₀) (hk : cs.kind = .function) (hd : dp + 3 < recursionLimit) (hu : un + 30 < cLine)
  (k : ∀ t vs h' tk', StrsAre vs impliedL → Fr h₀ L h' m → News h₀ L h' ((t, tupO vs) :: news) → (∀ p ∈ news, p.1 < t) → Q (.ref t) { s with heap := h', toks := tk' }) :
  wpAny (model PySem.Challenge.rw_pb0145_01.row.prog w) (ktrTop dp un gd cn cs L a ccd cl outer) (call (.ref 35) []) Q E s := by
  k_with_none
  k_with "om" => first | assumption | exact Nat.le_trans (by assumption) (Nat.le_of_ble_eq_true rfl) | exact Nat.lt_of_le_of_lt (by assumption) (Nat.le_of_ble_eq_true rfl) | decide | omega
  k_with "k_get" => (first | k_extra "getd" | with_reducible assumption | with_reducible_and_instances exact Dct.get (by assumption) (by k_mem) | exact Dct.get (by assumption) (by k_mem))
  k_with "k_upd" => first | assumption | k_extra "upd" | (refine' Upd.head ?a; (case a => k_all)) | (refine' Upd.tail ?a ?b; (case a => k_ne); (case b => k_upd))
  k_with "exec While" => refine held_of ?_
  k_with "call builtin:len" => (k_here; (with_reducible show wpAny _ _ (call (Value.builtin "len") [Value.ref _]) _ _ _); k_dflt (refine' led_len ?k1 ?k2 ?k3 ?k4 ?_; (case k1 => k_asm); (case k2 => k_mem); (case k3 => first | exact IntsAre.length (by assumption) | exact PyProof.Rows.StrsAre.length (by assumption) | assumption); (case k4 => walk_at "om"); k_whole); intro _ _)
  k_with "subs9" => (k_here; (with_reducible show wpAny _ _ (subscriptTail _ _ (Value.ref _) (Value.int _ _)) _ _ _); k_dflt (first | (refine' led_int ?k1 ?k2 ?k3 ?k4 ?k5 ?k6 ?_ ?k7; (case k1 => k_asm); (case k2 => k_mem); (case k3 => assumption); (case k4 => first | omega | k_extra "bnd"); (case k5 => first | omega | k_extra "bnd"); (case k6 => omega); (case k7 => with_unfolding_all rfl); k_whole; intro _ _; (try k_extra "fact")) | (refine' led_str ?k1 ?k2 ?k3 ?k4 ?k5 ?k6 ?_ ?k7; (case k1 => k_asm); (case k2 => k_mem); (case k3 => assumption); (case k4 => first | omega | k_extra "bnd"); (case k5 => first | omega | k_extra "bnd"); (case k6 => omega); (case k7 => with_unfolding_all rfl); k_whole; intro _)))
  k_with "subscriptTail" => walk_at "subs9"
  k_with "subscriptTail Name Name ref int" => walk_at "subs9"
  k_with "subscriptTail Attribute Name ref int" => walk_at "subs9"
  k_with "compareOp In int ref" => (k_here; k_dflt (refine' led_in ?k1 ?k2 ?k3 ?_; (case k1 => k_asm); (case k2 => k_mem); (case k3 => assumption); k_whole))
  k_with "compareOp NotIn int ref" => (k_here; k_dflt (refine' led_notin ?k1 ?k2 ?k3 ?_; (case k1 => k_asm); (case k2 => k_mem); (case k3 => assumption); k_whole))
  k_with "compareOp In str ref" => (k_here; k_dflt (first | (refine' led_in_str ?k1 ?k2 ?k3 ?_; (case k1 => k_asm); (case k2 => walk_at "memR"); (case k3 => with_reducible assumption); k_whole) | (refine' led_in_tup ?k1 ?k2 ?k3 ?_; (case k1 => k_asm); (case k2 => walk_at "memR"); (case k3 => with_reducible assumption); k_whole) | (refine' led_in_tup ?k1 ?k2 ?k3 ?_; (case k1 => k_asm); (case k2 => k_mem); (case k3 => with_reducible assumption); k_whole) | (refine' led_in_str ?k1 ?k2 ?k3 ?_; (case k1 => k_asm); (case k2 => k_mem); (case k3 => with_reducible assumption); k_whole)))
  k_with "compareOp NotIn str ref" => (k_here; k_dflt (first | (refine' led_notin_str ?k1 ?k2 ?k3 ?_; (case k1 => k_asm); (case k2 => walk_at "memR"); (case k3 => with_reducible assumption); k_whole) | (refine' led_notin_tup ?k1 ?k2 ?k3 ?_; (case k1 => k_asm); (case k2 => walk_at "memR"); (case k3 => with_reducible assumption); k_whole) | (refine' led_notin_tup ?k1 ?k2 ?k3 ?_; (case k1 => k_asm); (case k2 => k_mem); (case k3 => with_reducible assumption); k_whole) | (refine' led_notin_str ?k1 ?k2 ?k3 ?_; (case k1 => k_asm); (case k2 => k_mem); (case k3 => with_reducible assumption); k_whole)))
  k_with "eval Tuple" => (k_here; k_dflt (refine' tup_lit ?k1 ?k2 ?k3 ?k4 ?_; (case k1 => exact rfl); (case k2 => exact Nat.le_of_ble_eq_true rfl); (case k3 => k_asm); (case k4 => k_asm); k_whole); intro _ _ _ _ _ _ _ _)
  k_with "call builtin:list.index" => (k_here; (with_reducible show wpAny _ _ (call (Value.builtin _) [Value.ref _, Value.int _ _]) _ _ _); k_dflt (refine' led_index ?k1 ?k2 ?k3 ?k4 ?k5 ?_; (case k1 => k_asm); (case k2 => k_mem); (case k3 => assumption); (case k4 => assumption); (case k5 => omega); k_whole))
  k_with "pyIter ref" => refine held_of ?_
  k_with "InvEndN" => k_extra "InvEndN"
  k_with "k_steps" => repeat' (first | (k_unfold; (try dsimp only)) | (k_end; fail_if_success skip) | walk1 | (dsimp only; walk1) | fail "no step")
  k_with "kst_same" => (intro z h1 h2 h3; (try simp only [List.contains_cons, List.contains_nil, Bool.or_false, Bool.or_eq_false_iff, beq_eq_false_iff_ne, ne_eq] at h3); (simp [h1, h3, kstB]; done))
  k_with "ktr_enter" => first | (refine' code_def ?k1 ?k2 ?k3 ?k4 ?k5 ?kA ?kF ?kK ?k6 ?k7 ?k8 ?k9 ?kB ?_ ?c2 ?c3 ?c4 ?c5; (case kA => exact rfl); (case kF => exact rfl); (case kK => assumption); (case k1 => k_asm); (case k2 => k_asm); (case k3 => k_asm); (case k4 => k_asm); (case k5 => k_asm); (case k6 => k_is); (case k7 => k_is); (case k8 => ktr_room); (case k9 => first | exact BindsTo.of_eq rfl | exact binds_K (by k_in) rfl (by k_is) rfl rfl rfl); (case c5 => decide); (case kB => exact locs rfl); (case c2 => exact rfl); (case c3 => exact rfl); (case c4 => exact rfl); k_whole; walk_at "tl1") | (refine' code_defC ?k1 ?k2 ?k3 ?k4 ?k5 ?kA ?kF ?kK ?k6 ?k7 ?k8 ?k9 ?kB ?kD ?_ ?c2 ?c3 ?c4; (case kA => exact rfl); (case kF => exact rfl); (case kK => assumption); (case k1 => k_asm); (case k2 => k_asm); (case k3 => k_asm); (case k4 => k_asm); (case k5 => k_asm); (case k6 => k_is); (case k7 => k_is); (case k8 => ktr_room); (case k9 => first | exact BindsTo.of_eq rfl | exact binds_K (by k_in) rfl (by k_is) rfl rfl rfl); (case kB => exact rfl); (case kD => decide +kernel); (case c2 => exact rfl); (case c3 => exact rfl); (case c4 => exact rfl); k_whole; walk_at "tl2")
  revert X; k_fill; intro X
  refine wpAny_call ?_
  k_dflt ktr_enter
  k_steps
  rename Fr h₀ L _ _ => kF; rename News h₀ L _ _ => kN
  exact k _ _ _ _ (by assumption) kF kN (by assumption)
end
end
section
section
variable {w : World} {mean : ExcName → Option Value} {mg mb : Str → Option Value} {dp un : Nat} {gd : Option (List Code)} {cn : Str} {cs : Scope} {a : Addr} {ccd : Value} {cl : List (Str × Addr)} {outer : List Env} {A₀ : Around} {base h₀ : Heap} {L : Addr} {m : Str → Option Value} {news : List (Addr × Obj)} {s : Shared} {Q E : Value → Shared → Prop}

noncomputable def scopeL : List Str := ["applet", "caption", "html", "table", "td", "th", "marquee", "object", "template"]
noncomputable def stopsP (space name : Str) : Bool :=
  if space == Str.ofString "math" then hasS mathL name else if space == Str.ofString "svg" then hasS svgL name else hasS scopeL name
theorem stopsP_1 {x y : Str} (c : (x == Str.ofString "math") = true) : hasS mathL y = stopsP x y := by unfold stopsP; rw [if_pos c]
theorem stopsP_2 {x y : Str} (c : (x == Str.ofString "math") = false) (d : (x == Str.ofString "svg") = true) : hasS svgL y = stopsP x y := by unfold stopsP; rw [c, if_neg Bool.false_ne_true, if_pos d]
theorem stopsP_3 {x y : Str} {b : Bool} (c : (x == Str.ofString "math") = false) (d : (x == Str.ofString "svg") = false) (e : hasS scopeL y = b) : b = stopsP x y := by
  unfold stopsP; rw [c, d, if_neg Bool.false_ne_true, if_neg Bool.false_ne_true, e]
set_option maxHeartbeats 8000000 in
theorem stops_c {t td kk ss nn aa tt pp cc co : Addr} {et : List DictEntry} {nt n1 n2 : Nat} {s1 s2 : List Value} {spaces names : List Str} {x : Int} {t1 t2 : Tok}
  (B : Below A₀ base outer h₀) (F : Fr h₀ L s.heap m) (X : (K w.params).In h₀) (N : News h₀ L s.heap news) (T : TopP mean mg mb h₀) (hk : cs.kind = .function) (hd : dp + 3 < recursionLimit) (hu : un + 30 < cLine)
  (h4 : (t, instObj 413 td) ∈ news) (h5 : (td, dictOf et nt) ∈ news) (D2 : TrD et kk ss nn aa tt pp cc co) (h6 : (ss, listOf s1.toArray n1) ∈ news) (h7 : (nn, listOf s2.toArray n2) ∈ news)
  (g1 : StrsAre s1 spaces) (g2 : StrsAre s2 names) (hl : spaces.length = names.length) (hl2 : names.length ≤ 100) (hin : 0 ≤ x ∧ x < (names.length : Int))
  (k : ∀ r h' tk', r = stopsP (sAt spaces x) (sAt names x) → Fr h₀ L h' m → News h₀ L h' news → Q (.bool r) { s with heap := h', toks := tk' }) :
  wpAny (model PySem.Challenge.rw_pb0145_01.row.prog w) (ktrTop dp un gd cn cs L a ccd cl outer) (call (.ref 147) [.ref t, .int x t1, .str (Str.ofString "") t2]) Q E s := by
  k_with "call ref" => (k_here; (with_reducible show wpAny _ _ (call (Value.ref 28) _) _ _ _); k_dflt (refine' special_c ?B ?F ?X ?N ?T ?hk ?hd ?hu ?_; (case B => k_asm); (case F => k_asm); (case X => k_asm); (case N => k_asm); (case T => k_asm); (case hk => first | exact rfl | assumption); (case hd => ktr_room); (case hu => first | ktr_units | exact Nat.le_of_ble_eq_true rfl); k_whole); intro _ _ _ _ _ _)
  revert X; k_fill; intro X
  refine wpAny_call ?_
  k_dflt ktr_enter
  k_steps
  all_goals (rename Fr h₀ L _ _ => kF; rename News h₀ L _ _ => kN)
  · exact k _ _ _ (stopsP_1 (by assumption)) kF fun p hp => kN p (List.mem_cons_of_mem _ hp)
  · exact k _ _ _ (stopsP_2 (by assumption) (by assumption)) kF fun p hp => kN p (List.mem_cons_of_mem _ hp)
  · rename List.any _ _ = _ => c
    exact k _ _ _ (stopsP_3 (by assumption) (by assumption) c) kF fun p hp => kN p (List.mem_cons_of_mem _ hp)
  · rename List.any _ _ = _ => c
    exact k _ _ _ (stopsP_3 (by assumption) (by assumption) c) kF fun p hp => kN p (List.mem_cons_of_mem _ hp)
end
end
section
section
variable {w : World} {mean : ExcName → Option Value} {mg mb : Str → Option Value} {dp un : Nat} {gd : Option (List Code)} {cn : Str} {cs : Scope} {a : Addr} {ccd : Value} {cl : List (Str × Addr)} {outer : List Env} {A₀ : Around} {base h₀ : Heap} {L : Addr} {m : Str → Option Value} {news : List (Addr × Obj)} {s : Shared} {Q E : Value → Shared → Prop}

/-- node_in_scope, over the stack from its end -/
noncomputable def inScopeR (spaces names : List Str) (node : Int) : List Int → Bool
  | [] => false
  | x :: r => if x = node then true else if stopsP (sAt spaces x) (sAt names x) = true then false else inScopeR spaces names node r
theorem inScopeR_1 {spaces names : List Str} {node : Int} {l : List Int} {i : Nat} {k : Int} (hP : inScopeR spaces names node l.reverse = inScopeR spaces names node (l.reverse.drop i)) (hk : k = (l.length : Int) - 1 - i) (hi : i < l.length)
    (e : iAt l k = node) : true = inScopeR spaces names node l.reverse := by
  rw [hP, drop_at _ _ _ (rev_at l i k hk hi), inScopeR, if_pos e]
theorem inScopeR_2 {spaces names : List Str} {node : Int} {l : List Int} {i : Nat} {k : Int} {r : Bool} (hP : inScopeR spaces names node l.reverse = inScopeR spaces names node (l.reverse.drop i)) (hk : k = (l.length : Int) - 1 - i) (hi : i < l.length)
    (e : ¬ iAt l k = node) (f : r = stopsP (sAt spaces (iAt l k)) (sAt names (iAt l k))) (g : r = true) : false = inScopeR spaces names node l.reverse := by
  rw [hP, drop_at _ _ _ (rev_at l i k hk hi), inScopeR, if_neg e, if_pos (f ▸ g)]
theorem inScopeR_3 {spaces names : List Str} {node : Int} {l : List Int} {i : Nat} {k : Int} {r : Bool} (hP : inScopeR spaces names node l.reverse = inScopeR spaces names node (l.reverse.drop i)) (hk : k = (l.length : Int) - 1 - i) (hi : i < l.length)
    (e : ¬ iAt l k = node) (f : r = stopsP (sAt spaces (iAt l k)) (sAt names (iAt l k))) (g : r = false) : inScopeR spaces names node l.reverse = inScopeR spaces names node (l.reverse.drop (i + 1)) := by
  rw [hP, drop_at _ _ _ (rev_at l i k hk hi), inScopeR, if_neg e, if_neg (by rw [← f, g]; exact Bool.false_ne_true)]
theorem inScopeR_4 {spaces names : List Str} {node : Int} {l : List Int} {i : Nat} (hP : inScopeR spaces names node l.reverse = inScopeR spaces names node (l.reverse.drop i)) (hi : l.length ≤ i) : false = inScopeR spaces names node l.reverse := by
  rw [hP, List.drop_eq_nil_of_le (by simpa using hi)]; rfl
set_option maxHeartbeats 8000000 in
theorem scope_c {st std t td it kk ss nn aa tt pp cc co : Addr} {es et : List DictEntry} {ne nt ni n1 n2 : Nat} {sv s1 s2 : List Value} {stk : List Int} {spaces names : List Str} {node : Int} {t1 : Tok}
  (B : Below A₀ base outer h₀) (F : Fr h₀ L s.heap m) (X : (K w.params).In h₀) (N : News h₀ L s.heap news) (T : TopP mean mg mb h₀) (hk : cs.kind = .function) (hd : dp + 8 < recursionLimit) (hu : un + 80 < cLine)
  (h1 : (st, instObj 136 std) ∈ news) (h2 : (std, dictOf es ne) ∈ news) (h3 : (it, listOf sv.toArray ni) ∈ news) (D : StD es t it) (hi : IntsAre sv stk) (hz : stk.length ≤ 100)
  (h4 : (t, instObj 413 td) ∈ news) (h5 : (td, dictOf et nt) ∈ news) (D2 : TrD et kk ss nn aa tt pp cc co) (h6 : (ss, listOf s1.toArray n1) ∈ news) (h7 : (nn, listOf s2.toArray n2) ∈ news)
  (g1 : StrsAre s1 spaces) (g2 : StrsAre s2 names) (hl : spaces.length = names.length) (hl2 : names.length ≤ 100) (hin : ∀ x ∈ stk, 0 ≤ x ∧ x < (names.length : Int))
  (k : ∀ r h' tk', r = inScopeR spaces names node stk.reverse → Fr h₀ L h' m → News h₀ L h' news → Q (.bool r) { s with heap := h', toks := tk' }) :
  wpAny (model PySem.Challenge.rw_pb0145_01.row.prog w) (ktrTop dp un gd cn cs L a ccd cl outer) (call (.ref 155) [.ref st, .int node t1]) Q E s := by
  k_with "call ref" => (k_here; (with_reducible show wpAny _ _ (call (Value.ref 147) _) _ _ _); k_dflt (refine' stops_c ?B ?F ?X ?N ?T ?hk ?hd ?hu ?h4 ?h5 ?D2 ?h6 ?h7 ?g1 ?g2 ?hl ?hl2 ?hin ?_; (case B => k_asm); (case F => k_asm); (case X => k_asm); (case N => k_asm); (case T => k_asm); (case hk => first | exact rfl | assumption); (case h4 => k_mem); (case h5 => k_mem); (case D2 => assumption); (case h6 => k_mem); (case h7 => k_mem); (case g1 => assumption); (case g2 => assumption); (case hl => omega); (case hl2 => omega); (case hin => first | omega | k_extra "bnd"); (case hd => ktr_room); (case hu => first | ktr_units | exact Nat.le_of_ble_eq_true rfl); k_whole); intro _ _ _ _ _ _)
  k_with "InvEndN" => refine heldP_of ?_
  revert X; k_fill; intro X
  refine wpAny_call ?_
  k_dflt ktr_enter
  k_with "bnd" =>
    exact hin _ (by assumption)
  k_steps
  rename Fr _ _ _ _ => lF'; rename News _ _ _ _ => lN'; rename IsRange _ _ _ _ _ _ _ _ => rgX
  refine held_go (kst_rangeD (σ := Unit) (fun _ => news) (fun _ => []) (fun _ => True) [] (fun pre _ => inScopeR spaces names node stk.reverse = inScopeR spaces names node (stk.reverse.drop pre.length)) () (by rfl) rgX (small_down (by omega) (by omega) (by omega) (by omega)) (rangeSize_downNat _ _) lF' lN' trivial (by nofun) (by rfl) ?_ ?_)
  · intro c pre kk t1 u h1' tk1 own hkk hlt hoff hf hP F1 N1
    k_steps
    · rename Fr h₀ L _ _ => kF; rename News h₀ L _ _ => kN
      exact k _ _ _ (inScopeR_1 hP hkk (by omega) (by assumption)) kF fun p hp => kN p (List.mem_append_left _ hp)
    · rename Fr h₀ L _ _ => kF; rename News h₀ L _ _ => kN
      exact k _ _ _ (inScopeR_2 hP hkk (by omega) (by assumption) (by assumption) (by assumption)) kF fun p hp => kN p (List.mem_append_left _ hp)
    · refine heldP_go ?_
      exact kst_end () (by assumption) (by assumption) (fun p hp => List.mem_append_left _ hp) (fun p hp => List.mem_append_right _ hp) rfl trivial (by nofun) (by kst_same)
        (by rw [List.length_append]; exact inScopeR_3 hP hkk (by omega) (by assumption) (by assumption) (by assumption))
  · intro c u h1' tk1 hf hP F1 N1
    k_steps
    rename Fr h₀ L _ _ => kF; rename News h₀ L _ _ => kN
    exact k _ _ _ (inScopeR_4 hP (by rw [downKs_length]; omega)) kF kN
end
end
section
section
variable {w : World} {mean : ExcName → Option Value} {mg mb : Str → Option Value} {dp un : Nat} {gd : Option (List Code)} {cn : Str} {cs : Scope} {a : Addr} {ccd : Value} {cl : List (Str × Addr)} {outer : List Env} {A₀ : Around} {base h₀ : Heap} {L : Addr} {m : Str → Option Value} {news : List (Addr × Obj)} {s : Shared} {Q E : Value → Shared → Prop}

set_option maxHeartbeats 8000000 in
theorem pop_c {st std t it : Addr} {es : List DictEntry} {ne ni : Nat} {sv : List Value} {stk : List Int} {news' : List (Addr × Obj)}
  (B : Below A₀ base outer h₀) (F : Fr h₀ L s.heap m) (X : (K w.params).In h₀) (N : News h₀ L s.heap news) (T : TopP mean mg mb h₀) (hk : cs.kind = .function) (hd : dp + 3 < recursionLimit) (hu : un + 30 < cLine)
  (h1 : (st, instObj 136 std) ∈ news) (h2 : (std, dictOf es ne) ∈ news) (D : StD es t it) (U : Upd it (listOf sv.toArray ni) (listOf sv.dropLast.toArray (ni + 1)) news news') (hi : IntsAre sv stk) (hz : stk.length ≤ 100) (hp : 0 < stk.length)
  (k : ∀ r tk h' tk', IntsAre sv.dropLast stk.dropLast → Fr h₀ L h' m → News h₀ L h' news' → Q (.int r tk) { s with heap := h', toks := tk' }) :
  wpAny (model PySem.Challenge.rw_pb0145_01.row.prog w) (ktrTop dp un gd cn cs L a ccd cl outer) (call (.ref 63) [.ref st]) Q E s := by
  have h3 := upd_old U
  have hsz := hi.length
  k_with_none
  k_with "om" => first | assumption | exact Nat.le_trans (by assumption) (Nat.le_of_ble_eq_true rfl) | exact Nat.lt_of_le_of_lt (by assumption) (Nat.le_of_ble_eq_true rfl) | decide | omega
  k_with "k_get" => (first | k_extra "getd" | with_reducible assumption | with_reducible_and_instances exact Dct.get (by assumption) (by k_mem) | exact Dct.get (by assumption) (by k_mem))
  k_with "k_upd" => first | assumption | k_extra "upd" | (refine' Upd.head ?a; (case a => k_all)) | (refine' Upd.tail ?a ?b; (case a => k_ne); (case b => k_upd))
  k_with "exec While" => refine held_of ?_
  k_with "call builtin:len" => (k_here; (with_reducible show wpAny _ _ (call (Value.builtin "len") [Value.ref _]) _ _ _); k_dflt (refine' led_len ?k1 ?k2 ?k3 ?k4 ?_; (case k1 => k_asm); (case k2 => k_mem); (case k3 => first | exact IntsAre.length (by assumption) | exact PyProof.Rows.StrsAre.length (by assumption) | assumption); (case k4 => walk_at "om"); k_whole); intro _ _)
  k_with "subs9" => (k_here; (with_reducible show wpAny _ _ (subscriptTail _ _ (Value.ref _) (Value.int _ _)) _ _ _); k_dflt (first | (refine' led_int ?k1 ?k2 ?k3 ?k4 ?k5 ?k6 ?_ ?k7; (case k1 => k_asm); (case k2 => k_mem); (case k3 => assumption); (case k4 => first | omega | k_extra "bnd"); (case k5 => first | omega | k_extra "bnd"); (case k6 => omega); (case k7 => with_unfolding_all rfl); k_whole; intro _ _; (try k_extra "fact")) | (refine' led_str ?k1 ?k2 ?k3 ?k4 ?k5 ?k6 ?_ ?k7; (case k1 => k_asm); (case k2 => k_mem); (case k3 => assumption); (case k4 => first | omega | k_extra "bnd"); (case k5 => first | omega | k_extra "bnd"); (case k6 => omega); (case k7 => with_unfolding_all rfl); k_whole; intro _)))
  k_with "subscriptTail" => walk_at "subs9"
  k_with "subscriptTail Name Name ref int" => walk_at "subs9"
  k_with "subscriptTail Attribute Name ref int" => walk_at "subs9"
  k_with "compareOp In int ref" => (k_here; k_dflt (refine' led_in ?k1 ?k2 ?k3 ?_; (case k1 => k_asm); (case k2 => k_mem); (case k3 => assumption); k_whole))
  k_with "compareOp NotIn int ref" => (k_here; k_dflt (refine' led_notin ?k1 ?k2 ?k3 ?_; (case k1 => k_asm); (case k2 => k_mem); (case k3 => assumption); k_whole))
  k_with "compareOp In str ref" => (k_here; k_dflt (first | (refine' led_in_str ?k1 ?k2 ?k3 ?_; (case k1 => k_asm); (case k2 => walk_at "memR"); (case k3 => with_reducible assumption); k_whole) | (refine' led_in_tup ?k1 ?k2 ?k3 ?_; (case k1 => k_asm); (case k2 => walk_at "memR"); (case k3 => with_reducible assumption); k_whole) | (refine' led_in_tup ?k1 ?k2 ?k3 ?_; (case k1 => k_asm); (case k2 => k_mem); (case k3 => with_reducible assumption); k_whole) | (refine' led_in_str ?k1 ?k2 ?k3 ?_; (case k1 => k_asm); (case k2 => k_mem); (case k3 => with_reducible assumption); k_whole)))
  k_with "compareOp NotIn str ref" => (k_here; k_dflt (first | (refine' led_notin_str ?k1 ?k2 ?k3 ?_; (case k1 => k_asm); (case k2 => walk_at "memR"); (case k3 => with_reducible assumption); k_whole) | (refine' led_notin_tup ?k1 ?k2 ?k3 ?_; (case k1 => k_asm); (case k2 => walk_at "memR"); (case k3 => with_reducible assumption); k_whole) | (refine' led_notin_tup ?k1 ?k2 ?k3 ?_; (case k1 => k_asm); (case k2 => k_mem); (case k3 => with_reducible assumption); k_whole) | (refine' led_notin_str ?k1 ?k2 ?k3 ?_; (case k1 => k_asm); (case k2 => k_mem); (case k3 => with_reducible assumption); k_whole)))
  k_with "eval Tuple" => (k_here; k_dflt (refine' tup_lit ?k1 ?k2 ?k3 ?k4 ?_; (case k1 => exact rfl); (case k2 => exact Nat.le_of_ble_eq_true rfl); (case k3 => k_asm); (case k4 => k_asm); k_whole); intro _ _ _ _ _ _ _ _)
  k_with "call builtin:list.index" => (k_here; (with_reducible show wpAny _ _ (call (Value.builtin _) [Value.ref _, Value.int _ _]) _ _ _); k_dflt (refine' led_index ?k1 ?k2 ?k3 ?k4 ?k5 ?_; (case k1 => k_asm); (case k2 => k_mem); (case k3 => assumption); (case k4 => assumption); (case k5 => omega); k_whole))
  k_with "pyIter ref" => refine held_of ?_
  k_with "InvEndN" => k_extra "InvEndN"
  k_with "k_steps" => repeat' (first | (k_unfold; (try dsimp only)) | (k_end; fail_if_success skip) | walk1 | (dsimp only; walk1) | fail "no step")
  k_with "kst_same" => (intro z h1 h2 h3; (try simp only [List.contains_cons, List.contains_nil, Bool.or_false, Bool.or_eq_false_iff, beq_eq_false_iff_ne, ne_eq] at h3); (simp [h1, h3, kstB]; done))
  k_with "ktr_enter" => first | (refine' code_def ?k1 ?k2 ?k3 ?k4 ?k5 ?kA ?kF ?kK ?k6 ?k7 ?k8 ?k9 ?kB ?_ ?c2 ?c3 ?c4 ?c5; (case kA => exact rfl); (case kF => exact rfl); (case kK => assumption); (case k1 => k_asm); (case k2 => k_asm); (case k3 => k_asm); (case k4 => k_asm); (case k5 => k_asm); (case k6 => k_is); (case k7 => k_is); (case k8 => ktr_room); (case k9 => first | exact BindsTo.of_eq rfl | exact binds_K (by k_in) rfl (by k_is) rfl rfl rfl); (case c5 => decide); (case kB => exact locs rfl); (case c2 => exact rfl); (case c3 => exact rfl); (case c4 => exact rfl); k_whole; walk_at "tl1") | (refine' code_defC ?k1 ?k2 ?k3 ?k4 ?k5 ?kA ?kF ?kK ?k6 ?k7 ?k8 ?k9 ?kB ?kD ?_ ?c2 ?c3 ?c4; (case kA => exact rfl); (case kF => exact rfl); (case kK => assumption); (case k1 => k_asm); (case k2 => k_asm); (case k3 => k_asm); (case k4 => k_asm); (case k5 => k_asm); (case k6 => k_is); (case k7 => k_is); (case k8 => ktr_room); (case k9 => first | exact BindsTo.of_eq rfl | exact binds_K (by k_in) rfl (by k_is) rfl rfl rfl); (case kB => exact rfl); (case kD => decide +kernel); (case c2 => exact rfl); (case c3 => exact rfl); (case c4 => exact rfl); k_whole; walk_at "tl2")
  revert X; k_fill; intro X
  refine wpAny_call ?_
  k_dflt ktr_enter
  k_steps
  · exfalso; omega
  · rename Fr h₀ L _ _ => kF; rename News h₀ L _ _ => kN
    exact k _ _ _ _ (by assumption) kF kN
end
end
section
section
variable {w : World} {mean : ExcName → Option Value} {mg mb : Str → Option Value} {dp un : Nat} {gd : Option (List Code)} {cn : Str} {cs : Scope} {a : Addr} {ccd : Value} {cl : List (Str × Addr)} {outer : List Env} {A₀ : Around} {base h₀ : Heap} {L : Addr} {m : Str → Option Value} {news : List (Addr × Obj)} {s : Shared} {Q E : Value → Shared → Prop}

/-- pop_implied, over the stack from its end -/
noncomputable def nodeName (spaces names : List Str) (x : Int) : Str := if sAt spaces x == Str.ofString "html" then sAt names x else Str.ofString ""
noncomputable def popImpR (spaces names : List Str) (but : Str) : List Int → List Int
  | [] => []
  | x :: r => if hasS impliedL (nodeName spaces names x) = true ∧ (nodeName spaces names x != but) = true then popImpR spaces names but r else x :: r
noncomputable def popImp (spaces names : List Str) (but : Str) (l : List Int) : List Int := (popImpR spaces names but l.reverse).reverse
theorem hasS_nil : hasS impliedL (Str.ofString "") = false := by decide +kernel
theorem nameOf_last {spaces names : List Str} {l : List Int} (h : ∀ x ∈ l, 0 ≤ x) (hne : l ≠ []) : nameOf spaces names l = nodeName spaces names (l.getLast hne) := by
  unfold nameOf lastI nodeName
  rw [List.getLast?_eq_some_getLast hne]
  have h1 := h _ (List.getLast_mem hne)
  rw [Option.getD_some, if_neg (by omega)]
theorem nameOf_nil {spaces names : List Str} : nameOf spaces names [] = Str.ofString "" := rfl
theorem popImp_pop {spaces names : List Str} {but : Str} {l : List Int} (h : ∀ x ∈ l, 0 ≤ x) (c : hasS impliedL (nameOf spaces names l) = true) (d : (nameOf spaces names l != but) = true) : popImp spaces names but l = popImp spaces names but l.dropLast := by
  by_cases hne : l = []
  · subst hne; rfl
  rw [nameOf_last h hne] at c d
  unfold popImp
  have e : l.reverse = l.getLast hne :: l.dropLast.reverse := by
    have e1 := List.dropLast_concat_getLast hne
    conv => lhs; rw [← e1]
    rw [List.reverse_append]; rfl
  rw [e, popImpR, if_pos ⟨c, d⟩]
theorem popImp_stay {spaces names : List Str} {but : Str} {l : List Int} (h : ∀ x ∈ l, 0 ≤ x) (c : ¬ (hasS impliedL (nameOf spaces names l) = true ∧ (nameOf spaces names l != but) = true)) : popImp spaces names but l = l := by
  by_cases hne : l = []
  · subst hne; rfl
  rw [nameOf_last h hne] at c
  unfold popImp
  have e : l.reverse = l.getLast hne :: l.dropLast.reverse := by
    have e1 := List.dropLast_concat_getLast hne
    conv => lhs; rw [← e1]
    rw [List.reverse_append]; rfl
  rw [e, popImpR, if_neg c, ← e, List.reverse_reverse]
theorem implied_pos {spaces names : List Str} {l : List Int} (c : hasS impliedL (nameOf spaces names l) = true) : 0 < l.length := by
  cases l with
  | nil => rw [nameOf_nil, hasS_nil] at c; cases c
  | cons => exact Nat.zero_lt_succ _
theorem implied_pos2 {spaces names : List Str} {l : List Int} {r : Str} (c : (impliedL.any fun x => x == r) = true) (e : r = nameOf spaces names l) : 0 < l.length := by
  subst e; exact implied_pos c
theorem popi_1 {spaces names : List Str} {but : Str} {l l0 : List Int} {r1 r2 : Str} (h : ∀ x ∈ l, 0 ≤ x ∧ x < (names.length : Int)) (hP : popImp spaces names but l = popImp spaces names but l0) (c : (impliedL.any fun x => x == r1) = true) (e : r1 = nameOf spaces names l) (d : (r2 != but) = true) (f : r2 = nameOf spaces names l) :
    popImp spaces names but l.dropLast = popImp spaces names but l0 := by
  subst e; subst f; rw [← hP]; exact (popImp_pop (fun x hx => (h x hx).1) c d).symm
theorem popi_2 {spaces names : List Str} {but : Str} {l l0 : List Int} {r2 : Str} (h : ∀ x ∈ l, 0 ≤ x ∧ x < (names.length : Int)) (hP : popImp spaces names but l = popImp spaces names but l0) (d : (r2 != but) = false) (f : r2 = nameOf spaces names l) :
    l = popImp spaces names but l0 := by
  subst f; rw [← hP]; exact (popImp_stay (fun x hx => (h x hx).1) (fun q => by rw [d] at q; exact Bool.false_ne_true q.2)).symm
theorem popi_3 {spaces names : List Str} {but : Str} {l l0 : List Int} {r1 : Str} (h : ∀ x ∈ l, 0 ≤ x ∧ x < (names.length : Int)) (hP : popImp spaces names but l = popImp spaces names but l0) (c : (impliedL.any fun x => x == r1) = false) (e : r1 = nameOf spaces names l) :
    l = popImp spaces names but l0 := by
  subst e; rw [← hP]; exact (popImp_stay (fun x hx => (h x hx).1) (fun q => by have : (impliedL.any fun x => x == nameOf spaces names l) = true := q.1; rw [c] at this; exact Bool.false_ne_true this)).symm
theorem popImpR_len {spaces names : List Str} {but : Str} : ∀ {l : List Int}, (popImpR spaces names but l).length ≤ l.length
  | [] => Nat.le_refl _
  | y :: r => by
    unfold popImpR
    split
    · exact Nat.le_succ_of_le popImpR_len
    · exact Nat.le_refl _
theorem popImp_len {spaces names : List Str} {but : Str} {l : List Int} : (popImp spaces names but l).length ≤ l.length := by
  unfold popImp; rw [List.length_reverse, ← List.length_reverse (as := l)]; exact popImpR_len
set_option maxHeartbeats 8000000 in
theorem popi_c {st std t td it kk ss nn aa tt pp cc co : Addr} {es et : List DictEntry} {ne nt ni n1 n2 : Nat} {sv s1 s2 : List Value} {stk : List Int} {spaces names : List Str} {but : Str} {tb : Tok} {L1 : Obj → List (Addr × Obj)}
  (B : Below A₀ base outer h₀) (F : Fr h₀ L s.heap m) (X : (K w.params).In h₀) (N : News h₀ L s.heap news) (T : TopP mean mg mb h₀) (hk : cs.kind = .function) (hd : dp + 12 < recursionLimit) (hu : un + 120 < cLine)
  (h1 : (st, instObj 136 std) ∈ news) (h2 : (std, dictOf es ne) ∈ news) (D : StD es t it) (U : ∀ o, Upd it (listOf sv.toArray ni) o news (L1 o)) (hi : IntsAre sv stk) (hz : stk.length ≤ 100)
  (h4 : (t, instObj 413 td) ∈ news) (h5 : (td, dictOf et nt) ∈ news) (D2 : TrD et kk ss nn aa tt pp cc co) (h6 : (ss, listOf s1.toArray n1) ∈ news) (h7 : (nn, listOf s2.toArray n2) ∈ news)
  (g1 : StrsAre s1 spaces) (g2 : StrsAre s2 names) (hl : spaces.length = names.length) (hl2 : names.length ≤ 100) (hin : ∀ x ∈ stk, 0 ≤ x ∧ x < (names.length : Int))
  (q1 : st ≠ it) (q2 : std ≠ it) (q3 : t ≠ it) (q4 : td ≠ it) (q5 : ss ≠ it) (q6 : nn ≠ it)
  (k : ∀ vs' e' h' tk', IntsAre vs' (popImp spaces names but stk) → (popImp spaces names but stk).length ≤ stk.length → Fr h₀ L h' m → News h₀ L h' (L1 (listOf vs'.toArray e')) → Q .none { s with heap := h', toks := tk' }) :
  wpAny (model PySem.Challenge.rw_pb0145_01.row.prog w) (ktrTop dp un gd cn cs L a ccd cl outer) (call (.ref 163) [.ref st, .str but tb]) Q E s := by
  have hm : ∀ o, (it, o) ∈ L1 o := fun o => upd_self (U o)
  have m1 : ∀ o, (st, instObj 136 std) ∈ L1 o := fun o => upd_ne (U o) h1 q1
  have m2 : ∀ o, (std, dictOf es ne) ∈ L1 o := fun o => upd_ne (U o) h2 q2
  have m3 : ∀ o, (t, instObj 413 td) ∈ L1 o := fun o => upd_ne (U o) h4 q3
  have m4 : ∀ o, (td, dictOf et nt) ∈ L1 o := fun o => upd_ne (U o) h5 q4
  have m5 : ∀ o, (ss, listOf s1.toArray n1) ∈ L1 o := fun o => upd_ne (U o) h6 q5
  have m6 : ∀ o, (nn, listOf s2.toArray n2) ∈ L1 o := fun o => upd_ne (U o) h7 q6
  have e0 : L1 (listOf sv.toArray ni) = news := upd_id (U _)
  k_with "call ref" => (k_here; (with_reducible show wpAny _ _ (call (Value.ref 112) _) _ _ _); k_dflt (refine' name_c ?B ?F ?X ?N ?T ?hk ?hd ?hu ?h1 ?h2 ?h3 ?D ?hi ?hz ?h4 ?h5 ?D2 ?h6 ?h7 ?g1 ?g2 ?hl ?hl2 ?hin ?_; (case B => k_asm); (case F => k_asm); (case X => k_asm); (case N => k_asm); (case T => k_asm); (case hk => first | exact rfl | assumption); (case h1 => k_mem); (case h2 => k_mem); (case D => assumption); (case h3 => k_mem); (case hi => assumption); (case hz => omega); (case h4 => k_mem); (case h5 => k_mem); (case D2 => assumption); (case h6 => k_mem); (case h7 => k_mem); (case g1 => assumption); (case g2 => assumption); (case hl => omega); (case hl2 => omega); (case hin => assumption); (case hd => ktr_room); (case hu => first | ktr_units | exact Nat.le_of_ble_eq_true rfl); k_whole); intro _ _ _ _ _ _ _)
  k_with "call ref" => (k_here; (with_reducible show wpAny _ _ (call (Value.ref 35) _) _ _ _); k_dflt (refine' implied_c ?B ?F ?X ?N ?T ?hk ?hd ?hu ?_; (case B => k_asm); (case F => k_asm); (case X => k_asm); (case N => k_asm); (case T => k_asm); (case hk => first | exact rfl | assumption); (case hd => ktr_room); (case hu => first | ktr_units | exact Nat.le_of_ble_eq_true rfl); k_whole); intro _ _ _ _ _ _ _ _)
  k_with "call ref" => (k_here; (with_reducible show wpAny _ _ (call (Value.ref 63) _) _ _ _); k_dflt (refine' pop_c ?B ?F ?X ?N ?T ?hk ?hd ?hu ?h1 ?h2 ?D ?U ?hi ?hz ?hp ?_; (case B => k_asm); (case F => k_asm); (case X => k_asm); (case N => k_asm); (case T => k_asm); (case hk => first | exact rfl | assumption); (case h1 => k_mem); (case h2 => k_mem); (case D => assumption); (case U => k_upd); (case hi => assumption); (case hz => omega); (case hp => first | omega | k_extra "pos"); (case hd => ktr_room); (case hu => first | ktr_units | exact Nat.le_of_ble_eq_true rfl); k_whole); intro _ _ _ _ _ _ _)
  k_with "call ref" => (k_here; (with_reducible show wpAny _ _ (call (Value.ref 70) _) _ _ _); k_dflt (refine' current_c ?B ?F ?X ?N ?T ?hk ?hd ?hu ?h1 ?h2 ?h3 ?D ?hi ?hz ?_; (case B => k_asm); (case F => k_asm); (case X => k_asm); (case N => k_asm); (case T => k_asm); (case hk => first | exact rfl | assumption); (case h1 => k_mem); (case h2 => k_mem); (case D => assumption); (case h3 => k_mem); (case hi => assumption); (case hz => omega); (case hd => ktr_room); (case hu => first | ktr_units | exact Nat.le_of_ble_eq_true rfl); k_whole); intro _ _ _ _ _ _ _)
  k_with "KswEnd" => refine heldP_of ?_
  revert X; k_fill; intro X
  refine wpAny_call ?_
  k_dflt ktr_enter
  k_with "mem" =>
    first | exact hm _ | exact m1 _ | exact m2 _ | exact m3 _ | exact m4 _ | exact m5 _ | exact m6 _
  k_with "upd" =>
    exact upd_two (U _) (U _)
  k_with "pos" =>
    exact implied_pos2 (by assumption) (by assumption)
  k_steps
  rename Fr _ _ _ _ => lF'; rename News _ _ _ _ => lN'; rename ∀ p ∈ news, p.1 < _ => hlt
  rename StrsAre _ impliedL => hS
  rename List Value => nv
  rename_i nvs
  have hlt2 := hlt _ (upd_old (U (listOf #[] 0)))
  replace hlt2 := ltN hlt2
  rw [← e0] at lN'
  refine held_go (ksw_while (σ := List Value × List Int × Nat) (fun c => (_, tupO _) :: L1 (listOf c.1.toArray c.2.2)) (fun _ => []) (fun _ => True) []
    (fun c => IntsAre c.1 c.2.1 ∧ popImp spaces names but c.2.1 = popImp spaces names but stk ∧ (∀ x ∈ c.2.1, 0 ≤ x ∧ x < (names.length : Int)) ∧ c.2.1.length ≤ 100) (fun c => c.2.1.length) (sv, stk, ni)
    lF' lN' trivial (by nofun) ⟨hi, rfl, hin, hz⟩ ?_)
  intro c u h1' tk1 hf hP F1 N1
  obtain ⟨p1, p2, p3, p4⟩ := hP
  k_steps
  · rename List.any _ _ = true => c1; rename (_ != _) = true => c2
    refine heldP_go ?_
    exact ksw_end (_, _, _) (by assumption) (by assumption) (fun p hp => hp) trivial (by nofun) (by intro z _ h3; simp [h3, kstB]) ⟨by assumption, popi_1 p3 p2 c1 (by assumption) c2 (by assumption), fun x hx => p3 x (List.dropLast_subset _ hx), by rw [List.length_dropLast]; omega⟩ (by
      have hp := implied_pos2 (spaces := spaces) (names := names) (l := c.2.1) (by assumption) (by assumption)
      show c.2.1.dropLast.length < c.2.1.length
      rw [List.length_dropLast]; omega)
  · rename Fr h₀ L _ _ => kF; rename News h₀ L _ _ => kN
    exact k _ _ _ _ (by rw [← popi_2 p3 p2 (by assumption) (by assumption)]; exact p1) popImp_len kF fun p hp => kN p (List.mem_cons_of_mem _ hp)
  · rename Fr h₀ L _ _ => kF; rename News h₀ L _ _ => kN
    exact k _ _ _ _ (by rw [← popi_3 p3 p2 (by assumption) (by assumption)]; exact p1) popImp_len kF fun p hp => kN p (List.mem_cons_of_mem _ hp)
end
end
section
section
variable {w : World} {mean : ExcName → Option Value} {mg mb : Str → Option Value} {dp un : Nat} {gd : Option (List Code)} {cn : Str} {cs : Scope} {a : Addr} {ccd : Value} {cl : List (Str × Addr)} {outer : List Env} {A₀ : Around} {base h₀ : Heap} {L : Addr} {m : Str → Option Value} {news : List (Addr × Obj)} {s : Shared} {Q E : Value → Shared → Prop}

/-- pop_with, over the stack from its end -/
noncomputable def popWithR (node : Int) : List Int → List Int
  | [] => []
  | x :: r => if x = node then r else popWithR node r
noncomputable def popWith (node : Int) (l : List Int) : List Int := (popWithR node l.reverse).reverse
theorem rev_last {l : List Int} (hne : l ≠ []) : l.reverse = l.getLast hne :: l.dropLast.reverse := by
  have e1 := List.dropLast_concat_getLast hne
  conv => lhs; rw [← e1]
  rw [List.reverse_append]; rfl
theorem lastI_ne {l : List Int} (hne : l ≠ []) : lastI l = l.getLast hne := by
  unfold lastI; rw [List.getLast?_eq_some_getLast hne]; rfl
theorem popw_1 {node r : Int} {l l0 : List Int} (hm : node ∈ l) (hP : popWith node l = popWith node l0) (e : r = lastI l) (c : ¬ r = node) : popWith node l.dropLast = popWith node l0 ∧ node ∈ l.dropLast := by
  have hne : l ≠ [] := List.ne_nil_of_mem hm
  rw [lastI_ne hne] at e
  subst e
  refine ⟨?_, ?_⟩
  · rw [← hP]; unfold popWith; rw [rev_last hne, popWithR, if_neg c]
  · rw [← List.dropLast_concat_getLast hne] at hm
    rcases List.mem_append.mp hm with h | h
    · exact h
    · exact absurd (List.mem_singleton.mp h).symm c
theorem popw_2 {node r : Int} {l l0 : List Int} (hm : node ∈ l) (hP : popWith node l = popWith node l0) (e : r = lastI l) (c : r = node) : l.dropLast = popWith node l0 := by
  have hne : l ≠ [] := List.ne_nil_of_mem hm
  rw [lastI_ne hne] at e
  subst e
  rw [← hP]; unfold popWith; rw [rev_last hne, popWithR, if_pos c, List.reverse_reverse]
set_option maxHeartbeats 8000000 in
theorem popw_c {st std t it : Addr} {es : List DictEntry} {ne ni : Nat} {sv : List Value} {stk : List Int} {node : Int} {tb : Tok} {L1 : Obj → List (Addr × Obj)}
  (B : Below A₀ base outer h₀) (F : Fr h₀ L s.heap m) (X : (K w.params).In h₀) (N : News h₀ L s.heap news) (T : TopP mean mg mb h₀) (hk : cs.kind = .function) (hd : dp + 8 < recursionLimit) (hu : un + 80 < cLine)
  (h1 : (st, instObj 136 std) ∈ news) (h2 : (std, dictOf es ne) ∈ news) (D : StD es t it) (U : ∀ o, Upd it (listOf sv.toArray ni) o news (L1 o)) (hi : IntsAre sv stk) (hz : stk.length ≤ 100) (hn : node ∈ stk)
  (q1 : st ≠ it) (q2 : std ≠ it)
  (k : ∀ vs' e' h' tk', IntsAre vs' (popWith node stk) → Fr h₀ L h' m → News h₀ L h' (L1 (listOf vs'.toArray e')) → Q .none { s with heap := h', toks := tk' }) :
  wpAny (model PySem.Challenge.rw_pb0145_01.row.prog w) (ktrTop dp un gd cn cs L a ccd cl outer) (call (.ref 170) [.ref st, .int node tb]) Q E s := by
  have hm : ∀ o, (it, o) ∈ L1 o := fun o => upd_self (U o)
  have m1 : ∀ o, (st, instObj 136 std) ∈ L1 o := fun o => upd_ne (U o) h1 q1
  have m2 : ∀ o, (std, dictOf es ne) ∈ L1 o := fun o => upd_ne (U o) h2 q2
  have e0 : L1 (listOf sv.toArray ni) = news := upd_id (U _)
  k_with_none
  k_with "om" => first | assumption | exact Nat.le_trans (by assumption) (Nat.le_of_ble_eq_true rfl) | exact Nat.lt_of_le_of_lt (by assumption) (Nat.le_of_ble_eq_true rfl) | decide | omega
  k_with "k_get" => (first | k_extra "getd" | with_reducible assumption | with_reducible_and_instances exact Dct.get (by assumption) (by k_mem) | exact Dct.get (by assumption) (by k_mem))
  k_with "k_upd" => first | assumption | k_extra "upd" | (refine' Upd.head ?a; (case a => k_all)) | (refine' Upd.tail ?a ?b; (case a => k_ne); (case b => k_upd))
  k_with "exec While" => refine held_of ?_
  k_with "call builtin:len" => (k_here; (with_reducible show wpAny _ _ (call (Value.builtin "len") [Value.ref _]) _ _ _); k_dflt (refine' led_len ?k1 ?k2 ?k3 ?k4 ?_; (case k1 => k_asm); (case k2 => k_mem); (case k3 => first | exact IntsAre.length (by assumption) | exact PyProof.Rows.StrsAre.length (by assumption) | assumption); (case k4 => walk_at "om"); k_whole); intro _ _)
  k_with "subs9" => (k_here; (with_reducible show wpAny _ _ (subscriptTail _ _ (Value.ref _) (Value.int _ _)) _ _ _); k_dflt (first | (refine' led_int ?k1 ?k2 ?k3 ?k4 ?k5 ?k6 ?_ ?k7; (case k1 => k_asm); (case k2 => k_mem); (case k3 => assumption); (case k4 => first | omega | k_extra "bnd"); (case k5 => first | omega | k_extra "bnd"); (case k6 => omega); (case k7 => with_unfolding_all rfl); k_whole; intro _ _; (try k_extra "fact")) | (refine' led_str ?k1 ?k2 ?k3 ?k4 ?k5 ?k6 ?_ ?k7; (case k1 => k_asm); (case k2 => k_mem); (case k3 => assumption); (case k4 => first | omega | k_extra "bnd"); (case k5 => first | omega | k_extra "bnd"); (case k6 => omega); (case k7 => with_unfolding_all rfl); k_whole; intro _)))
  k_with "subscriptTail" => walk_at "subs9"
  k_with "subscriptTail Name Name ref int" => walk_at "subs9"
  k_with "subscriptTail Attribute Name ref int" => walk_at "subs9"
  k_with "compareOp In int ref" => (k_here; k_dflt (refine' led_in ?k1 ?k2 ?k3 ?_; (case k1 => k_asm); (case k2 => k_mem); (case k3 => assumption); k_whole))
  k_with "compareOp NotIn int ref" => (k_here; k_dflt (refine' led_notin ?k1 ?k2 ?k3 ?_; (case k1 => k_asm); (case k2 => k_mem); (case k3 => assumption); k_whole))
  k_with "compareOp In str ref" => (k_here; k_dflt (first | (refine' led_in_str ?k1 ?k2 ?k3 ?_; (case k1 => k_asm); (case k2 => walk_at "memR"); (case k3 => with_reducible assumption); k_whole) | (refine' led_in_tup ?k1 ?k2 ?k3 ?_; (case k1 => k_asm); (case k2 => walk_at "memR"); (case k3 => with_reducible assumption); k_whole) | (refine' led_in_tup ?k1 ?k2 ?k3 ?_; (case k1 => k_asm); (case k2 => k_mem); (case k3 => with_reducible assumption); k_whole) | (refine' led_in_str ?k1 ?k2 ?k3 ?_; (case k1 => k_asm); (case k2 => k_mem); (case k3 => with_reducible assumption); k_whole)))
  k_with "compareOp NotIn str ref" => (k_here; k_dflt (first | (refine' led_notin_str ?k1 ?k2 ?k3 ?_; (case k1 => k_asm); (case k2 => walk_at "memR"); (case k3 => with_reducible assumption); k_whole) | (refine' led_notin_tup ?k1 ?k2 ?k3 ?_; (case k1 => k_asm); (case k2 => walk_at "memR"); (case k3 => with_reducible assumption); k_whole) | (refine' led_notin_tup ?k1 ?k2 ?k3 ?_; (case k1 => k_asm); (case k2 => k_mem); (case k3 => with_reducible assumption); k_whole) | (refine' led_notin_str ?k1 ?k2 ?k3 ?_; (case k1 => k_asm); (case k2 => k_mem); (case k3 => with_reducible assumption); k_whole)))
  k_with "eval Tuple" => (k_here; k_dflt (refine' tup_lit ?k1 ?k2 ?k3 ?k4 ?_; (case k1 => exact rfl); (case k2 => exact Nat.le_of_ble_eq_true rfl); (case k3 => k_asm); (case k4 => k_asm); k_whole); intro _ _ _ _ _ _ _ _)
  k_with "call builtin:list.index" => (k_here; (with_reducible show wpAny _ _ (call (Value.builtin _) [Value.ref _, Value.int _ _]) _ _ _); k_dflt (refine' led_index ?k1 ?k2 ?k3 ?k4 ?k5 ?_; (case k1 => k_asm); (case k2 => k_mem); (case k3 => assumption); (case k4 => assumption); (case k5 => omega); k_whole))
  k_with "pyIter ref" => refine held_of ?_
  k_with "InvEndN" => k_extra "InvEndN"
  k_with "k_steps" => repeat' (first | (k_unfold; (try dsimp only)) | (k_end; fail_if_success skip) | walk1 | (dsimp only; walk1) | fail "no step")
  k_with "kst_same" => (intro z h1 h2 h3; (try simp only [List.contains_cons, List.contains_nil, Bool.or_false, Bool.or_eq_false_iff, beq_eq_false_iff_ne, ne_eq] at h3); (simp [h1, h3, kstB]; done))
  k_with "ktr_enter" => first | (refine' code_def ?k1 ?k2 ?k3 ?k4 ?k5 ?kA ?kF ?kK ?k6 ?k7 ?k8 ?k9 ?kB ?_ ?c2 ?c3 ?c4 ?c5; (case kA => exact rfl); (case kF => exact rfl); (case kK => assumption); (case k1 => k_asm); (case k2 => k_asm); (case k3 => k_asm); (case k4 => k_asm); (case k5 => k_asm); (case k6 => k_is); (case k7 => k_is); (case k8 => ktr_room); (case k9 => first | exact BindsTo.of_eq rfl | exact binds_K (by k_in) rfl (by k_is) rfl rfl rfl); (case c5 => decide); (case kB => exact locs rfl); (case c2 => exact rfl); (case c3 => exact rfl); (case c4 => exact rfl); k_whole; walk_at "tl1") | (refine' code_defC ?k1 ?k2 ?k3 ?k4 ?k5 ?kA ?kF ?kK ?k6 ?k7 ?k8 ?k9 ?kB ?kD ?_ ?c2 ?c3 ?c4; (case kA => exact rfl); (case kF => exact rfl); (case kK => assumption); (case k1 => k_asm); (case k2 => k_asm); (case k3 => k_asm); (case k4 => k_asm); (case k5 => k_asm); (case k6 => k_is); (case k7 => k_is); (case k8 => ktr_room); (case k9 => first | exact BindsTo.of_eq rfl | exact binds_K (by k_in) rfl (by k_is) rfl rfl rfl); (case kB => exact rfl); (case kD => decide +kernel); (case c2 => exact rfl); (case c3 => exact rfl); (case c4 => exact rfl); k_whole; walk_at "tl2")
  k_with "call ref" => (k_here; (with_reducible show wpAny _ _ (call (Value.ref 63) _) _ _ _); k_dflt (refine' pop_c ?B ?F ?X ?N ?T ?hk ?hd ?hu ?h1 ?h2 ?D ?U ?hi ?hz ?hp ?_; (case B => k_asm); (case F => k_asm); (case X => k_asm); (case N => k_asm); (case T => k_asm); (case hk => first | exact rfl | assumption); (case h1 => k_mem); (case h2 => k_mem); (case D => assumption); (case U => k_upd); (case hi => assumption); (case hz => omega); (case hp => first | omega | k_extra "pos"); (case hd => ktr_room); (case hu => first | ktr_units | exact Nat.le_of_ble_eq_true rfl); k_whole); intro _ _ _ _ _ _ _)
  k_with "call ref" => (k_here; (with_reducible show wpAny _ _ (call (Value.ref 70) _) _ _ _); k_dflt (refine' current_c ?B ?F ?X ?N ?T ?hk ?hd ?hu ?h1 ?h2 ?h3 ?D ?hi ?hz ?_; (case B => k_asm); (case F => k_asm); (case X => k_asm); (case N => k_asm); (case T => k_asm); (case hk => first | exact rfl | assumption); (case h1 => k_mem); (case h2 => k_mem); (case D => assumption); (case h3 => k_mem); (case hi => assumption); (case hz => omega); (case hd => ktr_room); (case hu => first | ktr_units | exact Nat.le_of_ble_eq_true rfl); k_whole); intro _ _ _ _ _ _ _)
  k_with "KswEnd" => refine heldP_of ?_
  revert X; k_fill; intro X
  refine wpAny_call ?_
  k_dflt ktr_enter
  k_with "mem" =>
    first | exact hm _ | exact m1 _ | exact m2 _
  k_with "upd" =>
    exact upd_two (U _) (U _)
  k_with "pos" =>
    exact List.length_pos_of_mem (by assumption)
  k_steps
  rename Fr _ _ _ _ => lF'; rename News _ _ _ _ => lN'
  rw [← e0] at lN'
  refine held_go (ksw_while (σ := List Value × List Int × Nat) (fun c => L1 (listOf c.1.toArray c.2.2)) (fun _ => []) (fun _ => True) []
    (fun c => IntsAre c.1 c.2.1 ∧ popWith node c.2.1 = popWith node stk ∧ node ∈ c.2.1 ∧ c.2.1.length ≤ 100) (fun c => c.2.1.length) (sv, stk, ni)
    lF' lN' trivial (by nofun) ⟨hi, rfl, hn, hz⟩ ?_)
  intro c u h1' tk1 hf hP F1 N1
  obtain ⟨p1, p2, p3, p4⟩ := hP
  k_steps
  · have hq := popw_1 p3 p2 (by assumption) (by assumption)
    refine heldP_go ?_
    exact ksw_end (_, _, _) (by assumption) (by assumption) (fun p hp => hp) trivial (by nofun) (by intro z _ h3; simp [kstB]) ⟨by assumption, hq.1, hq.2, by rw [List.length_dropLast]; omega⟩ (by
      have hp := List.length_pos_of_mem p3
      show c.2.1.dropLast.length < c.2.1.length
      rw [List.length_dropLast]; omega)
  · rename Fr h₀ L _ _ => kF; rename News h₀ L _ _ => kN
    exact k _ _ _ _ (by rw [← popw_2 p3 p2 (by assumption) (by assumption)]; assumption) kF kN
end
end
section
section
variable {w : World} {mean : ExcName → Option Value} {mg mb : Str → Option Value} {dp un : Nat} {gd : Option (List Code)} {cn : Str} {cs : Scope} {a : Addr} {ccd : Value} {cl : List (Str × Addr)} {outer : List Env} {A₀ : Around} {base h₀ : Heap} {L : Addr} {m : Str → Option Value} {news : List (Addr × Obj)} {s : Shared} {Q E : Value → Shared → Prop}

set_option maxHeartbeats 8000000 in
theorem error_c {b bd t st fm er : Addr} {es : List DictEntry} {ne ni : Nat} {ev : List Value} {md word : Str} {tm tw : Tok} {L1 : Obj → List (Addr × Obj)}
  (B : Below A₀ base outer h₀) (F : Fr h₀ L s.heap m) (X : (K w.params).In h₀) (N : News h₀ L s.heap news) (T : TopP mean mg mb h₀) (hk : cs.kind = .function) (hd : dp + 3 < recursionLimit) (hu : un + 30 < cLine)
  (h1 : (b, instObj 491 bd) ∈ news) (h2 : (bd, dictOf es ne) ∈ news) (D : BdD es t st fm er md tm) (U : ∀ o, Upd er (listOf ev.toArray ni) o news (L1 o)) (hz : ev.length ≤ 100)
  (k : ∀ tp h' tk', Fr h₀ L h' m → News h₀ L h' ((tp, tupO [.str word tw, .str md tm]) :: L1 (listOf (ev.toArray.push (.ref tp)) (ni + 1))) → (∀ p ∈ news, p.1 < tp) → Q .none { s with heap := h', toks := tk' }) :
  wpAny (model PySem.Challenge.rw_pb0145_01.row.prog w) (ktrTop dp un gd cn cs L a ccd cl outer) (call (.ref 446) [.ref b, .str word tw]) Q E s := by
  have h3 := upd_old (U (listOf #[] 0))
  k_with_none
  k_with "om" => first | assumption | exact Nat.le_trans (by assumption) (Nat.le_of_ble_eq_true rfl) | exact Nat.lt_of_le_of_lt (by assumption) (Nat.le_of_ble_eq_true rfl) | decide | omega
  k_with "k_get" => (first | k_extra "getd" | with_reducible assumption | with_reducible_and_instances exact Dct.get (by assumption) (by k_mem) | exact Dct.get (by assumption) (by k_mem))
  k_with "k_upd" => first | assumption | k_extra "upd" | (refine' Upd.head ?a; (case a => k_all)) | (refine' Upd.tail ?a ?b; (case a => k_ne); (case b => k_upd))
  k_with "exec While" => refine held_of ?_
  k_with "call builtin:len" => (k_here; (with_reducible show wpAny _ _ (call (Value.builtin "len") [Value.ref _]) _ _ _); k_dflt (refine' led_len ?k1 ?k2 ?k3 ?k4 ?_; (case k1 => k_asm); (case k2 => k_mem); (case k3 => first | exact IntsAre.length (by assumption) | exact PyProof.Rows.StrsAre.length (by assumption) | assumption); (case k4 => walk_at "om"); k_whole); intro _ _)
  k_with "subs9" => (k_here; (with_reducible show wpAny _ _ (subscriptTail _ _ (Value.ref _) (Value.int _ _)) _ _ _); k_dflt (first | (refine' led_int ?k1 ?k2 ?k3 ?k4 ?k5 ?k6 ?_ ?k7; (case k1 => k_asm); (case k2 => k_mem); (case k3 => assumption); (case k4 => first | omega | k_extra "bnd"); (case k5 => first | omega | k_extra "bnd"); (case k6 => omega); (case k7 => with_unfolding_all rfl); k_whole; intro _ _; (try k_extra "fact")) | (refine' led_str ?k1 ?k2 ?k3 ?k4 ?k5 ?k6 ?_ ?k7; (case k1 => k_asm); (case k2 => k_mem); (case k3 => assumption); (case k4 => first | omega | k_extra "bnd"); (case k5 => first | omega | k_extra "bnd"); (case k6 => omega); (case k7 => with_unfolding_all rfl); k_whole; intro _)))
  k_with "subscriptTail" => walk_at "subs9"
  k_with "subscriptTail Name Name ref int" => walk_at "subs9"
  k_with "subscriptTail Attribute Name ref int" => walk_at "subs9"
  k_with "compareOp In int ref" => (k_here; k_dflt (refine' led_in ?k1 ?k2 ?k3 ?_; (case k1 => k_asm); (case k2 => k_mem); (case k3 => assumption); k_whole))
  k_with "compareOp NotIn int ref" => (k_here; k_dflt (refine' led_notin ?k1 ?k2 ?k3 ?_; (case k1 => k_asm); (case k2 => k_mem); (case k3 => assumption); k_whole))
  k_with "compareOp In str ref" => (k_here; k_dflt (first | (refine' led_in_str ?k1 ?k2 ?k3 ?_; (case k1 => k_asm); (case k2 => walk_at "memR"); (case k3 => with_reducible assumption); k_whole) | (refine' led_in_tup ?k1 ?k2 ?k3 ?_; (case k1 => k_asm); (case k2 => walk_at "memR"); (case k3 => with_reducible assumption); k_whole) | (refine' led_in_tup ?k1 ?k2 ?k3 ?_; (case k1 => k_asm); (case k2 => k_mem); (case k3 => with_reducible assumption); k_whole) | (refine' led_in_str ?k1 ?k2 ?k3 ?_; (case k1 => k_asm); (case k2 => k_mem); (case k3 => with_reducible assumption); k_whole)))
  k_with "compareOp NotIn str ref" => (k_here; k_dflt (first | (refine' led_notin_str ?k1 ?k2 ?k3 ?_; (case k1 => k_asm); (case k2 => walk_at "memR"); (case k3 => with_reducible assumption); k_whole) | (refine' led_notin_tup ?k1 ?k2 ?k3 ?_; (case k1 => k_asm); (case k2 => walk_at "memR"); (case k3 => with_reducible assumption); k_whole) | (refine' led_notin_tup ?k1 ?k2 ?k3 ?_; (case k1 => k_asm); (case k2 => k_mem); (case k3 => with_reducible assumption); k_whole) | (refine' led_notin_str ?k1 ?k2 ?k3 ?_; (case k1 => k_asm); (case k2 => k_mem); (case k3 => with_reducible assumption); k_whole)))
  k_with "eval Tuple" => (k_here; k_dflt (refine' tup_lit ?k1 ?k2 ?k3 ?k4 ?_; (case k1 => exact rfl); (case k2 => exact Nat.le_of_ble_eq_true rfl); (case k3 => k_asm); (case k4 => k_asm); k_whole); intro _ _ _ _ _ _ _ _)
  k_with "call builtin:list.index" => (k_here; (with_reducible show wpAny _ _ (call (Value.builtin _) [Value.ref _, Value.int _ _]) _ _ _); k_dflt (refine' led_index ?k1 ?k2 ?k3 ?k4 ?k5 ?_; (case k1 => k_asm); (case k2 => k_mem); (case k3 => assumption); (case k4 => assumption); (case k5 => omega); k_whole))
  k_with "pyIter ref" => refine held_of ?_
  k_with "InvEndN" => k_extra "InvEndN"
  k_with "k_steps" => repeat' (first | (k_unfold; (try dsimp only)) | (k_end; fail_if_success skip) | walk1 | (dsimp only; walk1) | fail "no step")
  k_with "kst_same" => (intro z h1 h2 h3; (try simp only [List.contains_cons, List.contains_nil, Bool.or_false, Bool.or_eq_false_iff, beq_eq_false_iff_ne, ne_eq] at h3); (simp [h1, h3, kstB]; done))
  k_with "ktr_enter" => first | (refine' code_def ?k1 ?k2 ?k3 ?k4 ?k5 ?kA ?kF ?kK ?k6 ?k7 ?k8 ?k9 ?kB ?_ ?c2 ?c3 ?c4 ?c5; (case kA => exact rfl); (case kF => exact rfl); (case kK => assumption); (case k1 => k_asm); (case k2 => k_asm); (case k3 => k_asm); (case k4 => k_asm); (case k5 => k_asm); (case k6 => k_is); (case k7 => k_is); (case k8 => ktr_room); (case k9 => first | exact BindsTo.of_eq rfl | exact binds_K (by k_in) rfl (by k_is) rfl rfl rfl); (case c5 => decide); (case kB => exact locs rfl); (case c2 => exact rfl); (case c3 => exact rfl); (case c4 => exact rfl); k_whole; walk_at "tl1") | (refine' code_defC ?k1 ?k2 ?k3 ?k4 ?k5 ?kA ?kF ?kK ?k6 ?k7 ?k8 ?k9 ?kB ?kD ?_ ?c2 ?c3 ?c4; (case kA => exact rfl); (case kF => exact rfl); (case kK => assumption); (case k1 => k_asm); (case k2 => k_asm); (case k3 => k_asm); (case k4 => k_asm); (case k5 => k_asm); (case k6 => k_is); (case k7 => k_is); (case k8 => ktr_room); (case k9 => first | exact BindsTo.of_eq rfl | exact binds_K (by k_in) rfl (by k_is) rfl rfl rfl); (case kB => exact rfl); (case kD => decide +kernel); (case c2 => exact rfl); (case c3 => exact rfl); (case c4 => exact rfl); k_whole; walk_at "tl2")
  k_with "upd" =>
    exact U _
  k_with "ne" =>
    exact Ne.symm (Nat.ne_of_lt ((by assumption : ∀ p ∈ news, p.1 < _) _ h3))
  revert X; k_fill; intro X
  refine wpAny_call ?_
  k_dflt ktr_enter
  k_steps
  rename Fr h₀ L _ _ => kF; rename News h₀ L _ _ => kN
  exact k _ _ _ kF kN (by assumption)
end
end
section
section
variable {w : World} {mean : ExcName → Option Value} {mg mb : Str → Option Value} {dp un : Nat} {gd : Option (List Code)} {cn : Str} {cs : Scope} {a : Addr} {ccd : Value} {cl : List (Str × Addr)} {outer : List Env} {A₀ : Around} {base h₀ : Heap} {L : Addr} {m : Str → Option Value} {news : List (Addr × Obj)} {s : Shared} {Q E : Value → Shared → Prop}

noncomputable def isH (spaces names : List Str) (x : Int) (name : Str) : Bool := (sAt spaces x == Str.ofString "html") && (sAt names x == name)
set_option maxHeartbeats 8000000 in
theorem ishtml_c {t td kk ss nn aa tt pp cc co : Addr} {et : List DictEntry} {nt n1 n2 : Nat} {s1 s2 : List Value} {spaces names : List Str} {x : Int} {name : Str} {t1 t2 : Tok}
  (B : Below A₀ base outer h₀) (F : Fr h₀ L s.heap m) (X : (K w.params).In h₀) (N : News h₀ L s.heap news) (T : TopP mean mg mb h₀) (hk : cs.kind = .function) (hd : dp + 3 < recursionLimit) (hu : un + 30 < cLine)
  (h4 : (t, instObj 413 td) ∈ news) (h5 : (td, dictOf et nt) ∈ news) (D2 : TrD et kk ss nn aa tt pp cc co) (h6 : (ss, listOf s1.toArray n1) ∈ news) (h7 : (nn, listOf s2.toArray n2) ∈ news)
  (g1 : StrsAre s1 spaces) (g2 : StrsAre s2 names) (hl : spaces.length = names.length) (hl2 : names.length ≤ 100) (hin : 0 ≤ x ∧ x < (names.length : Int))
  (k : ∀ r h' tk', r = isH spaces names x name → Fr h₀ L h' m → News h₀ L h' news → Q (.bool r) { s with heap := h', toks := tk' }) :
  wpAny (model PySem.Challenge.rw_pb0145_01.row.prog w) (ktrTop dp un gd cn cs L a ccd cl outer) (call (.ref 410) [.ref t, .int x t1, .str name t2]) Q E s := by
  obtain ⟨hb1, hb2⟩ := hin
  revert X; k_fill; intro X
  refine wpAny_call ?_
  k_dflt ktr_enter
  k_steps
  all_goals first | (exfalso; omega) | (rename Fr h₀ L _ _ => kF; rename News h₀ L _ _ => kN)
  · rename (_ == _) = true => c
    exact k _ _ _ (by unfold isH; rw [c, Bool.true_and]) kF kN
  · rename (_ == _) = false => c
    exact k _ _ _ (by unfold isH; rw [c, Bool.false_and]) kF kN
end
end
section
section
variable {w : World} {mean : ExcName → Option Value} {mg mb : Str → Option Value} {dp un : Nat} {gd : Option (List Code)} {cn : Str} {cs : Scope} {a : Addr} {ccd : Value} {cl : List (Str × Addr)} {outer : List Env} {A₀ : Around} {base h₀ : Heap} {L : Addr} {m : Str → Option Value} {news : List (Addr × Obj)} {s : Shared} {Q E : Value → Shared → Prop}

/-- the first node from the stack's end that any_other_end stops at, and whether it is the one -/
noncomputable def scanR (spaces names : List Str) (name : Str) : List Int → Option (Int × Bool)
  | [] => Option.none
  | x :: r => if isH spaces names x name = true then some (x, true) else if isSpec (sAt spaces x) (sAt names x) = true then some (x, false) else scanR spaces names name r
noncomputable def otherEnd (spaces names : List Str) (name : Str) (stk : List Int) : List Int × Option Str :=
  match scanR spaces names name stk.reverse with
  | Option.none => (stk, Option.none)
  | some (_, false) => (stk, some (Str.ofString "unexpected-end-tag"))
  | some (x, true) => (popWith x (popImp spaces names name stk), if lastI (popImp spaces names name stk) = x then Option.none else some (Str.ofString "open-elements"))
theorem popImpR_mem {spaces names : List Str} {but : Str} {x : Int} (hx : nodeName spaces names x = but) : ∀ {l : List Int}, x ∈ l → x ∈ popImpR spaces names but l
  | y :: r, h => by
    unfold popImpR
    split
    · rename_i c
      rcases List.mem_cons.mp h with e | h
      · exfalso; subst e; rw [hx] at c; exact absurd c.2 (by simp)
      · exact popImpR_mem hx h
    · exact h
theorem popImp_mem {spaces names : List Str} {but : Str} {x : Int} {l : List Int} (hx : nodeName spaces names x = but) (h : x ∈ l) : x ∈ popImp spaces names but l :=
  List.mem_reverse.mpr (popImpR_mem hx (List.mem_reverse.mpr h))
theorem popImpR_sub {spaces names : List Str} {but : Str} : ∀ {l : List Int}, ∀ x ∈ popImpR spaces names but l, x ∈ l
  | y :: r, x, h => by
    unfold popImpR at h
    split at h
    · exact .tail _ (popImpR_sub x h)
    · exact h
theorem popImp_sub {spaces names : List Str} {but : Str} {l : List Int} : ∀ x ∈ popImp spaces names but l, x ∈ l := fun x h => List.mem_reverse.mp (popImpR_sub x (List.mem_reverse.mp h))
theorem nodeName_of {spaces names : List Str} {x : Int} {name : Str} {r : Bool} (c : r = isH spaces names x name) (d : r = true) : nodeName spaces names x = name := by
  subst c
  obtain ⟨e1, e2⟩ := Bool.and_eq_true_iff.mp d
  unfold nodeName; rw [if_pos e1]; exact eq_of_beq e2
section
variable {spaces names : List Str} {name : Str} {stk : List Int} {c : Nat}
theorem scan_at (p1 : c ≤ stk.length) (p2 : scanR spaces names name stk.reverse = scanR spaces names name (stk.reverse.drop (stk.length - c))) (h : 0 ≤ (c : Int) - 1) :
    scanR spaces names name stk.reverse = scanR spaces names name (iAt stk ((c : Int) - 1) :: stk.reverse.drop (stk.length - (c - 1))) := by
  rw [p2, drop_at _ _ _ (rev_at stk (stk.length - c) ((c : Int) - 1) (by omega) (by omega)), show stk.length - c + 1 = stk.length - (c - 1) by omega]
theorem other_1 (p1 : c ≤ stk.length) (p2 : scanR spaces names name stk.reverse = scanR spaces names name (stk.reverse.drop (stk.length - c))) (h : 0 ≤ (c : Int) - 1)
    {r : Bool} (e1 : r = isH spaces names (iAt stk ((c : Int) - 1)) name) (e2 : r = true) :
    otherEnd spaces names name stk = (popWith (iAt stk ((c : Int) - 1)) (popImp spaces names name stk), if lastI (popImp spaces names name stk) = iAt stk ((c : Int) - 1) then Option.none else some (Str.ofString "open-elements")) := by
  unfold otherEnd; rw [scan_at p1 p2 h, scanR, if_pos (e1 ▸ e2)]
theorem other_2 {r : Bool} (p1 : c ≤ stk.length) (p2 : scanR spaces names name stk.reverse = scanR spaces names name (stk.reverse.drop (stk.length - c))) (h : 0 ≤ (c : Int) - 1)
    {r1 : Bool} (e0 : r1 = isH spaces names (iAt stk ((c : Int) - 1)) name) (e1 : r1 = false) (e2 : r = isSpec (sAt spaces (iAt stk ((c : Int) - 1))) (sAt names (iAt stk ((c : Int) - 1)))) (e3 : r = true) :
    otherEnd spaces names name stk = (stk, some (Str.ofString "unexpected-end-tag")) := by
  unfold otherEnd; rw [scan_at p1 p2 h, scanR, if_neg (by rw [← e0, e1]; exact Bool.false_ne_true), if_pos (e2 ▸ e3)]
theorem other_3 {r : Bool} (p1 : c ≤ stk.length) (p2 : scanR spaces names name stk.reverse = scanR spaces names name (stk.reverse.drop (stk.length - c))) (h : 0 ≤ (c : Int) - 1)
    {r1 : Bool} (e0 : r1 = isH spaces names (iAt stk ((c : Int) - 1)) name) (e1 : r1 = false) (e2 : r = isSpec (sAt spaces (iAt stk ((c : Int) - 1))) (sAt names (iAt stk ((c : Int) - 1)))) (e3 : r = false) :
    scanR spaces names name stk.reverse = scanR spaces names name (stk.reverse.drop (stk.length - (c - 1))) := by
  rw [scan_at p1 p2 h, scanR, if_neg (by rw [← e0, e1]; exact Bool.false_ne_true), if_neg (by rw [← e2, e3]; exact Bool.false_ne_true)]
theorem other_4 (p1 : c ≤ stk.length) (p2 : scanR spaces names name stk.reverse = scanR spaces names name (stk.reverse.drop (stk.length - c))) (h : ¬ 0 ≤ (c : Int) - 1) :
    otherEnd spaces names name stk = (stk, Option.none) := by
  have e : stk.reverse.drop (stk.length - c) = [] := List.drop_eq_nil_of_le (by rw [List.length_reverse]; omega)
  unfold otherEnd; rw [p2, e]; rfl
end
set_option maxHeartbeats 8000000 in
theorem other_c {b bd st std t td it fm er kk ss nn aa tt pp cc co : Addr} {eb es et : List DictEntry} {nb ne nt ni nr n1 n2 : Nat} {sv ev s1 s2 : List Value} {stk : List Int} {spaces names : List Str} {name md : Str} {tb tm : Tok} {L1 : Obj → List (Addr × Obj)} {L2 : Obj → Obj → List (Addr × Obj)}
  (B : Below A₀ base outer h₀) (F : Fr h₀ L s.heap m) (X : (K w.params).In h₀) (N : News h₀ L s.heap news) (T : TopP mean mg mb h₀) (hk : cs.kind = .function) (hd : dp + 20 < recursionLimit) (hu : un + 200 < cLine)
  (h8 : (b, instObj 491 bd) ∈ news) (h9 : (bd, dictOf eb nb) ∈ news) (D3 : BdD eb t st fm er md tm)
  (h1 : (st, instObj 136 std) ∈ news) (h2 : (std, dictOf es ne) ∈ news) (D : StD es t it) (U : ∀ o, Upd it (listOf sv.toArray ni) o news (L1 o)) (U2 : ∀ o p, Upd er (listOf ev.toArray nr) p (L1 o) (L2 o p)) (hi : IntsAre sv stk) (hz : stk.length ≤ 100) (hz2 : ev.length ≤ 10)
  (h4 : (t, instObj 413 td) ∈ news) (h5 : (td, dictOf et nt) ∈ news) (D2 : TrD et kk ss nn aa tt pp cc co) (h6 : (ss, listOf s1.toArray n1) ∈ news) (h7 : (nn, listOf s2.toArray n2) ∈ news)
  (g1 : StrsAre s1 spaces) (g2 : StrsAre s2 names) (hl : spaces.length = names.length) (hl2 : names.length ≤ 100) (hin : ∀ x ∈ stk, 0 ≤ x ∧ x < (names.length : Int))
  (q : [b, bd, st, std, t, td, ss, nn].all (fun x => x != it && x != er) = true) (q0 : it ≠ er)
  (k0 : ∀ vs' e' h' tk', (otherEnd spaces names name stk).2 = Option.none → IntsAre vs' (otherEnd spaces names name stk).1 → Fr h₀ L h' m → News h₀ L h' (L2 (listOf vs'.toArray e') (listOf ev.toArray nr)) → Q .none { s with heap := h', toks := tk' })
  (k1 : ∀ word tw tp vs' e' h' tk', (otherEnd spaces names name stk).2 = some word → IntsAre vs' (otherEnd spaces names name stk).1 → Fr h₀ L h' m → News h₀ L h' ((tp, tupO [.str word tw, .str md tm]) :: L2 (listOf vs'.toArray e') (listOf (ev.toArray.push (.ref tp)) (nr + 1))) → (∀ p ∈ news, p.1 < tp) → Q .none { s with heap := h', toks := tk' }) :
  wpAny (model PySem.Challenge.rw_pb0145_01.row.prog w) (ktrTop dp un gd cn cs L a ccd cl outer) (call (.ref 177) [.ref b, .str name tb]) Q E s := by
  simp only [List.all_cons, List.all_nil, Bool.and_true, Bool.and_eq_true, bne_iff_ne, ne_eq] at q
  obtain ⟨⟨a1, b1⟩, ⟨a2, b2⟩, ⟨a3, b3⟩, ⟨a4, b4⟩, ⟨a5, b5⟩, ⟨a6, b6⟩, ⟨a7, b7⟩, a8, b8⟩ := q
  have h3 : (it, listOf sv.toArray ni) ∈ news := upd_old (U (listOf #[] 0))
  have e0 : L1 (listOf sv.toArray ni) = news := upd_id (U _)
  have m1 : ∀ o, (b, instObj 491 bd) ∈ L1 o := fun o => upd_ne (U o) h8 a1
  have m2 : ∀ o, (bd, dictOf eb nb) ∈ L1 o := fun o => upd_ne (U o) h9 a2
  have m3 : ∀ o, (st, instObj 136 std) ∈ L1 o := fun o => upd_ne (U o) h1 a3
  have m4 : ∀ o, (std, dictOf es ne) ∈ L1 o := fun o => upd_ne (U o) h2 a4
  have m5 : ∀ o, (t, instObj 413 td) ∈ L1 o := fun o => upd_ne (U o) h4 a5
  have m6 : ∀ o, (td, dictOf et nt) ∈ L1 o := fun o => upd_ne (U o) h5 a6
  have m7 : ∀ o, (ss, listOf s1.toArray n1) ∈ L1 o := fun o => upd_ne (U o) h6 a7
  have m8 : ∀ o, (nn, listOf s2.toArray n2) ∈ L1 o := fun o => upd_ne (U o) h7 a8
  have m0 : ∀ o, (it, o) ∈ L1 o := fun o => upd_self (U o)
  have n0 : ∀ o p, (it, o) ∈ L2 o p := fun o p => upd_ne (U2 o p) (m0 o) q0
  have n1 : ∀ o p, (b, instObj 491 bd) ∈ L2 o p := fun o p => upd_ne (U2 o p) (m1 o) b1
  have n2 : ∀ o p, (bd, dictOf eb nb) ∈ L2 o p := fun o p => upd_ne (U2 o p) (m2 o) b2
  have n3 : ∀ o p, (st, instObj 136 std) ∈ L2 o p := fun o p => upd_ne (U2 o p) (m3 o) b3
  have n4 : ∀ o p, (std, dictOf es ne) ∈ L2 o p := fun o p => upd_ne (U2 o p) (m4 o) b4
  k_with "call ref" => (k_here; (with_reducible show wpAny _ _ (call (Value.ref 163) _) _ _ _); k_dflt (refine' popi_c ?B ?F ?X ?N ?T ?hk ?hd ?hu ?h1 ?h2 ?D ?U ?hi ?hz ?h4 ?h5 ?D2 ?h6 ?h7 ?g1 ?g2 ?hl ?hl2 ?hin ?q1 ?q2 ?q3 ?q4 ?q5 ?q6 ?_; (case B => k_asm); (case F => k_asm); (case X => k_asm); (case N => k_asm); (case T => k_asm); (case hk => first | exact rfl | assumption); (case h1 => k_mem); (case h2 => k_mem); (case D => assumption); (case U => intro o; k_upd); (case hi => assumption); (case hz => omega); (case h4 => k_mem); (case h5 => k_mem); (case D2 => assumption); (case h6 => k_mem); (case h7 => k_mem); (case g1 => assumption); (case g2 => assumption); (case hl => omega); (case hl2 => omega); (case hin => assumption); (case q1 => k_ne); (case q2 => k_ne); (case q3 => k_ne); (case q4 => k_ne); (case q5 => k_ne); (case q6 => k_ne); (case hd => ktr_room); (case hu => first | ktr_units | exact Nat.le_of_ble_eq_true rfl); k_whole); intro _ _ _ _ _ _ _ _)
  k_with "call ref" => (k_here; (with_reducible show wpAny _ _ (call (Value.ref 170) _) _ _ _); k_dflt (refine' popw_c ?B ?F ?X ?N ?T ?hk ?hd ?hu ?h1 ?h2 ?D ?U ?hi ?hz ?hn ?q1 ?q2 ?_; (case B => k_asm); (case F => k_asm); (case X => k_asm); (case N => k_asm); (case T => k_asm); (case hk => first | exact rfl | assumption); (case h1 => k_mem); (case h2 => k_mem); (case D => assumption); (case U => intro o; k_upd); (case hi => assumption); (case hz => omega); (case hn => first | assumption | k_extra "in"); (case q1 => k_ne); (case q2 => k_ne); (case hd => ktr_room); (case hu => first | ktr_units | exact Nat.le_of_ble_eq_true rfl); k_whole); intro _ _ _ _ _ _ _)
  k_with "call ref" => (k_here; (with_reducible show wpAny _ _ (call (Value.ref 446) _) _ _ _); k_dflt (refine' error_c ?B ?F ?X ?N ?T ?hk ?hd ?hu ?h1 ?h2 ?D ?U ?hz ?_; (case B => k_asm); (case F => k_asm); (case X => k_asm); (case N => k_asm); (case T => k_asm); (case hk => first | exact rfl | assumption); (case h1 => k_mem); (case h2 => k_mem); (case D => assumption); (case U => intro o; k_extra "updE"); (case hz => omega); (case hd => ktr_room); (case hu => first | ktr_units | exact Nat.le_of_ble_eq_true rfl); k_whole); intro _ _ _ _ _ _)
  k_with "call ref" => (k_here; (with_reducible show wpAny _ _ (call (Value.ref 28) _) _ _ _); k_dflt (refine' special_c ?B ?F ?X ?N ?T ?hk ?hd ?hu ?_; (case B => k_asm); (case F => k_asm); (case X => k_asm); (case N => k_asm); (case T => k_asm); (case hk => first | exact rfl | assumption); (case hd => ktr_room); (case hu => first | ktr_units | exact Nat.le_of_ble_eq_true rfl); k_whole); intro _ _ _ _ _ _)
  k_with "call ref" => (k_here; (with_reducible show wpAny _ _ (call (Value.ref 70) _) _ _ _); k_dflt (refine' current_c ?B ?F ?X ?N ?T ?hk ?hd ?hu ?h1 ?h2 ?h3 ?D ?hi ?hz ?_; (case B => k_asm); (case F => k_asm); (case X => k_asm); (case N => k_asm); (case T => k_asm); (case hk => first | exact rfl | assumption); (case h1 => k_mem); (case h2 => k_mem); (case D => assumption); (case h3 => k_mem); (case hi => assumption); (case hz => omega); (case hd => ktr_room); (case hu => first | ktr_units | exact Nat.le_of_ble_eq_true rfl); k_whole); intro _ _ _ _ _ _ _)
  k_with "call ref" => (k_here; (with_reducible show wpAny _ _ (call (Value.ref 410) _) _ _ _); k_dflt (refine' ishtml_c ?B ?F ?X ?N ?T ?hk ?hd ?hu ?h4 ?h5 ?D2 ?h6 ?h7 ?g1 ?g2 ?hl ?hl2 ?hin ?_; (case B => k_asm); (case F => k_asm); (case X => k_asm); (case N => k_asm); (case T => k_asm); (case hk => first | exact rfl | assumption); (case h4 => k_mem); (case h5 => k_mem); (case D2 => assumption); (case h6 => k_mem); (case h7 => k_mem); (case g1 => assumption); (case g2 => assumption); (case hl => omega); (case hl2 => omega); (case hin => exact ⟨by omega, by omega⟩); (case hd => ktr_room); (case hu => first | ktr_units | exact Nat.le_of_ble_eq_true rfl); k_whole); intro _ _ _ _ _ _)
  k_with "KswEnd" => refine heldP_of ?_
  revert X; k_fill; intro X
  refine wpAny_call ?_
  k_dflt ktr_enter
  k_with "mem" =>
    first | exact m0 _ | exact m1 _ | exact m2 _ | exact m3 _ | exact m4 _ | exact m5 _ | exact m6 _ | exact m7 _ | exact m8 _ | exact n0 _ _ | exact n1 _ _ | exact n2 _ _ | exact n3 _ _ | exact n4 _ _
  k_with "updE" =>
    exact U2 _ _
  k_with "in" =>
    exact popImp_mem (nodeName_of (by assumption) (by assumption)) (by assumption)
  k_with "fact" =>
    obtain ⟨hb1, hb2⟩ := hin _ (by assumption)
  k_with "ne" =>
    first | assumption | exact Ne.symm (Nat.ne_of_lt ((by assumption : ∀ p ∈ L1 _, p.1 < _) _ (m0 _)))
  k_with "upd" =>
    first | exact upd_two (U _) (U _) | exact upd_over (upd_two (U _) (U _)) (U2 _ _) (U2 _ _) q0
  k_steps
  rename Fr _ _ _ _ => lF'; rename News _ _ _ _ => lN'
  rw [← e0] at lN'
  refine held_go (ksw_while (σ := Nat × Tok) (fun _ => L1 (listOf sv.toArray ni)) (fun c => [(Str.ofString "at", .int ((c.1 : Int) - 1) c.2)]) (fun _ => True) [Str.ofString "node"]
    (fun c => c.1 ≤ stk.length ∧ scanR spaces names name stk.reverse = scanR spaces names name (stk.reverse.drop (stk.length - c.1))) (fun c => c.1) (stk.length, _)
    lF' lN' trivial (by intro p hp; rw [List.mem_singleton.mp hp]; rfl) ⟨Nat.le_refl _, by rw [Nat.sub_self]; rfl⟩ ?_)
  intro c u h1' tk1 hf hP F1 N1
  obtain ⟨p1, p2⟩ := hP
  have e2 : ∀ o, L2 o (listOf ev.toArray nr) = L1 o := fun o => upd_id (U2 o _)
  k_steps
  · rename Fr h₀ L _ _ => kF; rename News h₀ L _ _ => kN; rename _ = isH _ _ _ _ => f1; rename 0 ≤ (_ : Int) - 1 => f0; rename ¬ _ = iAt stk _ => f3; rename _ = lastI _ => f4
    have w1 := other_1 p1 p2 f0 f1 (by assumption)
    exact k1 _ _ _ _ _ _ _ (by rw [w1]; dsimp only; rw [if_neg (by rw [← f4]; exact f3)]) (by rw [w1]; assumption) kF kN (upd_lt (U _) (by assumption))
  · rename Fr h₀ L _ _ => kF; rename News h₀ L _ _ => kN; rename _ = isH _ _ _ _ => f1; rename 0 ≤ (_ : Int) - 1 => f0; rename _ = iAt stk _ => f3; rename _ = lastI _ => f4
    have w1 := other_1 p1 p2 f0 f1 (by assumption)
    exact k0 _ _ _ _ (by rw [w1]; dsimp only; rw [if_pos (by rw [← f4]; exact f3)]) (by rw [w1]; assumption) kF (by rw [e2]; exact kN)
  · rename Fr h₀ L _ _ => kF; rename News h₀ L _ _ => kN; rename _ = isH _ _ _ _ => f1; rename 0 ≤ (_ : Int) - 1 => f0
    have w1 := other_2 p1 p2 f0 f1 (by assumption) (by assumption) (by assumption)
    exact k1 _ _ _ _ _ _ _ (by rw [w1]) (by rw [w1]; exact hi) kF kN (upd_lt (U _) (by assumption))
  · rename _ = isH _ _ _ _ => f1; rename 0 ≤ (_ : Int) - 1 => f0
    refine heldP_go ?_
    exact ksw_end (c.1 - 1, _) (by assumption) (by assumption) (fun p hp => hp) trivial
      (by intro p hp; rw [List.mem_singleton.mp hp]; show some (Value.int _ _) = some (Value.int _ _); rw [show (((c.1 - 1 : Nat) : Int) - 1) = (c.1 : Int) - 1 - 1 by omega])
      (by intro z h2 h3; simp only [List.contains_cons, List.contains_nil, Bool.or_false, beq_eq_false_iff_ne, ne_eq, List.forall_mem_cons, List.not_mem_nil, false_implies, implies_true, and_true] at h2 h3; simp [h2, h3, kstB])
      ⟨by show c.1 - 1 ≤ stk.length; omega, other_3 p1 p2 f0 f1 (by assumption) (by assumption) (by assumption)⟩ (by show c.1 - 1 < c.1; omega)
  · rename Fr h₀ L _ _ => kF; rename News h₀ L _ _ => kN
    have w1 := other_4 p1 p2 (by assumption)
    exact k0 _ _ _ _ (by rw [w1]) (by rw [w1]; exact hi) kF (by rw [e2]; exact kN)
end
end
section
section
variable {w : World} {mean : ExcName → Option Value} {mg mb : Str → Option Value} {dp un : Nat} {gd : Option (List Code)} {cn : Str} {cs : Scope} {a : Addr} {ccd : Value} {cl : List (Str × Addr)} {outer : List Env} {A₀ : Around} {base h₀ : Heap} {L : Addr} {m : Str → Option Value} {news : List (Addr × Obj)} {s : Shared} {Q E : Value → Shared → Prop}

set_option maxHeartbeats 8000000 in
theorem remove_c {fm fmd t fi : Addr} {es : List DictEntry} {ne nf : Nat} {fv : List Value} {act : List Int} {node : Int} {tb : Tok} {L1 : Obj → List (Addr × Obj)}
  (B : Below A₀ base outer h₀) (F : Fr h₀ L s.heap m) (X : (K w.params).In h₀) (N : News h₀ L s.heap news) (T : TopP mean mg mb h₀) (hk : cs.kind = .function) (hd : dp + 3 < recursionLimit) (hu : un + 30 < cLine)
  (h1 : (fm, instObj 296 fmd) ∈ news) (h2 : (fmd, dictOf es ne) ∈ news) (D : FmD es t fi) (U : ∀ o, Upd fi (listOf fv.toArray nf) o news (L1 o)) (hi : IntsAre fv act) (hz : act.length ≤ 100)
  (k : ∀ vs' e' h' tk', IntsAre vs' (act.erase node) → Fr h₀ L h' m → News h₀ L h' (L1 (listOf vs'.toArray e')) → Q .none { s with heap := h', toks := tk' }) :
  wpAny (model PySem.Challenge.rw_pb0145_01.row.prog w) (ktrTop dp un gd cn cs L a ccd cl outer) (call (.ref 279) [.ref fm, .int node tb]) Q E s := by
  have h3 : (fi, listOf fv.toArray nf) ∈ news := upd_old (U (listOf #[] 0))
  have e0 : L1 (listOf fv.toArray nf) = news := upd_id (U _)
  k_with_none
  k_with "om" => first | assumption | exact Nat.le_trans (by assumption) (Nat.le_of_ble_eq_true rfl) | exact Nat.lt_of_le_of_lt (by assumption) (Nat.le_of_ble_eq_true rfl) | decide | omega
  k_with "k_get" => (first | k_extra "getd" | with_reducible assumption | with_reducible_and_instances exact Dct.get (by assumption) (by k_mem) | exact Dct.get (by assumption) (by k_mem))
  k_with "k_upd" => first | assumption | k_extra "upd" | (refine' Upd.head ?a; (case a => k_all)) | (refine' Upd.tail ?a ?b; (case a => k_ne); (case b => k_upd))
  k_with "exec While" => refine held_of ?_
  k_with "call builtin:len" => (k_here; (with_reducible show wpAny _ _ (call (Value.builtin "len") [Value.ref _]) _ _ _); k_dflt (refine' led_len ?k1 ?k2 ?k3 ?k4 ?_; (case k1 => k_asm); (case k2 => k_mem); (case k3 => first | exact IntsAre.length (by assumption) | exact PyProof.Rows.StrsAre.length (by assumption) | assumption); (case k4 => walk_at "om"); k_whole); intro _ _)
  k_with "subs9" => (k_here; (with_reducible show wpAny _ _ (subscriptTail _ _ (Value.ref _) (Value.int _ _)) _ _ _); k_dflt (first | (refine' led_int ?k1 ?k2 ?k3 ?k4 ?k5 ?k6 ?_ ?k7; (case k1 => k_asm); (case k2 => k_mem); (case k3 => assumption); (case k4 => first | omega | k_extra "bnd"); (case k5 => first | omega | k_extra "bnd"); (case k6 => omega); (case k7 => with_unfolding_all rfl); k_whole; intro _ _; (try k_extra "fact")) | (refine' led_str ?k1 ?k2 ?k3 ?k4 ?k5 ?k6 ?_ ?k7; (case k1 => k_asm); (case k2 => k_mem); (case k3 => assumption); (case k4 => first | omega | k_extra "bnd"); (case k5 => first | omega | k_extra "bnd"); (case k6 => omega); (case k7 => with_unfolding_all rfl); k_whole; intro _)))
  k_with "subscriptTail" => walk_at "subs9"
  k_with "subscriptTail Name Name ref int" => walk_at "subs9"
  k_with "subscriptTail Attribute Name ref int" => walk_at "subs9"
  k_with "compareOp In int ref" => (k_here; k_dflt (refine' led_in ?k1 ?k2 ?k3 ?_; (case k1 => k_asm); (case k2 => k_mem); (case k3 => assumption); k_whole))
  k_with "compareOp NotIn int ref" => (k_here; k_dflt (refine' led_notin ?k1 ?k2 ?k3 ?_; (case k1 => k_asm); (case k2 => k_mem); (case k3 => assumption); k_whole))
  k_with "compareOp In str ref" => (k_here; k_dflt (first | (refine' led_in_str ?k1 ?k2 ?k3 ?_; (case k1 => k_asm); (case k2 => walk_at "memR"); (case k3 => with_reducible assumption); k_whole) | (refine' led_in_tup ?k1 ?k2 ?k3 ?_; (case k1 => k_asm); (case k2 => walk_at "memR"); (case k3 => with_reducible assumption); k_whole) | (refine' led_in_tup ?k1 ?k2 ?k3 ?_; (case k1 => k_asm); (case k2 => k_mem); (case k3 => with_reducible assumption); k_whole) | (refine' led_in_str ?k1 ?k2 ?k3 ?_; (case k1 => k_asm); (case k2 => k_mem); (case k3 => with_reducible assumption); k_whole)))
  k_with "compareOp NotIn str ref" => (k_here; k_dflt (first | (refine' led_notin_str ?k1 ?k2 ?k3 ?_; (case k1 => k_asm); (case k2 => walk_at "memR"); (case k3 => with_reducible assumption); k_whole) | (refine' led_notin_tup ?k1 ?k2 ?k3 ?_; (case k1 => k_asm); (case k2 => walk_at "memR"); (case k3 => with_reducible assumption); k_whole) | (refine' led_notin_tup ?k1 ?k2 ?k3 ?_; (case k1 => k_asm); (case k2 => k_mem); (case k3 => with_reducible assumption); k_whole) | (refine' led_notin_str ?k1 ?k2 ?k3 ?_; (case k1 => k_asm); (case k2 => k_mem); (case k3 => with_reducible assumption); k_whole)))
  k_with "eval Tuple" => (k_here; k_dflt (refine' tup_lit ?k1 ?k2 ?k3 ?k4 ?_; (case k1 => exact rfl); (case k2 => exact Nat.le_of_ble_eq_true rfl); (case k3 => k_asm); (case k4 => k_asm); k_whole); intro _ _ _ _ _ _ _ _)
  k_with "call builtin:list.index" => (k_here; (with_reducible show wpAny _ _ (call (Value.builtin _) [Value.ref _, Value.int _ _]) _ _ _); k_dflt (refine' led_index ?k1 ?k2 ?k3 ?k4 ?k5 ?_; (case k1 => k_asm); (case k2 => k_mem); (case k3 => assumption); (case k4 => assumption); (case k5 => omega); k_whole))
  k_with "pyIter ref" => refine held_of ?_
  k_with "InvEndN" => k_extra "InvEndN"
  k_with "k_steps" => repeat' (first | (k_unfold; (try dsimp only)) | (k_end; fail_if_success skip) | walk1 | (dsimp only; walk1) | fail "no step")
  k_with "kst_same" => (intro z h1 h2 h3; (try simp only [List.contains_cons, List.contains_nil, Bool.or_false, Bool.or_eq_false_iff, beq_eq_false_iff_ne, ne_eq] at h3); (simp [h1, h3, kstB]; done))
  k_with "ktr_enter" => first | (refine' code_def ?k1 ?k2 ?k3 ?k4 ?k5 ?kA ?kF ?kK ?k6 ?k7 ?k8 ?k9 ?kB ?_ ?c2 ?c3 ?c4 ?c5; (case kA => exact rfl); (case kF => exact rfl); (case kK => assumption); (case k1 => k_asm); (case k2 => k_asm); (case k3 => k_asm); (case k4 => k_asm); (case k5 => k_asm); (case k6 => k_is); (case k7 => k_is); (case k8 => ktr_room); (case k9 => first | exact BindsTo.of_eq rfl | exact binds_K (by k_in) rfl (by k_is) rfl rfl rfl); (case c5 => decide); (case kB => exact locs rfl); (case c2 => exact rfl); (case c3 => exact rfl); (case c4 => exact rfl); k_whole; walk_at "tl1") | (refine' code_defC ?k1 ?k2 ?k3 ?k4 ?k5 ?kA ?kF ?kK ?k6 ?k7 ?k8 ?k9 ?kB ?kD ?_ ?c2 ?c3 ?c4; (case kA => exact rfl); (case kF => exact rfl); (case kK => assumption); (case k1 => k_asm); (case k2 => k_asm); (case k3 => k_asm); (case k4 => k_asm); (case k5 => k_asm); (case k6 => k_is); (case k7 => k_is); (case k8 => ktr_room); (case k9 => first | exact BindsTo.of_eq rfl | exact binds_K (by k_in) rfl (by k_is) rfl rfl rfl); (case kB => exact rfl); (case kD => decide +kernel); (case c2 => exact rfl); (case c3 => exact rfl); (case c4 => exact rfl); k_whole; walk_at "tl2")
  k_with "call builtin:list.remove" => (k_here; k_dflt (refine' led_remove ?k1 ?k2 ?k3 ?k4 ?k5 ?k6 ?_; (case k1 => k_asm); (case k2 => k_asm); (case k3 => assumption); (case k4 => assumption); (case k5 => omega); (case k6 => k_upd); k_whole); intro _ _ _)
  revert X; k_fill; intro X
  refine wpAny_call ?_
  k_dflt ktr_enter
  k_with "upd" =>
    exact U _
  k_steps
  all_goals (rename Fr h₀ L _ _ => kF; rename News h₀ L _ _ => kN)
  · exact k _ _ _ _ (ints_erase _ hi) kF kN
  · exact k _ _ _ _ (by rw [List.erase_of_not_mem (by assumption)]; exact hi) kF (by rw [e0]; exact kN)
end
end
section
section
variable {w : World} {mean : ExcName → Option Value} {mg mb : Str → Option Value} {dp un : Nat} {gd : Option (List Code)} {cn : Str} {cs : Scope} {a : Addr} {ccd : Value} {cl : List (Str × Addr)} {outer : List Env} {A₀ : Around} {base h₀ : Heap} {L : Addr} {m : Str → Option Value} {news : List (Addr × Obj)} {s : Shared} {Q E : Value → Shared → Prop}

/-- find_subject: the answer, the stack left, the list kept, the error told -/
noncomputable def subjOf (spaces names : List Str) (name : Str) (stk act : List Int) : Int × List Int × List Int × Option Str :=
  let x := findR names name act.reverse
  if x = -1 then (-1, (otherEnd spaces names name stk).1, act, (otherEnd spaces names name stk).2)
  else if x ∉ stk then (-1, stk, act.erase x, some (Str.ofString "adoption"))
  else if inScopeR spaces names x stk.reverse = false then (-1, stk, act, some (Str.ofString "adoption"))
  else (x, stk, act, if lastI stk = x then Option.none else some (Str.ofString "adoption"))
section
variable {spaces names : List Str} {name : Str} {stk act : List Int} {x y : Int} {r : Bool}
theorem subj_1 (e : x = findR names name act.reverse) (h : x = -1) : subjOf spaces names name stk act = (-1, (otherEnd spaces names name stk).1, act, (otherEnd spaces names name stk).2) := by
  unfold subjOf; rw [if_pos (e ▸ h)]
theorem subj_2 (e : x = findR names name act.reverse) (h : ¬ x = -1) (h2 : ¬ x ∈ stk) : subjOf spaces names name stk act = (-1, stk, act.erase x, some (Str.ofString "adoption")) := by
  subst e; unfold subjOf; rw [if_neg h, if_pos h2]
theorem subj_3 (e : x = findR names name act.reverse) (h : ¬ x = -1) (h2 : x ∈ stk) (e2 : r = inScopeR spaces names x stk.reverse) (h3 : r = false) : subjOf spaces names name stk act = (-1, stk, act, some (Str.ofString "adoption")) := by
  subst e e2; unfold subjOf; rw [if_neg h, if_neg (not_not_intro h2), if_pos h3]
theorem subj_4 (e : x = findR names name act.reverse) (h : ¬ x = -1) (h2 : x ∈ stk) (e2 : r = inScopeR spaces names x stk.reverse) (h3 : r = true) (e4 : y = lastI stk) (h4 : y ≠ x) : subjOf spaces names name stk act = (x, stk, act, some (Str.ofString "adoption")) := by
  subst e e2 e4; unfold subjOf; rw [if_neg h, if_neg (not_not_intro h2), if_neg (by rw [h3]; exact Bool.noConfusion), if_neg h4]
theorem subj_5 (e : x = findR names name act.reverse) (h : ¬ x = -1) (h2 : x ∈ stk) (e2 : r = inScopeR spaces names x stk.reverse) (h3 : r = true) (e4 : y = lastI stk) (h4 : y = x) : subjOf spaces names name stk act = (x, stk, act, Option.none) := by
  subst e e2 e4; unfold subjOf; rw [if_neg h, if_neg (not_not_intro h2), if_neg (by rw [h3]; exact Bool.noConfusion), if_pos h4]
end
set_option maxHeartbeats 8000000 in
theorem subject_c {b bd st std t td it fm fmd fi er kk ss nn aa tt pp cc co : Addr} {eb es ef et : List DictEntry} {nb ne nf ne2 nt ni nr n1 n2 : Nat} {sv ev fv s1 s2 : List Value} {stk act : List Int} {spaces names : List Str} {name md : Str} {tb tm : Tok} {L1 : Obj → List (Addr × Obj)} {L2 : Obj → Obj → List (Addr × Obj)} {L3 : Obj → Obj → Obj → List (Addr × Obj)}
  (B : Below A₀ base outer h₀) (F : Fr h₀ L s.heap m) (X : (K w.params).In h₀) (N : News h₀ L s.heap news) (T : TopP mean mg mb h₀) (hk : cs.kind = .function) (hd : dp + 30 < recursionLimit) (hu : un + 300 < cLine)
  (h8 : (b, instObj 491 bd) ∈ news) (h9 : (bd, dictOf eb nb) ∈ news) (D3 : BdD eb t st fm er md tm)
  (h1 : (st, instObj 136 std) ∈ news) (h2 : (std, dictOf es ne) ∈ news) (D : StD es t it) (U : ∀ o, Upd it (listOf sv.toArray ni) o news (L1 o)) (U2 : ∀ o p, Upd er (listOf ev.toArray nr) p (L1 o) (L2 o p)) (U3 : ∀ o p q, Upd fi (listOf fv.toArray nf) q (L2 o p) (L3 o p q))
  (hi : IntsAre sv stk) (hz : stk.length ≤ 100) (hz2 : ev.length ≤ 10)
  (h10 : (fm, instObj 296 fmd) ∈ news) (h11 : (fmd, dictOf ef ne2) ∈ news) (D4 : FmD ef t fi) (h12 : (fi, listOf fv.toArray nf) ∈ news) (ha : IntsAre fv act) (hz3 : act.length ≤ 100) (hia : ∀ x ∈ act, x = -1 ∨ (0 ≤ x ∧ x < (names.length : Int)))
  (h4 : (t, instObj 413 td) ∈ news) (h5 : (td, dictOf et nt) ∈ news) (D2 : TrD et kk ss nn aa tt pp cc co) (h6 : (ss, listOf s1.toArray n1) ∈ news) (h7 : (nn, listOf s2.toArray n2) ∈ news)
  (g1 : StrsAre s1 spaces) (g2 : StrsAre s2 names) (hl : spaces.length = names.length) (hl2 : names.length ≤ 100) (hin : ∀ x ∈ stk, 0 ≤ x ∧ x < (names.length : Int))
  (q : [b, bd, st, std, t, td, ss, nn, fm, fmd].all (fun x => x != it && x != er) = true) (q0 : it ≠ er)
  (k0 : ∀ r tk vs' e' fv' nf' h' tk', (subjOf spaces names name stk act).2.2.2 = Option.none → r = (subjOf spaces names name stk act).1 → IntsAre vs' (subjOf spaces names name stk act).2.1 → IntsAre fv' (subjOf spaces names name stk act).2.2.1 → Fr h₀ L h' m → News h₀ L h' (L3 (listOf vs'.toArray e') (listOf ev.toArray nr) (listOf fv'.toArray nf')) → Q (.int r tk) { s with heap := h', toks := tk' })
  (k1 : ∀ r tk word tw tp vs' e' fv' nf' h' tk', (subjOf spaces names name stk act).2.2.2 = some word → r = (subjOf spaces names name stk act).1 → IntsAre vs' (subjOf spaces names name stk act).2.1 → IntsAre fv' (subjOf spaces names name stk act).2.2.1 → Fr h₀ L h' m → News h₀ L h' ((tp, tupO [.str word tw, .str md tm]) :: L3 (listOf vs'.toArray e') (listOf (ev.toArray.push (.ref tp)) (nr + 1)) (listOf fv'.toArray nf')) → (∀ p ∈ news, p.1 < tp) → Q (.int r tk) { s with heap := h', toks := tk' }) :
  wpAny (model PySem.Challenge.rw_pb0145_01.row.prog w) (ktrTop dp un gd cn cs L a ccd cl outer) (call (.ref 184) [.ref b, .str name tb]) Q E s := by
  have q' := q
  simp only [List.all_cons, List.all_nil, Bool.and_true, Bool.and_eq_true, bne_iff_ne, ne_eq] at q'
  obtain ⟨⟨a1, b1⟩, ⟨a2, b2⟩, ⟨a3, b3⟩, ⟨a4, b4⟩, ⟨a5, b5⟩, ⟨a6, b6⟩, ⟨a7, b7⟩, ⟨a8, b8⟩, ⟨a9, b9⟩, a10, b10⟩ := q'
  have h3 : (it, listOf sv.toArray ni) ∈ news := upd_old (U (listOf #[] 0))
  have e0 : L1 (listOf sv.toArray ni) = news := upd_id (U _)
  have e2 : ∀ o, L2 o (listOf ev.toArray nr) = L1 o := fun o => upd_id (U2 o _)
  have e3 : ∀ o p, L3 o p (listOf fv.toArray nf) = L2 o p := fun o p => upd_id (U3 o p _)
  have V2 : ∀ p, Upd er (listOf ev.toArray nr) p news (L2 (listOf sv.toArray ni) p) := fun p => by have := U2 (listOf sv.toArray ni) p; rw [e0] at this; exact this
  have n1 : ∀ p, (fm, instObj 296 fmd) ∈ L2 (listOf sv.toArray ni) p := fun p => upd_ne (V2 p) h10 b9
  have n2 : ∀ p, (fmd, dictOf ef ne2) ∈ L2 (listOf sv.toArray ni) p := fun p => upd_ne (V2 p) h11 b10
  have n3 : ∀ p, (b, instObj 491 bd) ∈ L2 (listOf sv.toArray ni) p := fun p => upd_ne (V2 p) h8 b1
  have n4 : ∀ p, (bd, dictOf eb nb) ∈ L2 (listOf sv.toArray ni) p := fun p => upd_ne (V2 p) h9 b2
  k_with "call ref" => (k_here; (with_reducible show wpAny _ _ (call (Value.ref 177) _) _ _ _); refine held_of ?_)
  k_with "call ref" => (k_here; (with_reducible show wpAny _ _ (call (Value.ref 258) _) _ _ _); k_dflt (refine' find_c ?B ?F ?X ?N ?T ?hk ?hd ?hu ?h1 ?h2 ?h3 ?h4 ?h5 ?h6 ?D ?D2 ?ha ?hn ?hz ?hz2 ?hin ?_; (case B => k_asm); (case F => k_asm); (case X => k_asm); (case N => k_asm); (case T => k_asm); (case hk => first | exact rfl | assumption); (case h1 => k_mem); (case h2 => k_mem); (case D => assumption); (case h3 => k_mem); (case h4 => k_mem); (case D2 => assumption); (case h5 => k_mem); (case h6 => k_mem); (case ha => assumption); (case hn => assumption); (case hz => omega); (case hz2 => omega); (case hin => assumption); (case hd => ktr_room); (case hu => first | ktr_units | exact Nat.le_of_ble_eq_true rfl); k_whole); intro _ _ _ _ _ _ _)
  k_with "call ref" => (k_here; (with_reducible show wpAny _ _ (call (Value.ref 155) _) _ _ _); k_dflt (refine' scope_c ?B ?F ?X ?N ?T ?hk ?hd ?hu ?h1 ?h2 ?h3 ?D ?hi ?hz ?h4 ?h5 ?D2 ?h6 ?h7 ?g1 ?g2 ?hl ?hl2 ?hin ?_; (case B => k_asm); (case F => k_asm); (case X => k_asm); (case N => k_asm); (case T => k_asm); (case hk => first | exact rfl | assumption); (case h1 => k_mem); (case h2 => k_mem); (case D => assumption); (case h3 => k_mem); (case hi => assumption); (case hz => omega); (case h4 => k_mem); (case h5 => k_mem); (case D2 => assumption); (case h6 => k_mem); (case h7 => k_mem); (case g1 => assumption); (case g2 => assumption); (case hl => omega); (case hl2 => omega); (case hin => assumption); (case hd => ktr_room); (case hu => first | ktr_units | exact Nat.le_of_ble_eq_true rfl); k_whole); intro _ _ _ _ _ _)
  k_with "call ref" => (k_here; (with_reducible show wpAny _ _ (call (Value.ref 279) _) _ _ _); k_dflt (refine' remove_c ?B ?F ?X ?N ?T ?hk ?hd ?hu ?h1 ?h2 ?D ?U ?hi ?hz ?_; (case B => k_asm); (case F => k_asm); (case X => k_asm); (case N => k_asm); (case T => k_asm); (case hk => first | exact rfl | assumption); (case h1 => k_mem); (case h2 => k_mem); (case D => assumption); (case U => intro o; k_upd); (case hi => assumption); (case hz => omega); (case hd => ktr_room); (case hu => first | ktr_units | exact Nat.le_of_ble_eq_true rfl); k_whole); intro _ _ _ _ _ _ _)
  k_with "call ref" => (k_here; (with_reducible show wpAny _ _ (call (Value.ref 70) _) _ _ _); k_dflt (refine' current_c ?B ?F ?X ?N ?T ?hk ?hd ?hu ?h1 ?h2 ?h3 ?D ?hi ?hz ?_; (case B => k_asm); (case F => k_asm); (case X => k_asm); (case N => k_asm); (case T => k_asm); (case hk => first | exact rfl | assumption); (case h1 => k_mem); (case h2 => k_mem); (case D => assumption); (case h3 => k_mem); (case hi => assumption); (case hz => omega); (case hd => ktr_room); (case hu => first | ktr_units | exact Nat.le_of_ble_eq_true rfl); k_whole); intro _ _ _ _ _ _ _)
  k_with "call ref" => (k_here; (with_reducible show wpAny _ _ (call (Value.ref 446) _) _ _ _); k_dflt (refine' error_c ?B ?F ?X ?N ?T ?hk ?hd ?hu ?h1 ?h2 ?D ?U ?hz ?_; (case B => k_asm); (case F => k_asm); (case X => k_asm); (case N => k_asm); (case T => k_asm); (case hk => first | exact rfl | assumption); (case h1 => k_mem); (case h2 => k_mem); (case D => assumption); (case U => intro o; k_extra "updE"); (case hz => omega); (case hd => ktr_room); (case hu => first | ktr_units | exact Nat.le_of_ble_eq_true rfl); k_whole); intro _ _ _ _ _ _)
  revert X; k_fill; intro X
  refine wpAny_call ?_
  k_dflt ktr_enter
  k_with "mem" =>
    first | exact n1 _ | exact n2 _ | exact n3 _ | exact n4 _
  k_with "updE" =>
    exact V2 _
  k_with "upd" =>
    exact U3 _ _ _
  k_with "ne" =>
    first | assumption | exact Ne.symm (Nat.ne_of_lt ((by assumption : ∀ p ∈ news, p.1 < _) _ h12))
  k_steps
  · rename _ = findR _ _ _ => f1; rename _ = (-1 : Int) => f2
    rw [subj_1 f1 f2] at k0 k1
    dsimp only at k0 k1
    refine held_go (other_c (L1 := L1) (L2 := L2) (by k_asm) (by k_asm) (by k_asm) (by k_asm) (by k_asm) (by first | exact rfl | assumption) (by ktr_room) (by ktr_units) h8 h9 D3 h1 h2 D U U2 hi hz hz2 h4 h5 D2 h6 h7 g1 g2 hl hl2 hin ?_ q0 ?_ ?_)
    · simp only [List.all_cons, List.all_nil, Bool.and_true, Bool.and_eq_true, bne_iff_ne, ne_eq]
      exact ⟨⟨a1, b1⟩, ⟨a2, b2⟩, ⟨a3, b3⟩, ⟨a4, b4⟩, ⟨a5, b5⟩, ⟨a6, b6⟩, ⟨a7, b7⟩, a8, b8⟩
    · intro vs' e' h' tk' q1 q2 F9 N9
      k_steps
      rename Fr h₀ L _ _ => kF; rename News h₀ L _ _ => kN
      exact k0 _ _ vs' e' fv nf _ _ q1 rfl q2 ha kF (by rw [e3]; exact kN)
    · intro word tw tp vs' e' h' tk' q1 q2 F9 N9 q3
      k_steps
      rename Fr h₀ L _ _ => kF; rename News h₀ L _ _ => kN
      exact k1 _ _ _ _ _ vs' e' fv nf _ _ q1 rfl q2 ha kF (by rw [e3]; exact kN) q3
  · rename _ = findR _ _ _ => f1; rename ¬ _ = (-1 : Int) => f2; rename _ ∈ stk => f3; rename _ = inScopeR _ _ _ _ => f4; rename _ = lastI _ => f5; rename _ ≠ _ => f6; rename Fr h₀ L _ _ => kF; rename News h₀ L _ _ => kN
    rw [subj_4 f1 f2 f3 f4 (by assumption) f5 f6] at k1
    exact k1 _ _ _ _ _ sv ni fv nf _ _ rfl rfl hi ha kF (by rw [e3]; exact kN) (by assumption)
  · rename _ = findR _ _ _ => f1; rename ¬ _ = (-1 : Int) => f2; rename _ ∈ stk => f3; rename _ = inScopeR _ _ _ _ => f4; rename _ = lastI _ => f5; rename Fr h₀ L _ _ => kF; rename News h₀ L _ _ => kN
    rw [subj_5 f1 f2 f3 f4 (by assumption) f5 (by assumption)] at k0
    exact k0 _ _ sv ni fv nf _ _ rfl rfl hi ha kF (by rw [e3, e2, e0]; exact kN)
  · rename _ = findR _ _ _ => f1; rename ¬ _ = (-1 : Int) => f2; rename _ ∈ stk => f3; rename _ = inScopeR _ _ _ _ => f4; rename Fr h₀ L _ _ => kF; rename News h₀ L _ _ => kN
    rw [subj_3 f1 f2 f3 f4 (by assumption)] at k1
    exact k1 _ _ _ _ _ sv ni fv nf _ _ rfl rfl hi ha kF (by rw [e3]; exact kN) (by assumption)
  · rename _ = findR _ _ _ => f1; rename ¬ _ = (-1 : Int) => f2; rename ¬ _ ∈ stk => f3; rename Fr h₀ L _ _ => kF; rename News h₀ L _ _ => kN
    rw [subj_2 f1 f2 f3] at k1
    exact k1 _ _ _ _ _ sv ni _ _ _ _ rfl rfl hi (by assumption) kF kN (by assumption)
end
end
section
section
variable {w : World} {mean : ExcName → Option Value} {mg mb : Str → Option Value} {dp un : Nat} {gd : Option (List Code)} {cn : Str} {cs : Scope} {a : Addr} {ccd : Value} {cl : List (Str × Addr)} {outer : List Env} {A₀ : Around} {base h₀ : Heap} {L : Addr} {m : Str → Option Value} {news : List (Addr × Obj)} {s : Shared} {Q E : Value → Shared → Prop}

/-- the numbers that a short script does not tell -/
noncomputable def usualL : List Int := [0, 0, 1, 11, 0, 5, 6, 4, 7]
set_option maxHeartbeats 8000000 in
theorem digit_c {a0 : Addr} {vs : List Value} {ns : List Int} {p : Int} {tp : Tok}
  (B : Below A₀ base outer h₀) (F : Fr h₀ L s.heap m) (X : (K w.params).In h₀) (N : News h₀ L s.heap news) (T : TopP mean mg mb h₀) (hk : cs.kind = .function) (hd : dp + 3 < recursionLimit) (hu : un + 30 < cLine)
  (hl : h₀.IsList a0 vs.toArray) (hi : IntsAre vs ns) (hz : ns.length ≤ 63) (p0 : 0 ≤ p) (p1 : p ≤ 8)
  (k : ∀ r tk h' tk', Fr h₀ L h' m → News h₀ L h' news → Q (.int r tk) { s with heap := h', toks := tk' }) :
  wpAny (model PySem.Challenge.rw_pb0145_01.row.prog w) (ktrTop dp un gd cn cs L a ccd cl outer) (call (.ref 502) [.ref a0, .int p tp]) Q E s := by
  k_with_none
  k_with "om" => first | assumption | exact Nat.le_trans (by assumption) (Nat.le_of_ble_eq_true rfl) | exact Nat.lt_of_le_of_lt (by assumption) (Nat.le_of_ble_eq_true rfl) | decide | omega
  k_with "k_get" => (first | k_extra "getd" | with_reducible assumption | with_reducible_and_instances exact Dct.get (by assumption) (by k_mem) | exact Dct.get (by assumption) (by k_mem))
  k_with "k_upd" => first | assumption | k_extra "upd" | (refine' Upd.head ?a; (case a => k_all)) | (refine' Upd.tail ?a ?b; (case a => k_ne); (case b => k_upd))
  k_with "exec While" => refine held_of ?_
  k_with "call builtin:len" => (k_here; (with_reducible show wpAny _ _ (call (Value.builtin "len") [Value.ref _]) _ _ _); k_dflt (refine' led_len ?k1 ?k2 ?k3 ?k4 ?_; (case k1 => k_asm); (case k2 => k_mem); (case k3 => first | exact IntsAre.length (by assumption) | exact PyProof.Rows.StrsAre.length (by assumption) | assumption); (case k4 => walk_at "om"); k_whole); intro _ _)
  k_with "subs9" => (k_here; (with_reducible show wpAny _ _ (subscriptTail _ _ (Value.ref _) (Value.int _ _)) _ _ _); k_dflt (first | (refine' led_int ?k1 ?k2 ?k3 ?k4 ?k5 ?k6 ?_ ?k7; (case k1 => k_asm); (case k2 => k_mem); (case k3 => assumption); (case k4 => first | omega | k_extra "bnd"); (case k5 => first | omega | k_extra "bnd"); (case k6 => omega); (case k7 => with_unfolding_all rfl); k_whole; intro _ _; (try k_extra "fact")) | (refine' led_str ?k1 ?k2 ?k3 ?k4 ?k5 ?k6 ?_ ?k7; (case k1 => k_asm); (case k2 => k_mem); (case k3 => assumption); (case k4 => first | omega | k_extra "bnd"); (case k5 => first | omega | k_extra "bnd"); (case k6 => omega); (case k7 => with_unfolding_all rfl); k_whole; intro _)))
  k_with "subscriptTail" => walk_at "subs9"
  k_with "subscriptTail Name Name ref int" => walk_at "subs9"
  k_with "subscriptTail Attribute Name ref int" => walk_at "subs9"
  k_with "compareOp In int ref" => (k_here; k_dflt (refine' led_in ?k1 ?k2 ?k3 ?_; (case k1 => k_asm); (case k2 => k_mem); (case k3 => assumption); k_whole))
  k_with "compareOp NotIn int ref" => (k_here; k_dflt (refine' led_notin ?k1 ?k2 ?k3 ?_; (case k1 => k_asm); (case k2 => k_mem); (case k3 => assumption); k_whole))
  k_with "compareOp In str ref" => (k_here; k_dflt (first | (refine' led_in_str ?k1 ?k2 ?k3 ?_; (case k1 => k_asm); (case k2 => walk_at "memR"); (case k3 => with_reducible assumption); k_whole) | (refine' led_in_tup ?k1 ?k2 ?k3 ?_; (case k1 => k_asm); (case k2 => walk_at "memR"); (case k3 => with_reducible assumption); k_whole) | (refine' led_in_tup ?k1 ?k2 ?k3 ?_; (case k1 => k_asm); (case k2 => k_mem); (case k3 => with_reducible assumption); k_whole) | (refine' led_in_str ?k1 ?k2 ?k3 ?_; (case k1 => k_asm); (case k2 => k_mem); (case k3 => with_reducible assumption); k_whole)))
  k_with "compareOp NotIn str ref" => (k_here; k_dflt (first | (refine' led_notin_str ?k1 ?k2 ?k3 ?_; (case k1 => k_asm); (case k2 => walk_at "memR"); (case k3 => with_reducible assumption); k_whole) | (refine' led_notin_tup ?k1 ?k2 ?k3 ?_; (case k1 => k_asm); (case k2 => walk_at "memR"); (case k3 => with_reducible assumption); k_whole) | (refine' led_notin_tup ?k1 ?k2 ?k3 ?_; (case k1 => k_asm); (case k2 => k_mem); (case k3 => with_reducible assumption); k_whole) | (refine' led_notin_str ?k1 ?k2 ?k3 ?_; (case k1 => k_asm); (case k2 => k_mem); (case k3 => with_reducible assumption); k_whole)))
  k_with "eval Tuple" => (k_here; k_dflt (refine' tup_lit ?k1 ?k2 ?k3 ?k4 ?_; (case k1 => exact rfl); (case k2 => exact Nat.le_of_ble_eq_true rfl); (case k3 => k_asm); (case k4 => k_asm); k_whole); intro _ _ _ _ _ _ _ _)
  k_with "call builtin:list.index" => (k_here; (with_reducible show wpAny _ _ (call (Value.builtin _) [Value.ref _, Value.int _ _]) _ _ _); k_dflt (refine' led_index ?k1 ?k2 ?k3 ?k4 ?k5 ?_; (case k1 => k_asm); (case k2 => k_mem); (case k3 => assumption); (case k4 => assumption); (case k5 => omega); k_whole))
  k_with "pyIter ref" => refine held_of ?_
  k_with "InvEndN" => k_extra "InvEndN"
  k_with "k_steps" => repeat' (first | (k_unfold; (try dsimp only)) | (k_end; fail_if_success skip) | walk1 | (dsimp only; walk1) | fail "no step")
  k_with "kst_same" => (intro z h1 h2 h3; (try simp only [List.contains_cons, List.contains_nil, Bool.or_false, Bool.or_eq_false_iff, beq_eq_false_iff_ne, ne_eq] at h3); (simp [h1, h3, kstB]; done))
  k_with "ktr_enter" => first | (refine' code_def ?k1 ?k2 ?k3 ?k4 ?k5 ?kA ?kF ?kK ?k6 ?k7 ?k8 ?k9 ?kB ?_ ?c2 ?c3 ?c4 ?c5; (case kA => exact rfl); (case kF => exact rfl); (case kK => assumption); (case k1 => k_asm); (case k2 => k_asm); (case k3 => k_asm); (case k4 => k_asm); (case k5 => k_asm); (case k6 => k_is); (case k7 => k_is); (case k8 => ktr_room); (case k9 => first | exact BindsTo.of_eq rfl | exact binds_K (by k_in) rfl (by k_is) rfl rfl rfl); (case c5 => decide); (case kB => exact locs rfl); (case c2 => exact rfl); (case c3 => exact rfl); (case c4 => exact rfl); k_whole; walk_at "tl1") | (refine' code_defC ?k1 ?k2 ?k3 ?k4 ?k5 ?kA ?kF ?kK ?k6 ?k7 ?k8 ?k9 ?kB ?kD ?_ ?c2 ?c3 ?c4; (case kA => exact rfl); (case kF => exact rfl); (case kK => assumption); (case k1 => k_asm); (case k2 => k_asm); (case k3 => k_asm); (case k4 => k_asm); (case k5 => k_asm); (case k6 => k_is); (case k7 => k_is); (case k8 => ktr_room); (case k9 => first | exact BindsTo.of_eq rfl | exact binds_K (by k_in) rfl (by k_is) rfl rfl rfl); (case kB => exact rfl); (case kD => decide +kernel); (case c2 => exact rfl); (case c3 => exact rfl); (case c4 => exact rfl); k_whole; walk_at "tl2")
  k_with "call builtin:len" => (k_here; k_dflt (refine' base_len ?k1 ?k2 ?k3 ?k4 ?_; (case k1 => k_asm); (case k2 => k_extra "base"); (case k3 => assumption); (case k4 => omega); k_whole))
  k_with "subscriptTail" => (k_here; k_dflt (refine' base_int ?k1 ?k2 ?k3 ?k4 ?k5 ?k6 ?_ ?k7; (case k1 => k_asm); (case k2 => k_extra "base"); (case k3 => assumption); (case k4 => assumption); (case k5 => omega); (case k6 => omega); (case k7 => with_unfolding_all rfl); k_whole; intro _))
  revert X; k_fill; intro X
  refine wpAny_call ?_
  k_dflt ktr_enter
  rename Fr h₀ L _ _ => FG9
  have hl' := IsList.keeps9 hl FG9
  k_with "base" =>
    exact hl'
  k_steps
  all_goals (rename Fr h₀ L _ _ => kF; rename News h₀ L _ _ => kN; exact k _ _ _ _ kF fun p hp => kN p (.tail _ hp))
end
end
section
section
variable {w : World} {mean : ExcName → Option Value} {mg mb : Str → Option Value} {dp un : Nat} {gd : Option (List Code)} {cn : Str} {cs : Scope} {a : Addr} {ccd : Value} {cl : List (Str × Addr)} {outer : List Env} {A₀ : Around} {base h₀ : Heap} {L : Addr} {m : Str → Option Value} {news : List (Addr × Obj)} {s : Shared} {Q E : Value → Shared → Prop}

/-- the words that a script draws from -/
noncomputable def poolL : List Str := ["html:b", "html:i", "html:a", "html:nobr", "html:em", "html:span", "html:rt", "html:option", "html:p", "html:li", "html:div", "html:td", "html:table", "html:object", "html:button", "svg:g", "svg:desc", "svg:title", "svg:foreignObject", "svg:b", "math:mi", "math:b", "math:annotation-xml", "math:title", "html:marquee", "html:template", "html:caption", "html:html", "html:th", "html:applet", "html:dd", "html:rtc", "math:mtext", "svg:mi"].map Str.ofString
set_option maxHeartbeats 8000000 in
theorem pool_c
  (B : Below A₀ base outer h₀) (F : Fr h₀ L s.heap m) (X : (K w.params).In h₀) (N : News h₀ L s.heap news) (T : TopP mean mg mb h₀) (hk : cs.kind = .function) (hd : dp + 3 < recursionLimit) (hu : un + 30 < cLine)
  (k : ∀ r vs e h' tk', Fr h₀ L h' m → News h₀ L h' ((r, listOf (List.toArray vs) e) :: news) → (∀ p ∈ news, p.1 < r) → StrsAre vs poolL → Q (.ref r) { s with heap := h', toks := tk' }) :
  wpAny (model PySem.Challenge.rw_pb0145_01.row.prog w) (ktrTop dp un gd cn cs L a ccd cl outer) (call (.ref 509) []) Q E s := by
  revert X; k_fill; intro X
  refine wpAny_call ?_
  k_dflt ktr_enter
  k_steps
  rename Fr h₀ L _ _ => kF; rename News h₀ L _ _ => kN; rename StrsAre _ _ => ha; rename _ = Txt.words _ => e
  exact k _ _ _ _ _ kF kN (by assumption) (by have e2 : _ = poolL := by { refine e.trans ?_; decide +kernel }; rw [e2] at ha; exact ha)
end
end
section
section
variable {w : World} {mean : ExcName → Option Value} {mg mb : Str → Option Value} {dp un : Nat} {gd : Option (List Code)} {cn : Str} {cs : Scope} {a : Addr} {ccd : Value} {cl : List (Str × Addr)} {outer : List Env} {A₀ : Around} {base h₀ : Heap} {L : Addr} {m : Str → Option Value} {news : List (Addr × Obj)} {s : Shared} {Q E : Value → Shared → Prop}

noncomputable def endersL : List Str := ["html:td", "html:table", "html:object", "html:marquee", "html:template", "html:caption", "html:html", "html:th", "html:applet", "svg:desc", "svg:title", "svg:foreignObject", "math:mi", "math:mtext", "math:annotation-xml"].map Str.ofString
set_option maxHeartbeats 8000000 in
theorem enders_c
  (B : Below A₀ base outer h₀) (F : Fr h₀ L s.heap m) (X : (K w.params).In h₀) (N : News h₀ L s.heap news) (T : TopP mean mg mb h₀) (hk : cs.kind = .function) (hd : dp + 5 < recursionLimit) (hu : un + 50 < cLine)
  (k : ∀ r vs e h' tk', Fr h₀ L h' m → News h₀ L h' ((r, listOf (List.toArray vs) e) :: news) → (∀ p ∈ news, p.1 < r) → StrsAre vs endersL → Q (.ref r) { s with heap := h', toks := tk' }) :
  wpAny (model PySem.Challenge.rw_pb0145_01.row.prog w) (ktrTop dp un gd cn cs L a ccd cl outer) (call (.ref 516) []) Q E s := by
  revert X; k_fill; intro X
  refine wpAny_call ?_
  k_dflt ktr_enter
  k_steps
  rename Fr h₀ L _ _ => kF; rename News h₀ L _ _ => kN; rename StrsAre _ _ => ha
  exact k _ _ _ _ _ kF kN (by assumption) (strs_eq ha (by decide +kernel))
end
end
section
section
variable {w : World} {mean : ExcName → Option Value} {mg mb : Str → Option Value} {dp un : Nat} {gd : Option (List Code)} {cn : Str} {cs : Scope} {a : Addr} {ccd : Value} {cl : List (Str × Addr)} {outer : List Env} {A₀ : Around} {base h₀ : Heap} {L : Addr} {m : Str → Option Value} {news : List (Addr × Obj)} {s : Shared} {Q E : Value → Shared → Prop}

/-- enders, and what else is special and not under them -/
noncomputable def specials9L : List Str := endersL ++ ["html:body", "html:p", "html:li", "html:div", "html:button", "html:dd"].map Str.ofString
set_option maxHeartbeats 8000000 in
theorem specials_c
  (B : Below A₀ base outer h₀) (F : Fr h₀ L s.heap m) (X : (K w.params).In h₀) (N : News h₀ L s.heap news) (T : TopP mean mg mb h₀) (hk : cs.kind = .function) (hd : dp + 9 < recursionLimit) (hu : un + 90 < cLine)
  (k : ∀ r vs e h' tk', Fr h₀ L h' m → News h₀ L h' ((r, listOf (List.toArray vs) e) :: news) → (∀ p ∈ news, p.1 < r) → StrsAre vs specials9L → Q (.ref r) { s with heap := h', toks := tk' }) :
  wpAny (model PySem.Challenge.rw_pb0145_01.row.prog w) (ktrTop dp un gd cn cs L a ccd cl outer) (call (.ref 523) []) Q E s := by
  k_with "call ref" => (k_here; (with_reducible show wpAny _ _ (call (Value.ref 516) _) _ _ _); k_dflt (refine' enders_c ?B ?F ?X ?N ?T ?hk ?hd ?hu ?_; (case B => k_asm); (case F => k_asm); (case X => k_asm); (case N => k_asm); (case T => k_asm); (case hk => first | exact rfl | assumption); (case hd => ktr_room); (case hu => first | ktr_units | exact Nat.le_of_ble_eq_true rfl); k_whole); intro _ _ _ _ _ _ _ _ _)
  k_with "eval ListComp" => (k_here; lct_look; k_dflt (refine LCt.ListComp_T (F₀ := by k_asm) (by with_unfolding_all rfl) (by decide) (by rfl) (by decide) (by rfl) ?_); k_dflt (repeat (first | (with_reducible refine compT_held ?_) | walk1 | (dsimp only; walk1))))
  k_with "exec Assign cons ListComp" => (k_here; lct_look; k_dflt (refine LCt.Assign_ListComp_T (F₀ := by k_asm) (by rfl) (by with_unfolding_all rfl) (by with_unfolding_all rfl) (by decide) (by rfl) (by decide) (by rfl) (by rfl) (by rfl) ?_); k_dflt (repeat (first | (with_reducible refine compT_held ?_) | walk1 | (dsimp only; walk1))))
  k_with "binaryOp Add ref ref" => (k_here; k_dflt (refine' led_add ?k1 ?k2 ?k3 ?k4 ?k5 ?k6 ?k7 ?_; (case k1 => k_asm); (case k2 => k_asm); (case k3 => k_mem); (case k4 => k_mem); (case k5 => assumption); (case k6 => assumption); (case k7 => exact Nat.le_of_ble_eq_true rfl); k_whole); intro _ _ _ _ _ _ _)
  revert X; k_fill; intro X
  refine wpAny_call ?_
  k_dflt ktr_enter
  k_steps
  rename Fr h₀ L _ _ => kF; rename News h₀ L _ _ => kN; rename StrsAre _ _ => ha; rename ∀ p, _ ∈ _ → _ < _ => l9
  exact k _ _ _ _ _ kF (fun p hp => kN p (by rcases List.mem_cons.mp hp with e | hp; (rw [e]; exact .head _); exact .tail _ (.tail _ (.tail _ hp)))) (fun p hp => l9 p (.tail _ (.tail _ hp))) (strs_eq ha (by decide +kernel))
end
end
section
section
variable {w : World} {mean : ExcName → Option Value} {mg mb : Str → Option Value} {dp un : Nat} {gd : Option (List Code)} {cn : Str} {cs : Scope} {a : Addr} {ccd : Value} {cl : List (Str × Addr)} {outer : List Env} {A₀ : Around} {base h₀ : Heap} {L : Addr} {m : Str → Option Value} {news : List (Addr × Obj)} {s : Shared} {Q E : Value → Shared → Prop}

noncomputable def implied9L : List Str := ["html:rt", "html:rtc", "html:option", "html:p", "html:li", "html:dd"].map Str.ofString
set_option maxHeartbeats 8000000 in
theorem implied9_c
  (B : Below A₀ base outer h₀) (F : Fr h₀ L s.heap m) (X : (K w.params).In h₀) (N : News h₀ L s.heap news) (T : TopP mean mg mb h₀) (hk : cs.kind = .function) (hd : dp + 5 < recursionLimit) (hu : un + 50 < cLine)
  (k : ∀ r vs e h' tk', Fr h₀ L h' m → News h₀ L h' ((r, listOf (List.toArray vs) e) :: news) → (∀ p ∈ news, p.1 < r) → StrsAre vs implied9L → Q (.ref r) { s with heap := h', toks := tk' }) :
  wpAny (model PySem.Challenge.rw_pb0145_01.row.prog w) (ktrTop dp un gd cn cs L a ccd cl outer) (call (.ref 530) []) Q E s := by
  k_with "eval ListComp" => (k_here; lct_look; k_dflt (refine LCt.ListComp_T (F₀ := by k_asm) (by with_unfolding_all rfl) (by decide) (by rfl) (by decide) (by rfl) ?_); k_dflt (repeat (first | (with_reducible refine compT_held ?_) | walk1 | (dsimp only; walk1))))
  k_with "exec Assign cons ListComp" => (k_here; lct_look; k_dflt (refine LCt.Assign_ListComp_T (F₀ := by k_asm) (by rfl) (by with_unfolding_all rfl) (by with_unfolding_all rfl) (by decide) (by rfl) (by decide) (by rfl) (by rfl) (by rfl) ?_); k_dflt (repeat (first | (with_reducible refine compT_held ?_) | walk1 | (dsimp only; walk1))))
  revert X; k_fill; intro X
  refine wpAny_call ?_
  k_dflt ktr_enter
  k_steps
  rename Fr h₀ L _ _ => kF; rename News h₀ L _ _ => kN; rename StrsAre _ _ => ha
  exact k _ _ _ _ _ kF kN (by assumption) (strs_eq ha (by decide +kernel))
end
end
section
/-- what _law_other says -/
noncomputable def placesL (words : List Str) (many : Nat) (name : Str) : List Int := (upto many).filter (fun k => sAt words k == Str.ofString "html:" ++ name)
noncomputable def stopsL (words : List Str) (many : Nat) : List Int := (upto many).filter (fun k => specials9L.any (· == sAt words k))
noncomputable def solidL (words : List Str) (many : Nat) (k : Int) : List Str := ((words.take many).drop (k + 1).toNat).filter (fun x => !implied9L.any (· == x))
theorem placesL_mem {words : List Str} {many : Nat} {name : Str} {x : Int} (h : x ∈ placesL words many name) : 0 ≤ x ∧ x < many := upto_mem (List.mem_filter.mp h).1
noncomputable def other9 (words : List Str) (many : Nat) (name : Str) : Int × List Str :=
  if stopsL words many = [] then (many, [])
  else if placesL words many name = [] ∨ last9 (placesL words many name) < last9 (stopsL words many) then (many, [Str.ofString "unexpected-end-tag"])
  else (last9 (placesL words many name), if solidL words many (last9 (placesL words many name)) ≠ [] then [Str.ofString "open-elements"] else [])
/-- what _law_due says -/
noncomputable def marksL (active : List Int) : List Int := (upto active.length).filter (fun k => iAt active k == -1)
noncomputable def behindL (active : List Int) : List Int := if marksL active ≠ [] then active.drop (last9 (marksL active) + 1).toNat else active
noncomputable def namedL (words : List Str) (nodes active : List Int) (name : Str) : List Int := (behindL active).filter (fun x => sAt words (nodes.idxOf x : Nat) == Str.ofString "html:" ++ name)
noncomputable def overL (words : List Str) (nodes : List Int) (many : Nat) (x : Int) : List Str := (words.take many).drop (nodes.idxOf x + 1)
noncomputable def due9 (words : List Str) (nodes : List Int) (many : Nat) (active : List Int) (name : Str) : Int × Int × List Int × List Str :=
  if namedL words nodes active name = [] then (-1, (other9 words many name).1, active, (other9 words many name).2)
  else if last9 (namedL words nodes active name) ∉ nodes.take many then (-1, many, active.filter (fun x => !decide (x = last9 (namedL words nodes active name))), [Str.ofString "adoption"])
  else if (overL words nodes many (last9 (namedL words nodes active name))).filter (fun x => endersL.any (· == x)) ≠ [] then (-1, many, active, [Str.ofString "adoption"])
  else (last9 (namedL words nodes active name), many, active, if overL words nodes many (last9 (namedL words nodes active name)) ≠ [] then [Str.ofString "adoption"] else [])
/-- the words, each with its space and its name -/
noncomputable def pairsL : List (Str × Str) := [("html", "b"), ("html", "i"), ("html", "a"), ("html", "nobr"), ("html", "em"), ("html", "span"), ("html", "rt"), ("html", "option"), ("html", "p"), ("html", "li"), ("html", "div"), ("html", "td"),
  ("html", "table"), ("html", "object"), ("html", "button"), ("svg", "g"), ("svg", "desc"), ("svg", "title"), ("svg", "foreignObject"), ("svg", "b"), ("math", "mi"), ("math", "b"),
  ("math", "annotation-xml"), ("math", "title"), ("html", "marquee"), ("html", "template"), ("html", "caption"), ("html", "html"), ("html", "th"), ("html", "applet"), ("html", "dd"), ("html", "rtc"), ("math", "mtext"), ("svg", "mi")].map fun p => (Str.ofString p.1, Str.ofString p.2)
noncomputable def pairsX : List (Str × Str) := (Str.ofString "html", Str.ofString "html") :: (Str.ofString "html", Str.ofString "body") :: pairsL
noncomputable def glue (p : Str × Str) : Str := p.1 ++ Str.ofString ":" ++ p.2
theorem pool_pairs : poolL = pairsL.map glue := by decide +kernel
theorem marksL_mem {active : List Int} {x : Int} (h : x ∈ marksL active) : 0 ≤ x ∧ x < active.length := upto_mem (List.mem_filter.mp h).1
theorem behind_len (active : List Int) : (behindL active).length ≤ active.length := by
  unfold behindL
  split
  · rw [List.length_drop]; omega
  · exact Nat.le_refl _
end
section
section
variable {w : World} {mean : ExcName → Option Value} {mg mb : Str → Option Value} {dp un : Nat} {gd : Option (List Code)} {cn : Str} {cs : Scope} {a : Addr} {ccd : Value} {cl : List (Str × Addr)} {outer : List Env} {A₀ : Around} {base h₀ : Heap} {L : Addr} {m : Str → Option Value} {news : List (Addr × Obj)} {s : Shared} {Q E : Value → Shared → Prop}

theorem size_push9T1a {vs : List Value} {x : Value} : (vs.toArray.push x).size = vs.length + 1 := by simp
theorem led_lenT1a {its : Array Value} {D : Addr} {n k : Nat} {prog : Program} {A : Around} {Q : Value → Shared → Prop} (N : News h₀ L s.heap news) (hm : (D, listOf its n) ∈ news) (e : its.size = k) (hz : k < 2 ^ 62)
    (h : ∀ t k', Q (.int (k : Int) t) { s with toks := k' }) : wpAny (model prog w) A (call (.builtin "len") [.ref D]) Q E s := by
  cases its with
  | mk vs => exact led_len N hm (by simpa using e) hz h
set_option maxHeartbeats 8000000 in
theorem adda_c {t td kk ss nn ta tx pp cc co : Addr} {et : List DictEntry} {nt n1 n2 n3 n4 n5 n6 n7 : Nat} {kv sv nv av tv pv cv : List Value} {oc : Obj} {rest : List (Addr × Obj)} {kind : Str} {t1 : Tok}
  (B : Below A₀ base outer h₀) (F : Fr h₀ L s.heap m) (X : (K w.params).In h₀) (N : News h₀ L s.heap ((t, instObj 413 td) :: (td, dictOf et nt) :: (kk, listOf kv.toArray n1) :: (ss, listOf sv.toArray n2) :: (nn, listOf nv.toArray n3) :: (ta, listOf av.toArray n4) :: (tx, listOf tv.toArray n5) :: (pp, listOf pv.toArray n6) :: (cc, listOf cv.toArray n7) :: (co, oc) :: rest)) (T : TopP mean mg mb h₀) (hk : cs.kind = .function) (hd : dp + 3 < recursionLimit) (hu : un + 30 < cLine)
  (D : TrD et kk ss nn ta tx pp cc co) (ord : @LT.lt Nat _ td t ∧ @LT.lt Nat _ t kk ∧ @LT.lt Nat _ kk ss ∧ @LT.lt Nat _ ss nn ∧ @LT.lt Nat _ nn ta ∧ @LT.lt Nat _ ta tx ∧ @LT.lt Nat _ tx pp ∧ @LT.lt Nat _ pp cc ∧ @LT.lt Nat _ cc co)
  (hr : ∀ p ∈ rest, @LT.lt Nat _ p.1 td ∨ @LT.lt Nat _ co p.1)
  (hz1 : kv.length ≤ 100) (hz2 : sv.length ≤ 100) (hz3 : nv.length ≤ 100) (hz4 : av.length ≤ 100) (hz5 : tv.length ≤ 100) (hz6 : pv.length ≤ 100) (hz7 : cv.length ≤ 100)
  (k : ∀ c al tq t2 t3 t4 tr h' tk', Fr h₀ L h' m → News h₀ L h' ((t, instObj 413 td) :: (td, dictOf et nt) :: (kk, listOf (List.toArray (kv ++ [Value.str kind t1])) (n1 + 1)) :: (ss, listOf (List.toArray (sv ++ [Value.str (Str.ofString "") t2])) (n2 + 1)) :: (nn, listOf (List.toArray (nv ++ [Value.str (Str.ofString "") t3])) (n3 + 1)) :: (ta, listOf (List.toArray (av ++ [Value.ref al])) (n4 + 1)) :: (tx, listOf (List.toArray (tv ++ [Value.str (Str.ofString "") t4])) (n5 + 1)) :: (pp, listOf (List.toArray (pv ++ [Value.int (-1) tq])) (n6 + 1)) :: (cc, listOf (List.toArray (cv ++ [Value.ref c])) (n7 + 1)) :: (co, oc) :: (c, listOf #[] 0) :: rest) →
    (∀ p ∈ rest, p.1 < c) → @LT.lt Nat _ co c → Q (.int (kv.length : Int) tr) { s with heap := h', toks := tk' }) :
  wpAny (model PySem.Challenge.rw_pb0145_01.row.prog w) (ktrTop dp un gd cn cs L a ccd cl outer) (call (.ref 323) [.ref t, .str kind t1]) Q E s := by
  obtain ⟨o1, o2, o3, o4, o5, o6, o7, o8, o9⟩ := ord
  have A1 : AL t [td] := AL.one o1
  have A2 : AL kk [t, td] := A1.up o2
  have A3 : AL ss [kk, t, td] := A2.up o3
  have A4 : AL nn [ss, kk, t, td] := A3.up o4
  have A5 : AL ta [nn, ss, kk, t, td] := A4.up o5
  have A6 : AL tx [ta, nn, ss, kk, t, td] := A5.up o6
  have A7 : AL pp [tx, ta, nn, ss, kk, t, td] := A6.up o7
  have A8 : AL cc [pp, tx, ta, nn, ss, kk, t, td] := A7.up o8
  have A9 : AL co [cc, pp, tx, ta, nn, ss, kk, t, td] := A8.up o9
  have e1 : ∀ p ∈ rest, p.1 ≠ kk := off_blk hr (A2.lt (by walk_at "memR")) (A9.lt (by walk_at "memR"))
  have e2 : ∀ p ∈ rest, p.1 ≠ ss := off_blk hr (A3.lt (by walk_at "memR")) (A9.lt (by walk_at "memR"))
  have e3 : ∀ p ∈ rest, p.1 ≠ nn := off_blk hr (A4.lt (by walk_at "memR")) (A9.lt (by walk_at "memR"))
  have e4 : ∀ p ∈ rest, p.1 ≠ ta := off_blk hr (A5.lt (by walk_at "memR")) (A9.lt (by walk_at "memR"))
  have e5 : ∀ p ∈ rest, p.1 ≠ tx := off_blk hr (A6.lt (by walk_at "memR")) (A9.lt (by walk_at "memR"))
  have e6 : ∀ p ∈ rest, p.1 ≠ pp := off_blk hr (A7.lt (by walk_at "memR")) (A9.lt (by walk_at "memR"))
  have e7 : ∀ p ∈ rest, p.1 ≠ cc := off_blk hr (A8.lt (by walk_at "memR")) (A9.lt (by walk_at "memR"))
  have hlen : (kv ++ [Value.str kind t1]).length = kv.length + 1 := by simp
  k_with_none
  k_with "om" => first | assumption | exact Nat.le_trans (by assumption) (Nat.le_of_ble_eq_true rfl) | exact Nat.lt_of_le_of_lt (by assumption) (Nat.le_of_ble_eq_true rfl) | decide | omega
  k_with "k_get" => (first | k_extra "getd" | with_reducible assumption | with_reducible_and_instances exact Dct.get (by assumption) (by k_mem) | exact Dct.get (by assumption) (by k_mem))
  k_with "k_upd" => first | assumption | k_extra "upd" | (refine' Upd.head ?a; (case a => k_all)) | (refine' Upd.tail ?a ?b; (case a => k_ne); (case b => k_upd))
  k_with "exec While" => refine held_of ?_
  k_with "call builtin:len" => (k_here; (with_reducible show wpAny _ _ (call (Value.builtin "len") [Value.ref _]) _ _ _); k_dflt (refine' led_len ?k1 ?k2 ?k3 ?k4 ?_; (case k1 => k_asm); (case k2 => k_mem); (case k3 => first | exact IntsAre.length (by assumption) | exact PyProof.Rows.StrsAre.length (by assumption) | assumption); (case k4 => walk_at "om"); k_whole); intro _ _)
  k_with "subs9" => (k_here; (with_reducible show wpAny _ _ (subscriptTail _ _ (Value.ref _) (Value.int _ _)) _ _ _); k_dflt (first | (refine' led_int ?k1 ?k2 ?k3 ?k4 ?k5 ?k6 ?_ ?k7; (case k1 => k_asm); (case k2 => k_mem); (case k3 => assumption); (case k4 => first | omega | k_extra "bnd"); (case k5 => first | omega | k_extra "bnd"); (case k6 => omega); (case k7 => with_unfolding_all rfl); k_whole; intro _ _; (try k_extra "fact")) | (refine' led_str ?k1 ?k2 ?k3 ?k4 ?k5 ?k6 ?_ ?k7; (case k1 => k_asm); (case k2 => k_mem); (case k3 => assumption); (case k4 => first | omega | k_extra "bnd"); (case k5 => first | omega | k_extra "bnd"); (case k6 => omega); (case k7 => with_unfolding_all rfl); k_whole; intro _)))
  k_with "subscriptTail" => walk_at "subs9"
  k_with "subscriptTail Name Name ref int" => walk_at "subs9"
  k_with "subscriptTail Attribute Name ref int" => walk_at "subs9"
  k_with "compareOp In int ref" => (k_here; k_dflt (refine' led_in ?k1 ?k2 ?k3 ?_; (case k1 => k_asm); (case k2 => k_mem); (case k3 => assumption); k_whole))
  k_with "compareOp NotIn int ref" => (k_here; k_dflt (refine' led_notin ?k1 ?k2 ?k3 ?_; (case k1 => k_asm); (case k2 => k_mem); (case k3 => assumption); k_whole))
  k_with "compareOp In str ref" => (k_here; k_dflt (first | (refine' led_in_str ?k1 ?k2 ?k3 ?_; (case k1 => k_asm); (case k2 => walk_at "memR"); (case k3 => with_reducible assumption); k_whole) | (refine' led_in_tup ?k1 ?k2 ?k3 ?_; (case k1 => k_asm); (case k2 => walk_at "memR"); (case k3 => with_reducible assumption); k_whole) | (refine' led_in_tup ?k1 ?k2 ?k3 ?_; (case k1 => k_asm); (case k2 => k_mem); (case k3 => with_reducible assumption); k_whole) | (refine' led_in_str ?k1 ?k2 ?k3 ?_; (case k1 => k_asm); (case k2 => k_mem); (case k3 => with_reducible assumption); k_whole)))
  k_with "compareOp NotIn str ref" => (k_here; k_dflt (first | (refine' led_notin_str ?k1 ?k2 ?k3 ?_; (case k1 => k_asm); (case k2 => walk_at "memR"); (case k3 => with_reducible assumption); k_whole) | (refine' led_notin_tup ?k1 ?k2 ?k3 ?_; (case k1 => k_asm); (case k2 => walk_at "memR"); (case k3 => with_reducible assumption); k_whole) | (refine' led_notin_tup ?k1 ?k2 ?k3 ?_; (case k1 => k_asm); (case k2 => k_mem); (case k3 => with_reducible assumption); k_whole) | (refine' led_notin_str ?k1 ?k2 ?k3 ?_; (case k1 => k_asm); (case k2 => k_mem); (case k3 => with_reducible assumption); k_whole)))
  k_with "eval Tuple" => (k_here; k_dflt (refine' tup_lit ?k1 ?k2 ?k3 ?k4 ?_; (case k1 => exact rfl); (case k2 => exact Nat.le_of_ble_eq_true rfl); (case k3 => k_asm); (case k4 => k_asm); k_whole); intro _ _ _ _ _ _ _ _)
  k_with "call builtin:list.index" => (k_here; (with_reducible show wpAny _ _ (call (Value.builtin _) [Value.ref _, Value.int _ _]) _ _ _); k_dflt (refine' led_index ?k1 ?k2 ?k3 ?k4 ?k5 ?_; (case k1 => k_asm); (case k2 => k_mem); (case k3 => assumption); (case k4 => assumption); (case k5 => omega); k_whole))
  k_with "pyIter ref" => refine held_of ?_
  k_with "InvEndN" => k_extra "InvEndN"
  k_with "k_steps" => repeat' (first | (k_unfold; (try dsimp only)) | (k_end; fail_if_success skip) | walk1 | (dsimp only; walk1) | fail "no step")
  k_with "kst_same" => (intro z h1 h2 h3; (try simp only [List.contains_cons, List.contains_nil, Bool.or_false, Bool.or_eq_false_iff, beq_eq_false_iff_ne, ne_eq] at h3); (simp [h1, h3, kstB]; done))
  k_with "ktr_enter" => first | (refine' code_def ?k1 ?k2 ?k3 ?k4 ?k5 ?kA ?kF ?kK ?k6 ?k7 ?k8 ?k9 ?kB ?_ ?c2 ?c3 ?c4 ?c5; (case kA => exact rfl); (case kF => exact rfl); (case kK => assumption); (case k1 => k_asm); (case k2 => k_asm); (case k3 => k_asm); (case k4 => k_asm); (case k5 => k_asm); (case k6 => k_is); (case k7 => k_is); (case k8 => ktr_room); (case k9 => first | exact BindsTo.of_eq rfl | exact binds_K (by k_in) rfl (by k_is) rfl rfl rfl); (case c5 => decide); (case kB => exact locs rfl); (case c2 => exact rfl); (case c3 => exact rfl); (case c4 => exact rfl); k_whole; walk_at "tl1") | (refine' code_defC ?k1 ?k2 ?k3 ?k4 ?k5 ?kA ?kF ?kK ?k6 ?k7 ?k8 ?k9 ?kB ?kD ?_ ?c2 ?c3 ?c4; (case kA => exact rfl); (case kF => exact rfl); (case kK => assumption); (case k1 => k_asm); (case k2 => k_asm); (case k3 => k_asm); (case k4 => k_asm); (case k5 => k_asm); (case k6 => k_is); (case k7 => k_is); (case k8 => ktr_room); (case k9 => first | exact BindsTo.of_eq rfl | exact binds_K (by k_in) rfl (by k_is) rfl rfl rfl); (case kB => exact rfl); (case kD => decide +kernel); (case c2 => exact rfl); (case c3 => exact rfl); (case c4 => exact rfl); k_whole; walk_at "tl2")
  k_with "ltmode" => skip
  k_with "ne" => first | (refine' AL.hi ?h ?m; (case h => with_reducible assumption); (case m => walk_at "memR")) | (refine' AL.lo ?h ?m; (case h => with_reducible assumption); (case m => walk_at "memR"))
  k_with "call type:list" => (k_here; (with_reducible show wpAny _ _ (call (Value.type _) [Value.ref _]) _ _ _); k_dflt (refine' list_copyKT ?k1 ?k2 ?k3 ?_ ?z; (case k1 => k_asm); (case k2 => k_asm); (case k3 => exact TupAt.is (by with_reducible assumption) (by k_asm) (by k_asm) (by k_asm) (by intro p hp; repeat (first | exact hp | refine List.mem_cons_of_mem _ ?_))); (case z => k_extra "tupz"); k_whole); walk_at "tl4")
  k_with "call builtin:len" => (k_here; (with_reducible show wpAny _ _ (call (Value.builtin "len") [Value.ref _]) _ _ _); k_dflt (refine' led_lenT1a ?k1 ?k2 ?k3 ?k4 ?_; (case k1 => k_asm); (case k2 => walk_at "memR"); (case k3 => exact size_push9T1a); (case k4 => omega); k_whole); intro _ _)
  k_with "getd" =>
    exact D.get (by k_mem)
  k_with "tupz" =>
    rw [sizeLine_eq]; omega
  revert X; k_fill; intro X
  have hT : TupAt w.params rest 315 #[] := .inl ⟨_, by k_is, rfl, _, rfl⟩
  have hz0 : (#[] : Array Value).size ≤ 100 := Nat.zero_le _
  refine wpAny_call ?_
  k_dflt ktr_enter
  k_steps
  rename Fr h₀ L _ _ => kF; rename News h₀ L _ _ => kN
  rename ∀ p, _ ∈ _ → _ < _ => l9
  have ez : ((kv.length + 1 : Nat) : Int) - 1 = (kv.length : Int) := by omega
  rw [ez]
  simp only [List.push_toArray] at kN
  refine' k ?c ?al ?tq ?t2 ?t3 ?t4 ?tr _ _ kF (News.perm kN ?hs) ?f1 ?f2
  case hs =>
    repeat refine List.forall_mem_cons.mpr ⟨by k_mem, ?_⟩
    intro p hp; repeat (first | exact hp | refine List.mem_cons_of_mem _ ?_)
  case f1 => exact fun p hp => l9 p (by repeat (first | exact hp | refine List.mem_cons_of_mem _ ?_))
  case f2 => exact lt_lo l9 (by k_mem)
end
end
section
section
variable {w : World} {mean : ExcName → Option Value} {mg mb : Str → Option Value} {dp un : Nat} {gd : Option (List Code)} {cn : Str} {cs : Scope} {a : Addr} {ccd : Value} {cl : List (Str × Addr)} {outer : List Env} {A₀ : Around} {base h₀ : Heap} {L : Addr} {m : Str → Option Value} {news : List (Addr × Obj)} {s : Shared} {Q E : Value → Shared → Prop}

theorem size_push9T1b {vs : List Value} {x : Value} : (vs.toArray.push x).size = vs.length + 1 := by simp
theorem led_lenT1b {its : Array Value} {D : Addr} {n k : Nat} {prog : Program} {A : Around} {Q : Value → Shared → Prop} (N : News h₀ L s.heap news) (hm : (D, listOf its n) ∈ news) (e : its.size = k) (hz : k < 2 ^ 62)
    (h : ∀ t k', Q (.int (k : Int) t) { s with toks := k' }) : wpAny (model prog w) A (call (.builtin "len") [.ref D]) Q E s := by
  cases its with
  | mk vs => exact led_len N hm (by simpa using e) hz h
set_option maxHeartbeats 8000000 in
theorem addb_c {t td kk ss nn ta tx pp cc co ax : Addr} {et : List DictEntry} {nt n1 n2 n3 n4 n5 n6 n7 : Nat} {kv sv nv av tv pv cv : List Value} {oc : Obj} {rest : List (Addr × Obj)} {kind space name : Str} {t1 t2 t3 : Tok} {ai : Array Value}
  (B : Below A₀ base outer h₀) (F : Fr h₀ L s.heap m) (X : (K w.params).In h₀) (N : News h₀ L s.heap ((t, instObj 413 td) :: (td, dictOf et nt) :: (kk, listOf kv.toArray n1) :: (ss, listOf sv.toArray n2) :: (nn, listOf nv.toArray n3) :: (ta, listOf av.toArray n4) :: (tx, listOf tv.toArray n5) :: (pp, listOf pv.toArray n6) :: (cc, listOf cv.toArray n7) :: (co, oc) :: rest)) (T : TopP mean mg mb h₀) (hk : cs.kind = .function) (hd : dp + 3 < recursionLimit) (hu : un + 30 < cLine)
  (D : TrD et kk ss nn ta tx pp cc co) (ord : @LT.lt Nat _ td t ∧ @LT.lt Nat _ t kk ∧ @LT.lt Nat _ kk ss ∧ @LT.lt Nat _ ss nn ∧ @LT.lt Nat _ nn ta ∧ @LT.lt Nat _ ta tx ∧ @LT.lt Nat _ tx pp ∧ @LT.lt Nat _ pp cc ∧ @LT.lt Nat _ cc co)
  (hr : ∀ p ∈ rest, @LT.lt Nat _ p.1 td ∨ @LT.lt Nat _ co p.1) (hT : TupAt w.params rest ax ai) (hz0 : ai.size ≤ 100)
  (hz1 : kv.length ≤ 100) (hz2 : sv.length ≤ 100) (hz3 : nv.length ≤ 100) (hz4 : av.length ≤ 100) (hz5 : tv.length ≤ 100) (hz6 : pv.length ≤ 100) (hz7 : cv.length ≤ 100)
  (k : ∀ c al tq t4 tr h' tk', Fr h₀ L h' m → News h₀ L h' ((t, instObj 413 td) :: (td, dictOf et nt) :: (kk, listOf (List.toArray (kv ++ [Value.str kind t1])) (n1 + 1)) :: (ss, listOf (List.toArray (sv ++ [Value.str space t2])) (n2 + 1)) :: (nn, listOf (List.toArray (nv ++ [Value.str name t3])) (n3 + 1)) :: (ta, listOf (List.toArray (av ++ [Value.ref al])) (n4 + 1)) :: (tx, listOf (List.toArray (tv ++ [Value.str (Str.ofString "") t4])) (n5 + 1)) :: (pp, listOf (List.toArray (pv ++ [Value.int (-1) tq])) (n6 + 1)) :: (cc, listOf (List.toArray (cv ++ [Value.ref c])) (n7 + 1)) :: (co, oc) :: (c, listOf #[] 0) :: rest) →
    (∀ p ∈ rest, p.1 < c) → @LT.lt Nat _ co c → Q (.int (kv.length : Int) tr) { s with heap := h', toks := tk' }) :
  wpAny (model PySem.Challenge.rw_pb0145_01.row.prog w) (ktrTop dp un gd cn cs L a ccd cl outer) (call (.ref 323) [.ref t, .str kind t1, .str space t2, .str name t3, .ref ax]) Q E s := by
  obtain ⟨o1, o2, o3, o4, o5, o6, o7, o8, o9⟩ := ord
  have A1 : AL t [td] := AL.one o1
  have A2 : AL kk [t, td] := A1.up o2
  have A3 : AL ss [kk, t, td] := A2.up o3
  have A4 : AL nn [ss, kk, t, td] := A3.up o4
  have A5 : AL ta [nn, ss, kk, t, td] := A4.up o5
  have A6 : AL tx [ta, nn, ss, kk, t, td] := A5.up o6
  have A7 : AL pp [tx, ta, nn, ss, kk, t, td] := A6.up o7
  have A8 : AL cc [pp, tx, ta, nn, ss, kk, t, td] := A7.up o8
  have A9 : AL co [cc, pp, tx, ta, nn, ss, kk, t, td] := A8.up o9
  have e1 : ∀ p ∈ rest, p.1 ≠ kk := off_blk hr (A2.lt (by walk_at "memR")) (A9.lt (by walk_at "memR"))
  have e2 : ∀ p ∈ rest, p.1 ≠ ss := off_blk hr (A3.lt (by walk_at "memR")) (A9.lt (by walk_at "memR"))
  have e3 : ∀ p ∈ rest, p.1 ≠ nn := off_blk hr (A4.lt (by walk_at "memR")) (A9.lt (by walk_at "memR"))
  have e4 : ∀ p ∈ rest, p.1 ≠ ta := off_blk hr (A5.lt (by walk_at "memR")) (A9.lt (by walk_at "memR"))
  have e5 : ∀ p ∈ rest, p.1 ≠ tx := off_blk hr (A6.lt (by walk_at "memR")) (A9.lt (by walk_at "memR"))
  have e6 : ∀ p ∈ rest, p.1 ≠ pp := off_blk hr (A7.lt (by walk_at "memR")) (A9.lt (by walk_at "memR"))
  have e7 : ∀ p ∈ rest, p.1 ≠ cc := off_blk hr (A8.lt (by walk_at "memR")) (A9.lt (by walk_at "memR"))
  have hlen : (kv ++ [Value.str kind t1]).length = kv.length + 1 := by simp
  k_with "ltmode" => skip
  k_with "ne" => first | (refine' AL.hi ?h ?m; (case h => with_reducible assumption); (case m => walk_at "memR")) | (refine' AL.lo ?h ?m; (case h => with_reducible assumption); (case m => walk_at "memR"))
  k_with "call type:list" => (k_here; (with_reducible show wpAny _ _ (call (Value.type _) [Value.ref _]) _ _ _); k_dflt (refine' list_copyKT ?k1 ?k2 ?k3 ?_ ?z; (case k1 => k_asm); (case k2 => k_asm); (case k3 => exact TupAt.is (by with_reducible assumption) (by k_asm) (by k_asm) (by k_asm) (by intro p hp; repeat (first | exact hp | refine List.mem_cons_of_mem _ ?_))); (case z => k_extra "tupz"); k_whole); walk_at "tl4")
  k_with "call builtin:len" => (k_here; (with_reducible show wpAny _ _ (call (Value.builtin "len") [Value.ref _]) _ _ _); k_dflt (refine' led_lenT1b ?k1 ?k2 ?k3 ?k4 ?_; (case k1 => k_asm); (case k2 => walk_at "memR"); (case k3 => exact size_push9T1b); (case k4 => omega); k_whole); intro _ _)
  k_with "getd" =>
    exact D.get (by k_mem)
  k_with "tupz" =>
    rw [sizeLine_eq]; omega
  revert X; k_fill; intro X
  refine wpAny_call ?_
  k_dflt ktr_enter
  k_steps
  rename Fr h₀ L _ _ => kF; rename News h₀ L _ _ => kN
  rename ∀ p, _ ∈ _ → _ < _ => l9
  have ez : ((kv.length + 1 : Nat) : Int) - 1 = (kv.length : Int) := by omega
  rw [ez]
  simp only [List.push_toArray] at kN
  refine' k ?c ?al ?tq ?t4 ?tr _ _ kF (News.perm kN ?hs) ?f1 ?f2
  case hs =>
    repeat refine List.forall_mem_cons.mpr ⟨by k_mem, ?_⟩
    intro p hp; repeat (first | exact hp | refine List.mem_cons_of_mem _ ?_)
  case f1 => exact fun p hp => l9 p (by repeat (first | exact hp | refine List.mem_cons_of_mem _ ?_))
  case f2 => exact lt_lo l9 (by k_mem)
end
end
section
section
variable {w : World} {mean : ExcName → Option Value} {mg mb : Str → Option Value} {dp un : Nat} {gd : Option (List Code)} {cn : Str} {cs : Scope} {a : Addr} {ccd : Value} {cl : List (Str × Addr)} {outer : List Env} {A₀ : Around} {base h₀ : Heap} {L : Addr} {m : Str → Option Value} {news : List (Addr × Obj)} {s : Shared} {Q E : Value → Shared → Prop}

set_option maxHeartbeats 8000000 in
theorem element_c {t td kk ss nn ta tx pp cc co ax : Addr} {et : List DictEntry} {nt n1 n2 n3 n4 n5 n6 n7 : Nat} {kv sv nv av tv pv cv : List Value} {oc : Obj} {es rest : List (Addr × Obj)} {D0 : TD} {space name : Str} {t1 t2 : Tok} {ai : Array Value}
  (B : Below A₀ base outer h₀) (F : Fr h₀ L s.heap m) (X : (K w.params).In h₀) (N : News h₀ L s.heap ((t, instObj 413 td) :: (td, dictOf et nt) :: (kk, listOf kv.toArray n1) :: (ss, listOf sv.toArray n2) :: (nn, listOf nv.toArray n3) :: (ta, listOf av.toArray n4) :: (tx, listOf tv.toArray n5) :: (pp, listOf pv.toArray n6) :: (cc, listOf cv.toArray n7) :: (co, oc) :: (es ++ rest))) (T : TopP mean mg mb h₀) (hk : cs.kind = .function) (hd : dp + 6 < recursionLimit) (hu : un + 60 < cLine)
  (D : TrD et kk ss nn ta tx pp cc co) (ord : @LT.lt Nat _ td t ∧ @LT.lt Nat _ t kk ∧ @LT.lt Nat _ kk ss ∧ @LT.lt Nat _ ss nn ∧ @LT.lt Nat _ nn ta ∧ @LT.lt Nat _ ta tx ∧ @LT.lt Nat _ tx pp ∧ @LT.lt Nat _ pp cc ∧ @LT.lt Nat _ cc co)
  (hr : ∀ p ∈ es ++ rest, @LT.lt Nat _ p.1 td ∨ @LT.lt Nat _ co p.1) (hT : TupAt w.params rest ax ai) (hz0 : ai.size ≤ 100) (H : TreeIs w D0 kv sv nv av tv pv cv oc es) (hz : D0.kinds.length ≤ 90) (nd : (es.map (·.1)).Nodup)
  (k : ∀ tr m1 m2 m3 m4 m5 m6 m7 kv' sv' nv' av' tv' pv' cv' oc' es' h' tk', Fr h₀ L h' m → News h₀ L h' ((t, instObj 413 td) :: (td, dictOf et nt) :: (kk, listOf (List.toArray kv') m1) :: (ss, listOf (List.toArray sv') m2) :: (nn, listOf (List.toArray nv') m3) :: (ta, listOf (List.toArray av') m4) :: (tx, listOf (List.toArray tv') m5) :: (pp, listOf (List.toArray pv') m6) :: (cc, listOf (List.toArray cv') m7) :: (co, oc') :: (es' ++ rest)) →
    TreeIs w (D0.elem space name) kv' sv' nv' av' tv' pv' cv' oc' es' → (∀ p ∈ es' ++ rest, @LT.lt Nat _ p.1 td ∨ @LT.lt Nat _ co p.1) → (es'.map (·.1)).Nodup → (∀ p ∈ es', p ∈ es ∨ ∀ q ∈ rest, @LT.lt Nat _ q.1 p.1) → Q (.int (D0.kinds.length : Int) tr) { s with heap := h', toks := tk' }) :
  wpAny (model PySem.Challenge.rw_pb0145_01.row.prog w) (ktrTop dp un gd cn cs L a ccd cl outer) (call (.ref 332) [.ref t, .str name t1, .str space t2, .ref ax]) Q E s := by
  have o0 := ord
  obtain ⟨o1, o2, o3, o4, o5, o6, o7, o8, o9⟩ := o0
  have q1 := StrsAre.length H.k
  have q2 := StrsAre.length H.s
  have q3 := StrsAre.length H.n
  have q4 := H.a
  have q5 := StrsAre.length H.t
  have q6 := H.p.length
  have q7 := H.c.len
  have r2 := H.ls; have r3 := H.ln; have r5 := H.lt; have r6 := H.lp; have r7 := H.lc
  have hT' : TupAt w.params (es ++ rest) ax ai := hT.more fun q hq => List.mem_append_right _ hq
  have hO := H.o
  have A1 : AL t [td] := AL.one o1
  have A2 : AL kk [t, td] := A1.up o2
  have A3 : AL ss [kk, t, td] := A2.up o3
  have A4 : AL nn [ss, kk, t, td] := A3.up o4
  have A5 : AL ta [nn, ss, kk, t, td] := A4.up o5
  have A6 : AL tx [ta, nn, ss, kk, t, td] := A5.up o6
  have A7 : AL pp [tx, ta, nn, ss, kk, t, td] := A6.up o7
  have A8 : AL cc [pp, tx, ta, nn, ss, kk, t, td] := A7.up o8
  have A9 : AL co [cc, pp, tx, ta, nn, ss, kk, t, td] := A8.up o9
  obtain ⟨z1, z2, z3, z4, z5, z6, z7⟩ := z_of H hz
  have e0 : ∀ p ∈ es ++ rest, p.1 ≠ co := off_co hr (A9.lt (by walk_at "memR"))
  k_with "ltmode" => skip
  k_with "ne" => first | (refine' AL.hi ?h ?m; (case h => with_reducible assumption); (case m => walk_at "memR")) | (refine' AL.lo ?h ?m; (case h => with_reducible assumption); (case m => walk_at "memR"))
  k_with "eval ListComp" => (k_here; lct_look; k_dflt (refine LCt.ListComp_T (F₀ := by k_asm) (by with_unfolding_all rfl) (by decide) (by rfl) (by decide) (by rfl) ?_); k_dflt (repeat (first | (with_reducible refine compT_held ?_) | walk1 | (dsimp only; walk1))))
  k_with "exec Assign cons ListComp" => (k_here; lct_look; k_dflt (refine LCt.Assign_ListComp_T (F₀ := by k_asm) (by rfl) (by with_unfolding_all rfl) (by with_unfolding_all rfl) (by decide) (by rfl) (by decide) (by rfl) (by rfl) (by rfl) ?_); k_dflt (repeat (first | (with_reducible refine compT_held ?_) | walk1 | (dsimp only; walk1))))
  k_with "call ref" => (k_here; (with_reducible show wpAny _ _ (call (Value.ref 323) [_, _]) _ _ _); k_dflt (refine' adda_c ?B ?F ?X ?N ?T ?hk ?hd ?hu ?D ?ord ?hr ?z1 ?z2 ?z3 ?z4 ?z5 ?z6 ?z7 ?_; (case B => k_asm); (case F => k_asm); (case X => k_asm); (case N => k_asm); (case T => k_asm); (case hk => first | exact rfl | assumption); (case hd => ktr_room); (case hu => first | ktr_units | exact Nat.le_of_ble_eq_true rfl); (case D => assumption); (case ord => assumption); (case hr => first | assumption | exact List.forall_mem_cons.mpr ⟨.inr (by assumption), by assumption⟩); (case z1 => first | exact le_up98 (by assumption) | exact le_snoc98 (by assumption) | ((try simp only [List.length_append, List.length_cons, List.length_nil]); omega)); (case z2 => first | exact le_up98 (by assumption) | exact le_snoc98 (by assumption) | ((try simp only [List.length_append, List.length_cons, List.length_nil]); omega)); (case z3 => first | exact le_up98 (by assumption) | exact le_snoc98 (by assumption) | ((try simp only [List.length_append, List.length_cons, List.length_nil]); omega)); (case z4 => first | exact le_up98 (by assumption) | exact le_snoc98 (by assumption) | ((try simp only [List.length_append, List.length_cons, List.length_nil]); omega)); (case z5 => first | exact le_up98 (by assumption) | exact le_snoc98 (by assumption) | ((try simp only [List.length_append, List.length_cons, List.length_nil]); omega)); (case z6 => first | exact le_up98 (by assumption) | exact le_snoc98 (by assumption) | ((try simp only [List.length_append, List.length_cons, List.length_nil]); omega)); (case z7 => first | exact le_up98 (by assumption) | exact le_snoc98 (by assumption) | ((try simp only [List.length_append, List.length_cons, List.length_nil]); omega)); k_whole); intro _ _ _ _ _ _ _ _ _ _ _ _ _)
  k_with "call ref" => (k_here; (with_reducible show wpAny _ _ (call (Value.ref 323) [_, _, _, _, _]) _ _ _); k_dflt (refine' addb_c ?B ?F ?X ?N ?T ?hk ?hd ?hu ?D ?ord ?hr ?hT ?z0 ?z1 ?z2 ?z3 ?z4 ?z5 ?z6 ?z7 ?_; (case B => k_asm); (case F => k_asm); (case X => k_asm); (case N => k_asm); (case T => k_asm); (case hk => first | exact rfl | assumption); (case hd => ktr_room); (case hu => first | ktr_units | exact Nat.le_of_ble_eq_true rfl); (case D => assumption); (case ord => assumption); (case hr => first | assumption | exact List.forall_mem_cons.mpr ⟨.inr (by assumption), by assumption⟩); (case hT => assumption); (case z0 => assumption); (case z1 => first | exact le_up98 (by assumption) | exact le_snoc98 (by assumption) | ((try simp only [List.length_append, List.length_cons, List.length_nil]); omega)); (case z2 => first | exact le_up98 (by assumption) | exact le_snoc98 (by assumption) | ((try simp only [List.length_append, List.length_cons, List.length_nil]); omega)); (case z3 => first | exact le_up98 (by assumption) | exact le_snoc98 (by assumption) | ((try simp only [List.length_append, List.length_cons, List.length_nil]); omega)); (case z4 => first | exact le_up98 (by assumption) | exact le_snoc98 (by assumption) | ((try simp only [List.length_append, List.length_cons, List.length_nil]); omega)); (case z5 => first | exact le_up98 (by assumption) | exact le_snoc98 (by assumption) | ((try simp only [List.length_append, List.length_cons, List.length_nil]); omega)); (case z6 => first | exact le_up98 (by assumption) | exact le_snoc98 (by assumption) | ((try simp only [List.length_append, List.length_cons, List.length_nil]); omega)); (case z7 => first | exact le_up98 (by assumption) | exact le_snoc98 (by assumption) | ((try simp only [List.length_append, List.length_cons, List.length_nil]); omega)); k_whole); intro _ _ _ _ _ _ _ _ _ _ _)
  k_with "setItem ref int" => (k_here; (with_reducible show wpAny _ _ (setItem (Value.ref _) (Value.int _ _) (Value.int _ _)) _ _ _); k_dflt (refine' co_set ?F ?N ?U ?hc ?hb ?_; (case F => k_asm); (case N => k_asm); (case U => k_updF); (case hc => assumption); (case hb => omega); k_whole); intro _ _ _ _ _ _)
  revert X; k_fill; intro X
  refine wpAny_call ?_
  k_dflt ktr_enter
  k_with "getd" =>
    exact D.get (by k_mem)
  k_steps
  · rename (space == _) = true => c1; rename (name == _) = true => c2; rename Fr h₀ L _ _ => kF; rename News h₀ L _ _ => kN
    rename CoIs _ _ _ _ => hC
    rename ∀ p, _ ∈ _ → _ < _ => l9; revert l9; rename ∀ p, _ ∈ _ → _ < _ => l8; intro l9
    rw [q1]
    have l8b : ∀ p ∈ es ++ rest, p.1 < _ := l8
    refine' k _ _ _ _ _ _ _ _ _ _ _ _ _ _ _ _ _ _ _ kF (News.perm kN ?hs) (TreeIs.putE ((H.addE rfl).addE rfl) (elem_yes c1 c2) (hC.to ?he ?hb)) (all_mid (all_mid hr (.inr ?hco)) (.inr ?hco2)) (nodup_snoc (nodup_snoc nd fun p hp => l8b p (List.mem_append_left _ hp)) ?hn) (new_snoc (new_snoc (fun p hp => .inl hp) fun p hp => l8b p (List.mem_append_right _ hp)) fun p hp => l9 p (.tail _ (List.mem_append_right _ hp)))
    case hs =>
      repeat refine List.forall_mem_cons.mpr ⟨by k_mem, ?_⟩
      intro p hp; repeat (first | exact mem_mid2 hp | refine List.mem_cons_of_mem _ ?_)
    case he =>
      funext j
      simp only [TD.put, TD.add, List.length_append, List.length_cons, List.length_nil, q1]
      rfl
    case hb => simp only [TD.add, List.length_append, List.length_cons, List.length_nil]; omega
    case hco => assumption
    case hco2 => assumption
    case hn =>
      intro p hp
      rcases List.mem_append.mp hp with hp | hp
      · exact l9 p (.tail _ (List.mem_append_left _ hp))
      · exact l9 p (by rw [List.mem_singleton.mp hp]; exact .head _)
  · rename (space == _) = true => c1; rename (name == _) = false => c2; rename Fr h₀ L _ _ => kF; rename News h₀ L _ _ => kN
    rename ∀ p, _ ∈ _ → _ < _ => l9
    rw [q1]
    refine' k _ _ _ _ _ _ _ _ _ _ _ _ _ _ _ _ _ _ _ kF (News.perm kN ?hs) (H.addE (elem_no2 c2)) (all_mid hr (.inr ?hco)) (nodup_snoc nd fun p hp => l9 p (List.mem_append_left _ hp)) (new_snoc (fun p hp => .inl hp) fun p hp => l9 p (List.mem_append_right _ hp))
    case hs =>
      repeat refine List.forall_mem_cons.mpr ⟨by k_mem, ?_⟩
      intro p hp; repeat (first | exact mem_mid hp | refine List.mem_cons_of_mem _ ?_)
    case hco => assumption
  · rename (space == _) = false => c1; rename Fr h₀ L _ _ => kF; rename News h₀ L _ _ => kN
    rename ∀ p, _ ∈ _ → _ < _ => l9
    rw [q1]
    refine' k _ _ _ _ _ _ _ _ _ _ _ _ _ _ _ _ _ _ _ kF (News.perm kN ?hs) (H.addE (elem_no1 c1)) (all_mid hr (.inr ?hco)) (nodup_snoc nd fun p hp => l9 p (List.mem_append_left _ hp)) (new_snoc (fun p hp => .inl hp) fun p hp => l9 p (List.mem_append_right _ hp))
    case hs =>
      repeat refine List.forall_mem_cons.mpr ⟨by k_mem, ?_⟩
      intro p hp; repeat (first | exact mem_mid hp | refine List.mem_cons_of_mem _ ?_)
    case hco => assumption
end
end
section
section
variable {w : World} {mean : ExcName → Option Value} {mg mb : Str → Option Value} {dp un : Nat} {gd : Option (List Code)} {cn : Str} {cs : Scope} {a : Addr} {ccd : Value} {cl : List (Str × Addr)} {outer : List Env} {A₀ : Around} {base h₀ : Heap} {L : Addr} {m : Str → Option Value} {news : List (Addr × Obj)} {s : Shared} {Q E : Value → Shared → Prop}

set_option maxHeartbeats 8000000 in
theorem elementd_c {t td kk ss nn ta tx pp cc co : Addr} {et : List DictEntry} {nt n1 n2 n3 n4 n5 n6 n7 : Nat} {kv sv nv av tv pv cv : List Value} {oc : Obj} {es rest : List (Addr × Obj)} {D0 : TD} {name : Str} {t1 : Tok}
  (B : Below A₀ base outer h₀) (F : Fr h₀ L s.heap m) (X : (K w.params).In h₀) (N : News h₀ L s.heap ((t, instObj 413 td) :: (td, dictOf et nt) :: (kk, listOf kv.toArray n1) :: (ss, listOf sv.toArray n2) :: (nn, listOf nv.toArray n3) :: (ta, listOf av.toArray n4) :: (tx, listOf tv.toArray n5) :: (pp, listOf pv.toArray n6) :: (cc, listOf cv.toArray n7) :: (co, oc) :: (es ++ rest))) (T : TopP mean mg mb h₀) (hk : cs.kind = .function) (hd : dp + 6 < recursionLimit) (hu : un + 60 < cLine)
  (D : TrD et kk ss nn ta tx pp cc co) (ord : @LT.lt Nat _ td t ∧ @LT.lt Nat _ t kk ∧ @LT.lt Nat _ kk ss ∧ @LT.lt Nat _ ss nn ∧ @LT.lt Nat _ nn ta ∧ @LT.lt Nat _ ta tx ∧ @LT.lt Nat _ tx pp ∧ @LT.lt Nat _ pp cc ∧ @LT.lt Nat _ cc co)
  (hr : ∀ p ∈ es ++ rest, @LT.lt Nat _ p.1 td ∨ @LT.lt Nat _ co p.1) (H : TreeIs w D0 kv sv nv av tv pv cv oc es) (hz : D0.kinds.length ≤ 90) (nd : (es.map (·.1)).Nodup)
  (k : ∀ tr m1 m2 m3 m4 m5 m6 m7 kv' sv' nv' av' tv' pv' cv' oc' es' h' tk', Fr h₀ L h' m → News h₀ L h' ((t, instObj 413 td) :: (td, dictOf et nt) :: (kk, listOf (List.toArray kv') m1) :: (ss, listOf (List.toArray sv') m2) :: (nn, listOf (List.toArray nv') m3) :: (ta, listOf (List.toArray av') m4) :: (tx, listOf (List.toArray tv') m5) :: (pp, listOf (List.toArray pv') m6) :: (cc, listOf (List.toArray cv') m7) :: (co, oc') :: (es' ++ rest)) →
    TreeIs w (D0.elem (Str.ofString "html") name) kv' sv' nv' av' tv' pv' cv' oc' es' → (∀ p ∈ es' ++ rest, @LT.lt Nat _ p.1 td ∨ @LT.lt Nat _ co p.1) → (es'.map (·.1)).Nodup → (∀ p ∈ es', p ∈ es ∨ ∀ q ∈ rest, @LT.lt Nat _ q.1 p.1) → Q (.int (D0.kinds.length : Int) tr) { s with heap := h', toks := tk' }) :
  wpAny (model PySem.Challenge.rw_pb0145_01.row.prog w) (ktrTop dp un gd cn cs L a ccd cl outer) (call (.ref 332) [.ref t, .str name t1]) Q E s := by
  have o0 := ord
  obtain ⟨o1, o2, o3, o4, o5, o6, o7, o8, o9⟩ := o0
  have q1 := StrsAre.length H.k
  have q2 := StrsAre.length H.s
  have q3 := StrsAre.length H.n
  have q4 := H.a
  have q5 := StrsAre.length H.t
  have q6 := H.p.length
  have q7 := H.c.len
  have r2 := H.ls; have r3 := H.ln; have r5 := H.lt; have r6 := H.lp; have r7 := H.lc
  have hO := H.o
  have A1 : AL t [td] := AL.one o1
  have A2 : AL kk [t, td] := A1.up o2
  have A3 : AL ss [kk, t, td] := A2.up o3
  have A4 : AL nn [ss, kk, t, td] := A3.up o4
  have A5 : AL ta [nn, ss, kk, t, td] := A4.up o5
  have A6 : AL tx [ta, nn, ss, kk, t, td] := A5.up o6
  have A7 : AL pp [tx, ta, nn, ss, kk, t, td] := A6.up o7
  have A8 : AL cc [pp, tx, ta, nn, ss, kk, t, td] := A7.up o8
  have A9 : AL co [cc, pp, tx, ta, nn, ss, kk, t, td] := A8.up o9
  obtain ⟨z1, z2, z3, z4, z5, z6, z7⟩ := z_of H hz
  have e0 : ∀ p ∈ es ++ rest, p.1 ≠ co := off_co hr (A9.lt (by walk_at "memR"))
  k_with_none
  k_with "om" => first | assumption | exact Nat.le_trans (by assumption) (Nat.le_of_ble_eq_true rfl) | exact Nat.lt_of_le_of_lt (by assumption) (Nat.le_of_ble_eq_true rfl) | decide | omega
  k_with "k_get" => (first | k_extra "getd" | with_reducible assumption | with_reducible_and_instances exact Dct.get (by assumption) (by k_mem) | exact Dct.get (by assumption) (by k_mem))
  k_with "k_upd" => first | assumption | k_extra "upd" | (refine' Upd.head ?a; (case a => k_all)) | (refine' Upd.tail ?a ?b; (case a => k_ne); (case b => k_upd))
  k_with "exec While" => refine held_of ?_
  k_with "call builtin:len" => (k_here; (with_reducible show wpAny _ _ (call (Value.builtin "len") [Value.ref _]) _ _ _); k_dflt (refine' led_len ?k1 ?k2 ?k3 ?k4 ?_; (case k1 => k_asm); (case k2 => k_mem); (case k3 => first | exact IntsAre.length (by assumption) | exact PyProof.Rows.StrsAre.length (by assumption) | assumption); (case k4 => walk_at "om"); k_whole); intro _ _)
  k_with "subs9" => (k_here; (with_reducible show wpAny _ _ (subscriptTail _ _ (Value.ref _) (Value.int _ _)) _ _ _); k_dflt (first | (refine' led_int ?k1 ?k2 ?k3 ?k4 ?k5 ?k6 ?_ ?k7; (case k1 => k_asm); (case k2 => k_mem); (case k3 => assumption); (case k4 => first | omega | k_extra "bnd"); (case k5 => first | omega | k_extra "bnd"); (case k6 => omega); (case k7 => with_unfolding_all rfl); k_whole; intro _ _; (try k_extra "fact")) | (refine' led_str ?k1 ?k2 ?k3 ?k4 ?k5 ?k6 ?_ ?k7; (case k1 => k_asm); (case k2 => k_mem); (case k3 => assumption); (case k4 => first | omega | k_extra "bnd"); (case k5 => first | omega | k_extra "bnd"); (case k6 => omega); (case k7 => with_unfolding_all rfl); k_whole; intro _)))
  k_with "subscriptTail" => walk_at "subs9"
  k_with "subscriptTail Name Name ref int" => walk_at "subs9"
  k_with "subscriptTail Attribute Name ref int" => walk_at "subs9"
  k_with "compareOp In int ref" => (k_here; k_dflt (refine' led_in ?k1 ?k2 ?k3 ?_; (case k1 => k_asm); (case k2 => k_mem); (case k3 => assumption); k_whole))
  k_with "compareOp NotIn int ref" => (k_here; k_dflt (refine' led_notin ?k1 ?k2 ?k3 ?_; (case k1 => k_asm); (case k2 => k_mem); (case k3 => assumption); k_whole))
  k_with "compareOp In str ref" => (k_here; k_dflt (first | (refine' led_in_str ?k1 ?k2 ?k3 ?_; (case k1 => k_asm); (case k2 => walk_at "memR"); (case k3 => with_reducible assumption); k_whole) | (refine' led_in_tup ?k1 ?k2 ?k3 ?_; (case k1 => k_asm); (case k2 => walk_at "memR"); (case k3 => with_reducible assumption); k_whole) | (refine' led_in_tup ?k1 ?k2 ?k3 ?_; (case k1 => k_asm); (case k2 => k_mem); (case k3 => with_reducible assumption); k_whole) | (refine' led_in_str ?k1 ?k2 ?k3 ?_; (case k1 => k_asm); (case k2 => k_mem); (case k3 => with_reducible assumption); k_whole)))
  k_with "compareOp NotIn str ref" => (k_here; k_dflt (first | (refine' led_notin_str ?k1 ?k2 ?k3 ?_; (case k1 => k_asm); (case k2 => walk_at "memR"); (case k3 => with_reducible assumption); k_whole) | (refine' led_notin_tup ?k1 ?k2 ?k3 ?_; (case k1 => k_asm); (case k2 => walk_at "memR"); (case k3 => with_reducible assumption); k_whole) | (refine' led_notin_tup ?k1 ?k2 ?k3 ?_; (case k1 => k_asm); (case k2 => k_mem); (case k3 => with_reducible assumption); k_whole) | (refine' led_notin_str ?k1 ?k2 ?k3 ?_; (case k1 => k_asm); (case k2 => k_mem); (case k3 => with_reducible assumption); k_whole)))
  k_with "eval Tuple" => (k_here; k_dflt (refine' tup_lit ?k1 ?k2 ?k3 ?k4 ?_; (case k1 => exact rfl); (case k2 => exact Nat.le_of_ble_eq_true rfl); (case k3 => k_asm); (case k4 => k_asm); k_whole); intro _ _ _ _ _ _ _ _)
  k_with "call builtin:list.index" => (k_here; (with_reducible show wpAny _ _ (call (Value.builtin _) [Value.ref _, Value.int _ _]) _ _ _); k_dflt (refine' led_index ?k1 ?k2 ?k3 ?k4 ?k5 ?_; (case k1 => k_asm); (case k2 => k_mem); (case k3 => assumption); (case k4 => assumption); (case k5 => omega); k_whole))
  k_with "pyIter ref" => refine held_of ?_
  k_with "InvEndN" => k_extra "InvEndN"
  k_with "k_steps" => repeat' (first | (k_unfold; (try dsimp only)) | (k_end; fail_if_success skip) | walk1 | (dsimp only; walk1) | fail "no step")
  k_with "kst_same" => (intro z h1 h2 h3; (try simp only [List.contains_cons, List.contains_nil, Bool.or_false, Bool.or_eq_false_iff, beq_eq_false_iff_ne, ne_eq] at h3); (simp [h1, h3, kstB]; done))
  k_with "ktr_enter" => first | (refine' code_def ?k1 ?k2 ?k3 ?k4 ?k5 ?kA ?kF ?kK ?k6 ?k7 ?k8 ?k9 ?kB ?_ ?c2 ?c3 ?c4 ?c5; (case kA => exact rfl); (case kF => exact rfl); (case kK => assumption); (case k1 => k_asm); (case k2 => k_asm); (case k3 => k_asm); (case k4 => k_asm); (case k5 => k_asm); (case k6 => k_is); (case k7 => k_is); (case k8 => ktr_room); (case k9 => first | exact BindsTo.of_eq rfl | exact binds_K (by k_in) rfl (by k_is) rfl rfl rfl); (case c5 => decide); (case kB => exact locs rfl); (case c2 => exact rfl); (case c3 => exact rfl); (case c4 => exact rfl); k_whole; walk_at "tl1") | (refine' code_defC ?k1 ?k2 ?k3 ?k4 ?k5 ?kA ?kF ?kK ?k6 ?k7 ?k8 ?k9 ?kB ?kD ?_ ?c2 ?c3 ?c4; (case kA => exact rfl); (case kF => exact rfl); (case kK => assumption); (case k1 => k_asm); (case k2 => k_asm); (case k3 => k_asm); (case k4 => k_asm); (case k5 => k_asm); (case k6 => k_is); (case k7 => k_is); (case k8 => ktr_room); (case k9 => first | exact BindsTo.of_eq rfl | exact binds_K (by k_in) rfl (by k_is) rfl rfl rfl); (case kB => exact rfl); (case kD => decide +kernel); (case c2 => exact rfl); (case c3 => exact rfl); (case c4 => exact rfl); k_whole; walk_at "tl2")
  k_with "ltmode" => skip
  k_with "ne" => first | (refine' AL.hi ?h ?m; (case h => with_reducible assumption); (case m => walk_at "memR")) | (refine' AL.lo ?h ?m; (case h => with_reducible assumption); (case m => walk_at "memR"))
  k_with "eval ListComp" => (k_here; lct_look; k_dflt (refine LCt.ListComp_T (F₀ := by k_asm) (by with_unfolding_all rfl) (by decide) (by rfl) (by decide) (by rfl) ?_); k_dflt (repeat (first | (with_reducible refine compT_held ?_) | walk1 | (dsimp only; walk1))))
  k_with "exec Assign cons ListComp" => (k_here; lct_look; k_dflt (refine LCt.Assign_ListComp_T (F₀ := by k_asm) (by rfl) (by with_unfolding_all rfl) (by with_unfolding_all rfl) (by decide) (by rfl) (by decide) (by rfl) (by rfl) (by rfl) ?_); k_dflt (repeat (first | (with_reducible refine compT_held ?_) | walk1 | (dsimp only; walk1))))
  k_with "call ref" => (k_here; (with_reducible show wpAny _ _ (call (Value.ref 323) [_, _]) _ _ _); k_dflt (refine' adda_c ?B ?F ?X ?N ?T ?hk ?hd ?hu ?D ?ord ?hr ?z1 ?z2 ?z3 ?z4 ?z5 ?z6 ?z7 ?_; (case B => k_asm); (case F => k_asm); (case X => k_asm); (case N => k_asm); (case T => k_asm); (case hk => first | exact rfl | assumption); (case hd => ktr_room); (case hu => first | ktr_units | exact Nat.le_of_ble_eq_true rfl); (case D => assumption); (case ord => assumption); (case hr => first | assumption | exact List.forall_mem_cons.mpr ⟨.inr (by assumption), by assumption⟩); (case z1 => first | exact le_up98 (by assumption) | exact le_snoc98 (by assumption) | ((try simp only [List.length_append, List.length_cons, List.length_nil]); omega)); (case z2 => first | exact le_up98 (by assumption) | exact le_snoc98 (by assumption) | ((try simp only [List.length_append, List.length_cons, List.length_nil]); omega)); (case z3 => first | exact le_up98 (by assumption) | exact le_snoc98 (by assumption) | ((try simp only [List.length_append, List.length_cons, List.length_nil]); omega)); (case z4 => first | exact le_up98 (by assumption) | exact le_snoc98 (by assumption) | ((try simp only [List.length_append, List.length_cons, List.length_nil]); omega)); (case z5 => first | exact le_up98 (by assumption) | exact le_snoc98 (by assumption) | ((try simp only [List.length_append, List.length_cons, List.length_nil]); omega)); (case z6 => first | exact le_up98 (by assumption) | exact le_snoc98 (by assumption) | ((try simp only [List.length_append, List.length_cons, List.length_nil]); omega)); (case z7 => first | exact le_up98 (by assumption) | exact le_snoc98 (by assumption) | ((try simp only [List.length_append, List.length_cons, List.length_nil]); omega)); k_whole); intro _ _ _ _ _ _ _ _ _ _ _ _ _)
  k_with "call ref" => (k_here; (with_reducible show wpAny _ _ (call (Value.ref 323) [_, _, _, _, _]) _ _ _); k_dflt (refine' addb_c ?B ?F ?X ?N ?T ?hk ?hd ?hu ?D ?ord ?hr ?hT ?z0 ?z1 ?z2 ?z3 ?z4 ?z5 ?z6 ?z7 ?_; (case B => k_asm); (case F => k_asm); (case X => k_asm); (case N => k_asm); (case T => k_asm); (case hk => first | exact rfl | assumption); (case hd => ktr_room); (case hu => first | ktr_units | exact Nat.le_of_ble_eq_true rfl); (case D => assumption); (case ord => assumption); (case hr => first | assumption | exact List.forall_mem_cons.mpr ⟨.inr (by assumption), by assumption⟩); (case hT => assumption); (case z0 => assumption); (case z1 => first | exact le_up98 (by assumption) | exact le_snoc98 (by assumption) | ((try simp only [List.length_append, List.length_cons, List.length_nil]); omega)); (case z2 => first | exact le_up98 (by assumption) | exact le_snoc98 (by assumption) | ((try simp only [List.length_append, List.length_cons, List.length_nil]); omega)); (case z3 => first | exact le_up98 (by assumption) | exact le_snoc98 (by assumption) | ((try simp only [List.length_append, List.length_cons, List.length_nil]); omega)); (case z4 => first | exact le_up98 (by assumption) | exact le_snoc98 (by assumption) | ((try simp only [List.length_append, List.length_cons, List.length_nil]); omega)); (case z5 => first | exact le_up98 (by assumption) | exact le_snoc98 (by assumption) | ((try simp only [List.length_append, List.length_cons, List.length_nil]); omega)); (case z6 => first | exact le_up98 (by assumption) | exact le_snoc98 (by assumption) | ((try simp only [List.length_append, List.length_cons, List.length_nil]); omega)); (case z7 => first | exact le_up98 (by assumption) | exact le_snoc98 (by assumption) | ((try simp only [List.length_append, List.length_cons, List.length_nil]); omega)); k_whole); intro _ _ _ _ _ _ _ _ _ _ _)
  k_with "setItem ref int" => (k_here; (with_reducible show wpAny _ _ (setItem (Value.ref _) (Value.int _ _) (Value.int _ _)) _ _ _); k_dflt (refine' co_set ?F ?N ?U ?hc ?hb ?_; (case F => k_asm); (case N => k_asm); (case U => k_updF); (case hc => assumption); (case hb => omega); k_whole); intro _ _ _ _ _ _)
  revert X; k_fill; intro X
  have hT' : TupAt w.params (es ++ rest) 324 #[] := .inl ⟨_, by k_is, rfl, _, rfl⟩
  have hz0 : (#[] : Array Value).size ≤ 100 := Nat.zero_le _
  refine wpAny_call ?_
  k_dflt ktr_enter
  k_with "getd" =>
    exact D.get (by k_mem)
  k_steps
  · have c1 : (Str.ofString "html" == Str.ofString "html") = true := beq_self_eq_true _; rename (name == _) = true => c2; rename Fr h₀ L _ _ => kF; rename News h₀ L _ _ => kN
    rename CoIs _ _ _ _ => hC
    rename ∀ p, _ ∈ _ → _ < _ => l9; revert l9; rename ∀ p, _ ∈ _ → _ < _ => l8; intro l9
    rw [q1]
    have l8b : ∀ p ∈ es ++ rest, p.1 < _ := l8
    refine' k _ _ _ _ _ _ _ _ _ _ _ _ _ _ _ _ _ _ _ kF (News.perm kN ?hs) (TreeIs.putE ((H.addE rfl).addE rfl) (elem_yes c1 c2) (hC.to ?he ?hb)) (all_mid (all_mid hr (.inr ?hco)) (.inr ?hco2)) (nodup_snoc (nodup_snoc nd fun p hp => l8b p (List.mem_append_left _ hp)) ?hn) (new_snoc (new_snoc (fun p hp => .inl hp) fun p hp => l8b p (List.mem_append_right _ hp)) fun p hp => l9 p (.tail _ (List.mem_append_right _ hp)))
    case hs =>
      repeat refine List.forall_mem_cons.mpr ⟨by k_mem, ?_⟩
      intro p hp; repeat (first | exact mem_mid2 hp | refine List.mem_cons_of_mem _ ?_)
    case he =>
      funext j
      simp only [TD.put, TD.add, List.length_append, List.length_cons, List.length_nil, q1]
      rfl
    case hb => simp only [TD.add, List.length_append, List.length_cons, List.length_nil]; omega
    case hco => assumption
    case hco2 => assumption
    case hn =>
      intro p hp
      rcases List.mem_append.mp hp with hp | hp
      · exact l9 p (.tail _ (List.mem_append_left _ hp))
      · exact l9 p (by rw [List.mem_singleton.mp hp]; exact .head _)
  · have c1 : (Str.ofString "html" == Str.ofString "html") = true := beq_self_eq_true _; rename (name == _) = false => c2; rename Fr h₀ L _ _ => kF; rename News h₀ L _ _ => kN
    rename ∀ p, _ ∈ _ → _ < _ => l9
    rw [q1]
    refine' k _ _ _ _ _ _ _ _ _ _ _ _ _ _ _ _ _ _ _ kF (News.perm kN ?hs) (H.addE (elem_no2 c2)) (all_mid hr (.inr ?hco)) (nodup_snoc nd fun p hp => l9 p (List.mem_append_left _ hp)) (new_snoc (fun p hp => .inl hp) fun p hp => l9 p (List.mem_append_right _ hp))
    case hs =>
      repeat refine List.forall_mem_cons.mpr ⟨by k_mem, ?_⟩
      intro p hp; repeat (first | exact mem_mid hp | refine List.mem_cons_of_mem _ ?_)
    case hco => assumption
end
end
section
noncomputable def TD.join (D : TD) (p x : Int) : TD := { D with parents := D.parents.set x.toNat p, kids := D.kids.set p.toNat (D.kids.getD p.toNat [] ++ [x]) }
section
variable {w : World} {mean : ExcName → Option Value} {mg mb : Str → Option Value} {dp un : Nat} {gd : Option (List Code)} {cn : Str} {cs : Scope} {a : Addr} {ccd : Value} {cl : List (Str × Addr)} {outer : List Env} {A₀ : Around} {base h₀ : Heap} {L : Addr} {m : Str → Option Value} {news : List (Addr × Obj)} {s : Shared} {Q E : Value → Shared → Prop}

set_option maxHeartbeats 8000000 in
theorem above_c {t td kk ss nn ta tx pp cc co : Addr} {et : List DictEntry} {nt n6 : Nat} {pv : List Value} {parents : List Int} {p : Int} {tk : Tok}
  (B : Below A₀ base outer h₀) (F : Fr h₀ L s.heap m) (X : (K w.params).In h₀) (N : News h₀ L s.heap news) (T : TopP mean mg mb h₀) (hk : cs.kind = .function) (hd : dp + 3 < recursionLimit) (hu : un + 30 < cLine)
  (h1 : (t, instObj 413 td) ∈ news) (h2 : (td, dictOf et nt) ∈ news) (D : TrD et kk ss nn ta tx pp cc co) (h3 : (pp, listOf pv.toArray n6) ∈ news) (g : IntsAre pv parents) (hz : parents.length ≤ 100) (q0 : 0 ≤ p) (q1 : p < parents.length) (q2 : iAt parents p = -1)
  (k : ∀ c h' tk', Fr h₀ L h' m → News h₀ L h' ((c, listOf #[] 0) :: news) → (∀ p ∈ news, p.1 < c) → Q (.ref c) { s with heap := h', toks := tk' }) :
  wpAny (model PySem.Challenge.rw_pb0145_01.row.prog w) (ktrTop dp un gd cn cs L a ccd cl outer) (call (.ref 424) [.ref t, .int p tk]) Q E s := by
  k_with_none
  k_with "om" => first | assumption | exact Nat.le_trans (by assumption) (Nat.le_of_ble_eq_true rfl) | exact Nat.lt_of_le_of_lt (by assumption) (Nat.le_of_ble_eq_true rfl) | decide | omega
  k_with "k_get" => (first | k_extra "getd" | with_reducible assumption | with_reducible_and_instances exact Dct.get (by assumption) (by k_mem) | exact Dct.get (by assumption) (by k_mem))
  k_with "k_upd" => first | assumption | k_extra "upd" | (refine' Upd.head ?a; (case a => k_all)) | (refine' Upd.tail ?a ?b; (case a => k_ne); (case b => k_upd))
  k_with "exec While" => refine held_of ?_
  k_with "call builtin:len" => (k_here; (with_reducible show wpAny _ _ (call (Value.builtin "len") [Value.ref _]) _ _ _); k_dflt (refine' led_len ?k1 ?k2 ?k3 ?k4 ?_; (case k1 => k_asm); (case k2 => k_mem); (case k3 => first | exact IntsAre.length (by assumption) | exact PyProof.Rows.StrsAre.length (by assumption) | assumption); (case k4 => walk_at "om"); k_whole); intro _ _)
  k_with "subs9" => (k_here; (with_reducible show wpAny _ _ (subscriptTail _ _ (Value.ref _) (Value.int _ _)) _ _ _); k_dflt (first | (refine' led_int ?k1 ?k2 ?k3 ?k4 ?k5 ?k6 ?_ ?k7; (case k1 => k_asm); (case k2 => k_mem); (case k3 => assumption); (case k4 => first | omega | k_extra "bnd"); (case k5 => first | omega | k_extra "bnd"); (case k6 => omega); (case k7 => with_unfolding_all rfl); k_whole; intro _ _; (try k_extra "fact")) | (refine' led_str ?k1 ?k2 ?k3 ?k4 ?k5 ?k6 ?_ ?k7; (case k1 => k_asm); (case k2 => k_mem); (case k3 => assumption); (case k4 => first | omega | k_extra "bnd"); (case k5 => first | omega | k_extra "bnd"); (case k6 => omega); (case k7 => with_unfolding_all rfl); k_whole; intro _)))
  k_with "subscriptTail" => walk_at "subs9"
  k_with "subscriptTail Name Name ref int" => walk_at "subs9"
  k_with "subscriptTail Attribute Name ref int" => walk_at "subs9"
  k_with "compareOp In int ref" => (k_here; k_dflt (refine' led_in ?k1 ?k2 ?k3 ?_; (case k1 => k_asm); (case k2 => k_mem); (case k3 => assumption); k_whole))
  k_with "compareOp NotIn int ref" => (k_here; k_dflt (refine' led_notin ?k1 ?k2 ?k3 ?_; (case k1 => k_asm); (case k2 => k_mem); (case k3 => assumption); k_whole))
  k_with "compareOp In str ref" => (k_here; k_dflt (first | (refine' led_in_str ?k1 ?k2 ?k3 ?_; (case k1 => k_asm); (case k2 => walk_at "memR"); (case k3 => with_reducible assumption); k_whole) | (refine' led_in_tup ?k1 ?k2 ?k3 ?_; (case k1 => k_asm); (case k2 => walk_at "memR"); (case k3 => with_reducible assumption); k_whole) | (refine' led_in_tup ?k1 ?k2 ?k3 ?_; (case k1 => k_asm); (case k2 => k_mem); (case k3 => with_reducible assumption); k_whole) | (refine' led_in_str ?k1 ?k2 ?k3 ?_; (case k1 => k_asm); (case k2 => k_mem); (case k3 => with_reducible assumption); k_whole)))
  k_with "compareOp NotIn str ref" => (k_here; k_dflt (first | (refine' led_notin_str ?k1 ?k2 ?k3 ?_; (case k1 => k_asm); (case k2 => walk_at "memR"); (case k3 => with_reducible assumption); k_whole) | (refine' led_notin_tup ?k1 ?k2 ?k3 ?_; (case k1 => k_asm); (case k2 => walk_at "memR"); (case k3 => with_reducible assumption); k_whole) | (refine' led_notin_tup ?k1 ?k2 ?k3 ?_; (case k1 => k_asm); (case k2 => k_mem); (case k3 => with_reducible assumption); k_whole) | (refine' led_notin_str ?k1 ?k2 ?k3 ?_; (case k1 => k_asm); (case k2 => k_mem); (case k3 => with_reducible assumption); k_whole)))
  k_with "eval Tuple" => (k_here; k_dflt (refine' tup_lit ?k1 ?k2 ?k3 ?k4 ?_; (case k1 => exact rfl); (case k2 => exact Nat.le_of_ble_eq_true rfl); (case k3 => k_asm); (case k4 => k_asm); k_whole); intro _ _ _ _ _ _ _ _)
  k_with "call builtin:list.index" => (k_here; (with_reducible show wpAny _ _ (call (Value.builtin _) [Value.ref _, Value.int _ _]) _ _ _); k_dflt (refine' led_index ?k1 ?k2 ?k3 ?k4 ?k5 ?_; (case k1 => k_asm); (case k2 => k_mem); (case k3 => assumption); (case k4 => assumption); (case k5 => omega); k_whole))
  k_with "pyIter ref" => refine held_of ?_
  k_with "InvEndN" => k_extra "InvEndN"
  k_with "k_steps" => repeat' (first | (k_unfold; (try dsimp only)) | (k_end; fail_if_success skip) | walk1 | (dsimp only; walk1) | fail "no step")
  k_with "kst_same" => (intro z h1 h2 h3; (try simp only [List.contains_cons, List.contains_nil, Bool.or_false, Bool.or_eq_false_iff, beq_eq_false_iff_ne, ne_eq] at h3); (simp [h1, h3, kstB]; done))
  k_with "ktr_enter" => first | (refine' code_def ?k1 ?k2 ?k3 ?k4 ?k5 ?kA ?kF ?kK ?k6 ?k7 ?k8 ?k9 ?kB ?_ ?c2 ?c3 ?c4 ?c5; (case kA => exact rfl); (case kF => exact rfl); (case kK => assumption); (case k1 => k_asm); (case k2 => k_asm); (case k3 => k_asm); (case k4 => k_asm); (case k5 => k_asm); (case k6 => k_is); (case k7 => k_is); (case k8 => ktr_room); (case k9 => first | exact BindsTo.of_eq rfl | exact binds_K (by k_in) rfl (by k_is) rfl rfl rfl); (case c5 => decide); (case kB => exact locs rfl); (case c2 => exact rfl); (case c3 => exact rfl); (case c4 => exact rfl); k_whole; walk_at "tl1") | (refine' code_defC ?k1 ?k2 ?k3 ?k4 ?k5 ?kA ?kF ?kK ?k6 ?k7 ?k8 ?k9 ?kB ?kD ?_ ?c2 ?c3 ?c4; (case kA => exact rfl); (case kF => exact rfl); (case kK => assumption); (case k1 => k_asm); (case k2 => k_asm); (case k3 => k_asm); (case k4 => k_asm); (case k5 => k_asm); (case k6 => k_is); (case k7 => k_is); (case k8 => ktr_room); (case k9 => first | exact BindsTo.of_eq rfl | exact binds_K (by k_in) rfl (by k_is) rfl rfl rfl); (case kB => exact rfl); (case kD => decide +kernel); (case c2 => exact rfl); (case c3 => exact rfl); (case c4 => exact rfl); k_whole; walk_at "tl2")
  revert X; k_fill; intro X
  refine wpAny_call ?_
  k_dflt ktr_enter
  k_steps
  rename Fr _ _ _ _ => lF'; rename News _ _ _ _ => lN'
  refine held_go (ksw_while (σ := Tok) (fun _ => (_, listOf #[] 0) :: news) (fun c => [(Str.ofString "up", .int (iAt parents p) c)]) (fun _ => True) [] (fun _ => True) (fun _ => 0) _
    lF' lN' trivial (by intro p hp; rw [List.mem_singleton.mp hp]; rfl) trivial ?_)
  intro c u h1' tk1 hf hP F1 N1
  k_steps
  · rename iAt parents p ≠ -1 => q; exact absurd q2 q
  · rename Fr h₀ L _ _ => kF; rename News h₀ L _ _ => kN
    exact k _ _ _ kF kN (by assumption)
end
end
section
section
variable {w : World} {mean : ExcName → Option Value} {mg mb : Str → Option Value} {dp un : Nat} {gd : Option (List Code)} {cn : Str} {cs : Scope} {a : Addr} {ccd : Value} {cl : List (Str × Addr)} {outer : List Env} {A₀ : Around} {base h₀ : Heap} {L : Addr} {m : Str → Option Value} {news : List (Addr × Obj)} {s : Shared} {Q E : Value → Shared → Prop}

set_option maxHeartbeats 8000000 in
theorem append_c {t td kk ss nn ta tx pp cc co : Addr} {et : List DictEntry} {nt n6 n7 e : Nat} {pv cv vs : List Value} {parents ns : List Int} {p x : Int} {c : Addr} {t1 t2 : Tok} {L1 : Obj → List (Addr × Obj)} {L2 : Obj → Obj → List (Addr × Obj)}
  (B : Below A₀ base outer h₀) (F : Fr h₀ L s.heap m) (X : (K w.params).In h₀) (N : News h₀ L s.heap news) (T : TopP mean mg mb h₀) (hk : cs.kind = .function) (hd : dp + 9 < recursionLimit) (hu : un + 90 < cLine)
  (h1 : (t, instObj 413 td) ∈ news) (h2 : (td, dictOf et nt) ∈ news) (D : TrD et kk ss nn ta tx pp cc co) (h3 : (pp, listOf pv.toArray n6) ∈ news) (g : IntsAre pv parents) (h4 : (cc, listOf cv.toArray n7) ∈ news) (h5 : (c, listOf vs.toArray e) ∈ news) (gc : cv[p.toNat]? = some (.ref c)) (g2 : IntsAre vs ns)
  (U : ∀ o, Upd c (listOf vs.toArray e) o news (L1 o)) (U2 : ∀ o o', Upd pp (listOf pv.toArray n6) o' (L1 o) (L2 o o')) (a1 : pp ≠ c) (a2 : cc ≠ c) (a3 : t ≠ c) (a4 : td ≠ c)
  (hz : parents.length ≤ 100) (hz2 : ns.length ≤ 100) (q0 : 0 ≤ p) (q1 : p < parents.length) (q2 : iAt parents p = -1) (q3 : 0 ≤ x) (q4 : x < parents.length) (q5 : iAt parents x = -1) (q6 : x ≠ p)
  (k : ∀ tp h' tk', Fr h₀ L h' m → News h₀ L h' (L2 (listOf (List.toArray (vs ++ [Value.int x t2])) (e + 1)) (listOf (pv.set x.toNat (.int p tp)).toArray n6)) → IntsAre (pv.set x.toNat (.int p tp)) (parents.set x.toNat p) → Q .none { s with heap := h', toks := tk' }) :
  wpAny (model PySem.Challenge.rw_pb0145_01.row.prog w) (ktrTop dp un gd cn cs L a ccd cl outer) (call (.ref 368) [.ref t, .int p t1, .int x t2]) Q E s := by
  have m1 : ∀ o, (pp, listOf pv.toArray n6) ∈ L1 o := fun o => upd_ne (U o) h3 a1
  have m2 : ∀ o, (cc, listOf cv.toArray n7) ∈ L1 o := fun o => upd_ne (U o) h4 a2
  have m3 : ∀ o, (t, instObj 413 td) ∈ L1 o := fun o => upd_ne (U o) h1 a3
  have m4 : ∀ o, (td, dictOf et nt) ∈ L1 o := fun o => upd_ne (U o) h2 a4
  have hnil : IntsAre [] [] := .nil
  have hvl : vs.length = ns.length := g2.length
  k_with "call ref" => (k_here; (with_reducible show wpAny _ _ (call (Value.ref 424) _) _ _ _); k_dflt (refine' above_c ?B ?F ?X ?N ?T ?hk ?hd ?hu ?h1 ?h2 ?D ?h3 ?g ?hz ?q0 ?q1 ?q2 ?_; (case B => k_asm); (case F => k_asm); (case X => k_asm); (case N => k_asm); (case T => k_asm); (case hk => first | exact rfl | assumption); (case hd => ktr_room); (case hu => first | ktr_units | exact Nat.le_of_ble_eq_true rfl); (case h1 => k_mem); (case h2 => k_mem); (case D => assumption); (case h3 => k_mem); (case g => with_reducible assumption); (case hz => omega); (case q0 => omega); (case q1 => omega); (case q2 => assumption); k_whole); intro _ _ _ _ _ _)
  k_with "exec Raise" => k_extra "raise"
  k_with "call builtin:list.insert" => (k_here; k_dflt (refine' led_insert ?F ?N ?e ?z ?U ?_; (case F => k_asm); (case N => k_asm); (case U => k_upd); (case e => k_extra "inse"); (case z => omega); k_whole); intro _ _ _)
  k_with "setItem ref int" => (k_here; (with_reducible show wpAny _ _ (setItem (Value.ref _) (Value.int _ _) (Value.int _ _)) _ _ _); k_dflt (refine' ksa_set ?k1 ?k2 ?k3 ?k4 ?k5 ?k6 ?k7 ?_; (case k1 => k_asm); (case k2 => k_asm); (case k3 => k_upd); (case k4 => with_reducible assumption); (case k5 => omega); (case k6 => omega); (case k7 => omega); k_whole); intro _ _ _ _ _ _)
  k_with "subscriptTail Attribute Name ref int" => (k_here; (with_reducible show wpAny _ _ (subscriptTail _ _ (Value.ref _) (Value.int _ _)) _ _ _); k_dflt (first | (refine' led_int ?k1 ?k2 ?k3 ?k4 ?k5 ?k6 ?_ ?k7; (case k1 => k_asm); (case k2 => walk_at "memR"); (case k3 => with_reducible assumption); (case k4 => omega); (case k5 => omega); (case k6 => omega); (case k7 => with_unfolding_all rfl); k_whole; intro _ _) | (refine' led_ref ?k1 ?k2 ?k3 ?k4 ?k5 ?_ ?k7; (case k1 => k_asm); (case k2 => walk_at "memR"); (case k3 => with_reducible assumption); (case k4 => omega); (case k5 => omega); (case k7 => with_unfolding_all rfl); k_whole)))
  k_with "subscriptTail Name Name ref int" => (k_here; (with_reducible show wpAny _ _ (subscriptTail _ _ (Value.ref _) (Value.int _ _)) _ _ _); k_dflt (first | (refine' led_int ?k1 ?k2 ?k3 ?k4 ?k5 ?k6 ?_ ?k7; (case k1 => k_asm); (case k2 => walk_at "memR"); (case k3 => with_reducible assumption); (case k4 => omega); (case k5 => omega); (case k6 => omega); (case k7 => with_unfolding_all rfl); k_whole; intro _ _) | (refine' led_ref ?k1 ?k2 ?k3 ?k4 ?k5 ?_ ?k7; (case k1 => k_asm); (case k2 => walk_at "memR"); (case k3 => with_reducible assumption); (case k4 => omega); (case k5 => omega); (case k7 => with_unfolding_all rfl); k_whole)))
  k_with "subscriptTail Attribute Name Name ref int" => (k_here; (with_reducible show wpAny _ _ (subscriptTail _ _ (Value.ref _) (Value.int _ _)) _ _ _); k_dflt (first | (refine' led_int ?k1 ?k2 ?k3 ?k4 ?k5 ?k6 ?_ ?k7; (case k1 => k_asm); (case k2 => walk_at "memR"); (case k3 => with_reducible assumption); (case k4 => omega); (case k5 => omega); (case k6 => omega); (case k7 => with_unfolding_all rfl); k_whole; intro _ _) | (refine' led_ref ?k1 ?k2 ?k3 ?k4 ?k5 ?_ ?k7; (case k1 => k_asm); (case k2 => walk_at "memR"); (case k3 => with_reducible assumption); (case k4 => omega); (case k5 => omega); (case k7 => with_unfolding_all rfl); k_whole)))
  k_with "subscriptTail Attribute Name Subscript ref int" => (exfalso; first | exact absurd (by assumption) (by assumption : iAt _ _ ≠ -1) | omega)
  revert X; k_fill; intro X
  refine wpAny_call ?_
  k_dflt ktr_enter
  k_with "getd" =>
    exact D.get (by k_mem)
  k_with "mem" =>
    first | exact m1 _ | exact m2 _ | exact m3 _ | exact m4 _
  k_with "upd" =>
    first | exact U _ | exact U2 _ _
  k_with "inse" =>
    omega
  k_with "raise" =>
    exfalso
    first | exact q6 (by assumption) | (rename _ ∈ ([] : List Int) => z; exact absurd z List.not_mem_nil) | omega
  k_with "InvEndN" =>
    skip
  k_steps
  all_goals try (exfalso; omega)
  all_goals try (rename iAt parents x ≠ -1 => z; exact absurd q5 z)
  · rename x ∈ _ => z; cases z
  · rename Fr h₀ L _ _ => kF; rename News h₀ L _ _ => kN
    exact k _ _ _ kF (fun p hp => kN p (.tail _ hp)) (by assumption)
end
end
section
local macro_rules | `(tactic| walk_at "tlB") => `(tactic| (intro x' d' h' F' N' l1 l2; (try k_lt l1); (try replace l2 := ltN l2); (first | replace l2 := AL.up l1 l2 | replace l2 := AL.one l2); (try k_sweep); first | ktr_enter | k_enter))
section
variable {w : World} {mean : ExcName → Option Value} {mg mb : Str → Option Value} {dp un : Nat} {gd : Option (List Code)} {cn : Str} {cs : Scope} {a : Addr} {ccd : Value} {cl : List (Str × Addr)} {outer : List Env} {A₀ : Around} {base h₀ : Heap} {L : Addr} {m : Str → Option Value} {news : List (Addr × Obj)} {s : Shared} {Q E : Value → Shared → Prop}

set_option maxHeartbeats 8000000 in
theorem builder_c {d0 : Addr}
  (B : Below A₀ base outer h₀) (F : Fr h₀ L s.heap m) (X : (K w.params).In h₀) (N : News h₀ L s.heap news) (T : TopP mean mg mb h₀) (hk : cs.kind = .function) (hd : dp + 9 < recursionLimit) (hu : un + 90 < cLine)
  (k : ∀ (b bd st std fm fmd t td kk ss nn ta tx pp cc co c0 it0 fi0 er0 : Addr) (esf eff : Addr → List DictEntry) (ebf : Value → Addr → List DictEntry) (et : List DictEntry) (ne nf nb nt n1 n2 n3 n4 n5 n6 n7 : Nat) (md : Str) (tmd : Tok) (kv sv nv av tv pv cv : List Value) (oc : Obj) (h' : Heap) (tk' : Nat), Fr h₀ L h' m →
    News h₀ L h' ((std, dictOf (esf it0) ne) :: (fmd, dictOf (eff fi0) nf) :: (bd, dictOf (ebf (.str md tmd) er0) nb) :: (t, instObj 413 td) :: (td, dictOf et nt) :: (kk, listOf kv.toArray n1) :: (ss, listOf sv.toArray n2) :: (nn, listOf nv.toArray n3) :: (ta, listOf av.toArray n4) :: (tx, listOf tv.toArray n5) :: (pp, listOf pv.toArray n6) :: (cc, listOf cv.toArray n7) :: (co, oc) :: ([(c0, listOf #[] 0)] ++ ((st, instObj 136 std) :: (fm, instObj 296 fmd) :: (b, instObj 491 bd) :: news))) →
    (∀ i, StD (esf i) t i) → (∀ i, FmD (eff i) t i) → (∀ d tk i, BdD (ebf (.str d tk) i) t st fm i d tk) → TrD et kk ss nn ta tx pp cc co →
    (∀ i j h k, (putL (Str.ofString "items") h k (.ref j) (esf i), putN (Str.ofString "items") (esf i) ne) = (esf j, ne)) → (∀ i j h k, (putL (Str.ofString "items") h k (.ref j) (eff i), putN (Str.ofString "items") (eff i) nf) = (eff j, nf)) →
    (∀ v i j h k, (putL (Str.ofString "errors") h k (.ref j) (ebf v i), putN (Str.ofString "errors") (ebf v i) nb) = (ebf v j, nb)) → (∀ v v' i h k, (putL (Str.ofString "mode") h k v' (ebf v i), putN (Str.ofString "mode") (ebf v i) nb) = (ebf v' i, nb)) →
    (∀ i, (esf i).length ≤ 1000) → (∀ i, (eff i).length ≤ 1000) → (∀ v i, (ebf v i).length ≤ 1000) →
    TreeIs w (TD.add ⟨[], [], [], [], [], [], fun _ => Option.none⟩ (Str.ofString "document") (Str.ofString "") (Str.ofString "")) kv sv nv av tv pv cv oc [(c0, listOf #[] 0)] →
    (@LT.lt Nat _ td t ∧ @LT.lt Nat _ t kk ∧ @LT.lt Nat _ kk ss ∧ @LT.lt Nat _ ss nn ∧ @LT.lt Nat _ nn ta ∧ @LT.lt Nat _ ta tx ∧ @LT.lt Nat _ tx pp ∧ @LT.lt Nat _ pp cc ∧ @LT.lt Nat _ cc co) →
    (@LT.lt Nat _ bd b ∧ @LT.lt Nat _ b td ∧ @LT.lt Nat _ co c0 ∧ @LT.lt Nat _ c0 std ∧ @LT.lt Nat _ std st ∧ @LT.lt Nat _ st fmd ∧ @LT.lt Nat _ fmd fm) → (∀ p ∈ news, p.1 < bd) → (co == sysModules) = false → Q (.ref b) { s with heap := h', toks := tk' }) :
  wpAny (model PySem.Challenge.rw_pb0145_01.row.prog w) (ktrTop dp un gd cn cs L a ccd cl outer) (call (.ref 491) [.ref d0]) Q E s := by
  k_with_none
  k_with "om" => first | assumption | exact Nat.le_trans (by assumption) (Nat.le_of_ble_eq_true rfl) | exact Nat.lt_of_le_of_lt (by assumption) (Nat.le_of_ble_eq_true rfl) | decide | omega
  k_with "k_get" => (first | k_extra "getd" | with_reducible assumption | with_reducible_and_instances exact Dct.get (by assumption) (by k_mem) | exact Dct.get (by assumption) (by k_mem))
  k_with "k_upd" => first | assumption | k_extra "upd" | (refine' Upd.head ?a; (case a => k_all)) | (refine' Upd.tail ?a ?b; (case a => k_ne); (case b => k_upd))
  k_with "exec While" => refine held_of ?_
  k_with "call builtin:len" => (k_here; (with_reducible show wpAny _ _ (call (Value.builtin "len") [Value.ref _]) _ _ _); k_dflt (refine' led_len ?k1 ?k2 ?k3 ?k4 ?_; (case k1 => k_asm); (case k2 => k_mem); (case k3 => first | exact IntsAre.length (by assumption) | exact PyProof.Rows.StrsAre.length (by assumption) | assumption); (case k4 => walk_at "om"); k_whole); intro _ _)
  k_with "subs9" => (k_here; (with_reducible show wpAny _ _ (subscriptTail _ _ (Value.ref _) (Value.int _ _)) _ _ _); k_dflt (first | (refine' led_int ?k1 ?k2 ?k3 ?k4 ?k5 ?k6 ?_ ?k7; (case k1 => k_asm); (case k2 => k_mem); (case k3 => assumption); (case k4 => first | omega | k_extra "bnd"); (case k5 => first | omega | k_extra "bnd"); (case k6 => omega); (case k7 => with_unfolding_all rfl); k_whole; intro _ _; (try k_extra "fact")) | (refine' led_str ?k1 ?k2 ?k3 ?k4 ?k5 ?k6 ?_ ?k7; (case k1 => k_asm); (case k2 => k_mem); (case k3 => assumption); (case k4 => first | omega | k_extra "bnd"); (case k5 => first | omega | k_extra "bnd"); (case k6 => omega); (case k7 => with_unfolding_all rfl); k_whole; intro _)))
  k_with "subscriptTail" => walk_at "subs9"
  k_with "subscriptTail Name Name ref int" => walk_at "subs9"
  k_with "subscriptTail Attribute Name ref int" => walk_at "subs9"
  k_with "compareOp In int ref" => (k_here; k_dflt (refine' led_in ?k1 ?k2 ?k3 ?_; (case k1 => k_asm); (case k2 => k_mem); (case k3 => assumption); k_whole))
  k_with "compareOp NotIn int ref" => (k_here; k_dflt (refine' led_notin ?k1 ?k2 ?k3 ?_; (case k1 => k_asm); (case k2 => k_mem); (case k3 => assumption); k_whole))
  k_with "compareOp In str ref" => (k_here; k_dflt (first | (refine' led_in_str ?k1 ?k2 ?k3 ?_; (case k1 => k_asm); (case k2 => walk_at "memR"); (case k3 => with_reducible assumption); k_whole) | (refine' led_in_tup ?k1 ?k2 ?k3 ?_; (case k1 => k_asm); (case k2 => walk_at "memR"); (case k3 => with_reducible assumption); k_whole) | (refine' led_in_tup ?k1 ?k2 ?k3 ?_; (case k1 => k_asm); (case k2 => k_mem); (case k3 => with_reducible assumption); k_whole) | (refine' led_in_str ?k1 ?k2 ?k3 ?_; (case k1 => k_asm); (case k2 => k_mem); (case k3 => with_reducible assumption); k_whole)))
  k_with "compareOp NotIn str ref" => (k_here; k_dflt (first | (refine' led_notin_str ?k1 ?k2 ?k3 ?_; (case k1 => k_asm); (case k2 => walk_at "memR"); (case k3 => with_reducible assumption); k_whole) | (refine' led_notin_tup ?k1 ?k2 ?k3 ?_; (case k1 => k_asm); (case k2 => walk_at "memR"); (case k3 => with_reducible assumption); k_whole) | (refine' led_notin_tup ?k1 ?k2 ?k3 ?_; (case k1 => k_asm); (case k2 => k_mem); (case k3 => with_reducible assumption); k_whole) | (refine' led_notin_str ?k1 ?k2 ?k3 ?_; (case k1 => k_asm); (case k2 => k_mem); (case k3 => with_reducible assumption); k_whole)))
  k_with "eval Tuple" => (k_here; k_dflt (refine' tup_lit ?k1 ?k2 ?k3 ?k4 ?_; (case k1 => exact rfl); (case k2 => exact Nat.le_of_ble_eq_true rfl); (case k3 => k_asm); (case k4 => k_asm); k_whole); intro _ _ _ _ _ _ _ _)
  k_with "call builtin:list.index" => (k_here; (with_reducible show wpAny _ _ (call (Value.builtin _) [Value.ref _, Value.int _ _]) _ _ _); k_dflt (refine' led_index ?k1 ?k2 ?k3 ?k4 ?k5 ?_; (case k1 => k_asm); (case k2 => k_mem); (case k3 => assumption); (case k4 => assumption); (case k5 => omega); k_whole))
  k_with "pyIter ref" => refine held_of ?_
  k_with "InvEndN" => k_extra "InvEndN"
  k_with "k_steps" => repeat' (first | (k_unfold; (try dsimp only)) | (k_end; fail_if_success skip) | walk1 | (dsimp only; walk1) | fail "no step")
  k_with "kst_same" => (intro z h1 h2 h3; (try simp only [List.contains_cons, List.contains_nil, Bool.or_false, Bool.or_eq_false_iff, beq_eq_false_iff_ne, ne_eq] at h3); (simp [h1, h3, kstB]; done))
  k_with "ktr_enter" => first | (refine' code_def ?k1 ?k2 ?k3 ?k4 ?k5 ?kA ?kF ?kK ?k6 ?k7 ?k8 ?k9 ?kB ?_ ?c2 ?c3 ?c4 ?c5; (case kA => exact rfl); (case kF => exact rfl); (case kK => assumption); (case k1 => k_asm); (case k2 => k_asm); (case k3 => k_asm); (case k4 => k_asm); (case k5 => k_asm); (case k6 => k_is); (case k7 => k_is); (case k8 => ktr_room); (case k9 => first | exact BindsTo.of_eq rfl | exact binds_K (by k_in) rfl (by k_is) rfl rfl rfl); (case c5 => decide); (case kB => exact locs rfl); (case c2 => exact rfl); (case c3 => exact rfl); (case c4 => exact rfl); k_whole; walk_at "tl1") | (refine' code_defC ?k1 ?k2 ?k3 ?k4 ?k5 ?kA ?kF ?kK ?k6 ?k7 ?k8 ?k9 ?kB ?kD ?_ ?c2 ?c3 ?c4; (case kA => exact rfl); (case kF => exact rfl); (case kK => assumption); (case k1 => k_asm); (case k2 => k_asm); (case k3 => k_asm); (case k4 => k_asm); (case k5 => k_asm); (case k6 => k_is); (case k7 => k_is); (case k8 => ktr_room); (case k9 => first | exact BindsTo.of_eq rfl | exact binds_K (by k_in) rfl (by k_is) rfl rfl rfl); (case kB => exact rfl); (case kD => decide +kernel); (case c2 => exact rfl); (case c3 => exact rfl); (case c4 => exact rfl); k_whole; walk_at "tl2")
  k_with "ltmode" => skip
  k_with "ne" => first | (refine' AL.hi ?h ?m; (case h => with_reducible assumption); (case m => walk_at "memR")) | (refine' AL.lo ?h ?m; (case h => with_reducible assumption); (case m => walk_at "memR"))
  k_with "call ref" => (k_here; (with_reducible show wpAny _ _ (call (Value.ref 323) [_, _]) _ _ _); k_dflt (refine' adda_c ?B ?F ?X ?N ?T ?hk ?hd ?hu ?D ?ord ?hr ?z1 ?z2 ?z3 ?z4 ?z5 ?z6 ?z7 ?_; (case B => k_asm); (case F => k_asm); (case X => k_asm); (case N => k_asm); (case T => k_asm); (case hk => first | exact rfl | assumption); (case hd => ktr_room); (case hu => first | ktr_units | exact Nat.le_of_ble_eq_true rfl); (case D => assumption); (case ord => assumption); (case hr => first | assumption | exact List.forall_mem_cons.mpr ⟨.inr (by assumption), by assumption⟩); (case z1 => first | exact le_up98 (by assumption) | exact le_snoc98 (by assumption) | ((try simp only [List.length_append, List.length_cons, List.length_nil]); omega)); (case z2 => first | exact le_up98 (by assumption) | exact le_snoc98 (by assumption) | ((try simp only [List.length_append, List.length_cons, List.length_nil]); omega)); (case z3 => first | exact le_up98 (by assumption) | exact le_snoc98 (by assumption) | ((try simp only [List.length_append, List.length_cons, List.length_nil]); omega)); (case z4 => first | exact le_up98 (by assumption) | exact le_snoc98 (by assumption) | ((try simp only [List.length_append, List.length_cons, List.length_nil]); omega)); (case z5 => first | exact le_up98 (by assumption) | exact le_snoc98 (by assumption) | ((try simp only [List.length_append, List.length_cons, List.length_nil]); omega)); (case z6 => first | exact le_up98 (by assumption) | exact le_snoc98 (by assumption) | ((try simp only [List.length_append, List.length_cons, List.length_nil]); omega)); (case z7 => first | exact le_up98 (by assumption) | exact le_snoc98 (by assumption) | ((try simp only [List.length_append, List.length_cons, List.length_nil]); omega)); k_whole); intro _ _ _ _ _ _ _ _ _ _ _ _ _)
  k_with "sameS" => first | with_reducible assumption | with_reducible exact SameS.up (by with_reducible assumption) | with_reducible exact SameS.up (SameS.up (by with_reducible assumption)) | with_reducible exact SameS.up (SameS.up (SameS.up (by with_reducible assumption)))
  k_with "ltmode" => skip
  k_with "all" => (refine' ne_sub ?h ?s (Nat.le_refl _); (case h => with_reducible assumption); (case s => intro p hp; repeat (first | exact hp | refine List.Mem.tail _ ?_)))
  k_with "call ref" => (k_here; (with_reducible show wpAny _ _ (call (Value.ref 323) _) _ _ _); refine held_of ?_)
  k_with "call ref" => (k_here; (first | (with_reducible show wpAny _ _ (call (Value.ref 491) _) _ _ _) | (with_reducible show wpAny _ _ (call (Value.ref 413) _) _ _ _) | (with_reducible show wpAny _ _ (call (Value.ref 136) _) _ _ _) | (with_reducible show wpAny _ _ (call (Value.ref 296) _) _ _ _)); k_dflt (refine' call_cls ?k1 ?k2 ?k3 ?k4 ?k5 ?k6 ?_; (case k1 => k_asm); (case k2 => k_asm); (case k3 => k_asm); (case k4 => k_is); (case k5 => k_is); (case k6 => k_is); k_whole; walk_at "tlB"))
  k_with "setAttr ref" => (k_here; k_dflt (refine' set_dict9 ?k1 ?k2 ?k3 ?k4 ?k5 ?k6 ?k7 ?k8 ?k9 ?k10 ?k11 ?k12 ?k13 ?kR ?_; (case k1 => k_asm); (case k2 => k_asm); (case k3 => k_asm); (case k4 => k_inst); (case k5 => exact rfl); (case k6 => k_is); (case k7 => k_is); (case k8 => k_is); (case k9 => k_is); (case k10 => k_get); (case k11 => k_put); (case k12 => k_upd); (case k13 => exact Nat.le_of_ble_eq_true rfl); (case kR => walk_at "sameS"); k_whole); walk_at "tl5")
  revert X; k_fill; intro X
  have R0 : SameS s s := SameS.refl s
  k_steps
  rename_i b bd _ _ _ l0 _ l3 _ _ _ _ _ _ _ _ _ _ _ _ t td _ F1 N1 _ _ l2 g9 L9 _ _ _ _ _ kk _ _ _ _ _ ss _ _ _ _ _ nn _ _ _ _ _ ta _ _ _ _ _ tx _ _ _ _ _ pp _ _ _ _ _ cc _ _ _ _ _ co _ oc lo _ _ hi fi _ l1 _ _ F9 N9
  have ord : @LT.lt Nat _ td t ∧ @LT.lt Nat _ t kk ∧ @LT.lt Nat _ kk ss ∧ @LT.lt Nat _ ss nn ∧ @LT.lt Nat _ nn ta ∧ @LT.lt Nat _ ta tx ∧ @LT.lt Nat _ tx pp ∧ @LT.lt Nat _ pp cc ∧ @LT.lt Nat _ cc co := by
    simp only [AL] at *
    refine ⟨?_, ?_, ?_, ?_, ?_, ?_, ?_, ?_, ?_⟩ <;> omega
  refine held_go (adda_c (kv := []) (sv := []) (nv := []) (av := []) (tv := []) (pv := []) (cv := []) (by k_asm) F9 (by k_asm) (flip10 N9) (by k_asm) (by first | exact rfl | assumption) ?hd ?hu ?D ord ?hr (Nat.zero_le _) (Nat.zero_le _) (Nat.zero_le _) (Nat.zero_le _) (Nat.zero_le _) (Nat.zero_le _) (Nat.zero_le _) ?_)
  case hd =>
    simp only [depth_under_make, depth_deeper]
    omega
  case hu =>
    have hcL := cLine_is
    simp only [units_make, units_deeper]
    omega
  case D =>
    refine ⟨?_⟩
    repeat refine List.forall_mem_cons.mpr ⟨rfl, ?_⟩
    exact List.forall_mem_nil _
  case hr =>
    refine List.forall_mem_cons.mpr ⟨.inl (by simp only [AL] at *; omega), ?_⟩
    refine List.forall_mem_cons.mpr ⟨.inl (by simp only [AL] at *; omega), ?_⟩
    exact fun p hp => .inl (by have := l0 p hp; have := ltN this; simp only [AL] at *; omega)
  intro c0 al tq t2 t3 t4 tr h9 tk9 F8 N8 f1 f2
  have f3 : AL c0 (co :: _) := AL.up (by with_reducible assumption) f2
  k_steps
  rename Fr h₀ L _ _ => kF; rename News h₀ L _ _ => kN
  have kN2 := bld_fin kN
  refine SameS.fin (s := s) (by walk_at "sameS") ?_
  refine' k _ _ _ _ _ _ _ _ _ _ _ _ _ _ _ _ _ _ _ _ _ _ _ _ _ _ _ _ _ _ _ _ _ _ _ _ _ _ _ _ _ _ _ _ _ _ _ kF kN2 stE_st stE_fm bdE_bd ?D4 stE_put stE_put bdE_err bdE_mode (fun _ => Nat.le_of_ble_eq_true rfl) (fun _ => Nat.le_of_ble_eq_true rfl) (fun _ _ => Nat.le_of_ble_eq_true rfl) ?H ord ?od l0 lo
  case D4 =>
    refine ⟨?_⟩
    repeat refine List.forall_mem_cons.mpr ⟨rfl, ?_⟩
    exact List.forall_mem_nil _
  case H =>
    exact (⟨.nil, .nil, .nil, rfl, .nil, .nil, .nil, ⟨[], [], hi, .nil, fun _ => rfl, Nat.le_refl _⟩, rfl, rfl, rfl, rfl, rfl⟩ : TreeIs w ⟨[], [], [], [], [], [], fun _ => Option.none⟩ [] [] [] [] [] [] [] oc []).addE rfl
  case od =>
    simp only [AL] at *
    refine ⟨?_, ?_, ?_, ?_, ?_, ?_, ?_⟩ <;> omega
end
end
section
section
variable {w : World} {mean : ExcName → Option Value} {mg mb : Str → Option Value} {dp un : Nat} {gd : Option (List Code)} {cn : Str} {cs : Scope} {a : Addr} {ccd : Value} {cl : List (Str × Addr)} {outer : List Env} {A₀ : Around} {base h₀ : Heap} {L : Addr} {m : Str → Option Value} {news : List (Addr × Obj)} {s : Shared} {Q E : Value → Shared → Prop}

set_option maxHeartbeats 8000000 in
theorem to_c {b bd t st fm er : Addr} {ebf : Value → Addr → List DictEntry} {nb : Nat} {md d : Str} {tm td : Tok} {L1 : Obj → List (Addr × Obj)}
  (B : Below A₀ base outer h₀) (F : Fr h₀ L s.heap m) (X : (K w.params).In h₀) (N : News h₀ L s.heap news) (T : TopP mean mg mb h₀) (hk : cs.kind = .function) (hd : dp + 3 < recursionLimit) (hu : un + 30 < cLine)
  (h1 : (b, instObj 491 bd) ∈ news) (h2 : (bd, dictOf (ebf (.str md tm) er) nb) ∈ news) (D : BdD (ebf (.str md tm) er) t st fm er md tm) (U : ∀ o, Upd bd (dictOf (ebf (.str md tm) er) nb) o news (L1 o))
  (p4 : ∀ v v' i h k, (putL (Str.ofString "mode") h k v' (ebf v i), putN (Str.ofString "mode") (ebf v i) nb) = (ebf v' i, nb)) (z3 : ∀ v i, (ebf v i).length ≤ 1000)
  (k : ∀ h' tk', Fr h₀ L h' m → News h₀ L h' (L1 (dictOf (ebf (.str d td) er) nb)) → Q .none { s with heap := h', toks := tk' }) :
  wpAny (model PySem.Challenge.rw_pb0145_01.row.prog w) (ktrTop dp un gd cn cs L a ccd cl outer) (call (.ref 453) [.ref b, .str d td]) Q E s := by
  k_with_none
  k_with "om" => first | assumption | exact Nat.le_trans (by assumption) (Nat.le_of_ble_eq_true rfl) | exact Nat.lt_of_le_of_lt (by assumption) (Nat.le_of_ble_eq_true rfl) | decide | omega
  k_with "k_get" => (first | k_extra "getd" | with_reducible assumption | with_reducible_and_instances exact Dct.get (by assumption) (by k_mem) | exact Dct.get (by assumption) (by k_mem))
  k_with "k_upd" => first | assumption | k_extra "upd" | (refine' Upd.head ?a; (case a => k_all)) | (refine' Upd.tail ?a ?b; (case a => k_ne); (case b => k_upd))
  k_with "exec While" => refine held_of ?_
  k_with "call builtin:len" => (k_here; (with_reducible show wpAny _ _ (call (Value.builtin "len") [Value.ref _]) _ _ _); k_dflt (refine' led_len ?k1 ?k2 ?k3 ?k4 ?_; (case k1 => k_asm); (case k2 => k_mem); (case k3 => first | exact IntsAre.length (by assumption) | exact PyProof.Rows.StrsAre.length (by assumption) | assumption); (case k4 => walk_at "om"); k_whole); intro _ _)
  k_with "subs9" => (k_here; (with_reducible show wpAny _ _ (subscriptTail _ _ (Value.ref _) (Value.int _ _)) _ _ _); k_dflt (first | (refine' led_int ?k1 ?k2 ?k3 ?k4 ?k5 ?k6 ?_ ?k7; (case k1 => k_asm); (case k2 => k_mem); (case k3 => assumption); (case k4 => first | omega | k_extra "bnd"); (case k5 => first | omega | k_extra "bnd"); (case k6 => omega); (case k7 => with_unfolding_all rfl); k_whole; intro _ _; (try k_extra "fact")) | (refine' led_str ?k1 ?k2 ?k3 ?k4 ?k5 ?k6 ?_ ?k7; (case k1 => k_asm); (case k2 => k_mem); (case k3 => assumption); (case k4 => first | omega | k_extra "bnd"); (case k5 => first | omega | k_extra "bnd"); (case k6 => omega); (case k7 => with_unfolding_all rfl); k_whole; intro _)))
  k_with "subscriptTail" => walk_at "subs9"
  k_with "subscriptTail Name Name ref int" => walk_at "subs9"
  k_with "subscriptTail Attribute Name ref int" => walk_at "subs9"
  k_with "compareOp In int ref" => (k_here; k_dflt (refine' led_in ?k1 ?k2 ?k3 ?_; (case k1 => k_asm); (case k2 => k_mem); (case k3 => assumption); k_whole))
  k_with "compareOp NotIn int ref" => (k_here; k_dflt (refine' led_notin ?k1 ?k2 ?k3 ?_; (case k1 => k_asm); (case k2 => k_mem); (case k3 => assumption); k_whole))
  k_with "compareOp In str ref" => (k_here; k_dflt (first | (refine' led_in_str ?k1 ?k2 ?k3 ?_; (case k1 => k_asm); (case k2 => walk_at "memR"); (case k3 => with_reducible assumption); k_whole) | (refine' led_in_tup ?k1 ?k2 ?k3 ?_; (case k1 => k_asm); (case k2 => walk_at "memR"); (case k3 => with_reducible assumption); k_whole) | (refine' led_in_tup ?k1 ?k2 ?k3 ?_; (case k1 => k_asm); (case k2 => k_mem); (case k3 => with_reducible assumption); k_whole) | (refine' led_in_str ?k1 ?k2 ?k3 ?_; (case k1 => k_asm); (case k2 => k_mem); (case k3 => with_reducible assumption); k_whole)))
  k_with "compareOp NotIn str ref" => (k_here; k_dflt (first | (refine' led_notin_str ?k1 ?k2 ?k3 ?_; (case k1 => k_asm); (case k2 => walk_at "memR"); (case k3 => with_reducible assumption); k_whole) | (refine' led_notin_tup ?k1 ?k2 ?k3 ?_; (case k1 => k_asm); (case k2 => walk_at "memR"); (case k3 => with_reducible assumption); k_whole) | (refine' led_notin_tup ?k1 ?k2 ?k3 ?_; (case k1 => k_asm); (case k2 => k_mem); (case k3 => with_reducible assumption); k_whole) | (refine' led_notin_str ?k1 ?k2 ?k3 ?_; (case k1 => k_asm); (case k2 => k_mem); (case k3 => with_reducible assumption); k_whole)))
  k_with "eval Tuple" => (k_here; k_dflt (refine' tup_lit ?k1 ?k2 ?k3 ?k4 ?_; (case k1 => exact rfl); (case k2 => exact Nat.le_of_ble_eq_true rfl); (case k3 => k_asm); (case k4 => k_asm); k_whole); intro _ _ _ _ _ _ _ _)
  k_with "call builtin:list.index" => (k_here; (with_reducible show wpAny _ _ (call (Value.builtin _) [Value.ref _, Value.int _ _]) _ _ _); k_dflt (refine' led_index ?k1 ?k2 ?k3 ?k4 ?k5 ?_; (case k1 => k_asm); (case k2 => k_mem); (case k3 => assumption); (case k4 => assumption); (case k5 => omega); k_whole))
  k_with "pyIter ref" => refine held_of ?_
  k_with "InvEndN" => k_extra "InvEndN"
  k_with "k_steps" => repeat' (first | (k_unfold; (try dsimp only)) | (k_end; fail_if_success skip) | walk1 | (dsimp only; walk1) | fail "no step")
  k_with "kst_same" => (intro z h1 h2 h3; (try simp only [List.contains_cons, List.contains_nil, Bool.or_false, Bool.or_eq_false_iff, beq_eq_false_iff_ne, ne_eq] at h3); (simp [h1, h3, kstB]; done))
  k_with "ktr_enter" => first | (refine' code_def ?k1 ?k2 ?k3 ?k4 ?k5 ?kA ?kF ?kK ?k6 ?k7 ?k8 ?k9 ?kB ?_ ?c2 ?c3 ?c4 ?c5; (case kA => exact rfl); (case kF => exact rfl); (case kK => assumption); (case k1 => k_asm); (case k2 => k_asm); (case k3 => k_asm); (case k4 => k_asm); (case k5 => k_asm); (case k6 => k_is); (case k7 => k_is); (case k8 => ktr_room); (case k9 => first | exact BindsTo.of_eq rfl | exact binds_K (by k_in) rfl (by k_is) rfl rfl rfl); (case c5 => decide); (case kB => exact locs rfl); (case c2 => exact rfl); (case c3 => exact rfl); (case c4 => exact rfl); k_whole; walk_at "tl1") | (refine' code_defC ?k1 ?k2 ?k3 ?k4 ?k5 ?kA ?kF ?kK ?k6 ?k7 ?k8 ?k9 ?kB ?kD ?_ ?c2 ?c3 ?c4; (case kA => exact rfl); (case kF => exact rfl); (case kK => assumption); (case k1 => k_asm); (case k2 => k_asm); (case k3 => k_asm); (case k4 => k_asm); (case k5 => k_asm); (case k6 => k_is); (case k7 => k_is); (case k8 => ktr_room); (case k9 => first | exact BindsTo.of_eq rfl | exact binds_K (by k_in) rfl (by k_is) rfl rfl rfl); (case kB => exact rfl); (case kD => decide +kernel); (case c2 => exact rfl); (case c3 => exact rfl); (case c4 => exact rfl); k_whole; walk_at "tl2")
  k_with "setAttr ref" => (k_here; k_dflt (refine' set_dict ?k1 ?k2 ?k3 ?k4 ?k5 ?k6 ?k7 ?k8 ?k9 ?k10 ?k11 ?k12 ?k13 ?_; (case k1 => k_asm); (case k2 => k_asm); (case k3 => k_asm); (case k4 => k_inst); (case k5 => exact rfl); (case k6 => k_is); (case k7 => k_is); (case k8 => k_is); (case k9 => k_is); (case k10 => k_extra "get9"); (case k11 => k_extra "put9"); (case k12 => k_upd); (case k13 => k_extra "len9"); k_whole); walk_at "tl6")
  k_with "get9" =>
    (rw [D.get (List.Mem.tail _ (List.Mem.tail _ (List.Mem.tail _ (List.Mem.tail _ (List.Mem.head _)))))]; rfl)
  k_with "put9" =>
    exact p4 _ _ _ _ _
  k_with "len9" =>
    exact z3 _ _
  k_with "upd" =>
    exact U _
  revert X; k_fill; intro X
  refine wpAny_call ?_
  k_dflt ktr_enter
  k_steps
  rename Fr h₀ L _ _ => kF; rename News h₀ L _ _ => kN
  exact k _ _ kF kN
end
section
variable {w : World} {mean : ExcName → Option Value} {mg mb : Str → Option Value} {dp un : Nat} {gd : Option (List Code)} {cn : Str} {cs : Scope} {a : Addr} {ccd : Value} {cl : List (Str × Addr)} {outer : List Env} {A₀ : Around} {base h₀ : Heap} {L : Addr} {m : Str → Option Value} {news : List (Addr × Obj)} {s : Shared} {Q E : Value → Shared → Prop}

theorem to4_c {b bd t st fm er : Addr} {ebf : Value → Addr → List DictEntry} {nb : Nat} {md d : Str} {tm td : Tok} {x1 x2 x3 : Addr × Obj} {r : List (Addr × Obj)}
  (B : Below A₀ base outer h₀) (F : Fr h₀ L s.heap m) (X : (K w.params).In h₀) (N : News h₀ L s.heap (x1 :: x2 :: x3 :: (bd, dictOf (ebf (.str md tm) er) nb) :: r)) (T : TopP mean mg mb h₀) (hk : cs.kind = .function) (hd : dp + 3 < recursionLimit) (hu : un + 30 < cLine)
  (h1 : (b, instObj 491 bd) ∈ r) (D : BdD (ebf (.str md tm) er) t st fm er md tm) (u1 : x1.1 ≠ bd) (u2 : x2.1 ≠ bd) (u3 : x3.1 ≠ bd) (ur : ∀ p ∈ r, p.1 ≠ bd)
  (p4 : ∀ v v' i h k, (putL (Str.ofString "mode") h k v' (ebf v i), putN (Str.ofString "mode") (ebf v i) nb) = (ebf v' i, nb)) (z3 : ∀ v i, (ebf v i).length ≤ 1000)
  (k : ∀ h' tk', Fr h₀ L h' m → News h₀ L h' (x1 :: x2 :: x3 :: (bd, dictOf (ebf (.str d td) er) nb) :: r) → Q .none { s with heap := h', toks := tk' }) :
  wpAny (model PySem.Challenge.rw_pb0145_01.row.prog w) (ktrTop dp un gd cn cs L a ccd cl outer) (call (.ref 453) [.ref b, .str d td]) Q E s :=
  to_c (L1 := fun o => x1 :: x2 :: x3 :: (bd, o) :: r) B F X N T hk hd hu (List.mem_cons_of_mem _ (List.mem_cons_of_mem _ (List.mem_cons_of_mem _ (List.mem_cons_of_mem _ h1)))) (List.mem_cons_of_mem _ (List.mem_cons_of_mem _ (List.mem_cons_of_mem _ List.mem_cons_self))) D
    (fun _ => .tail u1 (.tail u2 (.tail u3 (.head ur)))) p4 z3 k
end
end
section
open PySem PySem.W PyProof.Rows
/-- what each of the words is -/
noncomputable def wordOk (p : Str × Str) : Bool :=
  (if p.1 == Str.ofString "html" then glue p == Str.ofString "html:" ++ p.2 && (hasS impliedL p.2 == implied9L.any (· == glue p))
   else (glue p).cps[0]? != some 104 && !implied9L.any (· == glue p))
  && (stopsP p.1 p.2 == endersL.any (· == glue p)) && (isSpec p.1 p.2 == specials9L.any (· == glue p))
theorem words_ok : pairsX.all wordOk = true := by decide +kernel
theorem str_app_inj {a b c : Str} (h : a ++ b = a ++ c) : b = c := by
  have e : a.cps ++ b.cps = a.cps ++ c.cps := congrArg Str.cps h
  have e2 := Array.append_inj_right e rfl
  cases b; cases c; exact congrArg Str.mk e2
structure WordOk (p : Str × Str) : Prop where
  isH : ∀ name, (glue p == Str.ofString "html:" ++ name) = (p.1 == Str.ofString "html" && p.2 == name)
  imp : hasS impliedL (if p.1 == Str.ofString "html" then p.2 else Str.ofString "") = implied9L.any (· == glue p)
  stop : stopsP p.1 p.2 = endersL.any (· == glue p)
  spec : isSpec p.1 p.2 = specials9L.any (· == glue p)
theorem wordOk_of {p : Str × Str} (hp : p ∈ pairsX) : WordOk p := by
  have h := List.all_eq_true.mp words_ok p hp
  unfold wordOk at h
  obtain ⟨h12, h3⟩ := Bool.and_eq_true_iff.mp h
  obtain ⟨h1, h2⟩ := Bool.and_eq_true_iff.mp h12
  clear h h12
  refine ⟨fun name => ?_, ?_, eq_of_beq h2, eq_of_beq h3⟩
  · by_cases c : (p.1 == Str.ofString "html") = true
    · rw [if_pos c] at h1
      obtain ⟨e1, _⟩ := Bool.and_eq_true_iff.mp h1
      rw [eq_of_beq e1, c, Bool.true_and, Bool.eq_iff_iff, beq_iff_eq, beq_iff_eq]
      exact ⟨str_app_inj, fun e => by rw [e]⟩
    · rw [if_neg c] at h1
      obtain ⟨e1, _⟩ := Bool.and_eq_true_iff.mp h1
      rw [Bool.not_eq_true] at c
      rw [c, Bool.false_and]
      refine beq_false_of_ne fun e => ?_
      rw [e] at e1
      have : (Str.ofString "html:" ++ name).cps[0]? = some 104 := by
        show ((Str.ofString "html:").cps ++ name.cps)[0]? = some 104
        rw [Array.getElem?_append_left (by decide +kernel)]
        decide +kernel
      rw [this] at e1
      exact absurd e1 (by decide)
  · by_cases c : (p.1 == Str.ofString "html") = true
    · rw [if_pos c] at h1 ⊢
      obtain ⟨_, e1⟩ := Bool.and_eq_true_iff.mp h1
      exact eq_of_beq e1
    · rw [if_neg c] at h1 ⊢
      obtain ⟨_, e1⟩ := Bool.and_eq_true_iff.mp h1
      rw [hasS_nil]
      rw [Bool.not_eq_true'] at e1
      exact e1.symm
/-- what the law has built: words, nodes, the tree's spaces and names, the list of active ones -/
structure Bld (spaces names words : List Str) (nodes active : List Int) : Prop where
  len : nodes.length = words.length
  nd : nodes.Nodup
  big : 0 < words.length
  word : ∀ j, j < words.length → ∃ p ∈ pairsX, sAt words (j : Nat) = glue p ∧ sAt spaces (iAt nodes (j : Nat)) = p.1 ∧ sAt names (iAt nodes (j : Nat)) = p.2
  first : isSpec (sAt spaces (iAt nodes (0 : Nat))) (sAt names (iAt nodes (0 : Nat))) = true
  pos : ∀ x ∈ nodes, 0 ≤ x
  act : ∀ x ∈ active, x = -1 ∨ (x ∈ nodes ∧ (sAt spaces x == Str.ofString "html") = true)
  once : ∀ x, x ≠ -1 → active.count x ≤ 1
/-- the last place below m at which c holds -/
noncomputable def lastP (c : Nat → Bool) : Nat → Option Nat
  | 0 => none
  | m + 1 => if c m = true then some m else lastP c m
theorem lastP_yes {c : Nat → Bool} {m : Nat} (h : c m = true) : lastP c (m + 1) = some m := by rw [lastP, if_pos h]
theorem lastP_no {c : Nat → Bool} {m : Nat} (h : ¬ c m = true) : lastP c (m + 1) = lastP c m := by rw [lastP, if_neg h]
theorem lastP_none {c : Nat → Bool} : ∀ {m}, lastP c m = Option.none → ∀ j, j < m → c j = false
  | 0, _, j, hj => absurd hj (Nat.not_lt_zero _)
  | m + 1, h, j, hj => by
    unfold lastP at h
    split at h
    · cases h
    · rename_i q
      rcases Nat.lt_succ_iff_lt_or_eq.mp hj with r | r
      · exact lastP_none h j r
      · rw [r]; exact Bool.eq_false_iff.mpr q
theorem lastP_some {c : Nat → Bool} {k : Nat} : ∀ {m}, lastP c m = some k → k < m ∧ c k = true ∧ ∀ j, k < j → j < m → c j = false
  | m + 1, h => by
    unfold lastP at h
    split at h
    · rename_i q
      cases h
      exact ⟨Nat.lt_succ_self _, q, fun j h1 h2 => by omega⟩
    · rename_i q
      obtain ⟨a, b, d⟩ := lastP_some h
      refine ⟨by omega, b, fun j h1 h2 => ?_⟩
      rcases Nat.lt_succ_iff_lt_or_eq.mp h2 with r | r
      · exact d j h1 r
      · rw [r]; exact Bool.eq_false_iff.mpr q
theorem upto_succ (m : Nat) : upto (m + 1) = upto m ++ [(m : Int)] := by
  unfold upto; rw [List.range_succ, List.map_append]; rfl
theorem filt_last {c : Int → Bool} : ∀ m, ((upto m).filter c).getLast? = (lastP (fun j => c (j : Nat)) m).map fun k => ((k : Nat) : Int)
  | 0 => rfl
  | m + 1 => by
    rw [upto_succ, List.filter_append, lastP]
    by_cases q : c (m : Int) = true
    · rw [if_pos q, List.filter_cons_of_pos q]; simp
    · rw [if_neg q, List.filter_cons_of_neg q, List.filter_nil, List.append_nil, filt_last m]
theorem filt_none {c : Int → Bool} {m : Nat} (h : lastP (fun j => c (j : Nat)) m = Option.none) : (upto m).filter c = [] := by
  have := filt_last (c := c) m
  rw [h] at this
  exact List.getLast?_eq_none_iff.mp this
theorem filt_some {c : Int → Bool} {m k : Nat} (h : lastP (fun j => c (j : Nat)) m = some k) : (upto m).filter c ≠ [] ∧ last9 ((upto m).filter c) = k := by
  have := filt_last (c := c) m
  rw [h] at this
  refine ⟨fun e => ?_, by unfold last9; rw [this]; rfl⟩
  rw [e] at this; cases this
theorem take_rev {nodes : List Int} {m : Nat} (h : m < nodes.length) : (nodes.take (m + 1)).reverse = iAt nodes (m : Nat) :: (nodes.take m).reverse := by
  have e : nodes[m]? = some (iAt nodes (m : Nat)) := by unfold iAt; simp [h]
  rw [List.take_add_one, e, List.reverse_append]; rfl
section
variable {spaces names words : List Str} {nodes active : List Int}
/-- scanR by places -/
theorem scan_lt (name : Str) : ∀ m, m ≤ nodes.length → scanR spaces names name (nodes.take m).reverse =
    match lastP (fun j => isH spaces names (iAt nodes (j : Nat)) name) m, lastP (fun j => isSpec (sAt spaces (iAt nodes (j : Nat))) (sAt names (iAt nodes (j : Nat)))) m with
    | Option.none, Option.none => Option.none
    | some k, Option.none => some (iAt nodes (k : Nat), true)
    | Option.none, some s => some (iAt nodes (s : Nat), false)
    | some k, some s => if k < s then some (iAt nodes (s : Nat), false) else some (iAt nodes (k : Nat), true)
  | 0, _ => by rw [List.take_zero]; rfl
  | m + 1, h => by
    rw [take_rev (by omega), scanR, scan_lt name m (by omega)]
    by_cases q : isH spaces names (iAt nodes (m : Nat)) name = true
    · rw [if_pos q, lastP_yes (c := fun j => isH spaces names (iAt nodes (j : Nat)) name) q]
      cases e : lastP (fun j => isSpec (sAt spaces (iAt nodes (j : Nat))) (sAt names (iAt nodes (j : Nat)))) (m + 1) with
      | none => rfl
      | some s =>
        have := (lastP_some e).1
        show _ = if m < s then _ else _
        rw [if_neg (by omega)]
    · rw [if_neg q, lastP_no (c := fun j => isH spaces names (iAt nodes (j : Nat)) name) q]
      by_cases q2 : isSpec (sAt spaces (iAt nodes (m : Nat))) (sAt names (iAt nodes (m : Nat))) = true
      · rw [if_pos q2, lastP_yes (c := fun j => isSpec (sAt spaces (iAt nodes (j : Nat))) (sAt names (iAt nodes (j : Nat)))) q2]
        cases e : lastP (fun j => isH spaces names (iAt nodes (j : Nat)) name) m with
        | none => rfl
        | some k => show _ = if k < m then _ else _; rw [if_pos (lastP_some e).1]
      · rw [if_neg q2, lastP_no (c := fun j => isSpec (sAt spaces (iAt nodes (j : Nat))) (sAt names (iAt nodes (j : Nat)))) q2]
end
end
section
open PySem PySem.W PyProof.Rows
theorem iAt_get {nodes : List Int} {j : Nat} (h : j < nodes.length) : nodes[j]? = some (iAt nodes (j : Nat)) := by unfold iAt; simp [h]
theorem sAt_get {ws : List Str} {j : Nat} (h : j < ws.length) : ws[j]? = some (sAt ws (j : Nat)) := by unfold sAt; simp [h]
theorem iAt_inj {nodes : List Int} (nd : nodes.Nodup) {j k : Nat} (hj : j < nodes.length) (hk : k < nodes.length) (e : iAt nodes (j : Nat) = iAt nodes (k : Nat)) : j = k :=
  (List.getElem?_inj hj nd).mp (by rw [iAt_get hj, iAt_get hk, e])
theorem mem_run {ws : List Str} {m a : Nat} (hm : m ≤ ws.length) {x : Str} : x ∈ (ws.take m).drop a ↔ ∃ j, a ≤ j ∧ j < m ∧ sAt ws (j : Nat) = x := by
  constructor
  · intro h
    obtain ⟨i, hi⟩ := List.getElem?_of_mem h
    rw [List.getElem?_drop, List.getElem?_take] at hi
    split at hi
    · rename_i q
      refine ⟨a + i, by omega, q, ?_⟩
      rw [sAt_get (by omega)] at hi
      exact Option.some.inj hi
    · cases hi
  · rintro ⟨j, h1, h2, h3⟩
    refine List.mem_of_getElem? (i := j - a) ?_
    rw [List.getElem?_drop, List.getElem?_take, show a + (j - a) = j by omega, if_pos h2, sAt_get (by omega), h3]
theorem mem_takeI {ns : List Int} {m : Nat} (hm : m ≤ ns.length) {x : Int} : x ∈ ns.take m ↔ ∃ j, j < m ∧ iAt ns (j : Nat) = x := by
  constructor
  · intro h
    obtain ⟨i, hi⟩ := List.getElem?_of_mem h
    rw [List.getElem?_take] at hi
    split at hi
    · rename_i q
      refine ⟨i, q, ?_⟩
      rw [iAt_get (by omega)] at hi
      exact Option.some.inj hi
    · cases hi
  · rintro ⟨j, h2, h3⟩
    refine List.mem_of_getElem? (i := j) ?_
    rw [List.getElem?_take, if_pos h2, iAt_get (by omega), h3]
theorem lastI_take {ns : List Int} {m : Nat} (h0 : 0 < m) (hm : m ≤ ns.length) : lastI (ns.take m) = iAt ns ((m - 1 : Nat) : Int) := by
  unfold lastI
  rw [List.getLast?_eq_getElem?, List.length_take, Nat.min_eq_left hm, List.getElem?_take, if_pos (by omega), iAt_get (by omega)]; rfl
theorem popW_take {nodes : List Int} (nd : nodes.Nodup) {k : Nat} : ∀ {m}, k < m → m ≤ nodes.length → popWithR (iAt nodes (k : Nat)) (nodes.take m).reverse = (nodes.take k).reverse
  | m + 1, h1, h2 => by
    rw [take_rev (by omega), popWithR]
    by_cases q : iAt nodes (m : Nat) = iAt nodes (k : Nat)
    · rw [if_pos q, iAt_inj nd (by omega) (by omega) q]
    · rw [if_neg q, popW_take nd (Nat.lt_of_le_of_ne (by omega) (fun e => q (by rw [e]))) (by omega)]
section
variable {spaces names words : List Str} {nodes active : List Int}
theorem Bld.isP (H : Bld spaces names words nodes active) (name : Str) {j : Nat} (hj : j < words.length) : isH spaces names (iAt nodes (j : Nat)) name = (sAt words (j : Nat) == Str.ofString "html:" ++ name) := by
  obtain ⟨p, hp, e1, e2, e3⟩ := H.word j hj
  unfold isH; rw [e1, e2, e3, (wordOk_of hp).isH]
theorem Bld.isS (H : Bld spaces names words nodes active) {j : Nat} (hj : j < words.length) : isSpec (sAt spaces (iAt nodes (j : Nat))) (sAt names (iAt nodes (j : Nat))) = specials9L.any (· == sAt words (j : Nat)) := by
  obtain ⟨p, hp, e1, e2, e3⟩ := H.word j hj
  rw [e1, e2, e3, (wordOk_of hp).spec]
theorem Bld.stop (H : Bld spaces names words nodes active) {j : Nat} (hj : j < words.length) : stopsP (sAt spaces (iAt nodes (j : Nat))) (sAt names (iAt nodes (j : Nat))) = endersL.any (· == sAt words (j : Nat)) := by
  obtain ⟨p, hp, e1, e2, e3⟩ := H.word j hj
  rw [e1, e2, e3, (wordOk_of hp).stop]
theorem Bld.imp (H : Bld spaces names words nodes active) {j : Nat} (hj : j < words.length) : hasS impliedL (nodeName spaces names (iAt nodes (j : Nat))) = implied9L.any (· == sAt words (j : Nat)) := by
  obtain ⟨p, hp, e1, e2, e3⟩ := H.word j hj
  unfold nodeName; rw [e1, e2, e3, (wordOk_of hp).imp]
theorem lastP_congr {c d : Nat → Bool} : ∀ {m}, (∀ j, j < m → c j = d j) → lastP c m = lastP d m
  | 0, _ => rfl
  | m + 1, h => by rw [lastP, lastP, h m (Nat.lt_succ_self _), lastP_congr (m := m) fun j hj => h j (by omega)]
/-- the implied ones above a place -/
theorem popI_take (H : Bld spaces names words nodes active) {name : Str} {k : Nat} (hk : (sAt words (k : Nat) == Str.ofString "html:" ++ name) = true) : ∀ {m}, k < m → m ≤ words.length →
    (∀ j, k < j → j < m → (sAt words (j : Nat) == Str.ofString "html:" ++ name) = false) →
    ∃ m', k < m' ∧ m' ≤ m ∧ popImpR spaces names name (nodes.take m).reverse = (nodes.take m').reverse ∧ (m' = k + 1 ↔ ∀ j, k < j → j < m → implied9L.any (· == sAt words (j : Nat)) = true)
  | m + 1, h1, h2, h3 => by
    have hl := H.len
    rw [take_rev (by omega), popImpR, H.imp (by omega)]
    by_cases q : m = k
    · have e : nodeName spaces names (iAt nodes (m : Nat)) = name := by
        rw [← H.isP name (by omega), ← q] at hk
        exact nodeName_of rfl hk
      refine ⟨m + 1, by omega, by omega, ?_, ?_⟩
      · rw [if_neg (by rw [e]; simp), take_rev (by omega)]
      · rw [q]; exact ⟨fun _ j a b => by omega, fun _ => rfl⟩
    · by_cases c : implied9L.any (· == sAt words (m : Nat)) = true
      · have e : (nodeName spaces names (iAt nodes (m : Nat)) != name) = true := by
          have h4 := h3 m (by omega) (by omega)
          rw [← H.isP name (by omega)] at h4
          have c2 := c
          rw [← H.imp (by omega)] at c2
          unfold nodeName at c2 ⊢
          unfold isH at h4
          by_cases z : (sAt spaces (iAt nodes (m : Nat)) == Str.ofString "html") = true
          · rw [z, Bool.true_and] at h4
            rw [if_pos z]
            exact bne_iff_ne.mpr fun e => by rw [e, beq_self_eq_true] at h4; cases h4
          · rw [if_neg z, hasS_nil] at c2; cases c2
        rw [if_pos ⟨c, e⟩]
        obtain ⟨m', a, b, d, g⟩ := popI_take H hk (m := m) (by omega) (by omega) (fun j x y => h3 j x (by omega))
        refine ⟨m', a, by omega, d, g.trans ⟨fun h j x y => ?_, fun h j x y => h j x (by omega)⟩⟩
        rcases Nat.lt_succ_iff_lt_or_eq.mp y with r | r
        · exact h j x r
        · rw [r]; exact c
      · rw [if_neg (fun h => c h.1)]
        refine ⟨m + 1, by omega, Nat.le_refl _, by rw [take_rev (by omega)], ⟨fun e => by omega, fun h => absurd (h m (by omega) (by omega)) c⟩⟩
theorem other_ok (H : Bld spaces names words nodes active) (name : Str) {m : Nat} (hm : m ≤ words.length) :
    (otherEnd spaces names name (nodes.take m)).1 = nodes.take (other9 words m name).1.toNat ∧ (otherEnd spaces names name (nodes.take m)).2.toList = (other9 words m name).2 ∧ 0 ≤ (other9 words m name).1 := by
  have hl := H.len
  unfold otherEnd
  rw [scan_lt name m (by omega)]
  rw [lastP_congr (c := fun j => isH spaces names (iAt nodes (j : Nat)) name) (d := fun j => sAt words (j : Nat) == Str.ofString "html:" ++ name) (fun j hj => H.isP name (by omega)),
    lastP_congr (c := fun j => isSpec (sAt spaces (iAt nodes (j : Nat))) (sAt names (iAt nodes (j : Nat)))) (d := fun j => specials9L.any (· == sAt words (j : Nat))) (fun j hj => H.isS (by omega))]
  unfold other9
  cases e2 : lastP (fun j => specials9L.any (· == sAt words (j : Nat))) m with
  | none =>
    have hm0 : m = 0 := by
      rcases Nat.eq_zero_or_pos m with r | r
      · exact r
      · have h1 := lastP_none e2 0 r
        have h2 := H.first
        rw [H.isS H.big, h1] at h2
        cases h2
    subst hm0
    exact ⟨rfl, rfl, Int.le_refl _⟩
  | some s =>
    obtain ⟨s1, s2⟩ := filt_some (c := fun k => specials9L.any (· == sAt words k)) e2
    rw [if_neg (show ¬ stopsL words m = [] from s1)]
    cases e1 : lastP (fun j => sAt words (j : Nat) == Str.ofString "html:" ++ name) m with
    | none =>
      have p1 : placesL words m name = [] := filt_none (c := fun k => sAt words k == Str.ofString "html:" ++ name) e1
      rw [if_pos (.inl p1)]
      exact ⟨by simp, rfl, Int.natCast_nonneg _⟩
    | some k =>
      obtain ⟨p1, p2⟩ := filt_some (c := fun k => sAt words k == Str.ofString "html:" ++ name) e1
      replace p1 : placesL words m name ≠ [] := p1
      replace p2 : last9 (placesL words m name) = k := p2
      replace s2 : last9 (stopsL words m) = s := s2
      rw [p2, s2]
      dsimp only
      by_cases q : k < s
      · rw [if_pos q, if_pos (.inr (by omega))]
        exact ⟨by simp, rfl, Int.natCast_nonneg _⟩
      · rw [if_neg q, if_neg (not_or.mpr ⟨p1, by omega⟩)]
        obtain ⟨k1, k2, k3⟩ := lastP_some e1
        obtain ⟨m', a, b, d, g⟩ := popI_take H k2 k1 hm k3
        have hp : popImp spaces names name (nodes.take m) = nodes.take m' := by unfold popImp; rw [d, List.reverse_reverse]
        dsimp only
        rw [hp]
        refine ⟨?_, ?_, Int.natCast_nonneg _⟩
        · unfold popWith; rw [popW_take H.nd a (by omega), List.reverse_reverse]; simp
        · rw [lastI_take (by omega) (by omega)]
          have hs : solidL words m (k : Int) = [] ↔ ∀ j, k < j → j < m → implied9L.any (· == sAt words (j : Nat)) = true := by
            unfold solidL
            rw [List.filter_eq_nil_iff]
            constructor
            · intro h j h1 h2
              have := h (sAt words (j : Nat)) ((mem_run hm).mpr ⟨j, by omega, h2, rfl⟩)
              simpa using this
            · intro h x hx
              obtain ⟨j, h1, h2, rfl⟩ := (mem_run hm).mp hx
              have := h j (by omega) h2
              simpa using this
          by_cases r : m' = k + 1
          · rw [if_pos (by rw [r]; rfl), if_neg (not_not_intro (hs.mpr (g.mp r)))]; rfl
          · rw [if_neg (fun e => r (by have := iAt_inj H.nd (by omega) (by omega) e; omega)), if_pos (fun e => r (g.mpr (hs.mp e)))]; rfl
end
end
section
open PySem PySem.W PyProof.Rows
theorem findR_all {names : List Str} {name : Str} : ∀ {l : List Int}, (∀ x ∈ l, x ≠ -1) → findR names name l = (l.find? (fun x => sAt names x == name)).getD (-1)
  | [], _ => rfl
  | x :: r, h => by
    rw [findR, if_neg (h x (.head _)), List.find?_cons]
    by_cases q : (sAt names x == name) = true
    · rw [if_pos q, q]; rfl
    · rw [if_neg q, findR_all fun y hy => h y (.tail _ hy)]
      rw [Bool.not_eq_true] at q
      rw [q]
theorem findR_mark {names : List Str} {name : Str} {r : List Int} : ∀ {l : List Int}, (∀ x ∈ l, x ≠ -1) → findR names name (l ++ -1 :: r) = (l.find? (fun x => sAt names x == name)).getD (-1)
  | [], _ => by rw [List.nil_append, findR, if_pos rfl]; rfl
  | x :: l, h => by
    rw [List.cons_append, findR, if_neg (h x (.head _)), List.find?_cons]
    by_cases q : (sAt names x == name) = true
    · rw [if_pos q, q]; rfl
    · rw [if_neg q, findR_mark fun y hy => h y (.tail _ hy)]
      rw [Bool.not_eq_true] at q
      rw [q]
/-- what is behind the last marker -/
theorem behind_ok {names : List Str} {name : Str} (act : List Int) : (∀ x ∈ behindL act, x ∈ act ∧ x ≠ -1) ∧ findR names name act.reverse = ((behindL act).reverse.find? (fun x => sAt names x == name)).getD (-1) := by
  unfold behindL
  cases e : lastP (fun k => iAt act (k : Nat) == -1) act.length with
  | none =>
    have h1 : marksL act = [] := filt_none (c := fun k => iAt act k == -1) e
    rw [if_neg (not_not_intro h1)]
    have h2 : ∀ x ∈ act, x ≠ -1 := fun x hx => by
      obtain ⟨i, hi⟩ := List.getElem?_of_mem hx
      have hl : i < act.length := (List.getElem?_eq_some_iff.mp hi).1
      rw [iAt_get hl] at hi
      have := lastP_none e i hl
      rw [Option.some.inj hi] at this
      simpa using this
    exact ⟨fun x hx => ⟨hx, h2 x hx⟩, findR_all fun x hx => h2 x (List.mem_reverse.mp hx)⟩
  | some k =>
    obtain ⟨h1, h2⟩ := filt_some (c := fun k => iAt act k == -1) e
    replace h1 : marksL act ≠ [] := h1
    replace h2 : last9 (marksL act) = k := h2
    rw [if_pos h1, h2]
    obtain ⟨k1, k2, k3⟩ := lastP_some e
    have e3 : ((k : Int) + 1).toNat = k + 1 := by omega
    rw [e3]
    have h4 : ∀ x ∈ act.drop (k + 1), x ≠ -1 := fun x hx => by
      obtain ⟨i, hi⟩ := List.getElem?_of_mem hx
      rw [List.getElem?_drop] at hi
      have hl : k + 1 + i < act.length := (List.getElem?_eq_some_iff.mp hi).1
      rw [iAt_get hl] at hi
      have := k3 (k + 1 + i) (by omega) hl
      rw [Option.some.inj hi] at this
      simpa using this
    refine ⟨fun x hx => ⟨List.mem_of_mem_drop hx, h4 x hx⟩, ?_⟩
    have e4 : act = act.take k ++ -1 :: act.drop (k + 1) := by
      conv => lhs; rw [← List.take_append_drop k act]
      rw [drop_at act k (-1) (by rw [iAt_get k1]; exact congrArg some (eq_of_beq k2))]
    conv => lhs; rw [e4]
    rw [List.reverse_append, List.reverse_cons, List.append_assoc]
    exact findR_mark fun x hx => h4 x (List.mem_reverse.mp hx)
theorem find_rev {c : Int → Bool} : ∀ l : List Int, l.reverse.find? c = (l.filter c).getLast?
  | [] => rfl
  | x :: r => by
    rw [List.reverse_cons, List.find?_append, find_rev r, List.filter_cons]
    by_cases q : c x = true
    · rw [if_pos q, List.getLast?_cons, List.find?_cons_of_pos q]
      cases (List.filter c r).getLast? <;> rfl
    · rw [if_neg q, List.find?_cons_of_neg q, List.find?_nil]
      cases (List.filter c r).getLast? <;> rfl
section
variable {spaces names words : List Str} {nodes active : List Int}
theorem Bld.named (H : Bld spaces names words nodes active) (name : Str) : namedL words nodes active name = (behindL active).filter (fun x => sAt names x == name) := by
  unfold namedL
  refine List.filter_congr fun x hx => ?_
  obtain ⟨h1, h2⟩ := (behind_ok (names := names) (name := name) active).1 x hx
  rcases H.act x h1 with e | ⟨e, hs⟩
  · exact absurd e h2
  · have hi := List.idxOf_lt_length_of_mem e
    have e2 : iAt nodes (nodes.idxOf x : Nat) = x := by
      have := iAt_get hi
      rw [List.getElem?_eq_getElem hi, List.getElem_idxOf hi] at this
      exact (Option.some.inj this).symm
    have h3 := H.isP name (j := nodes.idxOf x) (by rw [← H.len]; exact hi)
    rw [← h3, e2]
    unfold isH
    rw [hs, Bool.true_and]
theorem Bld.findR (H : Bld spaces names words nodes active) (name : Str) : Mine.findR names name active.reverse = last9 (namedL words nodes active name) := by
  rw [(behind_ok active).2, find_rev, ← H.named name]; rfl
theorem Bld.named_mem (H : Bld spaces names words nodes active) {name : Str} {x : Int} (h : x ∈ namedL words nodes active name) : x ∈ nodes ∧ x ∈ active ∧ x ≠ -1 := by
  obtain ⟨h1, h2⟩ := (behind_ok (names := names) (name := name) active).1 x (List.mem_filter.mp h).1
  rcases H.act x h1 with e | ⟨e, _⟩
  · exact absurd e h2
  · exact ⟨e, h1, h2⟩
theorem scope_take (H : Bld spaces names words nodes active) {p : Nat} : ∀ {m}, p < m → m ≤ words.length →
    (inScopeR spaces names (iAt nodes (p : Nat)) (nodes.take m).reverse = true ↔ ∀ j, p < j → j < m → endersL.any (· == sAt words (j : Nat)) = false)
  | m + 1, h1, h2 => by
    have hl := H.len
    rw [take_rev (by omega), inScopeR, H.stop (by omega)]
    by_cases q : m = p
    · rw [if_pos (by rw [q])]
      exact ⟨fun _ j a b => by omega, fun _ => rfl⟩
    · rw [if_neg (fun e => q (iAt_inj H.nd (by omega) (by omega) e))]
      by_cases c : endersL.any (· == sAt words (m : Nat)) = true
      · rw [if_pos c]
        exact ⟨fun e => (by cases e), fun h => (by rw [h m (by omega) (by omega)] at c; cases c)⟩
      · rw [if_neg c, scope_take H (m := m) (by omega) (by omega)]
        constructor
        · intro h j a b
          rcases Nat.lt_succ_iff_lt_or_eq.mp b with r | r
          · exact h j a r
          · rw [r]; exact Bool.eq_false_iff.mpr c
        · exact fun h j a b => h j a (by omega)
theorem erase_filter {x : Int} : ∀ {l : List Int}, l.count x ≤ 1 → l.erase x = l.filter (fun y => !decide (y = x))
  | [], _ => rfl
  | y :: r, h => by
    by_cases q : y = x
    · subst q
      rw [List.erase_cons_head, List.filter_cons_of_neg (by simp)]
      rw [List.count_cons_self] at h
      have h0 : r.count y = 0 := by omega
      refine (List.filter_eq_self.mpr fun z hz => ?_).symm
      have : z ≠ y := fun e => List.count_eq_zero.mp h0 (e ▸ hz)
      simpa using this
    · rw [List.erase_cons_tail (by simpa using q), List.filter_cons_of_pos (by simpa using q), erase_filter (by rw [List.count_cons_of_ne (by simpa using q)] at h; exact h)]
/-- the two readings say the same -/
theorem due_ok (H : Bld spaces names words nodes active) (name : Str) {m : Nat} (hm : m ≤ words.length) :
    (subjOf spaces names name (nodes.take m) active).1 = (due9 words nodes m active name).1 ∧ (subjOf spaces names name (nodes.take m) active).2.1 = nodes.take (due9 words nodes m active name).2.1.toNat ∧
    (subjOf spaces names name (nodes.take m) active).2.2.1 = (due9 words nodes m active name).2.2.1 ∧ (subjOf spaces names name (nodes.take m) active).2.2.2.toList = (due9 words nodes m active name).2.2.2 ∧ 0 ≤ (due9 words nodes m active name).2.1 := by
  have hl := H.len
  unfold subjOf due9
  rw [H.findR name]
  dsimp only
  by_cases c0 : namedL words nodes active name = []
  · have e : last9 (namedL words nodes active name) = -1 := by rw [c0]; rfl
    rw [if_pos c0, if_pos e]
    obtain ⟨h1, h2, h3⟩ := other_ok H name hm
    exact ⟨rfl, h1, rfl, h2, h3⟩
  · obtain ⟨n1, n2, n3⟩ := H.named_mem (last9_mem c0)
    rw [if_neg c0, if_neg n3]
    generalize last9 (namedL words nodes active name) = x at n1 n2 n3 ⊢
    by_cases c1 : x ∈ nodes.take m
    · rw [if_neg (not_not_intro c1), if_neg (not_not_intro c1)]
      obtain ⟨p, hp, rfl⟩ := (mem_takeI (by omega)).mp c1
      have hi : nodes.idxOf (iAt nodes (p : Nat)) = p := by
        have h1 := List.idxOf_lt_length_of_mem n1
        refine iAt_inj H.nd h1 (by omega) ?_
        have := iAt_get h1
        rw [List.getElem?_eq_getElem h1, List.getElem_idxOf h1] at this
        exact (Option.some.inj this).symm
      have hs := scope_take H hp hm
      have hf : (overL words nodes m (iAt nodes (p : Nat))).filter (fun x => endersL.any (· == x)) = [] ↔ inScopeR spaces names (iAt nodes (p : Nat)) (nodes.take m).reverse = true := by
        rw [hs, List.filter_eq_nil_iff]
        unfold overL
        rw [hi]
        constructor
        · intro h j h1 h2
          exact Bool.eq_false_iff.mpr (h (sAt words (j : Nat)) ((mem_run hm).mpr ⟨j, by omega, h2, rfl⟩))
        · intro h x hx
          obtain ⟨j, h1, h2, rfl⟩ := (mem_run hm).mp hx
          exact Bool.eq_false_iff.mp (h j (by omega) h2)
      by_cases c2 : inScopeR spaces names (iAt nodes (p : Nat)) (nodes.take m).reverse = true
      · rw [if_neg (by rw [c2]; exact Bool.noConfusion), if_neg (not_not_intro (hf.mpr c2))]
        refine ⟨rfl, by simp, rfl, ?_, Int.natCast_nonneg _⟩
        dsimp only
        rw [lastI_take (by omega) (by omega)]
        have ho : overL words nodes m (iAt nodes (p : Nat)) = [] ↔ m - 1 = p := by
          unfold overL
          rw [hi, List.drop_eq_nil_iff, List.length_take, Nat.min_eq_left hm]
          omega
        by_cases r : m - 1 = p
        · rw [if_pos (by rw [r]), if_neg (not_not_intro (ho.mpr r))]; rfl
        · rw [if_neg (fun e => r (iAt_inj H.nd (by omega) (by omega) e)), if_pos (fun e => r (ho.mp e))]; rfl
      · rw [Bool.not_eq_true] at c2
        rw [if_pos c2, if_pos (fun e => by rw [hf.mp e] at c2; cases c2)]
        exact ⟨rfl, by simp, rfl, rfl, Int.natCast_nonneg _⟩
    · rw [if_pos c1, if_pos c1]
      exact ⟨rfl, by simp, erase_filter (H.once x n3), rfl, Int.natCast_nonneg _⟩
end
end
section
open PySem PySem.W PySem.Calls PyProof.Rows PyProof.V PySem.Spec
theorem splits : pairsX.all (fun p => Txt.split (glue p) (Str.ofString ":") == [p.1, p.2] && Nat.ble (glue p).length 40 && Nat.ble p.1.length 20 && Nat.ble p.2.length 20 && PyData.strOk (glue p)) = true := by decide +kernel
theorem split_of {p : Str × Str} (hp : p ∈ pairsX) : Txt.split (glue p) (Str.ofString ":") = [p.1, p.2] ∧ (glue p).length ≤ 40 ∧ p.1.length ≤ 20 ∧ p.2.length ≤ 20 ∧ PyData.strOk (glue p) = true := by
  have h := List.all_eq_true.mp splits p hp
  simp only [Bool.and_eq_true] at h
  obtain ⟨⟨⟨⟨a, b⟩, c⟩, d⟩, e⟩ := h
  exact ⟨eq_of_beq a, Nat.le_of_ble_eq_true b, Nat.le_of_ble_eq_true c, Nat.le_of_ble_eq_true d, e⟩
theorem pairs_sub {p : Str × Str} (hp : p ∈ pairsL) : p ∈ pairsX := .tail _ (.tail _ hp)
theorem poolL_at {k : Int} (h0 : 0 ≤ k) (h1 : k < 34) : ∃ p ∈ pairsL, sAt poolL k = glue p ∧ pairsL[k.toNat]? = some p := by
  have hl : pairsL.length = 34 := by decide +kernel
  have hk : k.toNat < pairsL.length := by omega
  refine ⟨pairsL[k.toNat], List.getElem_mem hk, ?_, List.getElem?_eq_getElem hk⟩
  unfold sAt
  rw [pool_pairs]
  simp [hk]
section
variable {prog : Program} {w : World} {A : Around} {E : Value → Shared → Prop} {s : Shared} {h₀ : Heap} {L D : Addr} {m : Str → Option Value} {news : List (Addr × Obj)} {Q : Value → Shared → Prop}
theorem led_pool {vs : List Value} {n : Nat} {k : Int} {t : Tok} {value slice : PySem.Expr} (N : News h₀ L s.heap news) (hm : (D, listOf vs.toArray n) ∈ news) (hi : StrsAre vs poolL) (h0 : 0 ≤ k) (hk : k < 34)
    (h : ∀ p t, p ∈ pairsL → pairsL[k.toNat]? = some p → Q (.str (glue p) t) s)
    (hs : subscripted slice false (.ref D) (.int k t) = operate [.ref D, .int k t] (getItem (.ref D) (.int k t)) := by with_unfolding_all rfl) :
    wpAny (model prog w) A (subscriptTail value slice (.ref D) (.int k t)) Q E s := by
  obtain ⟨p, hp, e, e2⟩ := poolL_at h0 hk
  have hl : poolL.length = 34 := by decide +kernel
  exact led_str N hm hi h0 (by omega) (by omega) (fun t => e ▸ h p t hp e2) hs
theorem led_split {p : Str × Str} {t u : Tok} (hp : p ∈ pairsX) (F : Fr h₀ L s.heap m) (N : News h₀ L s.heap news)
    (h : ∀ D t1 t2 h' k, Fr h₀ L h' m → News h₀ L h' ((D, listOf (List.toArray [.str p.1 t1, .str p.2 t2]) 0) :: news) → (∀ q ∈ news, q.1 < D) → Q (.ref D) { s with heap := h', toks := k }) :
    wpAny (model prog w) A (call (.builtin "str.split") [.str (glue p) t, .str (Str.ofString ":") u]) Q E s := by
  obtain ⟨a, b, _⟩ := split_of hp
  refine KSpl.split1 F N (by decide) (fun D l h' k e1 e2 F' N' l1 => ?_) (by rw [sizeLine_eq]; omega)
  rw [e1, a] at e2
  generalize strValues l = vs at e2 N'
  cases e2 with
  | cons _ t1 r =>
    cases r with
    | cons _ t2 r => cases r; exact h D t1 t2 h' k F' N' l1
end
end
section
open PySem PySem.W PySem.Calls PyProof.Rows PyProof.V PySem.Spec
/-- what the law has made after some turns: words, nodes, active ones, the tree -/
structure BS where
  words : List Str
  nodes : List Int
  active : List Int
  D : TD
structure BOk (i : Nat) (c : BS) : Prop where
  wl : c.words.length = 2 + i
  nl : c.nodes.length = 2 + i
  al : c.active.length ≤ 2 * i
  kl : c.D.kinds.length ≤ 3 + 2 * i
  ls : c.D.spaces.length = c.D.kinds.length
  ln : c.D.names.length = c.D.kinds.length
  lp : c.D.parents.length = c.D.kinds.length
  lc : c.D.kids.length = c.D.kinds.length
  par : ∀ x ∈ c.D.parents, x = -1
  kid : ∀ l ∈ c.D.kids, l = []
  nd : c.nodes.Nodup
  pos : ∀ x ∈ c.nodes, 1 ≤ x ∧ x < (c.D.kinds.length : Int)
  word : ∀ j, j < c.words.length → ∃ p ∈ pairsX, sAt c.words (j : Nat) = glue p ∧ sAt c.D.spaces (iAt c.nodes (j : Nat)) = p.1 ∧ sAt c.D.names (iAt c.nodes (j : Nat)) = p.2
  first : sAt c.words ((0 : Nat) : Int) = Str.ofString "html:html"
  act : ∀ x ∈ c.active, x = -1 ∨ (x ∈ c.nodes ∧ (sAt c.D.spaces x == Str.ofString "html") = true)
  once : ∀ x, x ≠ -1 → c.active.count x ≤ 1
  cont : ∀ j f, c.D.cont j = some f → 0 ≤ f ∧ f < (c.D.kinds.length : Int) ∧ f ∉ c.nodes
  ok : (∀ x ∈ c.D.kinds, PyData.strOk x = true) ∧ (∀ x ∈ c.D.spaces, PyData.strOk x = true) ∧ ∀ x ∈ c.D.names, PyData.strOk x = true
theorem sAt_app1 {l r : List Str} {x : Int} (h0 : 0 ≤ x) (h : x < l.length) : sAt (l ++ r) x = sAt l x := by
  unfold sAt
  rw [List.getD_eq_getElem?_getD, List.getD_eq_getElem?_getD, List.getElem?_append_left (by omega)]
theorem sAt_app2 {l r : List Str} {y : Str} : sAt (l ++ y :: r) (l.length : Int) = y := by
  unfold sAt
  rw [List.getD_eq_getElem?_getD, Int.toNat_natCast, List.getElem?_append_right (Nat.le_refl _)]; simp
theorem iAt_app1 {l r : List Int} {x : Int} (h0 : 0 ≤ x) (h : x < l.length) : iAt (l ++ r) x = iAt l x := by
  unfold iAt
  rw [List.getD_eq_getElem?_getD, List.getD_eq_getElem?_getD, List.getElem?_append_left (by omega)]
theorem iAt_app2 {l r : List Int} {y : Int} : iAt (l ++ y :: r) (l.length : Int) = y := by
  unfold iAt
  rw [List.getD_eq_getElem?_getD, Int.toNat_natCast, List.getElem?_append_right (Nat.le_refl _)]; simp
theorem iAt_mem {l : List Int} {j : Nat} (h : j < l.length) : iAt l (j : Nat) ∈ l := List.mem_of_getElem? (iAt_get h)
/-- a word more -/
noncomputable def BS.next (c : BS) (p : Str × Str) (a : List Int) : BS := ⟨c.words ++ [glue p], c.nodes ++ [(c.D.kinds.length : Int)], c.active ++ a, c.D.elem p.1 p.2⟩
theorem elem_spaces (D : TD) (x y : Str) : ∃ r, (D.elem x y).spaces = D.spaces ++ x :: r := by
  unfold TD.elem; split
  · exact ⟨[Str.ofString ""], by simp [TD.put, TD.add]⟩
  · exact ⟨[], by simp [TD.add]⟩
theorem elem_names (D : TD) (x y : Str) : ∃ r, (D.elem x y).names = D.names ++ y :: r := by
  unfold TD.elem; split
  · exact ⟨[Str.ofString ""], by simp [TD.put, TD.add]⟩
  · exact ⟨[], by simp [TD.add]⟩
theorem elem_kinds (D : TD) (x y : Str) : ∃ r, (D.elem x y).kinds = D.kinds ++ Str.ofString "element" :: r ∧ r.length ≤ 1 := by
  unfold TD.elem; split
  · exact ⟨[Str.ofString "fragment"], by simp [TD.put, TD.add], Nat.le_refl _⟩
  · exact ⟨[], by simp [TD.add], Nat.zero_le _⟩
theorem elem_par (D : TD) (x y : Str) (h : ∀ z ∈ D.parents, z = -1) : ∀ z ∈ (D.elem x y).parents, z = -1 := by
  unfold TD.elem; split <;> intro z hz <;> simp only [TD.put, TD.add, List.mem_append, List.mem_singleton] at hz
  · rcases hz with (hz | hz) | hz
    · exact h z hz
    · exact hz
    · exact hz
  · rcases hz with hz | hz
    · exact h z hz
    · exact hz
theorem elem_kid (D : TD) (x y : Str) (h : ∀ z ∈ D.kids, z = []) : ∀ z ∈ (D.elem x y).kids, z = [] := by
  unfold TD.elem; split <;> intro z hz <;> simp only [TD.put, TD.add, List.mem_append, List.mem_singleton] at hz
  · rcases hz with (hz | hz) | hz
    · exact h z hz
    · exact hz
    · exact hz
  · rcases hz with hz | hz
    · exact h z hz
    · exact hz
theorem elem_lens (D : TD) (x y : Str) (h1 : D.spaces.length = D.kinds.length) (h2 : D.names.length = D.kinds.length) (h3 : D.parents.length = D.kinds.length) (h4 : D.kids.length = D.kinds.length) :
    (D.elem x y).spaces.length = (D.elem x y).kinds.length ∧ (D.elem x y).names.length = (D.elem x y).kinds.length ∧ (D.elem x y).parents.length = (D.elem x y).kinds.length ∧ (D.elem x y).kids.length = (D.elem x y).kinds.length := by
  unfold TD.elem; split <;> simp [TD.put, TD.add, h1, h2, h3, h4]
theorem elem_cont (D : TD) (x y : Str) {j f : Int} (h : (D.elem x y).cont j = some f) : D.cont j = some f ∨ (f = (D.kinds.length : Int) + 1 ∧ (D.elem x y).kinds.length = D.kinds.length + 2) := by
  unfold TD.elem at h ⊢
  split at h
  · rename_i c
    rw [if_pos c]
    simp only [TD.put, TD.add] at h ⊢
    split at h
    · exact .inr ⟨(Option.some.inj h).symm, by simp⟩
    · exact .inl h
  · exact .inl h
theorem pairs_ok : pairsX.all (fun p => PyData.strOk p.1 && PyData.strOk p.2) = true := by decide +kernel
theorem elem_ok (D : TD) {p : Str × Str} (hp : p ∈ pairsX) (h : (∀ x ∈ D.kinds, PyData.strOk x = true) ∧ (∀ x ∈ D.spaces, PyData.strOk x = true) ∧ ∀ x ∈ D.names, PyData.strOk x = true) :
    (∀ x ∈ (D.elem p.1 p.2).kinds, PyData.strOk x = true) ∧ (∀ x ∈ (D.elem p.1 p.2).spaces, PyData.strOk x = true) ∧ ∀ x ∈ (D.elem p.1 p.2).names, PyData.strOk x = true := by
  have hk := List.all_eq_true.mp pairs_ok p hp
  simp only [Bool.and_eq_true] at hk
  have a1 : PyData.strOk (Str.ofString "element") = true := by decide +kernel
  have a2 : PyData.strOk (Str.ofString "fragment") = true := by decide +kernel
  have a3 : PyData.strOk (Str.ofString "") = true := by decide +kernel
  obtain ⟨h1, h2, h3⟩ := h
  have one : ∀ {l : List Str} {x : Str}, (∀ y ∈ l, PyData.strOk y = true) → PyData.strOk x = true → ∀ y ∈ l ++ [x], PyData.strOk y = true := fun {l x} a b y hy => (List.mem_append.mp hy).elim (a y) fun q => by rw [List.mem_singleton.mp q]; exact b
  unfold TD.elem
  split
  · exact ⟨one (one h1 a1) a2, one (one h2 hk.1) a3, one (one h3 hk.2) a3⟩
  · exact ⟨one h1 a1, one h2 hk.1, one h3 hk.2⟩
theorem BOk.next {i : Nat} {c : BS} (H : BOk i c) {p : Str × Str} (hp : p ∈ pairsX) {a : List Int} (ha : a.length ≤ 2) (ha1 : ∀ x ∈ a, x = -1 ∨ x = (c.D.kinds.length : Int)) (ha2 : a.count (c.D.kinds.length : Int) ≤ 1) (ha3 : (c.D.kinds.length : Int) ∈ a → (p.1 == Str.ofString "html") = true) : BOk (i + 1) (c.next p a) := by
  obtain ⟨rs, es⟩ := elem_spaces c.D p.1 p.2
  obtain ⟨rn, en⟩ := elem_names c.D p.1 p.2
  obtain ⟨rk, ek, hk⟩ := elem_kinds c.D p.1 p.2
  obtain ⟨l1, l2, l3, l4⟩ := elem_lens c.D p.1 p.2 H.ls H.ln H.lp H.lc
  have hkl : (c.D.elem p.1 p.2).kinds.length = c.D.kinds.length + 1 + rk.length := by rw [ek, List.length_append, List.length_cons]; omega
  have hn : (c.D.kinds.length : Int) ∉ c.nodes := fun h => absurd (H.pos _ h).2 (Int.lt_irrefl _)
  have hns : c.D.spaces.length = c.D.kinds.length := H.ls
  have hnn : c.D.names.length = c.D.kinds.length := H.ln
  have sp : ∀ x, 0 ≤ x → x < (c.D.kinds.length : Int) → sAt (c.D.elem p.1 p.2).spaces x = sAt c.D.spaces x := fun x h0 h1 => by rw [es]; exact sAt_app1 h0 (by rw [hns]; exact h1)
  have nm : ∀ x, 0 ≤ x → x < (c.D.kinds.length : Int) → sAt (c.D.elem p.1 p.2).names x = sAt c.D.names x := fun x h0 h1 => by rw [en]; exact sAt_app1 h0 (by rw [hnn]; exact h1)
  have sp2 : sAt (c.D.elem p.1 p.2).spaces (c.D.kinds.length : Int) = p.1 := by rw [es, ← hns]; exact sAt_app2
  have nm2 : sAt (c.D.elem p.1 p.2).names (c.D.kinds.length : Int) = p.2 := by rw [en, ← hnn]; exact sAt_app2
  refine ⟨?_, ?_, ?_, ?_, l1, l2, l3, l4, elem_par _ _ _ H.par, elem_kid _ _ _ H.kid, ?_, ?_, ?_, ?_, ?_, ?_, ?_, elem_ok c.D hp H.ok⟩
  · show (c.words ++ [_]).length = _; rw [List.length_append, H.wl]; simp; omega
  · show (c.nodes ++ [_]).length = _; rw [List.length_append, H.nl]; simp; omega
  · show (c.active ++ a).length ≤ _; rw [List.length_append]; have := H.al; omega
  · show (c.D.elem p.1 p.2).kinds.length ≤ _; have := H.kl; omega
  · show (c.nodes ++ [_]).Nodup
    rw [List.nodup_append]
    exact ⟨H.nd, List.nodup_cons.mpr ⟨List.not_mem_nil, List.nodup_nil⟩, fun x hx y hy e => hn (by rw [← List.mem_singleton.mp hy, ← e]; exact hx)⟩
  · intro x hx
    show 1 ≤ x ∧ x < ((c.D.elem p.1 p.2).kinds.length : Int)
    rcases List.mem_append.mp hx with hx | hx
    · have := H.pos x hx; omega
    · rw [List.mem_singleton.mp hx]
      have h1 := H.pos _ (iAt_mem (l := c.nodes) (j := 0) (by rw [H.nl]; omega))
      omega
  · intro j hj
    show ∃ q ∈ pairsX, sAt (c.words ++ [glue p]) (j : Nat) = glue q ∧ sAt (c.D.elem p.1 p.2).spaces (iAt (c.nodes ++ [_]) (j : Nat)) = q.1 ∧ sAt (c.D.elem p.1 p.2).names (iAt (c.nodes ++ [_]) (j : Nat)) = q.2
    have hj' : j < 2 + i + 1 := by have : j < (c.words ++ [glue p]).length := hj; rw [List.length_append, H.wl] at this; simpa using this
    rcases Nat.lt_succ_iff_lt_or_eq.mp hj' with r | r
    · obtain ⟨q, hq, a1, a2, a3⟩ := H.word j (by rw [H.wl]; exact r)
      have hm := H.pos _ (iAt_mem (l := c.nodes) (j := j) (by rw [H.nl]; exact r))
      refine ⟨q, hq, ?_, ?_, ?_⟩
      · rw [sAt_app1 (Int.natCast_nonneg _) (by rw [H.wl]; exact Int.ofNat_lt.mpr r)]; exact a1
      · rw [iAt_app1 (Int.natCast_nonneg _) (by rw [H.nl]; exact Int.ofNat_lt.mpr r), sp _ (Int.le_trans (by decide) hm.1) hm.2]; exact a2
      · rw [iAt_app1 (Int.natCast_nonneg _) (by rw [H.nl]; exact Int.ofNat_lt.mpr r), nm _ (Int.le_trans (by decide) hm.1) hm.2]; exact a3
    · have e1 : (j : Int) = (c.words.length : Int) := by rw [H.wl]; omega
      have e2 : (j : Int) = (c.nodes.length : Int) := by rw [H.nl]; omega
      refine ⟨p, hp, ?_, ?_, ?_⟩
      · rw [e1]; exact sAt_app2
      · rw [e2, iAt_app2]; exact sp2
      · rw [e2, iAt_app2]; exact nm2
  · show sAt (c.words ++ [glue p]) ((0 : Nat) : Int) = _
    rw [sAt_app1 (by omega) (by rw [H.wl]; omega)]; exact H.first
  · intro x hx
    show x = -1 ∨ (x ∈ c.nodes ++ [_] ∧ (sAt (c.D.elem p.1 p.2).spaces x == _) = true)
    rcases List.mem_append.mp hx with hx | hx
    · rcases H.act x hx with e | ⟨e, f⟩
      · exact .inl e
      · have := H.pos x e
        exact .inr ⟨List.mem_append_left _ e, by rw [sp _ (Int.le_trans (by decide) this.1) this.2]; exact f⟩
    · rcases ha1 x hx with e | e
      · exact .inl e
      · subst e
        exact .inr ⟨List.mem_append_right _ List.mem_cons_self, by rw [sp2]; exact ha3 hx⟩
  · intro x hx
    show (c.active ++ a).count x ≤ 1
    rw [List.count_append]
    by_cases e : x = (c.D.kinds.length : Int)
    · have : c.active.count x = 0 := List.count_eq_zero.mpr fun h => by
        rcases H.act x h with q | ⟨q, _⟩
        · exact hx q
        · exact hn (e ▸ q)
      rw [e] at this ⊢; omega
    · have : a.count x = 0 := List.count_eq_zero.mpr fun h => by
        rcases ha1 x h with q | q
        · exact hx q
        · exact e q
      have := H.once x hx; omega
  · intro j f hf
    show 0 ≤ f ∧ f < ((c.D.elem p.1 p.2).kinds.length : Int) ∧ f ∉ c.nodes ++ [_]
    rcases elem_cont c.D p.1 p.2 hf with h | ⟨h, h2⟩
    · obtain ⟨b1, b2, b3⟩ := H.cont j f h
      exact ⟨b1, by omega, fun hm => (List.mem_append.mp hm).elim b3 fun hm => by have := List.mem_singleton.mp hm; omega⟩
    · exact ⟨by omega, by omega, fun hm => (List.mem_append.mp hm).elim (fun hm => by have := (H.pos f hm).2; omega) fun hm => by have := List.mem_singleton.mp hm; omega⟩
end
section
open PySem PySem.W PySem.Calls PyProof.Rows PyProof.V PySem.Spec
theorem rotE {g h : Heap} {L : Addr} {x0 x1 x2 x3 x4 x5 a0 a1 a2 a3 a4 a5 a6 a7 a8 a9 y0 y1 y2 y3 y4 y5 y6 : Addr × Obj} {es own : List (Addr × Obj)} (N : News g L h (x0 :: x1 :: x2 :: x3 :: x4 :: x5 :: a0 :: a1 :: a2 :: a3 :: a4 :: a5 :: a6 :: a7 :: a8 :: a9 :: y0 :: y1 :: y2 :: y3 :: y4 :: y5 :: y6 :: (es ++ own))) : News g L h (a0 :: a1 :: a2 :: a3 :: a4 :: a5 :: a6 :: a7 :: a8 :: a9 :: (es ++ (x0 :: x1 :: x2 :: x3 :: x4 :: x5 :: y0 :: y1 :: y2 :: y3 :: y4 :: y5 :: y6 :: own))) :=
  News.perm N (by
    repeat refine List.forall_mem_cons.mpr ⟨by repeat (first | exact List.Mem.head _ | refine List.Mem.tail _ ?_), ?_⟩
    refine List.forall_mem_append.mpr ⟨?_, ?_⟩
    · intro p hp; repeat (first | exact List.mem_append_left _ hp | refine List.mem_cons_of_mem _ ?_)
    · repeat refine List.forall_mem_cons.mpr ⟨by repeat (first | exact List.Mem.head _ | refine List.Mem.tail _ ?_), ?_⟩
      intro p hp; repeat (first | exact List.mem_append_right _ hp | refine List.mem_cons_of_mem _ ?_))
theorem torE {g h : Heap} {L : Addr} {x0 x1 x2 x3 x4 x5 a0 a1 a2 a3 a4 a5 a6 a7 a8 a9 y0 y1 y2 y3 y4 y5 y6 : Addr × Obj} {es own : List (Addr × Obj)} (N : News g L h (a0 :: a1 :: a2 :: a3 :: a4 :: a5 :: a6 :: a7 :: a8 :: a9 :: (es ++ (x0 :: x1 :: x2 :: x3 :: x4 :: x5 :: y0 :: y1 :: y2 :: y3 :: y4 :: y5 :: y6 :: own)))) : News g L h (x3 :: x4 :: x5 :: a0 :: a1 :: a2 :: a3 :: a4 :: a5 :: a6 :: a7 :: a8 :: a9 :: y0 :: y1 :: y2 :: y3 :: y4 :: y5 :: y6 :: (es ++ own)) :=
  News.perm N (by
    have hx : ∀ p ∈ x0 :: x1 :: x2 :: x3 :: x4 :: x5 :: y0 :: y1 :: y2 :: y3 :: y4 :: y5 :: y6 :: own, p ∈ a0 :: a1 :: a2 :: a3 :: a4 :: a5 :: a6 :: a7 :: a8 :: a9 :: (es ++ (x0 :: x1 :: x2 :: x3 :: x4 :: x5 :: y0 :: y1 :: y2 :: y3 :: y4 :: y5 :: y6 :: own)) := fun p hp => by
      repeat (first | exact List.mem_append_right _ hp | refine List.mem_cons_of_mem _ ?_)
    repeat refine List.forall_mem_cons.mpr ⟨by first | (refine hx _ ?_; (repeat (first | exact List.Mem.head _ | refine List.Mem.tail _ ?_)); done) | (repeat (first | exact List.Mem.head _ | refine List.Mem.tail _ ?_)), ?_⟩
    refine List.forall_mem_append.mpr ⟨?_, ?_⟩
    · intro p hp; repeat (first | exact List.mem_append_left _ hp | refine List.mem_cons_of_mem _ ?_)
    · intro p hp; refine hx p ?_; repeat (first | exact hp | refine List.mem_cons_of_mem _ ?_))
structure LS where
  B : BS
  wv : List Value
  nvv : List Value
  avv : List Value
  kv : List Value
  sv : List Value
  nv : List Value
  av : List Value
  tv : List Value
  pv : List Value
  cv : List Value
  nw : Nat
  nn : Nat
  na : Nat
  n1 : Nat
  n2 : Nat
  n3 : Nat
  n4 : Nat
  n5 : Nat
  n6 : Nat
  n7 : Nat
  oc : Obj
  es : List (Addr × Obj)
structure LOk (w : World) (td co wa na aa : Addr) (i : Nat) (c : LS) : Prop where
  b : BOk i c.B
  ws : StrsAre c.wv c.B.words
  n : IntsAre c.nvv c.B.nodes
  a : IntsAre c.avv c.B.active
  t : TreeIs w c.B.D c.kv c.sv c.nv c.av c.tv c.pv c.cv c.oc c.es
  nd : (c.es.map (·.1)).Nodup
  r : ∀ p ∈ c.es, @LT.lt Nat _ p.1 td ∨ @LT.lt Nat _ co p.1
  e1 : ∀ p ∈ c.es, p.1 ≠ wa
  e2 : ∀ p ∈ c.es, p.1 ≠ na
  e3 : ∀ p ∈ c.es, p.1 ≠ aa
end
section
open PySem PySem.W PySem.Calls PyProof.Rows PyProof.V PySem.Spec
/-- the tree that stands before the first loop -/
noncomputable abbrev TD0 : TD := TD.add ⟨[], [], [], [], [], [], fun _ => Option.none⟩ (Str.ofString "document") (Str.ofString "") (Str.ofString "")
noncomputable abbrev TD1 : TD := TD0.elem (Str.ofString "html") (Str.ofString "html")
noncomputable abbrev TD2 : TD := TD1.elem (Str.ofString "html") (Str.ofString "body")
theorem td1 : TD1 = TD0.add (Str.ofString "element") (Str.ofString "html") (Str.ofString "html") := elem_no2 (by decide +kernel)
theorem td2 : TD2 = TD1.add (Str.ofString "element") (Str.ofString "html") (Str.ofString "body") := elem_no2 (by decide +kernel)
theorem td1_len : TD1.kinds.length = 2 := by rw [td1]; rfl
theorem td2_eq : TD2 = ⟨[Str.ofString "document", Str.ofString "element", Str.ofString "element"], [Str.ofString "", Str.ofString "html", Str.ofString "html"], [Str.ofString "", Str.ofString "html", Str.ofString "body"], [Str.ofString "", Str.ofString "", Str.ofString ""], [-1, -1, -1], [[], [], []], fun _ => Option.none⟩ := by
  rw [td2, td1]; rfl
noncomputable abbrev BS0 : BS := ⟨[Str.ofString "html:html", Str.ofString "html:body"], [(TD0.kinds.length : Int), (TD1.kinds.length : Int)], [], TD2⟩
theorem bok0 : BOk 0 BS0 := by
  have e1 : (TD0.kinds.length : Int) = 1 := rfl
  have e2 : (TD1.kinds.length : Int) = 2 := by rw [td1_len]; rfl
  unfold BS0
  rw [e1, e2, td2_eq]
  refine ⟨rfl, rfl, Nat.le_refl _, Nat.le_refl _, rfl, rfl, rfl, rfl, by decide, by decide, by decide, by decide, ?_, rfl, by nofun, fun _ _ => Nat.zero_le _, by nofun, by decide +kernel⟩
  intro j hj
  match j, hj with
  | 0, _ => exact ⟨_, .head _, by decide +kernel, rfl, rfl⟩
  | 1, _ => exact ⟨_, .tail _ (.head _), by decide +kernel, rfl, rfl⟩
theorem LOk.next {w : World} {td co wa na aa : Addr} {i : Nat} {c : LS} (H : LOk w td co wa na aa i c) {p : Str × Str} (hp : p ∈ pairsX) {a : List Int} (ha : a.length ≤ 2) (ha1 : ∀ x ∈ a, x = -1 ∨ x = (c.B.D.kinds.length : Int)) (ha2 : a.count (c.B.D.kinds.length : Int) ≤ 1) (ha3 : (c.B.D.kinds.length : Int) ∈ a → (p.1 == Str.ofString "html") = true)
    {wv nvv avv kv sv nv av tv pv cv : List Value} {nw nn na' n1 n2 n3 n4 n5 n6 n7 : Nat} {oc : Obj} {es rest : List (Addr × Obj)} {ow on oa : Obj}
    (h1 : StrsAre wv (c.B.words ++ [glue p])) (h2 : IntsAre nvv (c.B.nodes ++ [(c.B.D.kinds.length : Int)])) (h3 : IntsAre avv (c.B.active ++ a)) (h4 : TreeIs w (c.B.D.elem p.1 p.2) kv sv nv av tv pv cv oc es) (h5 : (es.map (·.1)).Nodup)
    (h6 : ∀ q ∈ es ++ rest, @LT.lt Nat _ q.1 td ∨ @LT.lt Nat _ co q.1) (h7 : ∀ p ∈ es, p ∈ c.es ∨ ∀ q ∈ rest, @LT.lt Nat _ q.1 p.1) (m1 : (wa, ow) ∈ rest) (m2 : (na, on) ∈ rest) (m3 : (aa, oa) ∈ rest) :
    LOk w td co wa na aa (i + 1) ⟨c.B.next p a, wv, nvv, avv, kv, sv, nv, av, tv, pv, cv, nw, nn, na', n1, n2, n3, n4, n5, n6, n7, oc, es⟩ := by
  have old : ∀ {x : Addr} {o : Obj}, (x, o) ∈ rest → (∀ p ∈ c.es, p.1 ≠ x) → ∀ p ∈ es, p.1 ≠ x := fun {x o} m e p hp => by
    rcases h7 p hp with h | h
    · exact e p h
    · exact Ne.symm (Nat.ne_of_lt (h _ m))
  exact ⟨H.b.next hp ha ha1 ha2 ha3, h1, h2, h3, h4, h5, fun q hq => h6 q (List.mem_append_left _ hq), old m1 H.e1, old m2 H.e2, old m3 H.e3⟩
theorem ints_snoc0 {ys : List Value} {l : List Int} (h : IntsAre ys l) : IntsAre ys (l ++ []) := by rw [List.append_nil]; exact h
theorem ints_snoc2 {ys : List Value} {l : List Int} {x y : Int} {t u : Tok} (h : IntsAre ys l) : IntsAre ((ys ++ [.int x t]) ++ [.int y u]) (l ++ [x, y]) := by
  have h2 := ints_snoc (x := y) (t := u) (ints_snoc (x := x) (t := t) h)
  rw [List.append_assoc (as := l)] at h2
  exact h2
theorem old_ne {es es' rest : List (Addr × Obj)} (h7 : ∀ p ∈ es', p ∈ es ∨ ∀ q ∈ rest, @LT.lt Nat _ q.1 p.1) {x : Addr} {o : Obj} (m : (x, o) ∈ rest) {own : List (Addr × Obj)} (e : ∀ p ∈ es ++ own, p.1 ≠ x) : ∀ p ∈ es' ++ own, p.1 ≠ x :=
  List.forall_mem_append.mpr ⟨fun p hp => (h7 p hp).elim (fun h => e p (List.mem_append_left _ h)) fun h => Ne.symm (Nat.ne_of_lt (h _ m)), fun p hp => e p (List.mem_append_right _ hp)⟩
theorem own_next {es es' rest own : List (Addr × Obj)} (h7 : ∀ p ∈ es', p ∈ es ∨ ∀ q ∈ rest, @LT.lt Nat _ q.1 p.1) (ho : ∀ p ∈ own, p ∈ rest) {l : List Addr} (off : OwnOff own (l ++ es.map (·.1))) : OwnOff own (l ++ es'.map (·.1)) := by
  intro p hp b hb
  rcases List.mem_append.mp hb with hb | hb
  · exact off p hp b (List.mem_append_left _ hb)
  · obtain ⟨q, hq, rfl⟩ := List.mem_map.mp hb
    rcases h7 q hq with h | h
    · exact off p hp _ (List.mem_append_right _ (List.mem_map.mpr ⟨q, h, rfl⟩))
    · exact Nat.ne_of_lt (h p (ho p hp))
theorem pool_html {k : Int} (h0 : 0 ≤ k) (h5 : k < 5) {p : Str × Str} (h : pairsL[k.toNat]? = some p) : (p.1 == Str.ofString "html") = true := by
  have hk : k.toNat < 5 := by omega
  have h2 : (pairsL.take 5).all (fun p => p.1 == Str.ofString "html") = true := by decide +kernel
  exact List.all_eq_true.mp h2 p (List.mem_of_getElem? (i := k.toNat) (by rw [List.getElem?_take, if_pos hk]; exact h))
theorem ne_led {d : Addr} {xs : List Addr} {l r : List (Addr × Obj)} (h0 : ∀ x ∈ xs, x ≠ d) (h1 : ∀ p ∈ r, p.1 ≠ d) (e : l.map (·.1) = xs ++ r.map (·.1)) : ∀ p ∈ l, p.1 ≠ d := fun p hp => by
  have h : p.1 ∈ xs ++ r.map (·.1) := by rw [← e]; exact List.mem_map.mpr ⟨p, hp, rfl⟩
  rcases List.mem_append.mp h with h | h
  · exact h0 _ h
  · obtain ⟨q, hq, e2⟩ := List.mem_map.mp h
    exact e2 ▸ h1 q hq
section
variable {prog : Program} {w : World} {A : Around} {E : Value → Shared → Prop} {s : Shared} {h₀ : Heap} {L D : Addr} {m : Str → Option Value} {news news' : List (Addr × Obj)} {vs : List Value} {n : Nat} {Q : Value → Shared → Prop}
theorem led_push {x : Value} (F : Fr h₀ L s.heap m) (N : News h₀ L s.heap news) (U : Upd D (listOf vs.toArray n) (listOf (vs ++ [x]).toArray (n + 1)) news news') (hz : vs.length ≤ 1000)
    (h : ∀ h', Fr h₀ L h' m → News h₀ L h' news' → Q .none { s with heap := h' }) : wpAny (model prog w) A (call (.builtin "list.append") [.ref D, x]) Q E s := by
  refine append_K F N (n := n) (its := vs.toArray) (by rw [List.push_toArray]; exact U) h ?_
  rw [sizeLine_eq, List.size_toArray]; omega
theorem led_tuple (F : Fr h₀ L s.heap m) (N : News h₀ L s.heap news) (hz : vs.length ≤ 1000)
    (h : ∀ t h', Fr h₀ L h' m → News h₀ L h' ((t, tupO vs) :: news) → (∀ p ∈ news, p.1 < t) → Q (.ref t) { s with heap := h' }) : wpAny (model prog w) A (newTuple vs) Q E s :=
  newTuple_N F N (fun h' F' N' => h _ h' F' N' fun p hp => Heap.lt_size (N p hp).1) (by rw [sizeLine_eq]; omega)
end
theorem led_len34 {prog : Program} {w : World} {A : Around} {E : Value → Shared → Prop} {s : Shared} {h₀ : Heap} {L D : Addr} {news : List (Addr × Obj)} {vs : List Value} {n : Nat} {Q : Value → Shared → Prop} (N : News h₀ L s.heap news) (hm : (D, listOf vs.toArray n) ∈ news) (hi : StrsAre vs poolL)
    (h : ∀ t k', Q (.int 34 t) { s with toks := k' }) : wpAny (model prog w) A (call (.builtin "len") [.ref D]) Q E s :=
  led_len (k := 34) N hm (by rw [StrsAre.length hi]; decide +kernel) (by decide) h
end
section
open PySem PySem.W PySem.Calls PyProof.Rows PyProof.V PySem.Spec
/-- what a turn adds to the active ones -/
noncomputable def Add9 (n : Int) (g : Prop) (a : List Int) : Prop := a.length ≤ 2 ∧ (∀ x ∈ a, x = -1 ∨ x = n) ∧ a.count n ≤ 1 ∧ (n ∈ a → g)
theorem add9_nil {n : Int} {g : Prop} : Add9 n g [] := ⟨Nat.zero_le _, nofun, Nat.zero_le _, nofun⟩
theorem add9_m {n : Nat} {g : Prop} : Add9 (n : Int) g [-1] := by
  have e : (-1 : Int) ≠ (n : Int) := by omega
  refine ⟨Nat.le_of_ble_eq_true rfl, fun x hx => .inl (List.mem_singleton.mp hx), ?_, fun h => absurd (List.mem_singleton.mp h).symm e⟩
  rw [List.count_eq_zero.mpr fun h => e (List.mem_singleton.mp h).symm]; exact Nat.zero_le _
theorem add9_n {n : Int} {g : Prop} (h : g) : Add9 n g [n] := ⟨Nat.le_of_ble_eq_true rfl, fun x hx => .inr (List.mem_singleton.mp hx), by rw [List.count_singleton_self]; exact Nat.le_refl _, fun _ => h⟩
theorem add9_mn {n : Nat} {g : Prop} (h : g) : Add9 (n : Int) g [-1, n] := by
  have e : (-1 : Int) ≠ (n : Int) := by omega
  refine ⟨Nat.le_refl _, fun x hx => (List.mem_cons.mp hx).imp id fun h => List.mem_singleton.mp h, ?_, fun _ => h⟩
  rw [List.count_cons_of_ne e, List.count_singleton_self]; exact Nat.le_refl _
theorem endB {w : World} {t td kk ss nn ta tx pp cc co wa na aa std fmd bd st fm b pool L : Addr} {x0 x00 x1 x2 x3 x4 x5 x6 x7 ow on oa : Obj} {i : Nat} {c : LS} {p : Str × Str} {wv nvv avv kv sv nv av tv pv cv : List Value} {lw ln la n1 n2 n3 n4 n5 n6 n7 : Nat} {oc : Obj} {es rest own : List (Addr × Obj)}
    {h₀ h' : Heap} {m' m₀ : Str → Option Value} {s₁ : Shared} {tk : Nat} {stored : List Str} {x : Str}
    (H : LOk w td co wa na aa i c) (hp : p ∈ pairsX) (H3 : TreeIs w (c.B.D.elem p.1 p.2) kv sv nv av tv pv cv oc es) (hr3 : ∀ q ∈ es ++ rest, @LT.lt Nat _ q.1 td ∨ @LT.lt Nat _ co q.1) (nd3 : (es.map (·.1)).Nodup) (hf3 : ∀ p ∈ es, p ∈ c.es ∨ ∀ q ∈ rest, @LT.lt Nat _ q.1 p.1)
    (hoff : OwnOff own ([wa, na, aa, t, td, kk, ss, nn, ta, tx, pp, cc, co, std, fmd, bd, st, fm, b, pool] ++ c.es.map (·.1))) (ho : ∀ q ∈ own, q ∈ rest) (m1 : (wa, ow) ∈ rest) (m2 : (na, on) ∈ rest) (m3 : (aa, oa) ∈ rest)
    (a : List Int) (ha : Add9 (c.B.D.kinds.length : Int) ((p.1 == Str.ofString "html") = true) a) (F : Fr h₀ L h' m')
    (N : News h₀ L h' ((wa, listOf wv.toArray lw) :: (na, listOf nvv.toArray ln) :: (aa, listOf avv.toArray la) :: (t, x0) :: (td, x00) :: (kk, listOf kv.toArray n1) :: (ss, listOf sv.toArray n2) :: (nn, listOf nv.toArray n3) :: (ta, listOf av.toArray n4) :: (tx, listOf tv.toArray n5) :: (pp, listOf pv.toArray n6) :: (cc, listOf cv.toArray n7) :: (co, oc) :: (std, x1) :: (fmd, x2) :: (bd, x3) :: (st, x4) :: (fm, x5) :: (b, x6) :: (pool, x7) :: (es ++ own)))
    (h1 : StrsAre wv (c.B.words ++ [glue p])) (h2 : IntsAre nvv (c.B.nodes ++ [(c.B.D.kinds.length : Int)])) (h3 : IntsAre avv (c.B.active ++ a))
    (hr : ∀ z, z ≠ x → (∀ p ∈ ([] : List (Str × Value)), z ≠ p.1) → stored.contains z = false → m' z = m₀ z) :
    InvEndG h₀ L (LpJ (fun (c : LS) => (wa, listOf c.wv.toArray c.nw) :: (na, listOf c.nvv.toArray c.nn) :: (aa, listOf c.avv.toArray c.na) :: (t, x0) :: (td, x00) :: (kk, listOf c.kv.toArray c.n1) :: (ss, listOf c.sv.toArray c.n2) :: (nn, listOf c.nv.toArray c.n3) :: (ta, listOf c.av.toArray c.n4) :: (tx, listOf c.tv.toArray c.n5) :: (pp, listOf c.pv.toArray c.n6) :: (cc, listOf c.cv.toArray c.n7) :: (co, c.oc) :: (std, x1) :: (fmd, x2) :: (bd, x3) :: (st, x4) :: (fm, x5) :: (b, x6) :: (pool, x7) :: c.es)
      (fun _ => []) stored x m₀ (fun i c => LOk w td co wa na aa i c) (i + 1)) own s₁ { s₁ with heap := h', toks := tk } := by
  obtain ⟨a1, a2, a3, a4⟩ := ha
  exact lp_end (LS.mk (c.B.next p a) wv nvv avv kv sv nv av tv pv cv lw ln la n1 n2 n3 n4 n5 n6 n7 oc es) F N (fun p hp => List.mem_append_left own hp) (fun p hp => by repeat (first | exact List.mem_append_right _ hp | refine List.mem_cons_of_mem _ ?_))
    (own_next (l := [wa, na, aa, t, td, kk, ss, nn, ta, tx, pp, cc, co, std, fmd, bd, st, fm, b, pool]) hf3 ho hoff) (by nofun) hr (H.next hp a1 a2 a3 a4 h1 h2 h3 H3 nd3 hr3 hf3 m1 m2 m3)
end
section
open PySem PySem.W PySem.Calls PyProof.Rows PyProof.V PySem.Spec
/-- what the second loop changes -/
structure CS where
  pv : List Value
  par : List Int
  es : List (Addr × Obj)
  kids : List (List Int)
structure COk (c : LS) (i : Nat) (d : CS) : Prop where
  p : IntsAre d.pv d.par
  k : Kids c.cv d.es d.kids
  em : d.es.map (·.1) = c.es.map (·.1)
  pl : d.par.length = c.B.D.kinds.length
  kl : d.kids.length = c.B.D.kinds.length
  free : ∀ j, j + i < c.B.nodes.length → iAt d.par (iAt c.B.nodes (j : Nat)) = -1
  frag : ∀ j f, c.B.D.cont j = some f → iAt d.par f = -1
  doc : iAt d.par 0 = -1
  small : ∀ l ∈ d.kids, l.length ≤ i
theorem iAt_all {l : List Int} {v x : Int} (h : ∀ z ∈ l, z = v) (h0 : 0 ≤ x) (h1 : x < (l.length : Int)) : iAt l x = v := by
  have e := iAt_mem (l := l) (j := x.toNat) (by omega)
  rw [Int.toNat_of_nonneg h0] at e
  exact h _ e
theorem iAt_set_ne {l : List Int} {x z v : Int} (h0 : 0 ≤ x) (h1 : 0 ≤ z) (h : z ≠ x) : iAt (l.set x.toNat v) z = iAt l z := by
  unfold iAt
  rw [List.getD_eq_getElem?_getD, List.getD_eq_getElem?_getD, List.getElem?_set_ne (by omega)]
theorem LOk.start {w : World} {td co wa na aa : Addr} {n : Nat} {c : LS} (H : LOk w td co wa na aa n c) : COk c 0 ⟨c.pv, c.B.D.parents, c.es, c.B.D.kids⟩ := by
  have hb := H.b
  have h0 := hb.pos _ (iAt_mem (l := c.B.nodes) (j := 0) (by rw [hb.nl]; omega))
  refine ⟨H.t.p, H.t.c, rfl, hb.lp, hb.lc, fun j hj => ?_, fun j f hf => ?_, ?_, fun l hl => by rw [hb.kid l hl]; exact Nat.le_refl _⟩
  · have hm := hb.pos _ (iAt_mem (l := c.B.nodes) (j := j) (by omega))
    exact iAt_all hb.par (by omega) (by show _ < ((c.B.D.parents.length : Nat) : Int); rw [hb.lp]; omega)
  · obtain ⟨a1, a2, _⟩ := hb.cont j f hf
    exact iAt_all hb.par a1 (by show _ < ((c.B.D.parents.length : Nat) : Int); rw [hb.lp]; omega)
  · exact iAt_all hb.par (Int.le_refl _) (by show _ < ((c.B.D.parents.length : Nat) : Int); rw [hb.lp]; omega)
/-- where a node is hung -/
noncomputable def upOf (c : LS) (y : Int) : Int := (c.B.D.cont y).getD y
theorem COk.hang {n i : Nat} {c : LS} {d : CS} (H : COk c i d) (hb : BOk n c.B) {k : Int} (hk : k = (c.B.nodes.length : Int) - 1 - i) (hk1 : 1 ≤ k) :
    0 ≤ upOf c (iAt c.B.nodes (k - 1)) ∧ upOf c (iAt c.B.nodes (k - 1)) < (c.B.D.kinds.length : Int) ∧ iAt d.par (upOf c (iAt c.B.nodes (k - 1))) = -1 ∧ 1 ≤ iAt c.B.nodes k ∧ iAt c.B.nodes k < (c.B.D.kinds.length : Int) ∧ iAt d.par (iAt c.B.nodes k) = -1 ∧ iAt c.B.nodes k ≠ upOf c (iAt c.B.nodes (k - 1)) := by
  obtain ⟨j, hj⟩ : ∃ j : Nat, k = (j : Int) + 1 := ⟨(k - 1).toNat, by omega⟩
  subst hj
  have e1 : (j : Int) + 1 - 1 = (j : Nat) := by omega
  have e2 : (j : Int) + 1 = ((j + 1 : Nat) : Int) := by omega
  rw [e1, e2]
  have m1 := iAt_mem (l := c.B.nodes) (j := j) (by omega)
  have m2 := iAt_mem (l := c.B.nodes) (j := j + 1) (by omega)
  have b1 := hb.pos _ m1
  have b2 := hb.pos _ m2
  have f2 := H.free (j + 1) (by omega)
  have f1 := H.free j (by omega)
  have hne : iAt c.B.nodes ((j + 1 : Nat) : Int) ≠ iAt c.B.nodes (j : Nat) := fun e => by
    have g1 := iAt_get (nodes := c.B.nodes) (j := j) (by omega)
    have g2 := iAt_get (nodes := c.B.nodes) (j := j + 1) (by omega)
    rw [e] at g2
    have := (List.getElem?_inj (i := j) (j := j + 1) (by omega) hb.nd).mp (by rw [g1, g2])
    omega
  unfold upOf
  cases hc : c.B.D.cont (iAt c.B.nodes (j : Nat)) with
  | none => exact ⟨by show 0 ≤ iAt c.B.nodes (j : Nat); omega, b1.2, f1, b2.1, b2.2, f2, hne⟩
  | some f =>
    obtain ⟨a1, a2, a3⟩ := hb.cont _ f hc
    exact ⟨a1, a2, H.frag _ f hc, b2.1, b2.2, f2, fun e => a3 (by show f ∈ _; have e' : iAt c.B.nodes ((j + 1 : Nat) : Int) = f := e; rw [← e']; exact m2)⟩
theorem COk.next {n i : Nat} {c : LS} {d : CS} (H : COk c i d) (hb : BOk n c.B) {k p : Int} (hk : k = (c.B.nodes.length : Int) - 1 - i) (hk1 : 0 ≤ k) {tp t2 : Tok} {vs : List Value} {e : Nat} {ns : List Int} {g : Obj → List (Addr × Obj)}
    (hp : IntsAre (d.pv.set (iAt c.B.nodes k).toNat (.int p tp)) (d.par.set (iAt c.B.nodes k).toNat p)) (hv : IntsAre vs ns) (hns : d.kids[p.toNat]? = some ns) (hg : ∀ o, (g o).map (·.1) = d.es.map (·.1))
    (hK : ∀ vs' ns' e', IntsAre vs' ns' → Kids c.cv (g (listOf (List.toArray vs') e')) (d.kids.set p.toNat ns')) :
    COk c (i + 1) ⟨d.pv.set (iAt c.B.nodes k).toNat (.int p tp), d.par.set (iAt c.B.nodes k).toNat p, g (listOf (vs ++ [Value.int (iAt c.B.nodes k) t2]).toArray (e + 1)), d.kids.set p.toNat (ns ++ [iAt c.B.nodes k])⟩ := by
  obtain ⟨j, hj⟩ : ∃ j : Nat, k = (j : Int) := ⟨k.toNat, by omega⟩
  subst hj
  have mx := iAt_mem (l := c.B.nodes) (j := j) (by omega)
  have bx := hb.pos _ mx
  have hns2 : ns ∈ d.kids := List.mem_of_getElem? hns
  refine ⟨hp, hK _ _ _ (ints_snoc hv), (hg _).trans H.em, by simpa using H.pl, by simpa using H.kl, fun j' hj' => ?_, fun j' f hf => ?_, ?_, fun l hl => ?_⟩
  · have m' := iAt_mem (l := c.B.nodes) (j := j') (by omega)
    have b' := hb.pos _ m'
    have hne : iAt c.B.nodes (j' : Nat) ≠ iAt c.B.nodes (j : Nat) := fun e => by
      have g1 := iAt_get (nodes := c.B.nodes) (j := j') (by omega)
      have g2 := iAt_get (nodes := c.B.nodes) (j := j) (by omega)
      rw [← e] at g2
      have := (List.getElem?_inj (i := j') (j := j) (by omega) hb.nd).mp (by rw [g1, g2])
      omega
    show iAt (d.par.set _ _) _ = -1
    rw [iAt_set_ne (by omega) (by omega) hne]
    exact H.free j' (by omega)
  · obtain ⟨a1, a2, a3⟩ := hb.cont j' f hf
    show iAt (d.par.set _ _) _ = -1
    rw [iAt_set_ne (by omega) a1 fun e => a3 (e ▸ mx)]
    exact H.frag j' f hf
  · show iAt (d.par.set _ _) _ = -1
    rw [iAt_set_ne (by omega) (by omega) (by omega)]
    exact H.doc
  · rcases List.mem_or_eq_of_mem_set hl with h | h
    · have := H.small l h; omega
    · rw [h, List.length_append, List.length_singleton]; have := H.small ns hns2; omega
/-- the last one: the root under the document -/
theorem COk.root {n : Nat} {c : LS} {d : CS} (H : COk c (c.B.nodes.length - 1) d) (hb : BOk n c.B) :
    iAt d.par 0 = -1 ∧ 1 ≤ iAt c.B.nodes 0 ∧ iAt c.B.nodes 0 < (c.B.D.kinds.length : Int) ∧ iAt d.par (iAt c.B.nodes 0) = -1 := by
  have hl := hb.nl
  have b0 := hb.pos _ (iAt_mem (l := c.B.nodes) (j := 0) (by omega))
  exact ⟨H.doc, b0.1, b0.2, H.free 0 (by omega)⟩
theorem upd_pre {d : Addr} {o o' : Obj} {l l' : List (Addr × Obj)} (U : Upd d o o' l l') : ∀ {pre : List (Addr × Obj)}, (∀ p ∈ pre, p.1 ≠ d) → Upd d o o' (pre ++ l) (pre ++ l')
  | [], _ => U
  | _ :: _, h => .tail (h _ (.head _)) (upd_pre U fun p hp => h p (.tail _ hp))
theorem ints_strs_ne {vs pvs : List Value} {ns : List Int} {ss : List Str} (h : IntsAre vs ns) (h2 : StrsAre pvs ss) (hs : 0 < ss.length) {e e' : Nat} : listOf vs.toArray e ≠ listOf pvs.toArray e' := fun q => by
  have q2 : vs = pvs := by
    have : (listOf vs.toArray e).data = (listOf pvs.toArray e').data := by rw [q]
    injection this with a _
    simpa using congrArg Array.toList a
  subst q2
  cases h2 with
  | nil => exact absurd hs (Nat.lt_irrefl _)
  | cons _ _ _ => cases h
end
section
open PySem PySem.W PySem.Calls PyProof.Rows PyProof.V PySem.Spec
theorem co_method {w : World} {A : Around} {E : Value → Shared → Prop} {s : Shared} {h₀ : Heap} {L d : Addr} {news : List (Addr × Obj)} {oc : Obj} {cf : Int → Option Int} {b : Nat} {pl : Sem Bool} {Q : Value × List Value → Shared → Prop} (N : News h₀ L s.heap news) (hm : (d, oc) ∈ news) (lo : (d == sysModules) = false) (hc : CoIs w oc cf b)
    (h : Q (.builtin "dict.get", [.ref d]) s) : wpAny (model P0 w) A (getMethod (.ref d) (Str.ofString "get") pl) Q E s := by
  obtain ⟨kvs, T, h1, h2, _⟩ := hc
  exact getMethod_intTab_get (TabAt.ofNews N hm lo h1 h2) h
theorem same_ne {l l' : List (Addr × Obj)} {d : Addr} (e : l.map (·.1) = l'.map (·.1)) (h : ∀ p ∈ l', p.1 ≠ d) : ∀ p ∈ l, p.1 ≠ d := fun p hp => by
  have h1 : p.1 ∈ l'.map (·.1) := by rw [← e]; exact List.mem_map.mpr ⟨p, hp, rfl⟩
  obtain ⟨q, hq, e2⟩ := List.mem_map.mp h1
  exact e2 ▸ h q hq
theorem own_same {l l' own : List (Addr × Obj)} (e : l.map (·.1) = l'.map (·.1)) (off : OwnOff own (l'.map (·.1))) : OwnOff own (l.map (·.1)) := by rw [e]; exact off
theorem map_pre {l l' : List (Addr × Obj)} : ∀ {pre pre' : List (Addr × Obj)}, pre.map (·.1) = pre'.map (·.1) → l.map (·.1) = l'.map (·.1) → (pre ++ l).map (·.1) = (pre' ++ l').map (·.1) := fun a b => by rw [List.map_append, List.map_append, a, b]
theorem map_cons {l l' : List (Addr × Obj)} {a : Addr} {o o' : Obj} (h : l.map (·.1) = l'.map (·.1)) : ((a, o) :: l).map (·.1) = ((a, o') :: l').map (·.1) := by rw [List.map_cons, List.map_cons, h]
theorem same_mem {l l' : List (Addr × Obj)} {p : Addr × Obj} {P : Addr → Prop} (e : l.map (·.1) = l'.map (·.1)) (h : ∀ p ∈ l', P p.1) (hp : p ∈ l) : P p.1 := by
  have h1 : p.1 ∈ l'.map (·.1) := by rw [← e]; exact List.mem_map.mpr ⟨p, hp, rfl⟩
  obtain ⟨q, hq, e2⟩ := List.mem_map.mp h1
  exact e2 ▸ h q hq
theorem pp_apart {t td kk ss nn ta tx pp cc co wa na aa std fmd bd st fm b pool : Addr}
    (ord : @LT.lt Nat _ td t ∧ @LT.lt Nat _ t kk ∧ @LT.lt Nat _ kk ss ∧ @LT.lt Nat _ ss nn ∧ @LT.lt Nat _ nn ta ∧ @LT.lt Nat _ ta tx ∧ @LT.lt Nat _ tx pp ∧ @LT.lt Nat _ pp cc ∧ @LT.lt Nat _ cc co)
    (hq : ∀ x ∈ [wa, na, aa, std, fmd, bd, st, fm, b, pool], @LT.lt Nat _ x td ∨ @LT.lt Nat _ co x) :
    (∀ x ∈ [wa, na, aa, t, td, kk, ss, nn, ta, tx], x ≠ pp) ∧ ∀ x ∈ [cc, co, std, fmd, bd, st, fm, b, pool], x ≠ pp := by
  obtain ⟨o1, o2, o3, o4, o5, o6, o7, o8, o9⟩ := ord
  have out : ∀ {x : Addr}, @LT.lt Nat _ x td ∨ @LT.lt Nat _ co x → x ≠ pp := fun {x} q e' => by
    have e2 : @Eq Nat x pp := e'
    omega
  simp only [List.forall_mem_cons, List.not_mem_nil, false_implies, implies_true, and_true] at hq ⊢
  obtain ⟨h1, h2, h3, h4, h5, h6, h7, h8, h9, h10⟩ := hq
  have A1 : AL t [td] := AL.one o1
  have A2 : AL kk [t, td] := A1.up o2
  have A3 : AL ss [kk, t, td] := A2.up o3
  have A4 : AL nn [ss, kk, t, td] := A3.up o4
  have A5 : AL ta [nn, ss, kk, t, td] := A4.up o5
  have A6 : AL tx [ta, nn, ss, kk, t, td] := A5.up o6
  have A7 : AL pp [tx, ta, nn, ss, kk, t, td] := A6.up o7
  refine ⟨⟨out h1, out h2, out h3, ?_, ?_, ?_, ?_, ?_, ?_, ?_⟩, ?_, ?_, out h4, out h5, out h6, out h7, out h8, out h9, out h10⟩
  all_goals first | exact Nat.ne_of_gt o8 | exact Nat.ne_of_gt (Nat.lt_trans o8 o9) | exact A7.hi (by repeat (first | exact List.mem_cons_self | refine List.mem_cons_of_mem _ ?_))
/-- the list of active ones, whichever way round: a name that is given anew, or not -/
noncomputable def Flip (g : Heap) (L : Addr) (m : Str → Option Value) (news : List (Addr × Obj)) (x : Str) (act : List Int) (s : Shared) (f : Flow) (s' : Shared) : Prop :=
  ∃ ax bv nb ac h' tk', f = .next ∧ s' = { s with heap := h', toks := tk' } ∧ IntsAre bv ac ∧ (ac = act ∨ ac = act.reverse) ∧ Fr g L h' (fun y => if y = x then some (.ref ax) else m y) ∧ News g L h' ((ax, listOf (List.toArray bv) nb) :: news)
theorem mono_flip {M : Model} {A : Around} {t : Sem Flow} {Q : Flow → Shared → Prop} {E : Value → Shared → Prop} {s : Shared} {g : Heap} {L : Addr} {m : Str → Option Value} {news : List (Addr × Obj)} (x : Str) (act : List Int) (_ : Fr g L s.heap m) (_ : News g L s.heap news)
    (h : wpAny M A t (Flip g L m news x act s) E s) (k : ∀ ax bv nb ac h' tk', IntsAre bv ac → (ac = act ∨ ac = act.reverse) → Fr g L h' (fun y => if y = x then some (.ref ax) else m y) → News g L h' ((ax, listOf (List.toArray bv) nb) :: news) → Q .next { s with heap := h', toks := tk' }) : wpAny M A t Q E s :=
  wpAny_mono h (fun _ _ q9 => by obtain ⟨ax, bv, nb, ac, h', tk', e1, e2, hb, ha, F, N⟩ := q9; subst e1; subst e2; exact k ax bv nb ac h' tk' hb ha F N) fun _ _ e => e
theorem fr_same {g h : Heap} {L : Addr} {m : Str → Option Value} {x : Str} {v : Value} (F : Fr g L h m) (e : m x = some v) : Fr g L h (fun y => if y = x then some v else m y) := by
  have : (fun y => if y = x then some v else m y) = m := funext fun y => by
    by_cases q : y = x
    · rw [if_pos q, q, e]
    · rw [if_neg q]
  rw [this]; exact F
theorem Kids.are : ∀ {rs es ls}, Kids rs es ls → ∀ p ∈ es, ∃ vs e ns, p.2 = listOf (List.toArray vs) e ∧ IntsAre vs ns := by
  intro rs es ls h
  induction h with
  | nil => exact fun _ hp => absurd hp List.not_mem_nil
  | cons i _ ih =>
    intro p hp
    rcases List.mem_cons.mp hp with e | hp
    · subst e; exact ⟨_, _, _, rfl, i⟩
    · exact ih p hp
/-- the lists of children lie apart from all else -/
theorem es_apart {t td kk ss nn ta tx pp cc co wa na aa std fmd bd st fm b pool L : Addr} {x0 x1 x2 x3 x4 x5 x6 x7 x8 x9 y1 y2 y3 : Obj} {es : List (Addr × Obj)} {h₀ h' : Heap} {cv pvs : List Value} {kids : List (List Int)} {e1 e2 e3 : List DictEntry} {n1 n2 n3 pe c4 c5 c6 : Nat} {d4 d5 d6 : Addr}
    (N : News h₀ L h' ((wa, y1) :: (na, y2) :: (aa, y3) :: (t, x0) :: (td, x1) :: (kk, x2) :: (ss, x3) :: (nn, x4) :: (ta, x5) :: (tx, x6) :: (pp, x7) :: (cc, x8) :: (co, x9) :: (std, dictOf e1 n1) :: (fmd, dictOf e2 n2) :: (bd, dictOf e3 n3) :: (st, instObj c4 d4) :: (fm, instObj c5 d5) :: (b, instObj c6 d6) :: (pool, listOf pvs.toArray pe) :: es))
    (K : Kids cv es kids) (r : ∀ p ∈ es, @LT.lt Nat _ p.1 td ∨ @LT.lt Nat _ co p.1)
    (ord : @LT.lt Nat _ td t ∧ @LT.lt Nat _ t kk ∧ @LT.lt Nat _ kk ss ∧ @LT.lt Nat _ ss nn ∧ @LT.lt Nat _ nn ta ∧ @LT.lt Nat _ ta tx ∧ @LT.lt Nat _ tx pp ∧ @LT.lt Nat _ pp cc ∧ @LT.lt Nat _ cc co)
    (h1 : ∀ p ∈ es, p.1 ≠ wa) (h2 : ∀ p ∈ es, p.1 ≠ na) (h3 : ∀ p ∈ es, p.1 ≠ aa) (hpool : StrsAre pvs poolL) :
    ∀ p ∈ es, ∀ y ∈ [wa, na, aa, t, td, kk, ss, nn, ta, tx, pp, cc, co, std, fmd, bd, st, fm, b, pool], y ≠ p.1 := by
  intro p hp
  obtain ⟨vs, e, ns, eo, hv⟩ := K.are p hp
  obtain ⟨o1, o2, o3, o4, o5, o6, o7, o8, o9⟩ := ord
  have q := r p hp
  have two : ∀ {x : Addr} {o : Obj}, (x, o) ∈ ((wa, y1) :: (na, y2) :: (aa, y3) :: (t, x0) :: (td, x1) :: (kk, x2) :: (ss, x3) :: (nn, x4) :: (ta, x5) :: (tx, x6) :: (pp, x7) :: (cc, x8) :: (co, x9) :: (std, dictOf e1 n1) :: (fmd, dictOf e2 n2) :: (bd, dictOf e3 n3) :: (st, instObj c4 d4) :: (fm, instObj c5 d5) :: (b, instObj c6 d6) :: (pool, listOf pvs.toArray pe) :: es) → o ≠ listOf vs.toArray e → x ≠ p.1 := fun {x o} m ne =>
    News.twoPlaces N m (by repeat (first | exact hp | refine List.mem_cons_of_mem _ ?_)) (fun e' => ne (Eq.trans e' eo))
  have lt1 : ∀ {x : Addr}, @LE.le Nat _ td x → @LE.le Nat _ x co → x ≠ p.1 := fun {x} a b e' => by
    have e2 : @Eq Nat x p.1 := e'
    omega
  refine List.forall_mem_cons.mpr ⟨Ne.symm (h1 p hp), ?_⟩
  refine List.forall_mem_cons.mpr ⟨Ne.symm (h2 p hp), ?_⟩
  refine List.forall_mem_cons.mpr ⟨Ne.symm (h3 p hp), ?_⟩
  have p1 : @LE.le Nat _ td t := Nat.le_of_lt o1
  have p2 : @LE.le Nat _ td kk := Nat.le_trans p1 (Nat.le_of_lt o2)
  have p3 : @LE.le Nat _ td ss := Nat.le_trans p2 (Nat.le_of_lt o3)
  have p4 : @LE.le Nat _ td nn := Nat.le_trans p3 (Nat.le_of_lt o4)
  have p5 : @LE.le Nat _ td ta := Nat.le_trans p4 (Nat.le_of_lt o5)
  have p6 : @LE.le Nat _ td tx := Nat.le_trans p5 (Nat.le_of_lt o6)
  have p7 : @LE.le Nat _ td pp := Nat.le_trans p6 (Nat.le_of_lt o7)
  have p8 : @LE.le Nat _ td cc := Nat.le_trans p7 (Nat.le_of_lt o8)
  have p9 : @LE.le Nat _ td co := Nat.le_trans p8 (Nat.le_of_lt o9)
  have r8 : @LE.le Nat _ cc co := Nat.le_of_lt o9
  have r7 : @LE.le Nat _ pp co := Nat.le_trans (Nat.le_of_lt o8) r8
  have r6 : @LE.le Nat _ tx co := Nat.le_trans (Nat.le_of_lt o7) r7
  have r5 : @LE.le Nat _ ta co := Nat.le_trans (Nat.le_of_lt o6) r6
  have r4 : @LE.le Nat _ nn co := Nat.le_trans (Nat.le_of_lt o5) r5
  have r3 : @LE.le Nat _ ss co := Nat.le_trans (Nat.le_of_lt o4) r4
  have r2 : @LE.le Nat _ kk co := Nat.le_trans (Nat.le_of_lt o3) r3
  have r1 : @LE.le Nat _ t co := Nat.le_trans (Nat.le_of_lt o2) r2
  have r0 : @LE.le Nat _ td co := Nat.le_trans (Nat.le_of_lt o1) r1
  refine List.forall_mem_cons.mpr ⟨lt1 p1 r1, ?_⟩
  refine List.forall_mem_cons.mpr ⟨lt1 (Nat.le_refl _) r0, ?_⟩
  refine List.forall_mem_cons.mpr ⟨lt1 p2 r2, ?_⟩
  refine List.forall_mem_cons.mpr ⟨lt1 p3 r3, ?_⟩
  refine List.forall_mem_cons.mpr ⟨lt1 p4 r4, ?_⟩
  refine List.forall_mem_cons.mpr ⟨lt1 p5 r5, ?_⟩
  refine List.forall_mem_cons.mpr ⟨lt1 p6 r6, ?_⟩
  refine List.forall_mem_cons.mpr ⟨lt1 p7 r7, ?_⟩
  refine List.forall_mem_cons.mpr ⟨lt1 p8 r8, ?_⟩
  refine List.forall_mem_cons.mpr ⟨lt1 p9 (Nat.le_refl _), ?_⟩
  refine List.forall_mem_cons.mpr ⟨two (by repeat (first | exact List.mem_cons_self | refine List.mem_cons_of_mem _ ?_)) (fun e => by have a := congrArg Obj.data e; cases a), ?_⟩
  refine List.forall_mem_cons.mpr ⟨two (by repeat (first | exact List.mem_cons_self | refine List.mem_cons_of_mem _ ?_)) (fun e => by have a := congrArg Obj.data e; cases a), ?_⟩
  refine List.forall_mem_cons.mpr ⟨two (by repeat (first | exact List.mem_cons_self | refine List.mem_cons_of_mem _ ?_)) (fun e => by have a := congrArg Obj.data e; cases a), ?_⟩
  refine List.forall_mem_cons.mpr ⟨two (by repeat (first | exact List.mem_cons_self | refine List.mem_cons_of_mem _ ?_)) (fun e => by injection e with a; cases a), ?_⟩
  refine List.forall_mem_cons.mpr ⟨two (by repeat (first | exact List.mem_cons_self | refine List.mem_cons_of_mem _ ?_)) (fun e => by injection e with a; cases a), ?_⟩
  refine List.forall_mem_cons.mpr ⟨two (by repeat (first | exact List.mem_cons_self | refine List.mem_cons_of_mem _ ?_)) (fun e => by injection e with a; cases a), ?_⟩
  refine List.forall_mem_cons.mpr ⟨two (by repeat (first | exact List.mem_cons_self | refine List.mem_cons_of_mem _ ?_)) (fun e => ints_strs_ne hv hpool (by decide +kernel) e.symm), ?_⟩
  exact List.forall_mem_nil _
end
section
open PySem PySem.W PySem.PyData PySem.Calls PyProof.Rows PyProof.V PySem.Spec PyProof.Rows.LCg
theorem Kids.snoc1 {c : Addr} {bv : List Value} {k : Nat} {ns : List Int} (hb : IntsAre bv ns) : ∀ {rs es ls}, Kids rs es ls → Kids (rs ++ [.ref c]) (es ++ [(c, listOf bv.toArray k)]) (ls ++ [ns])
  | _, _, _, .nil => .cons hb .nil
  | _, _, _, .cons i h => .cons i (Kids.snoc1 hb h)
section
variable {prog : Program} {w : World} {A : Around} {s : Shared} {h₀ : Heap} {L : Addr} {m : Str → Option Value} {env : Env} {news : List (Addr × Obj)}
  {elt : PySem.Expr} {x : Str} {scope : Scope} {cl : List (Str × Addr)} {S : List (Addr × Obj) → Prop} {Fin : List Value → List (Addr × Obj) → Prop}
/-- a comprehension that copies each of the lists of children -/
theorem rest_kids {cv : List Value} {es : List (Addr × Obj)} {kids : List (List Int)} (hK : Kids cv es kids) (hin : ∀ p ∈ es, p ∈ news)
    (step : ∀ c vs e ns I oI C oC D ys m₂ h tk (E' : Value → Shared → Prop) news', IntsAre vs ns → ns ∈ kids → (∀ p ∈ news, p ∈ news') → (c, listOf (List.toArray vs) e) ∈ news' → NsObj oC m₂ → m₂ x = some (.ref c) → Fr h₀ L h m → News h₀ L h ((I, oI) :: (C, oC) :: (D, lst ys) :: news') → Off3 I C D news' → ((@Ne Nat I C) ∧ (@Ne Nat I D) ∧ (@Ne Nat C D)) →
      wpAny (model prog w) A (eval elt (compEnvC scope cl C env)) (CompEnd h₀ L m { s with heap := h, toks := tk } I oI C oC D (lst ys) S (fun y n2 => ∃ a bv k, y = .ref a ∧ n2 = (a, listOf (List.toArray bv) k) :: news' ∧ IntsAre bv ns)) E' { s with heap := h, toks := tk })
    (fin : ∀ ys es2 news', Kids ys es2 kids → (∀ p ∈ news, p ∈ news') → (∀ p ∈ es2, p ∈ news') → Fin ys news') :
    ∀ (k i : Nat) (ys : List Value) (es2 news' : List (Addr × Obj)), i + k = kids.length → Kids ys es2 (kids.take i) → (∀ p ∈ news, p ∈ news') → (∀ p ∈ es2, p ∈ news') → CompRest prog w A h₀ L m env elt x scope cl s S (fun i v => cv.toArray[i]? = some v) Fin k i ys news' := by
  intro k
  induction k with
  | zero => exact fun i ys es2 news' hk ha h1 h2 => CompRest.zero (fin ys es2 news' (by rw [List.take_of_length_le (by omega)] at ha; exact ha) h1 h2)
  | succ k ih =>
    intro i ys es2 news' hk ha h1 h2
    refine CompRest.succ fun v I oI C oC D m₂ h tk E' hv hC hx F' N' off' ne' => ?_
    obtain ⟨c, vs, e, ns, q1, q2, q3, q4⟩ := hK.get i (by omega)
    have hv' : cv[i]? = some v := by simpa using hv
    have hc : v = .ref c := by rw [hv'] at q1; exact Option.some.inj q1
    subst hc
    have et : kids.take (i + 1) = kids.take i ++ [ns] := by rw [List.take_add_one, q3]; rfl
    refine wpAny_mono (step c vs e ns I oI C oC D ys m₂ h tk E' news' q4 (List.mem_of_getElem? q3) h1 (h1 _ (hin _ q2)) hC hx F' N' off' ne') (fun v' s'' he => ?_) fun _ _ e => e
    obtain ⟨h', tk', news'', e1, F1, N1, o1, S1, a, bv, kk, rfl, rfl, hb⟩ := he
    refine ⟨h', tk', _, e1, F1, N1, o1, S1, ih (i + 1) (ys ++ [.ref a]) (es2 ++ [(a, listOf bv.toArray kk)]) _ (by omega) (by rw [et]; exact Kids.snoc1 hb ha) (fun p hp => .tail _ (h1 p hp)) fun p hp => ?_⟩
    rcases List.mem_append.mp hp with hp | hp
    · exact .tail _ (h2 p hp)
    · rw [List.mem_singleton.mp hp]; exact .head _
end
section
variable {prog : Program} {w : World} {A : Around} {E : Value → Shared → Prop} {s : Shared} {h₀ : Heap} {L a b D : Addr} {news : List (Addr × Obj)} {n1 n2 n : Nat} {Q : Value → Shared → Prop}
theorem led_second {x y : Value} {t : Tok} {value slice : PySem.Expr} (N : News h₀ L s.heap news) (hm : (D, listOf (List.toArray [x, y]) n) ∈ news) (h : Q y s)
    (hs : subscripted slice false (.ref D) (.int 1 t) = operate [.ref D, .int 1 t] (getItem (.ref D) (.int 1 t)) := by with_unfolding_all rfl) :
    wpAny (model prog w) A (subscriptTail value slice (.ref D) (.int 1 t)) Q E s := by
  have hl := N.isList hm
  exact tail_any hl.typeIs slot_list_getitem.lookup (wpAny_getItem_list hl (by omega) (by omega) (by rfl) h) hs
theorem ints_reads {h : Heap} {vs : List Value} {ns : List Int} (i : IntsAre vs ns) : ReadsAll h vs (ns.map PyData.int) [] := by
  induction i with
  | nil => exact .nil
  | cons _ _ _ ih => exact readsAll_cons_val (.int _ _) ih
theorem strs_reads {h : Heap} {vs : List Value} {ss : List Str} (i : StrsAre vs ss) : ReadsAll h vs (ss.map PyData.str) [] := by
  induction i with
  | nil => exact .nil
  | cons _ _ _ ih => exact readsAll_cons_val (.str _ _) ih
theorem kids_reads (N : News h₀ L s.heap news) : ∀ {cv es kids}, Kids cv es kids → (∀ p ∈ es, p ∈ news) → ∃ as, ReadsAll s.heap cv (kidsD kids) as := by
  intro cv es kids h
  induction h with
  | nil => exact fun _ => ⟨_, .nil⟩
  | cons i _ ih =>
    intro hs
    obtain ⟨as, r⟩ := ih fun p hp => hs p (.tail _ hp)
    exact ⟨_, .cons (reads_list_at (News.get N (hs _ (.head _))) rfl rfl (ints_reads i)) r⟩
theorem led_eq_kids {cv cv2 : List Value} {es es2 : List (Addr × Obj)} {kids : List (List Int)} (N : News h₀ L s.heap news) (ha : (a, listOf cv.toArray n1) ∈ news) (hb : (b, listOf cv2.toArray n2) ∈ news)
    (K1 : Kids cv es kids) (K2 : Kids cv2 es2 kids) (h1 : ∀ p ∈ es, p ∈ news) (h2 : ∀ p ∈ es2, p ∈ news) (hu : A.units + 64 < cLine) (h : Q (.bool true) s) :
    wpAny (model prog w) A (compareOp .Eq (.ref a) (.ref b)) Q E s := by
  obtain ⟨as, r1⟩ := kids_reads N K1 h1
  obtain ⟨bs, r2⟩ := kids_reads N K2 h2
  have e : PyData.eqv (.list (kidsD kids)) (.list (kidsD kids)) = true := by simp only [PyData.eqv]; exact kids_eqv kids
  exact eq_dataH (reads_list_at (News.get N ha) rfl rfl r1) (reads_list_at (News.get N hb) rfl rfl r2) (kids_shaped kids) (kids_shaped kids) hu (by rw [e]; exact h)
theorem strs_canLay : ∀ ss : List Str, (∀ x ∈ ss, PyData.strOk x = true) → PyData.canLayAll0 (ss.map PyData.str) = true
  | [], _ => rfl
  | x :: r, h => by simp [PyData.canLayAll0, PyData.canLay0, h x (.head _), strs_canLay r fun y hy => h y (.tail _ hy)]
theorem strs_depth : ∀ ss : List Str, PyData.depthAll (ss.map PyData.str) = 0
  | [] => rfl
  | x :: r => by simp [PyData.depthAll, PyData.depth, strs_depth r]
theorem led_eq_told {pa na sa ka pb nb sb kb : Addr} {pv nv sv kv pv2 nv2 sv2 kv2 : List Value} {par : List Int} {names spaces kinds : List Str} {k1 k2 k3 k4 k5 k6 k7 k8 : Nat} (N : News h₀ L s.heap news)
    (ha : (a, listOf (List.toArray [.ref pa, .ref na, .ref sa, .ref ka]) n1) ∈ news) (hb : (b, listOf (List.toArray [.ref pb, .ref nb, .ref sb, .ref kb]) n2) ∈ news)
    (h1 : (pa, listOf pv.toArray k1) ∈ news) (h2 : (na, listOf nv.toArray k2) ∈ news) (h3 : (sa, listOf sv.toArray k3) ∈ news) (h4 : (ka, listOf kv.toArray k4) ∈ news)
    (h5 : (pb, listOf pv2.toArray k5) ∈ news) (h6 : (nb, listOf nv2.toArray k6) ∈ news) (h7 : (sb, listOf sv2.toArray k7) ∈ news) (h8 : (kb, listOf kv2.toArray k8) ∈ news)
    (g1 : IntsAre pv par) (g2 : StrsAre nv names) (g3 : StrsAre sv spaces) (g4 : StrsAre kv kinds) (g5 : IntsAre pv2 par) (g6 : StrsAre nv2 names) (g7 : StrsAre sv2 spaces) (g8 : StrsAre kv2 kinds)
    (ok : (∀ x ∈ kinds, PyData.strOk x = true) ∧ (∀ x ∈ spaces, PyData.strOk x = true) ∧ ∀ x ∈ names, PyData.strOk x = true) (hu : A.units + 64 < cLine) (h : Q (.bool true) s) :
    wpAny (model prog w) A (compareOp .Eq (.ref a) (.ref b)) Q E s := by
  obtain ⟨o1, o2, o3⟩ := ok
  have hs : SeqAt.shaped (.list [.list (par.map PyData.int), .list (names.map PyData.str), .list (spaces.map PyData.str), .list (kinds.map PyData.str)]) = true := by
    simp [SeqAt.shaped, PyData.canLay0, PyData.canLayAll0, PyData.depth, PyData.depthAll, ke_canLayAll0, ke_depthAll, strs_canLay _ o1, strs_canLay _ o2, strs_canLay _ o3, strs_depth]
  have he : PyData.eqv (.list [.list (par.map PyData.int), .list (names.map PyData.str), .list (spaces.map PyData.str), .list (kinds.map PyData.str)]) (.list [.list (par.map PyData.int), .list (names.map PyData.str), .list (spaces.map PyData.str), .list (kinds.map PyData.str)]) = true := by
    simp only [PyData.eqv, PyData.eqvAll, ked_eqvAll, strs_eqv, decide_true, Bool.true_and, Bool.and_true]
  have rd : ∀ {x : Addr} {vs : List Value} {k : Nat} {ds : List PyData}, (x, listOf vs.toArray k) ∈ news → ReadsAll s.heap vs ds [] → Reads s.heap (.ref x) (.list ds) [x] := fun {x vs k ds} m r => reads_list_at (News.get N m) rfl rfl r
  exact eq_dataH (reads_list_at (News.get N ha) rfl rfl (.cons (rd h1 (ints_reads g1)) (.cons (rd h2 (strs_reads g2)) (.cons (rd h3 (strs_reads g3)) (.cons (rd h4 (strs_reads g4)) .nil)))))
    (reads_list_at (News.get N hb) rfl rfl (.cons (rd h5 (ints_reads g5)) (.cons (rd h6 (strs_reads g6)) (.cons (rd h7 (strs_reads g7)) (.cons (rd h8 (strs_reads g8)) .nil))))) hs hs hu (by rw [he]; exact h)
end
end
section
open PySem PySem.W PySem.PyData PySem.Calls PyProof.Rows PyProof.V PySem.Spec
/-- some short text, and nothing else changed -/
noncomputable def ATxt (g : Heap) (L : Addr) (m : Str → Option Value) (news : List (Addr × Obj)) (s : Shared) (v : Value) (s' : Shared) : Prop :=
  ∃ x t h' tk', v = Value.str x t ∧ s' = { s with heap := h', toks := tk' } ∧ x.length ≤ 100 ∧ Fr g L h' m ∧ News g L h' news
theorem mono_txt {M : Model} {A : Around} {t : Sem Value} {Q : Value → Shared → Prop} {E : Value → Shared → Prop} {s : Shared} {g : Heap} {L : Addr} {m : Str → Option Value} {news : List (Addr × Obj)} (_ : Fr g L s.heap m) (_ : News g L s.heap news)
    (h : wpAny M A t (ATxt g L m news s) E s) (k : ∀ x t h' tk', x.length ≤ 100 → Fr g L h' m → News g L h' news → Q (.str x t) { s with heap := h', toks := tk' }) : wpAny M A t Q E s :=
  wpAny_mono h (fun _ _ q9 => by obtain ⟨x, t, h', tk', e1, e2, hx, F, N⟩ := q9; subst e1; subst e2; exact k x t h' tk' hx F N) fun _ _ e => e
section
variable {prog : Program} {w : World} {A : Around} {E : Value → Shared → Prop} {s : Shared} {h₀ : Heap} {L D : Addr} {news : List (Addr × Obj)} {Q : Value → Shared → Prop}
theorem led_word {vs : List Value} {words : List Str} {n : Nat} {k : Int} {t : Tok} {value slice : PySem.Expr} (N : News h₀ L s.heap news) (hm : (D, listOf vs.toArray n) ∈ news) (hi : StrsAre vs words) (hw : ∀ j, j < words.length → ∃ p ∈ pairsX, sAt words (j : Nat) = glue p) (h0 : 0 ≤ k) (hk : k < words.length) (hz : words.length ≤ 100)
    (h : ∀ p t, p ∈ pairsX → Q (.str (glue p) t) s)
    (hs : subscripted slice false (.ref D) (.int k t) = operate [.ref D, .int k t] (getItem (.ref D) (.int k t)) := by with_unfolding_all rfl) :
    wpAny (model prog w) A (subscriptTail value slice (.ref D) (.int k t)) Q E s := by
  obtain ⟨p, hp, e⟩ := hw k.toNat (by omega)
  rw [Int.toNat_of_nonneg h0] at e
  exact led_str N hm hi h0 hk (by omega) (fun t => e ▸ h p t hp) hs
end
theorem list_apart {h₀ h : Heap} {L d x : Addr} {l : List (Addr × Obj)} {e : List DictEntry} {n k : Nat} {vs : Array Value} (N : News h₀ L h l) (hd : (d, dictOf e n) ∈ l) (hx : (x, listOf vs k) ∈ l) : x ≠ d :=
  News.twoPlaces N hx hd fun q => by have a := congrArg Obj.data q; cases a
theorem inst_apart {h₀ h : Heap} {L d x : Addr} {l : List (Addr × Obj)} {e : List DictEntry} {n c : Nat} {y : Addr} (N : News h₀ L h l) (hd : (d, dictOf e n) ∈ l) (hx : (x, instObj c y) ∈ l) : x ≠ d :=
  News.twoPlaces N hx hd fun q => by have a := congrArg Obj.cls q; cases a
theorem kids_apart {h₀ h : Heap} {L d : Addr} {l es : List (Addr × Obj)} {e : List DictEntry} {n : Nat} {cv : List Value} {kids : List (List Int)} (N : News h₀ L h l) (hd : (d, dictOf e n) ∈ l) (K : Kids cv es kids) (hs : ∀ p ∈ es, p ∈ l) : ∀ p ∈ es, p.1 ≠ d := fun p hp => by
  obtain ⟨vs, k, ns, eo, _⟩ := K.are p hp
  have hp' : (p.1, listOf vs.toArray k) ∈ l := by rw [← eo]; exact hs p hp
  exact list_apart N hd hp'
theorem block_apart {d t td kk ss nn ta tx pp cc co : Addr} (ord : @LT.lt Nat _ td t ∧ @LT.lt Nat _ t kk ∧ @LT.lt Nat _ kk ss ∧ @LT.lt Nat _ ss nn ∧ @LT.lt Nat _ nn ta ∧ @LT.lt Nat _ ta tx ∧ @LT.lt Nat _ tx pp ∧ @LT.lt Nat _ pp cc ∧ @LT.lt Nat _ cc co)
    (h : @LT.lt Nat _ d td ∨ @LT.lt Nat _ co d) : ∀ x ∈ [t, td, kk, ss, nn, ta, tx, pp, cc, co], x ≠ d := by
  exact fun x hx => blk_ne (blk_le ord x hx).1 (blk_le ord x hx).2 h
end
section
open PySem PySem.W PySem.PyData PySem.Calls PyProof.Rows PyProof.V PySem.Spec
/-- a statement that the walk's closers do not see -/
@[irreducible] def packP (p : Prop) : Prop := p
theorem packP_of {p : Prop} (h : packP p) : p := by unfold packP at h; exact h
theorem packP_go {p : Prop} (h : p) : packP p := by unfold packP; exact h
theorem firsts : pairsX.all (fun p => !(glue p == Str.ofString "html:html") || isSpec p.1 p.2) = true := by decide +kernel
theorem BOk.bld {n : Nat} {c : BS} (H : BOk n c) {ac : List Int} (ha : ac = c.active ∨ ac = c.active.reverse) : Bld c.D.spaces c.D.names c.words c.nodes ac where
  len := by rw [H.nl, H.wl]
  nd := H.nd
  big := by rw [H.wl]; omega
  word := H.word
  first := by
    obtain ⟨p, hp, e1, e2, e3⟩ := H.word 0 (by rw [H.wl]; omega)
    have h := List.all_eq_true.mp firsts p hp
    rw [e2, e3]
    have e : (glue p == Str.ofString "html:html") = true := by rw [← e1, H.first]; exact beq_self_eq_true _
    rw [e] at h
    simpa using h
  pos := fun x hx => by have := H.pos x hx; omega
  act := fun x hx => H.act x (by rcases ha with e | e; (rw [e] at hx; exact hx); (rw [e] at hx; exact List.mem_reverse.mp hx))
  once := fun x hx => by
    rcases ha with e | e
    · rw [e]; exact H.once x hx
    · rw [e, List.count_reverse]; exact H.once x hx
theorem BOk.words_ok {n : Nat} {c : BS} (H : BOk n c) : ∀ x ∈ c.words, PyData.strOk x = true := fun x hx => by
  obtain ⟨j, hj, e⟩ := List.getElem_of_mem hx
  obtain ⟨p, hp, e1, _⟩ := H.word j hj
  have e2 : sAt c.words (j : Nat) = x := by unfold sAt; simp [hj, e]
  rw [← e2, e1]
  exact (split_of hp).2.2.2.2
theorem BOk.words_are {n : Nat} {c : BS} (H : BOk n c) : ∀ j, j < c.words.length → ∃ p ∈ pairsX, sAt c.words (j : Nat) = glue p := fun j hj => by
  obtain ⟨p, hp, e, _⟩ := H.word j hj
  exact ⟨p, hp, e⟩
theorem rotF {g h : Heap} {L : Addr} {x a b c : Addr × Obj} {l : List (Addr × Obj)} (N : News g L h (x :: a :: b :: c :: l)) : News g L h (a :: b :: c :: x :: l) :=
  News.perm N fun p hp => by
    simp only [List.mem_cons] at hp ⊢
    rcases hp with h | h | h | h | h
    · exact .inr (.inl h)
    · exact .inr (.inr (.inl h))
    · exact .inr (.inr (.inr (.inl h)))
    · exact .inl h
    · exact .inr (.inr (.inr (.inr h)))
theorem turn_end9 {h₀ h' : Heap} {L : Addr} {m' : Str → Option Value} {s₁ : Shared} {tk : Nat} {x a b c : Addr × Obj} {l : List (Addr × Obj)} {rest : (Str → Option Value) → List (Addr × Obj) → Prop} (F : Fr h₀ L h' m') (N : News h₀ L h' (a :: b :: c :: x :: l)) (hne : ∀ p ∈ a :: b :: c :: l, p.1 ≠ x.1) (r : rest m' (a :: b :: c :: l)) :
    UnrEndW h₀ L s₁ [x] rest { s₁ with heap := h', toks := tk } :=
  ⟨h', tk, m', a :: b :: c :: l, rfl, F, News.perm N fun p hp => by
    simp only [List.singleton_append, List.mem_cons] at hp ⊢
    rcases hp with h | h | h | h | h
    · exact .inr (.inr (.inr (.inl h)))
    · exact .inl h
    · exact .inr (.inl h)
    · exact .inr (.inr (.inl h))
    · exact .inr (.inr (.inr (.inr h))), fun p hp q hq => by rw [List.mem_singleton.mp hq]; exact hne p hp, r⟩
theorem drop4 {g h : Heap} {L : Addr} {x a b c : Addr × Obj} {l : List (Addr × Obj)} (N : News g L h (a :: b :: c :: x :: l)) : News g L h (a :: b :: c :: l) :=
  News.perm N fun p hp => by
    simp only [List.mem_cons] at hp ⊢
    rcases hp with h | h | h | h
    · exact .inl h
    · exact .inr (.inl h)
    · exact .inr (.inr (.inl h))
    · exact .inr (.inr (.inr (.inr h)))
theorem flip_len {ac act : List Int} (h : ac = act ∨ ac = act.reverse) : ac.length = act.length := by
  rcases h with e | e <;> rw [e]
  exact List.length_reverse
end
section
section
variable {w : World} {mean : ExcName → Option Value} {mg mb : Str → Option Value} {dp un : Nat} {gd : Option (List Code)} {cn : Str} {cs : Scope} {a : Addr} {ccd : Value} {cl : List (Str × Addr)} {outer : List Env} {A₀ : Around} {base h₀ : Heap} {L : Addr} {m : Str → Option Value} {news : List (Addr × Obj)} {s : Shared} {Q E : Value → Shared → Prop}

theorem sub_two {α : Type} {a b : α} {l r : List α} (h1 : a ∈ l) (h2 : b ∈ l) (h3 : ∀ p ∈ r, p ∈ l) : ∀ p ∈ a :: b :: r, p ∈ l := fun p hp => by
  rcases List.mem_cons.mp hp with e | hp
  · exact e ▸ h1
  · rcases List.mem_cons.mp hp with e | hp
    · exact e ▸ h2
    · exact h3 p hp
set_option maxHeartbeats 8000000 in
theorem other9_c {wa : Addr} {wv : List Value} {nw : Nat} {words : List Str} {many : Nat} {name : Str} {tm tn : Tok}
  (B : Below A₀ base outer h₀) (F : Fr h₀ L s.heap m) (X : (K w.params).In h₀) (N : News h₀ L s.heap news) (T : TopP mean mg mb h₀) (hk : cs.kind = .function) (hd : dp + 15 < recursionLimit) (hu : un + 150 < cLine)
  (h1 : (wa, listOf wv.toArray nw) ∈ news) (g1 : StrsAre wv words) (hz : words.length ≤ 100) (hm : many ≤ words.length) (hn : name.length ≤ 100)
  (hok : ∀ x ∈ words, PyData.strOk x = true)
  (k : ∀ r la t vs e h' tk', Fr h₀ L h' m → News h₀ L h' ((r, tupO [.int (other9 words many name).1 t, .ref la]) :: (la, listOf (List.toArray vs) e) :: news) → StrsAre vs (other9 words many name).2 → Q (.ref r) { s with heap := h', toks := tk' }) :
  wpAny (model PySem.Challenge.rw_pb0145_01.row.prog w) (ktrTop dp un gd cn cs L a ccd cl outer) (call (.ref 535) [.ref wa, .int many tm, .str name tn]) Q E s := by
  k_with_none
  k_with "om" => first | assumption | exact Nat.le_trans (by assumption) (Nat.le_of_ble_eq_true rfl) | exact Nat.lt_of_le_of_lt (by assumption) (Nat.le_of_ble_eq_true rfl) | decide | omega
  k_with "k_get" => (first | k_extra "getd" | with_reducible assumption | with_reducible_and_instances exact Dct.get (by assumption) (by k_mem) | exact Dct.get (by assumption) (by k_mem))
  k_with "k_upd" => first | assumption | k_extra "upd" | (refine' Upd.head ?a; (case a => k_all)) | (refine' Upd.tail ?a ?b; (case a => k_ne); (case b => k_upd))
  k_with "exec While" => refine held_of ?_
  k_with "call builtin:len" => (k_here; (with_reducible show wpAny _ _ (call (Value.builtin "len") [Value.ref _]) _ _ _); k_dflt (refine' led_len ?k1 ?k2 ?k3 ?k4 ?_; (case k1 => k_asm); (case k2 => k_mem); (case k3 => first | exact IntsAre.length (by assumption) | exact PyProof.Rows.StrsAre.length (by assumption) | assumption); (case k4 => walk_at "om"); k_whole); intro _ _)
  k_with "subs9" => (k_here; (with_reducible show wpAny _ _ (subscriptTail _ _ (Value.ref _) (Value.int _ _)) _ _ _); k_dflt (first | (refine' led_int ?k1 ?k2 ?k3 ?k4 ?k5 ?k6 ?_ ?k7; (case k1 => k_asm); (case k2 => k_mem); (case k3 => assumption); (case k4 => first | omega | k_extra "bnd"); (case k5 => first | omega | k_extra "bnd"); (case k6 => omega); (case k7 => with_unfolding_all rfl); k_whole; intro _ _; (try k_extra "fact")) | (refine' led_str ?k1 ?k2 ?k3 ?k4 ?k5 ?k6 ?_ ?k7; (case k1 => k_asm); (case k2 => k_mem); (case k3 => assumption); (case k4 => first | omega | k_extra "bnd"); (case k5 => first | omega | k_extra "bnd"); (case k6 => omega); (case k7 => with_unfolding_all rfl); k_whole; intro _)))
  k_with "subscriptTail" => walk_at "subs9"
  k_with "subscriptTail Name Name ref int" => walk_at "subs9"
  k_with "subscriptTail Attribute Name ref int" => walk_at "subs9"
  k_with "compareOp In int ref" => (k_here; k_dflt (refine' led_in ?k1 ?k2 ?k3 ?_; (case k1 => k_asm); (case k2 => k_mem); (case k3 => assumption); k_whole))
  k_with "compareOp NotIn int ref" => (k_here; k_dflt (refine' led_notin ?k1 ?k2 ?k3 ?_; (case k1 => k_asm); (case k2 => k_mem); (case k3 => assumption); k_whole))
  k_with "compareOp In str ref" => (k_here; k_dflt (first | (refine' led_in_str ?k1 ?k2 ?k3 ?_; (case k1 => k_asm); (case k2 => walk_at "memR"); (case k3 => with_reducible assumption); k_whole) | (refine' led_in_tup ?k1 ?k2 ?k3 ?_; (case k1 => k_asm); (case k2 => walk_at "memR"); (case k3 => with_reducible assumption); k_whole) | (refine' led_in_tup ?k1 ?k2 ?k3 ?_; (case k1 => k_asm); (case k2 => k_mem); (case k3 => with_reducible assumption); k_whole) | (refine' led_in_str ?k1 ?k2 ?k3 ?_; (case k1 => k_asm); (case k2 => k_mem); (case k3 => with_reducible assumption); k_whole)))
  k_with "compareOp NotIn str ref" => (k_here; k_dflt (first | (refine' led_notin_str ?k1 ?k2 ?k3 ?_; (case k1 => k_asm); (case k2 => walk_at "memR"); (case k3 => with_reducible assumption); k_whole) | (refine' led_notin_tup ?k1 ?k2 ?k3 ?_; (case k1 => k_asm); (case k2 => walk_at "memR"); (case k3 => with_reducible assumption); k_whole) | (refine' led_notin_tup ?k1 ?k2 ?k3 ?_; (case k1 => k_asm); (case k2 => k_mem); (case k3 => with_reducible assumption); k_whole) | (refine' led_notin_str ?k1 ?k2 ?k3 ?_; (case k1 => k_asm); (case k2 => k_mem); (case k3 => with_reducible assumption); k_whole)))
  k_with "eval Tuple" => (k_here; k_dflt (refine' tup_lit ?k1 ?k2 ?k3 ?k4 ?_; (case k1 => exact rfl); (case k2 => exact Nat.le_of_ble_eq_true rfl); (case k3 => k_asm); (case k4 => k_asm); k_whole); intro _ _ _ _ _ _ _ _)
  k_with "call builtin:list.index" => (k_here; (with_reducible show wpAny _ _ (call (Value.builtin _) [Value.ref _, Value.int _ _]) _ _ _); k_dflt (refine' led_index ?k1 ?k2 ?k3 ?k4 ?k5 ?_; (case k1 => k_asm); (case k2 => k_mem); (case k3 => assumption); (case k4 => assumption); (case k5 => omega); k_whole))
  k_with "pyIter ref" => refine held_of ?_
  k_with "InvEndN" => k_extra "InvEndN"
  k_with "k_steps" => repeat' (first | (k_unfold; (try dsimp only)) | (k_end; fail_if_success skip) | walk1 | (dsimp only; walk1) | fail "no step")
  k_with "kst_same" => (intro z h1 h2 h3; (try simp only [List.contains_cons, List.contains_nil, Bool.or_false, Bool.or_eq_false_iff, beq_eq_false_iff_ne, ne_eq] at h3); (simp [h1, h3, kstB]; done))
  k_with "ktr_enter" => first | (refine' code_def ?k1 ?k2 ?k3 ?k4 ?k5 ?kA ?kF ?kK ?k6 ?k7 ?k8 ?k9 ?kB ?_ ?c2 ?c3 ?c4 ?c5; (case kA => exact rfl); (case kF => exact rfl); (case kK => assumption); (case k1 => k_asm); (case k2 => k_asm); (case k3 => k_asm); (case k4 => k_asm); (case k5 => k_asm); (case k6 => k_is); (case k7 => k_is); (case k8 => ktr_room); (case k9 => first | exact BindsTo.of_eq rfl | exact binds_K (by k_in) rfl (by k_is) rfl rfl rfl); (case c5 => decide); (case kB => exact locs rfl); (case c2 => exact rfl); (case c3 => exact rfl); (case c4 => exact rfl); k_whole; walk_at "tl1") | (refine' code_defC ?k1 ?k2 ?k3 ?k4 ?k5 ?kA ?kF ?kK ?k6 ?k7 ?k8 ?k9 ?kB ?kD ?_ ?c2 ?c3 ?c4; (case kA => exact rfl); (case kF => exact rfl); (case kK => assumption); (case k1 => k_asm); (case k2 => k_asm); (case k3 => k_asm); (case k4 => k_asm); (case k5 => k_asm); (case k6 => k_is); (case k7 => k_is); (case k8 => ktr_room); (case k9 => first | exact BindsTo.of_eq rfl | exact binds_K (by k_in) rfl (by k_is) rfl rfl rfl); (case kB => exact rfl); (case kD => decide +kernel); (case c2 => exact rfl); (case c3 => exact rfl); (case c4 => exact rfl); k_whole; walk_at "tl2")
  k_with "eval ListComp" => (k_here; lct_look; k_dflt (refine LCt.ListComp_T (F₀ := by k_asm) (by with_unfolding_all rfl) (by decide) (by rfl) (by decide) (by rfl) ?_); k_dflt (repeat (first | (with_reducible refine compT_held ?_) | walk1 | (dsimp only; walk1))))
  k_with "exec Assign cons ListComp" => (k_here; lct_look; k_dflt (refine LCt.Assign_ListComp_T (F₀ := by k_asm) (by rfl) (by with_unfolding_all rfl) (by with_unfolding_all rfl) (by decide) (by rfl) (by decide) (by rfl) (by rfl) (by rfl) ?_); k_dflt (repeat (first | (with_reducible refine compT_held ?_) | walk1 | (dsimp only; walk1))))
  k_with "compareOp Eq ref ref" => (k_here; k_dflt (first | (refine' led_eq_ints ?k1 ?k2 ?k3 ?k4 ?k5 ?k6 ?_; (case k1 => k_asm); (case k2 => k_mem); (case k3 => with_reducible assumption); (case k4 => k_mem); (case k5 => first | exact .nil | with_reducible assumption); (case k6 => ktr_units); k_whole) | (refine' led_eq_strs ?k1 ?k2 ?k3 ?k4 ?k5 ?o1 ?o2 ?k6 ?_; (case k1 => k_asm); (case k2 => k_mem); (case k3 => with_reducible assumption); (case k4 => k_mem); (case k5 => first | exact .nil | with_reducible assumption); (case k6 => ktr_units); (case o1 => k_extra "ok"); (case o2 => first | nofun | k_extra "ok"); k_whole)))
  k_with "compareOp NotEq ref ref" => (k_here; k_dflt (first | (refine' led_ne_ints ?k1 ?k2 ?k3 ?k4 ?k5 ?k6 ?_; (case k1 => k_asm); (case k2 => k_mem); (case k3 => with_reducible assumption); (case k4 => k_mem); (case k5 => first | exact .nil | with_reducible assumption); (case k6 => ktr_units); k_whole) | (refine' led_ne_strs ?k1 ?k2 ?k3 ?k4 ?k5 ?o1 ?o2 ?k6 ?_; (case k1 => k_asm); (case k2 => k_mem); (case k3 => with_reducible assumption); (case k4 => k_mem); (case k5 => first | exact .nil | with_reducible assumption); (case k6 => ktr_units); (case o1 => k_extra "ok"); (case o2 => first | nofun | k_extra "ok"); k_whole)))
  k_with "subscriptTail" => (k_here; (with_reducible show wpAny _ _ (subscriptTail _ _ (Value.ref _) (Value.int (-1) _)) _ _ _); k_dflt (refine' led_neg ?k1 ?k2 ?k3 ?k4 ?_ ?k7; (case k1 => k_asm); (case k2 => k_mem); (case k3 => with_reducible assumption); (case k4 => first | with_reducible assumption | exact of_decide_eq_false (by with_reducible assumption) | k_extra "nonil"); (case k7 => with_unfolding_all rfl); k_whole; intro _ _))
  k_with "subscriptTail Name Slice ref ref" => (k_here; k_dflt (first | (refine' upto_ints ?F ?N ?m ?i ?h0 ?z ?_ ?s ?t; (case F => k_asm); (case N => k_asm); (case m => k_mem); (case i => with_reducible assumption); (case h0 => first | omega | k_extra "pos"); (case z => walk_at "om"); (case s => with_unfolding_all rfl); (case t => kmk_pure); k_whole) | (refine' from_ints ?F ?N ?m ?i ?h0 ?z ?_ ?s ?t; (case F => k_asm); (case N => k_asm); (case m => k_mem); (case i => with_reducible assumption); (case h0 => first | omega | k_extra "pos"); (case z => walk_at "om"); (case s => with_unfolding_all rfl); (case t => kmk_pure); k_whole) | (refine' run_ints ?F ?N ?m ?i ?h0 ?h1 ?z ?_ ?s ?t; (case F => k_asm); (case N => k_asm); (case m => k_mem); (case i => with_reducible assumption); (case h0 => first | omega | k_extra "pos"); (case h1 => first | omega | k_extra "pos"); (case z => walk_at "om"); (case s => with_unfolding_all rfl); (case t => kmk_pure); k_whole) | (refine' all_ints ?F ?N ?m ?i  ?z ?_ ?s ?t; (case F => k_asm); (case N => k_asm); (case m => k_mem); (case i => with_reducible assumption); (case z => walk_at "om"); (case s => with_unfolding_all rfl); (case t => kmk_pure); k_whole) | (refine' upto_strs ?F ?N ?m ?i ?h0 ?z ?_ ?s ?t; (case F => k_asm); (case N => k_asm); (case m => k_mem); (case i => with_reducible assumption); (case h0 => first | omega | k_extra "pos"); (case z => walk_at "om"); (case s => with_unfolding_all rfl); (case t => kmk_pure); k_whole) | (refine' from_strs ?F ?N ?m ?i ?h0 ?z ?_ ?s ?t; (case F => k_asm); (case N => k_asm); (case m => k_mem); (case i => with_reducible assumption); (case h0 => first | omega | k_extra "pos"); (case z => walk_at "om"); (case s => with_unfolding_all rfl); (case t => kmk_pure); k_whole) | (refine' run_strs ?F ?N ?m ?i ?h0 ?h1 ?z ?_ ?s ?t; (case F => k_asm); (case N => k_asm); (case m => k_mem); (case i => with_reducible assumption); (case h0 => first | omega | k_extra "pos"); (case h1 => first | omega | k_extra "pos"); (case z => walk_at "om"); (case s => with_unfolding_all rfl); (case t => kmk_pure); k_whole) | (refine' all_strs ?F ?N ?m ?i  ?z ?_ ?s ?t; (case F => k_asm); (case N => k_asm); (case m => k_mem); (case i => with_reducible assumption); (case z => walk_at "om"); (case s => with_unfolding_all rfl); (case t => kmk_pure); k_whole)); walk_at "tl3")
  k_with "subscriptTail Attribute Slice ref ref" => (k_here; k_dflt (first | (refine' upto_ints ?F ?N ?m ?i ?h0 ?z ?_ ?s ?t; (case F => k_asm); (case N => k_asm); (case m => k_mem); (case i => with_reducible assumption); (case h0 => first | omega | k_extra "pos"); (case z => walk_at "om"); (case s => with_unfolding_all rfl); (case t => kmk_pure); k_whole) | (refine' from_ints ?F ?N ?m ?i ?h0 ?z ?_ ?s ?t; (case F => k_asm); (case N => k_asm); (case m => k_mem); (case i => with_reducible assumption); (case h0 => first | omega | k_extra "pos"); (case z => walk_at "om"); (case s => with_unfolding_all rfl); (case t => kmk_pure); k_whole) | (refine' run_ints ?F ?N ?m ?i ?h0 ?h1 ?z ?_ ?s ?t; (case F => k_asm); (case N => k_asm); (case m => k_mem); (case i => with_reducible assumption); (case h0 => first | omega | k_extra "pos"); (case h1 => first | omega | k_extra "pos"); (case z => walk_at "om"); (case s => with_unfolding_all rfl); (case t => kmk_pure); k_whole) | (refine' all_ints ?F ?N ?m ?i  ?z ?_ ?s ?t; (case F => k_asm); (case N => k_asm); (case m => k_mem); (case i => with_reducible assumption); (case z => walk_at "om"); (case s => with_unfolding_all rfl); (case t => kmk_pure); k_whole) | (refine' upto_strs ?F ?N ?m ?i ?h0 ?z ?_ ?s ?t; (case F => k_asm); (case N => k_asm); (case m => k_mem); (case i => with_reducible assumption); (case h0 => first | omega | k_extra "pos"); (case z => walk_at "om"); (case s => with_unfolding_all rfl); (case t => kmk_pure); k_whole) | (refine' from_strs ?F ?N ?m ?i ?h0 ?z ?_ ?s ?t; (case F => k_asm); (case N => k_asm); (case m => k_mem); (case i => with_reducible assumption); (case h0 => first | omega | k_extra "pos"); (case z => walk_at "om"); (case s => with_unfolding_all rfl); (case t => kmk_pure); k_whole) | (refine' run_strs ?F ?N ?m ?i ?h0 ?h1 ?z ?_ ?s ?t; (case F => k_asm); (case N => k_asm); (case m => k_mem); (case i => with_reducible assumption); (case h0 => first | omega | k_extra "pos"); (case h1 => first | omega | k_extra "pos"); (case z => walk_at "om"); (case s => with_unfolding_all rfl); (case t => kmk_pure); k_whole) | (refine' all_strs ?F ?N ?m ?i  ?z ?_ ?s ?t; (case F => k_asm); (case N => k_asm); (case m => k_mem); (case i => with_reducible assumption); (case z => walk_at "om"); (case s => with_unfolding_all rfl); (case t => kmk_pure); k_whole)); walk_at "tl3")
  k_with "subscriptTail Name UnaryOp ref int" => (k_here; (with_reducible show wpAny _ _ (subscriptTail _ _ (Value.ref _) (Value.int (-1) _)) _ _ _); k_dflt (refine' led_neg ?k1 ?k2 ?k3 ?k4 ?_ ?k7; (case k1 => k_asm); (case k2 => k_mem); (case k3 => with_reducible assumption); (case k4 => first | with_reducible assumption | exact of_decide_eq_false (by with_reducible assumption) | k_extra "nonil"); (case k7 => with_unfolding_all rfl); k_whole; intro _ _))
  k_with "call ref" => (k_here; (with_reducible show wpAny _ _ (call (Value.ref 523) _) _ _ _); k_dflt (refine' specials_c ?B ?F ?X ?N ?T ?hk ?hd ?hu ?_; (case B => k_asm); (case F => k_asm); (case X => k_asm); (case N => k_asm); (case T => k_asm); (case hk => first | exact rfl | assumption); (case hd => ktr_room); (case hu => first | ktr_units | exact Nat.le_of_ble_eq_true rfl); k_whole); intro _ _ _ _ _ _ _ _ _)
  k_with "call ref" => (k_here; (with_reducible show wpAny _ _ (call (Value.ref 530) _) _ _ _); k_dflt (refine' implied9_c ?B ?F ?X ?N ?T ?hk ?hd ?hu ?_; (case B => k_asm); (case F => k_asm); (case X => k_asm); (case N => k_asm); (case T => k_asm); (case hk => first | exact rfl | assumption); (case hd => ktr_room); (case hu => first | ktr_units | exact Nat.le_of_ble_eq_true rfl); k_whole); intro _ _ _ _ _ _ _ _ _)
  k_with "binaryOp Add str str" => (k_here; k_dflt (refine' add_str ?_ ?k1; (case k1 => (rw [sizeLine_eq]; walk_at "om")); k_whole); intro _ _)
  revert X; k_fill; intro X
  refine wpAny_call ?_
  k_dflt ktr_enter
  k_with "cne" => first | with_reducible exact And.left (by assumption) | with_reducible exact And.left (And.right (by assumption)) | with_reducible exact And.left (And.right (And.right (by assumption))) | with_reducible exact And.left (And.right (And.right (And.right (by assumption)))) | with_reducible exact And.left (And.right (And.right (And.right (And.right (by assumption))))) | with_reducible exact And.left (And.right (And.right (And.right (And.right (And.right (by assumption)))))) | with_reducible exact And.left (And.right (And.right (And.right (And.right (And.right (And.right (by assumption))))))) | with_reducible exact And.left (And.right (And.right (And.right (And.right (And.right (And.right (And.right (by assumption)))))))) | with_reducible exact And.left (And.right (And.right (And.right (And.right (And.right (And.right (And.right (And.right (by assumption)))))))))
  k_with "ne" => first | walk_at "cne" | (refine Ne.symm ?_; walk_at "cne")
  rename _ = Data.cell _ => d4; revert d4; rename _ = Data.cell _ => d3; revert d3; rename _ = Data.cell _ => d2; revert d2; rename _ = Data.cell _ => d1; revert d1
  intro d1 d2 d3 d4
  have h5 : (Str.ofString "html:").length = 5 := rfl
  replace d1 : _ = Data.cell Option.none := d1
  replace d2 : _ = Data.cell Option.none := d2
  replace d3 : _ = Data.cell (some (.str name tn)) := d3
  replace d4 : _ = Data.cell (some (.ref wa)) := d4
  k_steps
  rename Fr _ _ _ _ => lF'; rename News _ _ _ _ => lN'; rename IsRange _ _ _ _ _ _ _ _ => rgX
  refine heldP_go (PyProof.Rows.LCt.CompSrcT.range (n := many) rfl lF' lN' rgX (small_one (by walk_at "om") (by walk_at "om") (by walk_at "om") (by walk_at "om")) (by rw [rangeSize_nat]; omega) (by rw [sizeLine_eq]; walk_at "om") ?_)
  intro g'
  refine rest_ints (src := upto many) (fun k => sAt words k == (Str.ofString "html:" ++ name)) ?_ ?_ ?_ (upto_len many)
  · rintro i v hi ⟨t, rfl⟩
    rw [← upto_len] at hi
    exact ⟨_, upto_get hi, t, by rw [Int.zero_add]⟩
  · intro i y t I oI C oC D ys m₂ h tk E' hy hi hC hx F1 N1 o3 ne
    obtain ⟨b1, b2⟩ := upto_mem hy
    k_steps
    · exact comp_end F1 N1 o3 trivial ⟨rfl, rfl, by assumption⟩
    · exact comp_end F1 N1 o3 trivial ⟨rfl, by assumption⟩
  · intro ys1 hys1
    replace hys1 : IntsAre ys1 (placesL words many name) := hys1
    k_steps
    rename Fr _ _ _ _ => lF'; rename News _ _ _ _ => lN'; rename IsRange _ _ _ _ _ _ _ _ => rgX
    refine heldP_go (PyProof.Rows.LCt.CompSrcT.range (n := many) rfl lF' lN' rgX (small_one (by walk_at "om") (by walk_at "om") (by walk_at "om") (by walk_at "om")) (by rw [rangeSize_nat]; omega) (by rw [sizeLine_eq]; walk_at "om") ?_)
    intro g'
    refine rest_ints (src := upto many) (fun k => specials9L.any (· == sAt words k)) ?_ ?_ ?_ (upto_len many)
    · rintro i v hi ⟨t, rfl⟩
      rw [← upto_len] at hi
      exact ⟨_, upto_get hi, t, by rw [Int.zero_add]⟩
    · intro i y t I oI C oC D ys m₂ h tk E' hy hi hC hx F1 N1 o3 ne
      obtain ⟨b1, b2⟩ := upto_mem hy
      k_steps
      · exact comp_end F1 N1 o3 trivial ⟨rfl, rfl, by assumption⟩
      · exact comp_end F1 N1 o3 trivial ⟨rfl, by assumption⟩
    · intro ys2 hys2
      replace hys2 : IntsAre ys2 (stopsL words many) := hys2
      k_with "pos" =>
        obtain ⟨z1, z2⟩ := placesL_mem (by with_reducible assumption : last9 (placesL words many name) ∈ _)
        omega
      k_steps
      · rename Fr h₀ L _ _ => kF; rename News h₀ L _ _ => kN; rename decide (stopsL _ _ = []) = true => c1
        have w1 : other9 words many name = ((many : Int), []) := by unfold other9; rw [if_pos (of_decide_eq_true c1)]
        rw [w1] at k
        exact k _ _ _ [] _ _ _ kF (fun p hp => kN p (sub_two (by k_mem) (by k_mem) (by intro p hp; repeat (first | exact hp | refine List.mem_cons_of_mem _ ?_)) p hp)) .nil
      · rename Fr h₀ L _ _ => kF; rename News h₀ L _ _ => kN; rename decide (stopsL _ _ = []) = false => c1; rename decide (placesL _ _ _ = []) = true => c2
        have w1 : other9 words many name = ((many : Int), [Str.ofString "unexpected-end-tag"]) := by unfold other9; rw [if_neg (of_decide_eq_false c1), if_pos (.inl (of_decide_eq_true c2))]
        rw [w1] at k
        exact k _ _ _ [_] _ _ _ kF (fun p hp => kN p (sub_two (by k_mem) (by k_mem) (by intro p hp; repeat (first | exact hp | refine List.mem_cons_of_mem _ ?_)) p hp)) (.cons _ _ .nil)
      · rename Fr h₀ L _ _ => kF; rename News h₀ L _ _ => kN; rename decide (stopsL _ _ = []) = false => c1; rename last9 _ < last9 _ => c2
        have w1 : other9 words many name = ((many : Int), [Str.ofString "unexpected-end-tag"]) := by unfold other9; rw [if_neg (of_decide_eq_false c1), if_pos (.inr c2)]
        rw [w1] at k
        exact k _ _ _ [_] _ _ _ kF (fun p hp => kN p (sub_two (by k_mem) (by k_mem) (by intro p hp; repeat (first | exact hp | refine List.mem_cons_of_mem _ ?_)) p hp)) (.cons _ _ .nil)
      · rename decide (stopsL _ _ = []) = false => c1; rename decide (placesL _ _ _ = []) = false => c2; rename ¬ last9 _ < last9 _ => c3
        have w1 : other9 words many name = (last9 (placesL words many name), if solidL words many (last9 (placesL words many name)) ≠ [] then [Str.ofString "open-elements"] else []) := by unfold other9; rw [if_neg (of_decide_eq_false c1), if_neg (not_or.mpr ⟨of_decide_eq_false c2, c3⟩)]
        rw [w1] at k
        rename StrsAre _ _ => hA; rename Fr _ _ _ _ => lF'; rename News _ _ _ _ => lN'
        refine heldP_go (PyProof.Rows.LCt.CompSrcT.ledger rfl lF' lN' (by k_mem) (by have := StrsAre.length hA; simp only [List.length_drop, List.length_take] at this; rw [sizeLine_eq, List.size_toArray]; walk_at "om") ?_)
        intro g'
        refine rest_strs (src := (words.take many).drop (last9 (placesL words many name) + 1).toNat) (fun x => !implied9L.any (· == x)) ?_ ?_ ?_ (by rw [List.size_toArray]; exact StrsAre.length hA)
        · exact fun i v _ hv => strs_gets hA (by simpa using hv)
        · intro i y t I oI C oC D ys m₂ h tk E' hy hi hC hx F1 N1 o3 ne
          k_steps
          · rename List.any _ _ = _ => q
            exact comp_end F1 N1 o3 (.inr ⟨_, by k_mem, rfl, _, rfl⟩) ⟨rfl, by rw [q]; rfl⟩
          · rename List.any _ _ = _ => q
            exact comp_end F1 N1 o3 (.inr ⟨_, by k_mem, rfl, _, rfl⟩) ⟨rfl, rfl, by rw [q]; rfl⟩
        · intro ys3 hys3
          replace hys3 : StrsAre ys3 (solidL words many (last9 (placesL words many name))) := hys3
          k_with "ok" =>
            exact fun x hx => hok x (List.mem_of_mem_take (List.mem_of_mem_drop (List.mem_filter.mp hx).1))
          k_steps
          · rename Fr h₀ L _ _ => kF; rename News h₀ L _ _ => kN; rename decide (solidL _ _ _ = []) = true => c4
            rw [if_neg (not_not_intro (of_decide_eq_true c4))] at k
            exact k _ _ _ [] _ _ _ kF (fun p hp => kN p (sub_two (by k_mem) (by k_mem) (by intro p hp; repeat (first | exact hp | refine List.mem_cons_of_mem _ ?_)) p hp)) .nil
          · rename Fr h₀ L _ _ => kF; rename News h₀ L _ _ => kN; rename decide (solidL _ _ _ = []) = false => c4
            rw [if_pos (of_decide_eq_false c4)] at k
            exact k _ _ _ [_] _ _ _ kF (fun p hp => kN p (sub_two (by k_mem) (by k_mem) (by intro p hp; repeat (first | exact hp | refine List.mem_cons_of_mem _ ?_)) p hp)) (.cons _ _ .nil)
end
end
section
section
variable {w : World} {mean : ExcName → Option Value} {mg mb : Str → Option Value} {dp un : Nat} {gd : Option (List Code)} {cn : Str} {cs : Scope} {a : Addr} {ccd : Value} {cl : List (Str × Addr)} {outer : List Env} {A₀ : Around} {base h₀ : Heap} {L : Addr} {m : Str → Option Value} {news : List (Addr × Obj)} {s : Shared} {Q E : Value → Shared → Prop}

set_option maxHeartbeats 8000000 in
theorem due_c {wa na aa : Addr} {wv nv av : List Value} {nw nn an : Nat} {words : List Str} {nodes active : List Int} {many : Nat} {name : Str} {tm tn : Tok}
  (B : Below A₀ base outer h₀) (F : Fr h₀ L s.heap m) (X : (K w.params).In h₀) (N : News h₀ L s.heap news) (T : TopP mean mg mb h₀) (hk : cs.kind = .function) (hd : dp + 20 < recursionLimit) (hu : un + 200 < cLine)
  (h1 : (wa, listOf wv.toArray nw) ∈ news) (g1 : StrsAre wv words) (h2 : (na, listOf nv.toArray nn) ∈ news) (g2 : IntsAre nv nodes) (h3 : (aa, listOf av.toArray an) ∈ news) (g3 : IntsAre av active)
  (hz : words.length ≤ 100) (hz2 : nodes.length = words.length) (hz3 : active.length ≤ 100) (hm : many ≤ words.length) (hn : name.length ≤ 100)
  (hok : ∀ x ∈ words, PyData.strOk x = true) (hact : ∀ x ∈ active, x = -1 ∨ x ∈ nodes)
  (k : ∀ r t1 t2 ka la kv lv e1 e2 h' tk', Fr h₀ L h' m → News h₀ L h' ((r, tupO [.int (due9 words nodes many active name).1 t1, .int (due9 words nodes many active name).2.1 t2, .ref ka, .ref la]) :: (ka, listOf (List.toArray kv) e1) :: (la, listOf (List.toArray lv) e2) :: news) →
    IntsAre kv (due9 words nodes many active name).2.2.1 → StrsAre lv (due9 words nodes many active name).2.2.2 → Q (.ref r) { s with heap := h', toks := tk' }) :
  wpAny (model PySem.Challenge.rw_pb0145_01.row.prog w) (ktrTop dp un gd cn cs L a ccd cl outer) (call (.ref 540) [.ref wa, .ref na, .int many tm, .ref aa, .str name tn]) Q E s := by
  k_with_none
  k_with "om" => first | assumption | exact Nat.le_trans (by assumption) (Nat.le_of_ble_eq_true rfl) | exact Nat.lt_of_le_of_lt (by assumption) (Nat.le_of_ble_eq_true rfl) | decide | omega
  k_with "k_get" => (first | k_extra "getd" | with_reducible assumption | with_reducible_and_instances exact Dct.get (by assumption) (by k_mem) | exact Dct.get (by assumption) (by k_mem))
  k_with "k_upd" => first | assumption | k_extra "upd" | (refine' Upd.head ?a; (case a => k_all)) | (refine' Upd.tail ?a ?b; (case a => k_ne); (case b => k_upd))
  k_with "exec While" => refine held_of ?_
  k_with "call builtin:len" => (k_here; (with_reducible show wpAny _ _ (call (Value.builtin "len") [Value.ref _]) _ _ _); k_dflt (refine' led_len ?k1 ?k2 ?k3 ?k4 ?_; (case k1 => k_asm); (case k2 => k_mem); (case k3 => first | exact IntsAre.length (by assumption) | exact PyProof.Rows.StrsAre.length (by assumption) | assumption); (case k4 => walk_at "om"); k_whole); intro _ _)
  k_with "subs9" => (k_here; (with_reducible show wpAny _ _ (subscriptTail _ _ (Value.ref _) (Value.int _ _)) _ _ _); k_dflt (first | (refine' led_int ?k1 ?k2 ?k3 ?k4 ?k5 ?k6 ?_ ?k7; (case k1 => k_asm); (case k2 => k_mem); (case k3 => assumption); (case k4 => first | omega | k_extra "bnd"); (case k5 => first | omega | k_extra "bnd"); (case k6 => omega); (case k7 => with_unfolding_all rfl); k_whole; intro _ _; (try k_extra "fact")) | (refine' led_str ?k1 ?k2 ?k3 ?k4 ?k5 ?k6 ?_ ?k7; (case k1 => k_asm); (case k2 => k_mem); (case k3 => assumption); (case k4 => first | omega | k_extra "bnd"); (case k5 => first | omega | k_extra "bnd"); (case k6 => omega); (case k7 => with_unfolding_all rfl); k_whole; intro _)))
  k_with "subscriptTail" => walk_at "subs9"
  k_with "subscriptTail Name Name ref int" => walk_at "subs9"
  k_with "subscriptTail Attribute Name ref int" => walk_at "subs9"
  k_with "compareOp In int ref" => (k_here; k_dflt (refine' led_in ?k1 ?k2 ?k3 ?_; (case k1 => k_asm); (case k2 => k_mem); (case k3 => assumption); k_whole))
  k_with "compareOp NotIn int ref" => (k_here; k_dflt (refine' led_notin ?k1 ?k2 ?k3 ?_; (case k1 => k_asm); (case k2 => k_mem); (case k3 => assumption); k_whole))
  k_with "compareOp In str ref" => (k_here; k_dflt (first | (refine' led_in_str ?k1 ?k2 ?k3 ?_; (case k1 => k_asm); (case k2 => walk_at "memR"); (case k3 => with_reducible assumption); k_whole) | (refine' led_in_tup ?k1 ?k2 ?k3 ?_; (case k1 => k_asm); (case k2 => walk_at "memR"); (case k3 => with_reducible assumption); k_whole) | (refine' led_in_tup ?k1 ?k2 ?k3 ?_; (case k1 => k_asm); (case k2 => k_mem); (case k3 => with_reducible assumption); k_whole) | (refine' led_in_str ?k1 ?k2 ?k3 ?_; (case k1 => k_asm); (case k2 => k_mem); (case k3 => with_reducible assumption); k_whole)))
  k_with "compareOp NotIn str ref" => (k_here; k_dflt (first | (refine' led_notin_str ?k1 ?k2 ?k3 ?_; (case k1 => k_asm); (case k2 => walk_at "memR"); (case k3 => with_reducible assumption); k_whole) | (refine' led_notin_tup ?k1 ?k2 ?k3 ?_; (case k1 => k_asm); (case k2 => walk_at "memR"); (case k3 => with_reducible assumption); k_whole) | (refine' led_notin_tup ?k1 ?k2 ?k3 ?_; (case k1 => k_asm); (case k2 => k_mem); (case k3 => with_reducible assumption); k_whole) | (refine' led_notin_str ?k1 ?k2 ?k3 ?_; (case k1 => k_asm); (case k2 => k_mem); (case k3 => with_reducible assumption); k_whole)))
  k_with "eval Tuple" => (k_here; k_dflt (refine' tup_lit ?k1 ?k2 ?k3 ?k4 ?_; (case k1 => exact rfl); (case k2 => exact Nat.le_of_ble_eq_true rfl); (case k3 => k_asm); (case k4 => k_asm); k_whole); intro _ _ _ _ _ _ _ _)
  k_with "call builtin:list.index" => (k_here; (with_reducible show wpAny _ _ (call (Value.builtin _) [Value.ref _, Value.int _ _]) _ _ _); k_dflt (refine' led_index ?k1 ?k2 ?k3 ?k4 ?k5 ?_; (case k1 => k_asm); (case k2 => k_mem); (case k3 => assumption); (case k4 => assumption); (case k5 => omega); k_whole))
  k_with "pyIter ref" => refine held_of ?_
  k_with "InvEndN" => k_extra "InvEndN"
  k_with "k_steps" => repeat' (first | (k_unfold; (try dsimp only)) | (k_end; fail_if_success skip) | walk1 | (dsimp only; walk1) | fail "no step")
  k_with "kst_same" => (intro z h1 h2 h3; (try simp only [List.contains_cons, List.contains_nil, Bool.or_false, Bool.or_eq_false_iff, beq_eq_false_iff_ne, ne_eq] at h3); (simp [h1, h3, kstB]; done))
  k_with "ktr_enter" => first | (refine' code_def ?k1 ?k2 ?k3 ?k4 ?k5 ?kA ?kF ?kK ?k6 ?k7 ?k8 ?k9 ?kB ?_ ?c2 ?c3 ?c4 ?c5; (case kA => exact rfl); (case kF => exact rfl); (case kK => assumption); (case k1 => k_asm); (case k2 => k_asm); (case k3 => k_asm); (case k4 => k_asm); (case k5 => k_asm); (case k6 => k_is); (case k7 => k_is); (case k8 => ktr_room); (case k9 => first | exact BindsTo.of_eq rfl | exact binds_K (by k_in) rfl (by k_is) rfl rfl rfl); (case c5 => decide); (case kB => exact locs rfl); (case c2 => exact rfl); (case c3 => exact rfl); (case c4 => exact rfl); k_whole; walk_at "tl1") | (refine' code_defC ?k1 ?k2 ?k3 ?k4 ?k5 ?kA ?kF ?kK ?k6 ?k7 ?k8 ?k9 ?kB ?kD ?_ ?c2 ?c3 ?c4; (case kA => exact rfl); (case kF => exact rfl); (case kK => assumption); (case k1 => k_asm); (case k2 => k_asm); (case k3 => k_asm); (case k4 => k_asm); (case k5 => k_asm); (case k6 => k_is); (case k7 => k_is); (case k8 => ktr_room); (case k9 => first | exact BindsTo.of_eq rfl | exact binds_K (by k_in) rfl (by k_is) rfl rfl rfl); (case kB => exact rfl); (case kD => decide +kernel); (case c2 => exact rfl); (case c3 => exact rfl); (case c4 => exact rfl); k_whole; walk_at "tl2")
  k_with "eval ListComp" => (k_here; lct_look; k_dflt (refine LCt.ListComp_T (F₀ := by k_asm) (by with_unfolding_all rfl) (by decide) (by rfl) (by decide) (by rfl) ?_); k_dflt (repeat (first | (with_reducible refine compT_held ?_) | walk1 | (dsimp only; walk1))))
  k_with "exec Assign cons ListComp" => (k_here; lct_look; k_dflt (refine LCt.Assign_ListComp_T (F₀ := by k_asm) (by rfl) (by with_unfolding_all rfl) (by with_unfolding_all rfl) (by decide) (by rfl) (by decide) (by rfl) (by rfl) (by rfl) ?_); k_dflt (repeat (first | (with_reducible refine compT_held ?_) | walk1 | (dsimp only; walk1))))
  k_with "compareOp Eq ref ref" => (k_here; k_dflt (first | (refine' led_eq_ints ?k1 ?k2 ?k3 ?k4 ?k5 ?k6 ?_; (case k1 => k_asm); (case k2 => k_mem); (case k3 => with_reducible assumption); (case k4 => k_mem); (case k5 => first | exact .nil | with_reducible assumption); (case k6 => ktr_units); k_whole) | (refine' led_eq_strs ?k1 ?k2 ?k3 ?k4 ?k5 ?o1 ?o2 ?k6 ?_; (case k1 => k_asm); (case k2 => k_mem); (case k3 => with_reducible assumption); (case k4 => k_mem); (case k5 => first | exact .nil | with_reducible assumption); (case k6 => ktr_units); (case o1 => k_extra "ok"); (case o2 => first | nofun | k_extra "ok"); k_whole)))
  k_with "compareOp NotEq ref ref" => (k_here; k_dflt (first | (refine' led_ne_ints ?k1 ?k2 ?k3 ?k4 ?k5 ?k6 ?_; (case k1 => k_asm); (case k2 => k_mem); (case k3 => with_reducible assumption); (case k4 => k_mem); (case k5 => first | exact .nil | with_reducible assumption); (case k6 => ktr_units); k_whole) | (refine' led_ne_strs ?k1 ?k2 ?k3 ?k4 ?k5 ?o1 ?o2 ?k6 ?_; (case k1 => k_asm); (case k2 => k_mem); (case k3 => with_reducible assumption); (case k4 => k_mem); (case k5 => first | exact .nil | with_reducible assumption); (case k6 => ktr_units); (case o1 => k_extra "ok"); (case o2 => first | nofun | k_extra "ok"); k_whole)))
  k_with "subscriptTail" => (k_here; (with_reducible show wpAny _ _ (subscriptTail _ _ (Value.ref _) (Value.int (-1) _)) _ _ _); k_dflt (refine' led_neg ?k1 ?k2 ?k3 ?k4 ?_ ?k7; (case k1 => k_asm); (case k2 => k_mem); (case k3 => with_reducible assumption); (case k4 => first | with_reducible assumption | exact of_decide_eq_false (by with_reducible assumption) | k_extra "nonil"); (case k7 => with_unfolding_all rfl); k_whole; intro _ _))
  k_with "subscriptTail Name Slice ref ref" => (k_here; k_dflt (first | (refine' upto_ints ?F ?N ?m ?i ?h0 ?z ?_ ?s ?t; (case F => k_asm); (case N => k_asm); (case m => k_mem); (case i => with_reducible assumption); (case h0 => first | omega | k_extra "pos"); (case z => walk_at "om"); (case s => with_unfolding_all rfl); (case t => kmk_pure); k_whole) | (refine' from_ints ?F ?N ?m ?i ?h0 ?z ?_ ?s ?t; (case F => k_asm); (case N => k_asm); (case m => k_mem); (case i => with_reducible assumption); (case h0 => first | omega | k_extra "pos"); (case z => walk_at "om"); (case s => with_unfolding_all rfl); (case t => kmk_pure); k_whole) | (refine' run_ints ?F ?N ?m ?i ?h0 ?h1 ?z ?_ ?s ?t; (case F => k_asm); (case N => k_asm); (case m => k_mem); (case i => with_reducible assumption); (case h0 => first | omega | k_extra "pos"); (case h1 => first | omega | k_extra "pos"); (case z => walk_at "om"); (case s => with_unfolding_all rfl); (case t => kmk_pure); k_whole) | (refine' all_ints ?F ?N ?m ?i  ?z ?_ ?s ?t; (case F => k_asm); (case N => k_asm); (case m => k_mem); (case i => with_reducible assumption); (case z => walk_at "om"); (case s => with_unfolding_all rfl); (case t => kmk_pure); k_whole) | (refine' upto_strs ?F ?N ?m ?i ?h0 ?z ?_ ?s ?t; (case F => k_asm); (case N => k_asm); (case m => k_mem); (case i => with_reducible assumption); (case h0 => first | omega | k_extra "pos"); (case z => walk_at "om"); (case s => with_unfolding_all rfl); (case t => kmk_pure); k_whole) | (refine' from_strs ?F ?N ?m ?i ?h0 ?z ?_ ?s ?t; (case F => k_asm); (case N => k_asm); (case m => k_mem); (case i => with_reducible assumption); (case h0 => first | omega | k_extra "pos"); (case z => walk_at "om"); (case s => with_unfolding_all rfl); (case t => kmk_pure); k_whole) | (refine' run_strs ?F ?N ?m ?i ?h0 ?h1 ?z ?_ ?s ?t; (case F => k_asm); (case N => k_asm); (case m => k_mem); (case i => with_reducible assumption); (case h0 => first | omega | k_extra "pos"); (case h1 => first | omega | k_extra "pos"); (case z => walk_at "om"); (case s => with_unfolding_all rfl); (case t => kmk_pure); k_whole) | (refine' all_strs ?F ?N ?m ?i  ?z ?_ ?s ?t; (case F => k_asm); (case N => k_asm); (case m => k_mem); (case i => with_reducible assumption); (case z => walk_at "om"); (case s => with_unfolding_all rfl); (case t => kmk_pure); k_whole)); walk_at "tl3")
  k_with "subscriptTail Attribute Slice ref ref" => (k_here; k_dflt (first | (refine' upto_ints ?F ?N ?m ?i ?h0 ?z ?_ ?s ?t; (case F => k_asm); (case N => k_asm); (case m => k_mem); (case i => with_reducible assumption); (case h0 => first | omega | k_extra "pos"); (case z => walk_at "om"); (case s => with_unfolding_all rfl); (case t => kmk_pure); k_whole) | (refine' from_ints ?F ?N ?m ?i ?h0 ?z ?_ ?s ?t; (case F => k_asm); (case N => k_asm); (case m => k_mem); (case i => with_reducible assumption); (case h0 => first | omega | k_extra "pos"); (case z => walk_at "om"); (case s => with_unfolding_all rfl); (case t => kmk_pure); k_whole) | (refine' run_ints ?F ?N ?m ?i ?h0 ?h1 ?z ?_ ?s ?t; (case F => k_asm); (case N => k_asm); (case m => k_mem); (case i => with_reducible assumption); (case h0 => first | omega | k_extra "pos"); (case h1 => first | omega | k_extra "pos"); (case z => walk_at "om"); (case s => with_unfolding_all rfl); (case t => kmk_pure); k_whole) | (refine' all_ints ?F ?N ?m ?i  ?z ?_ ?s ?t; (case F => k_asm); (case N => k_asm); (case m => k_mem); (case i => with_reducible assumption); (case z => walk_at "om"); (case s => with_unfolding_all rfl); (case t => kmk_pure); k_whole) | (refine' upto_strs ?F ?N ?m ?i ?h0 ?z ?_ ?s ?t; (case F => k_asm); (case N => k_asm); (case m => k_mem); (case i => with_reducible assumption); (case h0 => first | omega | k_extra "pos"); (case z => walk_at "om"); (case s => with_unfolding_all rfl); (case t => kmk_pure); k_whole) | (refine' from_strs ?F ?N ?m ?i ?h0 ?z ?_ ?s ?t; (case F => k_asm); (case N => k_asm); (case m => k_mem); (case i => with_reducible assumption); (case h0 => first | omega | k_extra "pos"); (case z => walk_at "om"); (case s => with_unfolding_all rfl); (case t => kmk_pure); k_whole) | (refine' run_strs ?F ?N ?m ?i ?h0 ?h1 ?z ?_ ?s ?t; (case F => k_asm); (case N => k_asm); (case m => k_mem); (case i => with_reducible assumption); (case h0 => first | omega | k_extra "pos"); (case h1 => first | omega | k_extra "pos"); (case z => walk_at "om"); (case s => with_unfolding_all rfl); (case t => kmk_pure); k_whole) | (refine' all_strs ?F ?N ?m ?i  ?z ?_ ?s ?t; (case F => k_asm); (case N => k_asm); (case m => k_mem); (case i => with_reducible assumption); (case z => walk_at "om"); (case s => with_unfolding_all rfl); (case t => kmk_pure); k_whole)); walk_at "tl3")
  k_with "subscriptTail Name UnaryOp ref int" => (k_here; (with_reducible show wpAny _ _ (subscriptTail _ _ (Value.ref _) (Value.int (-1) _)) _ _ _); k_dflt (refine' led_neg ?k1 ?k2 ?k3 ?k4 ?_ ?k7; (case k1 => k_asm); (case k2 => k_mem); (case k3 => with_reducible assumption); (case k4 => first | with_reducible assumption | exact of_decide_eq_false (by with_reducible assumption) | k_extra "nonil"); (case k7 => with_unfolding_all rfl); k_whole; intro _ _))
  k_with "call ref" => (k_here; (with_reducible show wpAny _ _ (call (Value.ref 516) _) _ _ _); k_dflt (refine' enders_c ?B ?F ?X ?N ?T ?hk ?hd ?hu ?_; (case B => k_asm); (case F => k_asm); (case X => k_asm); (case N => k_asm); (case T => k_asm); (case hk => first | exact rfl | assumption); (case hd => ktr_room); (case hu => first | ktr_units | exact Nat.le_of_ble_eq_true rfl); k_whole); intro _ _ _ _ _ _ _ _ _)
  k_with "call ref" => (k_here; (with_reducible show wpAny _ _ (call (Value.ref 535) _) _ _ _); k_dflt (refine' other9_c ?B ?F ?X ?N ?T ?hk ?hd ?hu ?h1 ?g1 ?hz ?hm ?hn ?hok ?_; (case B => k_asm); (case F => k_asm); (case X => k_asm); (case N => k_asm); (case T => k_asm); (case hk => first | exact rfl | assumption); (case hd => ktr_room); (case hu => first | ktr_units | exact Nat.le_of_ble_eq_true rfl); (case h1 => k_mem); (case g1 => with_reducible assumption); (case hz => omega); (case hm => omega); (case hn => omega); (case hok => assumption); k_whole); intro _ _ _ _ _ _ _ _ _ _)
  k_with "binaryOp Add str str" => (k_here; k_dflt (refine' add_str ?_ ?k1; (case k1 => (rw [sizeLine_eq]; walk_at "om")); k_whole); intro _ _)
  k_with "eval IfExp" => (rename heldP True => mk9; clear mk9; refine held_of ?_)
  k_with "call builtin:list.index" => (k_here; (with_reducible show wpAny _ _ (call (Value.builtin _) [Value.ref _, Value.int _ _]) _ _ _); k_dflt (refine' led_index ?k1 ?k2 ?k3 ?k4 ?k5 ?_; (case k1 => k_asm); (case k2 => k_mem); (case k3 => with_reducible assumption); (case k4 => first | with_reducible assumption | exact List.mem_of_mem_take (by assumption)); (case k5 => omega); k_whole))
  revert X; k_fill; intro X
  refine wpAny_call ?_
  k_dflt ktr_enter
  k_with "cne" => first | with_reducible exact And.left (by assumption) | with_reducible exact And.left (And.right (by assumption)) | with_reducible exact And.left (And.right (And.right (by assumption))) | with_reducible exact And.left (And.right (And.right (And.right (by assumption)))) | with_reducible exact And.left (And.right (And.right (And.right (And.right (by assumption))))) | with_reducible exact And.left (And.right (And.right (And.right (And.right (And.right (by assumption)))))) | with_reducible exact And.left (And.right (And.right (And.right (And.right (And.right (And.right (by assumption))))))) | with_reducible exact And.left (And.right (And.right (And.right (And.right (And.right (And.right (And.right (by assumption)))))))) | with_reducible exact And.left (And.right (And.right (And.right (And.right (And.right (And.right (And.right (And.right (by assumption)))))))))
  k_with "ne" => first | walk_at "cne" | (refine Ne.symm ?_; walk_at "cne")
  rename _ = Data.cell _ => d6; revert d6; rename _ = Data.cell _ => d5; revert d5; rename _ = Data.cell _ => d4; revert d4; rename _ = Data.cell _ => d3; revert d3; rename _ = Data.cell _ => d2; revert d2; rename _ = Data.cell _ => d1; revert d1
  intro d1 d2 d3 d4 d5 d6
  have h5 : (Str.ofString "html:").length = 5 := rfl
  replace d1 : _ = Data.cell Option.none := d1
  replace d2 : _ = Data.cell Option.none := d2
  replace d3 : _ = Data.cell (some (.str name tn)) := d3
  replace d4 : _ = Data.cell (some (.ref aa)) := d4
  replace d5 : _ = Data.cell (some (.ref na)) := d5
  replace d6 : _ = Data.cell (some (.ref wa)) := d6
  k_steps
  rename Fr _ _ _ _ => lF'; rename News _ _ _ _ => lN'; rename IsRange _ _ _ _ _ _ _ _ => rgX
  refine heldP_go (PyProof.Rows.LCt.CompSrcT.range (n := active.length) rfl lF' lN' rgX (small_one (by walk_at "om") (by walk_at "om") (by walk_at "om") (by walk_at "om")) (by rw [rangeSize_nat]; omega) (by rw [sizeLine_eq]; walk_at "om") ?_)
  intro g'
  refine rest_ints (src := upto active.length) (fun k => iAt active k == -1) ?_ ?_ ?_ (upto_len active.length)
  · rintro i v hi ⟨t, rfl⟩
    rw [← upto_len] at hi
    exact ⟨_, upto_get hi, t, by rw [Int.zero_add]⟩
  · intro i y t I oI C oC D ys m₂ h tk E' hy hi hC hx F1 N1 o3 ne
    obtain ⟨b1, b2⟩ := upto_mem hy
    k_steps
    · exact comp_end F1 N1 o3 trivial ⟨rfl, rfl, beq_iff_eq.mpr (by assumption)⟩
    · exact comp_end F1 N1 o3 trivial ⟨rfl, beq_false_of_ne (by assumption)⟩
  · intro ys1 hys1
    replace hys1 : IntsAre ys1 (marksL active) := hys1
    k_with "pos" =>
      first
      | (have z1 := (marksL_mem (by with_reducible assumption : last9 (marksL active) ∈ _)).1; omega)
      | omega
    have mk : heldP True := heldP_go trivial
    k_steps
    rename Fr _ _ _ _ => lF'; rename News _ _ _ _ => lN'
    refine held_go (mono_list (behindL active) lF' lN' ?_ ?_)
    · k_steps
      · rename decide (marksL active = []) = true => c1
        exact ⟨aa, av, an, _, _, rfl, rfl, by unfold behindL; rw [if_neg (not_not_intro (of_decide_eq_true c1))]; exact g3, by k_asm, fun p hp => (by k_asm : News _ _ _ _) p (by rcases List.mem_cons.mp hp with e | hp; (rw [e]; k_mem); (exact List.mem_cons_of_mem _ hp))⟩
      · rename decide (marksL active = []) = false => c1
        exact ⟨_, _, _, _, _, rfl, rfl, by unfold behindL; rw [if_pos (of_decide_eq_false c1)]; assumption, by k_asm, fun p hp => (by k_asm : News _ _ _ _) p (by rcases List.mem_cons.mp hp with e | hp; (rw [e]; k_mem); (exact List.mem_cons_of_mem _ (List.mem_cons_of_mem _ hp)))⟩
    · intro D0 bv nb h0' tk0' hbv F0' N0'
      obtain ⟨ne1, ne2⟩ := cell_apart N0' (by k_mem) d1
      obtain ⟨ne3, ne4⟩ := cell_apart N0' (by k_mem) d2
      k_steps
      rename Fr _ _ _ _ => lF'; rename News _ _ _ _ => lN'
      have hbl : (behindL active).length ≤ 100 := Nat.le_trans (behind_len active) hz3
      refine heldP_go (PyProof.Rows.LCt.CompSrcT.ledger rfl lF' lN' (by k_mem) (by have := hbv.length; rw [sizeLine_eq, List.size_toArray]; walk_at "om") ?_)
      intro g'
      refine rest_ints (src := behindL active) (fun x => sAt words (nodes.idxOf x : Nat) == Str.ofString "html:" ++ name) ?_ ?_ ?_ (by rw [List.size_toArray]; exact hbv.length)
      · exact fun i v _ hv => ints_gets hbv (by simpa using hv)
      · intro i y t I oI C oC D ys m₂ h tk E' hy hi hC hx F1 N1 o3 ne
        have hin : y ∈ nodes := by
          obtain ⟨q1, q2⟩ := (behind_ok (names := []) (name := name) active).1 y hy
          rcases hact y q1 with e | e
          · exact absurd e q2
          · exact e
        have hix := List.idxOf_lt_length_of_mem hin
        k_steps
        · exact comp_end F1 N1 o3 (.inr ⟨_, by k_mem, rfl, _, rfl⟩) ⟨rfl, rfl, by assumption⟩
        · exact comp_end F1 N1 o3 (.inr ⟨_, by k_mem, rfl, _, rfl⟩) ⟨rfl, by assumption⟩
      · intro ys2 hys2
        replace hys2 : IntsAre ys2 (namedL words nodes active name) := hys2
        k_steps
        · rename decide (namedL _ _ _ _ = []) = true => c1; rename Fr h₀ L _ _ => kF; rename News h₀ L _ _ => kN
          have w1 : due9 words nodes many active name = (-1, (other9 words many name).1, active, (other9 words many name).2) := by unfold due9; rw [if_pos (of_decide_eq_true c1)]
          rw [w1] at k
          exact k _ _ _ aa _ av _ an _ _ _ kF (fun p hp => kN p (sub_three (by k_mem) (by k_mem) (by k_mem) (by intro p hp; repeat (first | exact hp | refine List.mem_cons_of_mem _ ?_)) p hp)) g3 (by assumption)
        · rename decide (namedL _ _ _ _ = []) = false => c1; rename _ ∈ List.take _ nodes => c2
          replace c2 : last9 (namedL words nodes active name) ∈ nodes.take many := c2
          rename StrsAre _ (List.drop _ _) => hov
          rename StrsAre _ endersL => hen
          replace hov : StrsAre _ (overL words nodes many (last9 (namedL words nodes active name))) := hov
          rename Fr _ _ _ _ => lF'; rename News _ _ _ _ => lN'
          have hol : (overL words nodes many (last9 (namedL words nodes active name))).length ≤ 100 := by unfold overL; rw [List.length_drop, List.length_take]; omega
          refine heldP_go (PyProof.Rows.LCt.CompSrcT.ledger rfl lF' lN' (by k_mem) (by have := StrsAre.length hov; rw [sizeLine_eq, List.size_toArray]; walk_at "om") ?_)
          intro g'
          refine rest_strs (src := overL words nodes many (last9 (namedL words nodes active name))) (fun x => endersL.any (· == x)) ?_ ?_ ?_ (by rw [List.size_toArray]; exact StrsAre.length hov)
          · exact fun i v _ hv => strs_gets hov (by simpa using hv)
          · intro i y t I oI C oC D ys m₂ h tk E' hy hi hC hx F1 N1 o3 ne
            k_steps
            · exact comp_end F1 N1 o3 (.inr ⟨_, by k_mem, rfl, _, rfl⟩) ⟨rfl, rfl, by assumption⟩
            · exact comp_end F1 N1 o3 (.inr ⟨_, by k_mem, rfl, _, rfl⟩) ⟨rfl, by assumption⟩
          · intro ys3 hys3
            k_with "ok" =>
              first
              | exact fun x hx => hok x (List.mem_of_mem_take (List.mem_of_mem_drop (List.mem_filter.mp hx).1))
              | exact fun x hx => hok x (List.mem_of_mem_take (List.mem_of_mem_drop hx))
            k_steps
            all_goals first
            | (rename Fr h₀ L _ _ => kF; rename News h₀ L _ _ => kN; rename decide ((_ : List Str) = []) = false => c4; rename decide ((_ : List Str) = []) = true => c3
               have w1 : due9 words nodes many active name = (last9 (namedL words nodes active name), (many : Int), active, [Str.ofString "adoption"]) := by unfold due9; rw [if_neg (of_decide_eq_false c1), if_neg (not_not_intro c2), if_neg (not_not_intro (of_decide_eq_true c3)), if_pos (of_decide_eq_false c4)]
               rw [w1] at k
               exact k _ _ _ aa _ av [_] an _ _ _ kF (fun p hp => kN p (sub_three (by k_mem) (by k_mem) (by k_mem) (by intro p hp; repeat (first | exact hp | refine List.mem_cons_of_mem _ ?_)) p hp)) g3 (.cons _ _ .nil))
            | (rename Fr h₀ L _ _ => kF; rename News h₀ L _ _ => kN; rename decide ((_ : List Str) = []) = true => c4; revert c4; rename decide ((_ : List Str) = []) = true => c3; intro c4
               have w1 : due9 words nodes many active name = (last9 (namedL words nodes active name), (many : Int), active, []) := by unfold due9; rw [if_neg (of_decide_eq_false c1), if_neg (not_not_intro c2), if_neg (not_not_intro (of_decide_eq_true c3)), if_neg (not_not_intro (of_decide_eq_true c4))]
               rw [w1] at k
               exact k _ _ _ aa _ av [] an _ _ _ kF (fun p hp => kN p (sub_three (by k_mem) (by k_mem) (by k_mem) (by intro p hp; repeat (first | exact hp | refine List.mem_cons_of_mem _ ?_)) p hp)) g3 .nil)
            | (rename Fr h₀ L _ _ => kF; rename News h₀ L _ _ => kN; rename decide ((_ : List Str) = []) = false => c3
               have w1 : due9 words nodes many active name = (-1, (many : Int), active, [Str.ofString "adoption"]) := by unfold due9; rw [if_neg (of_decide_eq_false c1), if_neg (not_not_intro c2), if_pos (of_decide_eq_false c3)]
               rw [w1] at k
               exact k _ _ _ aa _ av [_] an _ _ _ kF (fun p hp => kN p (sub_three (by k_mem) (by k_mem) (by k_mem) (by intro p hp; repeat (first | exact hp | refine List.mem_cons_of_mem _ ?_)) p hp)) g3 (.cons _ _ .nil))
        · rename decide (namedL _ _ _ _ = []) = false => c1; rename ¬ _ ∈ List.take _ nodes => c2
          replace c2 : ¬ last9 (namedL words nodes active name) ∈ nodes.take many := c2
          rename Fr _ _ _ _ => lF'; rename News _ _ _ _ => lN'
          refine heldP_go (PyProof.Rows.LCt.CompSrcT.ledger rfl lF' lN' (show (aa, listOf av.toArray an) ∈ _ by k_mem) (by have := g3.length; rw [sizeLine_eq, List.size_toArray]; walk_at "om") ?_)
          intro g'
          refine rest_ints (src := active) (fun x => !decide (x = last9 (namedL words nodes active name))) ?_ ?_ ?_ (by rw [List.size_toArray]; exact g3.length)
          · exact fun i v _ hv => ints_gets g3 (by simpa using hv)
          · intro i y t I oI C oC D ys m₂ h tk E' hy hi hC hx F1 N1 o3 ne
            k_steps
            · exact comp_end F1 N1 o3 (.inr ⟨_, by k_mem, rfl, _, rfl⟩) ⟨rfl, rfl, by rw [decide_eq_false (by assumption)]; rfl⟩
            · exact comp_end F1 N1 o3 (.inr ⟨_, by k_mem, rfl, _, rfl⟩) ⟨rfl, by rw [decide_eq_true (by assumption)]; rfl⟩
          · intro ys3 hys3
            k_steps
            rename Fr h₀ L _ _ => kF; rename News h₀ L _ _ => kN
            have w1 : due9 words nodes many active name = (-1, (many : Int), active.filter (fun x => !decide (x = last9 (namedL words nodes active name))), [Str.ofString "adoption"]) := by unfold due9; rw [if_neg (of_decide_eq_false c1), if_pos c2]
            rw [w1] at k
            exact k _ _ _ _ _ ys3 [_] _ _ _ _ kF (fun p hp => kN p (sub_three (by k_mem) (by k_mem) (by k_mem) (by intro p hp; repeat (first | exact hp | refine List.mem_cons_of_mem _ ?_)) p hp)) hys3 (.cons _ _ .nil)
end
end
section
section
variable {w : World} {mean : ExcName → Option Value} {mg mb : Str → Option Value} {dp un : Nat} {gd : Option (List Code)} {cn : Str} {cs : Scope} {a : Addr} {ccd : Value} {cl : List (Str × Addr)} {outer : List Env} {A₀ : Around} {base h₀ : Heap} {L : Addr} {m : Str → Option Value} {news : List (Addr × Obj)} {s : Shared} {Q E : Value → Shared → Prop}

theorem note_ok {spaces names : List Str} {name : Str} {stk act : List Int} {x : Str} (h : (subjOf spaces names name stk act).2.2.2 = some x) : PyData.strOk x = true := by
  have a1 : PyData.strOk (Str.ofString "adoption") = true := by decide +kernel
  have a2 : PyData.strOk (Str.ofString "unexpected-end-tag") = true := by decide +kernel
  have a3 : PyData.strOk (Str.ofString "open-elements") = true := by decide +kernel
  have ho : ∀ o, (otherEnd spaces names name stk).2 = some o → PyData.strOk o = true := by
    intro o e
    unfold otherEnd at e
    split at e
    · cases e
    · cases e; exact a2
    · dsimp only at e
      split at e
      · cases e
      · cases e; exact a3
  unfold subjOf at h
  dsimp only at h
  split at h
  · exact ho _ h
  · split at h
    · cases h; exact a1
    · split at h
      · cases h; exact a1
      · dsimp only at h
        split at h
        · cases h
        · cases h; exact a1
theorem strs_one {vs : List Value} {x : Str} (h : StrsAre vs [x]) : ∃ t, vs = [.str x t] := by
  cases h with
  | cons _ t r => cases r; exact ⟨t, rfl⟩
set_option maxHeartbeats 8000000 in
theorem found_c {b bd st std fm fmd t td kk ss nn ta tx pp cc co wa na aa it0 fi0 er0 : Addr} {esf eff ebf : Addr → List DictEntry} {et : List DictEntry} {ne nf nb nt n1 n2 n3 n4 n5 : Nat} {s1 s2 wv nv av : List Value} {spaces names words : List Str} {nodes active : List Int} {many : Nat} {name md : Str} {tm tn tmd : Tok} {rest : List (Addr × Obj)}
  (B : Below A₀ base outer h₀) (F : Fr h₀ L s.heap m) (X : (K w.params).In h₀) (N : News h₀ L s.heap ((std, dictOf (esf it0) ne) :: (fmd, dictOf (eff fi0) nf) :: (bd, dictOf (ebf er0) nb) :: rest)) (T : TopP mean mg mb h₀) (hk : cs.kind = .function) (hd : dp + 40 < recursionLimit) (hu : un + 400 < cLine)
  (v1 : ∀ p ∈ rest, p.1 ≠ std) (v2 : ∀ p ∈ rest, p.1 ≠ fmd) (v3 : ∀ p ∈ rest, p.1 ≠ bd) (u1 : std ≠ fmd) (u2 : fmd ≠ std) (u3 : std ≠ bd) (u4 : bd ≠ std) (u5 : fmd ≠ bd) (u6 : bd ≠ fmd)
  (h1 : (st, instObj 136 std) ∈ rest) (h2 : (fm, instObj 296 fmd) ∈ rest) (h3 : (b, instObj 491 bd) ∈ rest) (h4 : (t, instObj 413 td) ∈ rest) (h5 : (td, dictOf et nt) ∈ rest) (h6 : (ss, listOf s1.toArray n1) ∈ rest) (h7 : (nn, listOf s2.toArray n2) ∈ rest)
  (h8 : (wa, listOf wv.toArray n3) ∈ rest) (h9 : (na, listOf nv.toArray n4) ∈ rest) (h10 : (aa, listOf av.toArray n5) ∈ rest)
  (g1 : StrsAre s1 spaces) (g2 : StrsAre s2 names) (g3 : StrsAre wv words) (g4 : IntsAre nv nodes) (g5 : IntsAre av active)
  (D1 : ∀ i, StD (esf i) t i) (D2 : ∀ i, FmD (eff i) t i) (D3 : ∀ i, BdD (ebf i) t st fm i md tmd) (D4 : TrD et kk ss nn ta tx pp cc co)
  (p1 : ∀ i j h k, (putL (Str.ofString "items") h k (.ref j) (esf i), putN (Str.ofString "items") (esf i) ne) = (esf j, ne)) (p2 : ∀ i j h k, (putL (Str.ofString "items") h k (.ref j) (eff i), putN (Str.ofString "items") (eff i) nf) = (eff j, nf))
  (p3 : ∀ i j h k, (putL (Str.ofString "errors") h k (.ref j) (ebf i), putN (Str.ofString "errors") (ebf i) nb) = (ebf j, nb))
  (z1 : ∀ i, (esf i).length ≤ 1000) (z2 : ∀ i, (eff i).length ≤ 1000) (z3 : ∀ i, (ebf i).length ≤ 1000)
  (H : Bld spaces names words nodes active) (hrng : ∀ x ∈ nodes, 0 ≤ x ∧ x < (names.length : Int)) (hl : spaces.length = names.length) (hl2 : names.length ≤ 100) (hz : words.length ≤ 100) (hz3 : active.length ≤ 100) (hm : many ≤ words.length) (hn : name.length ≤ 100)
  (hok : ∀ x ∈ words, PyData.strOk x = true) (hmd : PyData.strOk md = true)
  (k : ∀ i j l h' tk', Fr h₀ L h' m → News h₀ L h' ((std, dictOf (esf i) ne) :: (fmd, dictOf (eff j) nf) :: (bd, dictOf (ebf l) nb) :: rest) → Q (.bool true) { s with heap := h', toks := tk' }) :
  wpAny (model PySem.Challenge.rw_pb0145_01.row.prog w) (ktrTop dp un gd cn cs L a ccd cl outer) (call (.ref 545) [.ref b, .ref wa, .ref na, .int many tm, .ref aa, .str name tn]) Q E s := by
  k_with_none
  k_with "om" => first | assumption | exact Nat.le_trans (by assumption) (Nat.le_of_ble_eq_true rfl) | exact Nat.lt_of_le_of_lt (by assumption) (Nat.le_of_ble_eq_true rfl) | decide | omega
  k_with "k_get" => (first | k_extra "getd" | with_reducible assumption | with_reducible_and_instances exact Dct.get (by assumption) (by k_mem) | exact Dct.get (by assumption) (by k_mem))
  k_with "k_upd" => first | assumption | k_extra "upd" | (refine' Upd.head ?a; (case a => k_all)) | (refine' Upd.tail ?a ?b; (case a => k_ne); (case b => k_upd))
  k_with "exec While" => refine held_of ?_
  k_with "call builtin:len" => (k_here; (with_reducible show wpAny _ _ (call (Value.builtin "len") [Value.ref _]) _ _ _); k_dflt (refine' led_len ?k1 ?k2 ?k3 ?k4 ?_; (case k1 => k_asm); (case k2 => k_mem); (case k3 => first | exact IntsAre.length (by assumption) | exact PyProof.Rows.StrsAre.length (by assumption) | assumption); (case k4 => walk_at "om"); k_whole); intro _ _)
  k_with "subs9" => (k_here; (with_reducible show wpAny _ _ (subscriptTail _ _ (Value.ref _) (Value.int _ _)) _ _ _); k_dflt (first | (refine' led_int ?k1 ?k2 ?k3 ?k4 ?k5 ?k6 ?_ ?k7; (case k1 => k_asm); (case k2 => k_mem); (case k3 => assumption); (case k4 => first | omega | k_extra "bnd"); (case k5 => first | omega | k_extra "bnd"); (case k6 => omega); (case k7 => with_unfolding_all rfl); k_whole; intro _ _; (try k_extra "fact")) | (refine' led_str ?k1 ?k2 ?k3 ?k4 ?k5 ?k6 ?_ ?k7; (case k1 => k_asm); (case k2 => k_mem); (case k3 => assumption); (case k4 => first | omega | k_extra "bnd"); (case k5 => first | omega | k_extra "bnd"); (case k6 => omega); (case k7 => with_unfolding_all rfl); k_whole; intro _)))
  k_with "subscriptTail" => walk_at "subs9"
  k_with "subscriptTail Name Name ref int" => walk_at "subs9"
  k_with "subscriptTail Attribute Name ref int" => walk_at "subs9"
  k_with "compareOp In int ref" => (k_here; k_dflt (refine' led_in ?k1 ?k2 ?k3 ?_; (case k1 => k_asm); (case k2 => k_mem); (case k3 => assumption); k_whole))
  k_with "compareOp NotIn int ref" => (k_here; k_dflt (refine' led_notin ?k1 ?k2 ?k3 ?_; (case k1 => k_asm); (case k2 => k_mem); (case k3 => assumption); k_whole))
  k_with "compareOp In str ref" => (k_here; k_dflt (first | (refine' led_in_str ?k1 ?k2 ?k3 ?_; (case k1 => k_asm); (case k2 => walk_at "memR"); (case k3 => with_reducible assumption); k_whole) | (refine' led_in_tup ?k1 ?k2 ?k3 ?_; (case k1 => k_asm); (case k2 => walk_at "memR"); (case k3 => with_reducible assumption); k_whole) | (refine' led_in_tup ?k1 ?k2 ?k3 ?_; (case k1 => k_asm); (case k2 => k_mem); (case k3 => with_reducible assumption); k_whole) | (refine' led_in_str ?k1 ?k2 ?k3 ?_; (case k1 => k_asm); (case k2 => k_mem); (case k3 => with_reducible assumption); k_whole)))
  k_with "compareOp NotIn str ref" => (k_here; k_dflt (first | (refine' led_notin_str ?k1 ?k2 ?k3 ?_; (case k1 => k_asm); (case k2 => walk_at "memR"); (case k3 => with_reducible assumption); k_whole) | (refine' led_notin_tup ?k1 ?k2 ?k3 ?_; (case k1 => k_asm); (case k2 => walk_at "memR"); (case k3 => with_reducible assumption); k_whole) | (refine' led_notin_tup ?k1 ?k2 ?k3 ?_; (case k1 => k_asm); (case k2 => k_mem); (case k3 => with_reducible assumption); k_whole) | (refine' led_notin_str ?k1 ?k2 ?k3 ?_; (case k1 => k_asm); (case k2 => k_mem); (case k3 => with_reducible assumption); k_whole)))
  k_with "eval Tuple" => (k_here; k_dflt (refine' tup_lit ?k1 ?k2 ?k3 ?k4 ?_; (case k1 => exact rfl); (case k2 => exact Nat.le_of_ble_eq_true rfl); (case k3 => k_asm); (case k4 => k_asm); k_whole); intro _ _ _ _ _ _ _ _)
  k_with "call builtin:list.index" => (k_here; (with_reducible show wpAny _ _ (call (Value.builtin _) [Value.ref _, Value.int _ _]) _ _ _); k_dflt (refine' led_index ?k1 ?k2 ?k3 ?k4 ?k5 ?_; (case k1 => k_asm); (case k2 => k_mem); (case k3 => assumption); (case k4 => assumption); (case k5 => omega); k_whole))
  k_with "pyIter ref" => refine held_of ?_
  k_with "InvEndN" => k_extra "InvEndN"
  k_with "k_steps" => repeat' (first | (k_unfold; (try dsimp only)) | (k_end; fail_if_success skip) | walk1 | (dsimp only; walk1) | fail "no step")
  k_with "kst_same" => (intro z h1 h2 h3; (try simp only [List.contains_cons, List.contains_nil, Bool.or_false, Bool.or_eq_false_iff, beq_eq_false_iff_ne, ne_eq] at h3); (simp [h1, h3, kstB]; done))
  k_with "ktr_enter" => first | (refine' code_def ?k1 ?k2 ?k3 ?k4 ?k5 ?kA ?kF ?kK ?k6 ?k7 ?k8 ?k9 ?kB ?_ ?c2 ?c3 ?c4 ?c5; (case kA => exact rfl); (case kF => exact rfl); (case kK => assumption); (case k1 => k_asm); (case k2 => k_asm); (case k3 => k_asm); (case k4 => k_asm); (case k5 => k_asm); (case k6 => k_is); (case k7 => k_is); (case k8 => ktr_room); (case k9 => first | exact BindsTo.of_eq rfl | exact binds_K (by k_in) rfl (by k_is) rfl rfl rfl); (case c5 => decide); (case kB => exact locs rfl); (case c2 => exact rfl); (case c3 => exact rfl); (case c4 => exact rfl); k_whole; walk_at "tl1") | (refine' code_defC ?k1 ?k2 ?k3 ?k4 ?k5 ?kA ?kF ?kK ?k6 ?k7 ?k8 ?k9 ?kB ?kD ?_ ?c2 ?c3 ?c4; (case kA => exact rfl); (case kF => exact rfl); (case kK => assumption); (case k1 => k_asm); (case k2 => k_asm); (case k3 => k_asm); (case k4 => k_asm); (case k5 => k_asm); (case k6 => k_is); (case k7 => k_is); (case k8 => ktr_room); (case k9 => first | exact BindsTo.of_eq rfl | exact binds_K (by k_in) rfl (by k_is) rfl rfl rfl); (case kB => exact rfl); (case kD => decide +kernel); (case c2 => exact rfl); (case c3 => exact rfl); (case c4 => exact rfl); k_whole; walk_at "tl2")
  k_with "eval ListComp" => (k_here; lct_look; k_dflt (refine LCt.ListComp_T (F₀ := by k_asm) (by with_unfolding_all rfl) (by decide) (by rfl) (by decide) (by rfl) ?_); k_dflt (repeat (first | (with_reducible refine compT_held ?_) | walk1 | (dsimp only; walk1))))
  k_with "exec Assign cons ListComp" => (k_here; lct_look; k_dflt (refine LCt.Assign_ListComp_T (F₀ := by k_asm) (by rfl) (by with_unfolding_all rfl) (by with_unfolding_all rfl) (by decide) (by rfl) (by decide) (by rfl) (by rfl) (by rfl) ?_); k_dflt (repeat (first | (with_reducible refine compT_held ?_) | walk1 | (dsimp only; walk1))))
  k_with "compareOp Eq ref ref" => (k_here; k_dflt (first | (refine' led_eq_ints ?k1 ?k2 ?k3 ?k4 ?k5 ?k6 ?_; (case k1 => k_asm); (case k2 => k_mem); (case k3 => with_reducible assumption); (case k4 => k_mem); (case k5 => first | exact .nil | with_reducible assumption); (case k6 => ktr_units); k_whole) | (refine' led_eq_strs ?k1 ?k2 ?k3 ?k4 ?k5 ?o1 ?o2 ?k6 ?_; (case k1 => k_asm); (case k2 => k_mem); (case k3 => with_reducible assumption); (case k4 => k_mem); (case k5 => first | exact .nil | with_reducible assumption); (case k6 => ktr_units); (case o1 => k_extra "ok"); (case o2 => first | nofun | k_extra "ok"); k_whole)))
  k_with "compareOp NotEq ref ref" => (k_here; k_dflt (first | (refine' led_ne_ints ?k1 ?k2 ?k3 ?k4 ?k5 ?k6 ?_; (case k1 => k_asm); (case k2 => k_mem); (case k3 => with_reducible assumption); (case k4 => k_mem); (case k5 => first | exact .nil | with_reducible assumption); (case k6 => ktr_units); k_whole) | (refine' led_ne_strs ?k1 ?k2 ?k3 ?k4 ?k5 ?o1 ?o2 ?k6 ?_; (case k1 => k_asm); (case k2 => k_mem); (case k3 => with_reducible assumption); (case k4 => k_mem); (case k5 => first | exact .nil | with_reducible assumption); (case k6 => ktr_units); (case o1 => k_extra "ok"); (case o2 => first | nofun | k_extra "ok"); k_whole)))
  k_with "subscriptTail" => (k_here; (with_reducible show wpAny _ _ (subscriptTail _ _ (Value.ref _) (Value.int (-1) _)) _ _ _); k_dflt (refine' led_neg ?k1 ?k2 ?k3 ?k4 ?_ ?k7; (case k1 => k_asm); (case k2 => k_mem); (case k3 => with_reducible assumption); (case k4 => first | with_reducible assumption | exact of_decide_eq_false (by with_reducible assumption) | k_extra "nonil"); (case k7 => with_unfolding_all rfl); k_whole; intro _ _))
  k_with "subscriptTail Name Slice ref ref" => (k_here; k_dflt (first | (refine' upto_ints ?F ?N ?m ?i ?h0 ?z ?_ ?s ?t; (case F => k_asm); (case N => k_asm); (case m => k_mem); (case i => with_reducible assumption); (case h0 => first | omega | k_extra "pos"); (case z => walk_at "om"); (case s => with_unfolding_all rfl); (case t => kmk_pure); k_whole) | (refine' from_ints ?F ?N ?m ?i ?h0 ?z ?_ ?s ?t; (case F => k_asm); (case N => k_asm); (case m => k_mem); (case i => with_reducible assumption); (case h0 => first | omega | k_extra "pos"); (case z => walk_at "om"); (case s => with_unfolding_all rfl); (case t => kmk_pure); k_whole) | (refine' run_ints ?F ?N ?m ?i ?h0 ?h1 ?z ?_ ?s ?t; (case F => k_asm); (case N => k_asm); (case m => k_mem); (case i => with_reducible assumption); (case h0 => first | omega | k_extra "pos"); (case h1 => first | omega | k_extra "pos"); (case z => walk_at "om"); (case s => with_unfolding_all rfl); (case t => kmk_pure); k_whole) | (refine' all_ints ?F ?N ?m ?i  ?z ?_ ?s ?t; (case F => k_asm); (case N => k_asm); (case m => k_mem); (case i => with_reducible assumption); (case z => walk_at "om"); (case s => with_unfolding_all rfl); (case t => kmk_pure); k_whole) | (refine' upto_strs ?F ?N ?m ?i ?h0 ?z ?_ ?s ?t; (case F => k_asm); (case N => k_asm); (case m => k_mem); (case i => with_reducible assumption); (case h0 => first | omega | k_extra "pos"); (case z => walk_at "om"); (case s => with_unfolding_all rfl); (case t => kmk_pure); k_whole) | (refine' from_strs ?F ?N ?m ?i ?h0 ?z ?_ ?s ?t; (case F => k_asm); (case N => k_asm); (case m => k_mem); (case i => with_reducible assumption); (case h0 => first | omega | k_extra "pos"); (case z => walk_at "om"); (case s => with_unfolding_all rfl); (case t => kmk_pure); k_whole) | (refine' run_strs ?F ?N ?m ?i ?h0 ?h1 ?z ?_ ?s ?t; (case F => k_asm); (case N => k_asm); (case m => k_mem); (case i => with_reducible assumption); (case h0 => first | omega | k_extra "pos"); (case h1 => first | omega | k_extra "pos"); (case z => walk_at "om"); (case s => with_unfolding_all rfl); (case t => kmk_pure); k_whole) | (refine' all_strs ?F ?N ?m ?i  ?z ?_ ?s ?t; (case F => k_asm); (case N => k_asm); (case m => k_mem); (case i => with_reducible assumption); (case z => walk_at "om"); (case s => with_unfolding_all rfl); (case t => kmk_pure); k_whole)); walk_at "tl3")
  k_with "subscriptTail Attribute Slice ref ref" => (k_here; k_dflt (first | (refine' upto_ints ?F ?N ?m ?i ?h0 ?z ?_ ?s ?t; (case F => k_asm); (case N => k_asm); (case m => k_mem); (case i => with_reducible assumption); (case h0 => first | omega | k_extra "pos"); (case z => walk_at "om"); (case s => with_unfolding_all rfl); (case t => kmk_pure); k_whole) | (refine' from_ints ?F ?N ?m ?i ?h0 ?z ?_ ?s ?t; (case F => k_asm); (case N => k_asm); (case m => k_mem); (case i => with_reducible assumption); (case h0 => first | omega | k_extra "pos"); (case z => walk_at "om"); (case s => with_unfolding_all rfl); (case t => kmk_pure); k_whole) | (refine' run_ints ?F ?N ?m ?i ?h0 ?h1 ?z ?_ ?s ?t; (case F => k_asm); (case N => k_asm); (case m => k_mem); (case i => with_reducible assumption); (case h0 => first | omega | k_extra "pos"); (case h1 => first | omega | k_extra "pos"); (case z => walk_at "om"); (case s => with_unfolding_all rfl); (case t => kmk_pure); k_whole) | (refine' all_ints ?F ?N ?m ?i  ?z ?_ ?s ?t; (case F => k_asm); (case N => k_asm); (case m => k_mem); (case i => with_reducible assumption); (case z => walk_at "om"); (case s => with_unfolding_all rfl); (case t => kmk_pure); k_whole) | (refine' upto_strs ?F ?N ?m ?i ?h0 ?z ?_ ?s ?t; (case F => k_asm); (case N => k_asm); (case m => k_mem); (case i => with_reducible assumption); (case h0 => first | omega | k_extra "pos"); (case z => walk_at "om"); (case s => with_unfolding_all rfl); (case t => kmk_pure); k_whole) | (refine' from_strs ?F ?N ?m ?i ?h0 ?z ?_ ?s ?t; (case F => k_asm); (case N => k_asm); (case m => k_mem); (case i => with_reducible assumption); (case h0 => first | omega | k_extra "pos"); (case z => walk_at "om"); (case s => with_unfolding_all rfl); (case t => kmk_pure); k_whole) | (refine' run_strs ?F ?N ?m ?i ?h0 ?h1 ?z ?_ ?s ?t; (case F => k_asm); (case N => k_asm); (case m => k_mem); (case i => with_reducible assumption); (case h0 => first | omega | k_extra "pos"); (case h1 => first | omega | k_extra "pos"); (case z => walk_at "om"); (case s => with_unfolding_all rfl); (case t => kmk_pure); k_whole) | (refine' all_strs ?F ?N ?m ?i  ?z ?_ ?s ?t; (case F => k_asm); (case N => k_asm); (case m => k_mem); (case i => with_reducible assumption); (case z => walk_at "om"); (case s => with_unfolding_all rfl); (case t => kmk_pure); k_whole)); walk_at "tl3")
  k_with "subscriptTail Name UnaryOp ref int" => (k_here; (with_reducible show wpAny _ _ (subscriptTail _ _ (Value.ref _) (Value.int (-1) _)) _ _ _); k_dflt (refine' led_neg ?k1 ?k2 ?k3 ?k4 ?_ ?k7; (case k1 => k_asm); (case k2 => k_mem); (case k3 => with_reducible assumption); (case k4 => first | with_reducible assumption | exact of_decide_eq_false (by with_reducible assumption) | k_extra "nonil"); (case k7 => with_unfolding_all rfl); k_whole; intro _ _))
  k_with "call ref" => (k_here; (with_reducible show wpAny _ _ (call (Value.ref 516) _) _ _ _); k_dflt (refine' enders_c ?B ?F ?X ?N ?T ?hk ?hd ?hu ?_; (case B => k_asm); (case F => k_asm); (case X => k_asm); (case N => k_asm); (case T => k_asm); (case hk => first | exact rfl | assumption); (case hd => ktr_room); (case hu => first | ktr_units | exact Nat.le_of_ble_eq_true rfl); k_whole); intro _ _ _ _ _ _ _ _ _)
  k_with "call ref" => (k_here; (with_reducible show wpAny _ _ (call (Value.ref 184) _) _ _ _); refine held_of ?_)
  k_with "call ref" => (k_here; (with_reducible show wpAny _ _ (call (Value.ref 540) _) _ _ _); k_dflt (refine' due_c ?B ?F ?X ?N ?T ?hk ?hd ?hu ?h1 ?g1 ?h2 ?g2 ?h3 ?g3 ?hz ?hz2 ?hz3 ?hm ?hn ?hok ?hact ?_; (case B => k_asm); (case F => k_asm); (case X => k_asm); (case N => k_asm); (case T => k_asm); (case hk => first | exact rfl | assumption); (case hd => ktr_room); (case hu => first | ktr_units | exact Nat.le_of_ble_eq_true rfl); (case h1 => k_mem); (case h2 => k_mem); (case h3 => k_mem); (case g1 => with_reducible assumption); (case g2 => with_reducible assumption); (case g3 => with_reducible assumption); (case hz => omega); (case hz2 => omega); (case hz3 => omega); (case hm => omega); (case hn => omega); (case hok => assumption); (case hact => assumption); k_whole); intro _ _ _ _ _ _ _ _ _ _ _ _ _ _ _; (try k_extra "after540"))
  k_with "setAttr ref" => (k_here; k_dflt (refine' set_dict ?k1 ?k2 ?k3 ?k4 ?k5 ?k6 ?k7 ?k8 ?k9 ?k10 ?k11 ?k12 ?k13 ?_; (case k1 => k_asm); (case k2 => k_asm); (case k3 => k_asm); (case k4 => k_inst); (case k5 => exact rfl); (case k6 => k_is); (case k7 => k_is); (case k8 => k_is); (case k9 => k_is); (case k10 => k_extra "get9"); (case k11 => k_extra "put9"); (case k12 => k_upd); (case k13 => k_extra "len9"); k_whole); walk_at "tl6")
  k_with "compareOp Eq ref ref" => (k_here; k_dflt (first | (refine' led_eq_nil ?k1 ?k2 ?k3 ?k6 ?_; (case k1 => k_asm); (case k2 => k_mem); (case k3 => k_mem); (case k6 => ktr_units); k_whole) | (refine' led_eq_note ?k1 ?k2 ?k3 ?k4 ?k5 ?o1 ?o2 ?k6 ?_; (case k1 => k_asm); (case k2 => k_mem); (case k3 => k_mem); (case k4 => k_mem); (case k5 => k_mem); (case k6 => ktr_units); (case o1 => k_extra "ok"); (case o2 => k_extra "ok"); k_whole)))
  k_with "eval ListComp" => (k_here; k_dflt (refine LCg.ListComp_U (F₀ := by k_asm) (by rfl) (by decide) (by rfl) (by decide) (by rfl) ?_); k_dflt (repeat (first | (with_reducible refine compG_held ?_) | walk1 | (dsimp only; walk1))))
  have hz2 : nodes.length = words.length := H.len
  k_with "get9" =>
    first
    | (rw [(D1 _).get (List.Mem.tail _ (List.Mem.head _))]; rfl)
    | (rw [(D2 _).get (List.Mem.tail _ (List.Mem.head _))]; rfl)
    | (rw [(D3 _).get (List.Mem.tail _ (List.Mem.tail _ (List.Mem.tail _ (List.Mem.head _))))]; rfl)
  k_with "getd" =>
    first | exact (D1 _).get (by k_mem) | exact (D2 _).get (by k_mem) | exact (D3 _).get (by k_mem)
  k_with "put9" =>
    first | exact p1 _ _ _ _ | exact p2 _ _ _ _ | exact p3 _ _ _ _
  k_with "len9" =>
    first | exact z1 _ | exact z2 _ | exact z3 _
  revert X; k_fill; intro X
  refine wpAny_call ?_
  k_dflt ktr_enter
  k_steps
  rename_i g9 L9 _ _ _ _ _ _ _ _ o9 d9 a1 v1' _ hi1 f1 _ _ a2 v2' _ hi2 _ _ _ a3 _ l8 l9 _ F9 N9
  have w1 := due_ok H name hm
  have hact : ∀ x ∈ active, x = -1 ∨ x ∈ nodes := fun x hx => (H.act x hx).imp id (·.1)
  have w3 : ∀ x ∈ nodes.take many, 0 ≤ x ∧ x < (names.length : Int) := fun x hx => hrng x (List.mem_of_mem_take hx)
  have wl : (nodes.take many).length ≤ 100 := by rw [List.length_take]; omega
  replace hi1 : IntsAre v1' (nodes.take many) := hi1
  refine held_go (subject_c (ev := []) (ni := 0) (nr := 0) (nf := 0) (L1 := fun o => (a3, listOf #[] 0) :: (a2, listOf v2'.toArray 0) :: (a1, o) :: (L9 + 1, o9) :: (std, dictOf (esf a1) ne) :: (fmd, dictOf (eff a2) nf) :: (bd, dictOf (ebf a3) nb) :: rest)
    (L2 := fun o p => (a3, p) :: (a2, listOf v2'.toArray 0) :: (a1, o) :: (L9 + 1, o9) :: (std, dictOf (esf a1) ne) :: (fmd, dictOf (eff a2) nf) :: (bd, dictOf (ebf a3) nb) :: rest)
    (L3 := fun o p q => (a3, p) :: (a2, q) :: (a1, o) :: (L9 + 1, o9) :: (std, dictOf (esf a1) ne) :: (fmd, dictOf (eff a2) nf) :: (bd, dictOf (ebf a3) nb) :: rest)
    (by k_asm) F9 (by k_asm) N9 (by k_asm) (by first | exact rfl | assumption) (by ktr_room) (by ktr_units) (by k_mem) (by k_mem) (D3 _) (by k_mem) (by k_mem) (D1 _) ?U1 ?U2 ?U3 hi1 wl (Nat.zero_le _) (by k_mem) (by k_mem) (D2 _) (by k_mem) hi2 hz3 ?hia (by k_mem) (by k_mem) D4 (by k_mem) (by k_mem) g1 g2 hl hl2 w3 ?q ?q0 ?k0 ?k1)
  case U1 => intro o; k_upd
  case U2 => intro o p; k_upd
  case U3 => intro o p q; k_upd
  case hia =>
    intro x hx
    rcases H.act x hx with e | ⟨e, _⟩
    · exact .inl e
    · exact .inr (hrng x e)
  case q0 => exact ne_lo l8 (by k_mem)
  case q =>
    refine q_of ?_
    simp only [List.forall_mem_cons, List.not_mem_nil, false_implies, implies_true, and_true]
    refine ⟨?_, ?_, ?_, ?_, ?_, ?_, ?_, ?_, ?_, ?_⟩ <;> exact ⟨lt_lo f1 (by k_mem), lt_lo l8 (by k_mem)⟩
  case k0 =>
    intro r tk vs' e' fv' nf' h' tk' q1 q2 q3 q4 F8 N8
    rw [w1.1] at q2
    rw [w1.2.1] at q3
    rw [w1.2.2.1] at q4
    have q5 : (due9 words nodes many active name).2.2.2 = [] := by rw [← w1.2.2.2.1, q1]; rfl
    have q6 := w1.2.2.2.2
    k_with "after540" =>
      rename StrsAre _ (due9 words nodes many active name).2.2.2 => hs
      rw [q5] at hs
      cases hs
    k_steps
    · exact absurd q2 (by assumption)
    rename Fr _ _ _ _ => lF'; rename News _ _ _ _ => lN'
    refine heldP_go (LCg.CompSrc.ledger rfl lF' lN' (by k_mem) (Nat.zero_le _) ?_)
    intro g'
    with_unfolding_all refine LCg.CompRest.zero ?_
    k_steps
    · rename News h₀ L _ _ => kN; rename Fr h₀ L _ _ => kF
      refine k a1 a2 a3 _ _ kF (News.perm kN ?_)
      repeat refine List.forall_mem_cons.mpr ⟨by k_mem, ?_⟩
      intro p hp; repeat (first | exact hp | refine List.mem_cons_of_mem _ ?_)
    all_goals (rename ¬ _ = _ => q; exact absurd rfl q)
    all_goals (rename ¬ _ = _ => q; exact absurd rfl q)
  case k1 =>
    intro r tk word tw tp vs' e' fv' nf' h' tk' q1 q2 q3 q4 F8 N8 hlt
    rw [w1.1] at q2
    rw [w1.2.1] at q3
    rw [w1.2.2.1] at q4

    (try simp only [List.push_toArray, List.nil_append] at N8)
    have q5 : (due9 words nodes many active name).2.2.2 = [word] := by rw [← w1.2.2.2.1, q1]; rfl
    have q6 := w1.2.2.2.2
    k_with "after540" =>
      rename StrsAre _ (due9 words nodes many active name).2.2.2 => hs
      rw [q5] at hs
      obtain ⟨t9, rfl⟩ := strs_one hs
    k_steps
    · exact absurd q2 (by assumption)
    rename Fr _ _ _ _ => lF'; rename News _ _ _ _ => lN'
    refine heldP_go (LCg.CompSrc.ledger rfl lF' lN' (by k_mem) (by rw [sizeLine_eq]; exact Nat.le_of_ble_eq_true rfl) ?_)
    intro g'
    with_unfolding_all refine LCg.CompRest.succ ?_
    intro v I oI C oC D m₂ h tk E' hv hC hx F1 N1 off ne
    replace hv : some (Value.str word t9) = some v := hv
    cases hv
    k_steps
    · refine comp_one (by k_asm) (by k_asm) (by assumption) off (.inr ⟨_, by k_mem, rfl, _, rfl⟩) ?_
      with_unfolding_all refine LCg.CompRest.zero ?_
      k_with "ok" =>
        first | assumption | exact note_ok q1
      k_steps
      rename News h₀ L _ _ => kN; rename Fr h₀ L _ _ => kF
      refine k a1 a2 a3 _ _ kF (News.perm kN ?_)
      repeat refine List.forall_mem_cons.mpr ⟨by k_mem, ?_⟩
      intro p hp; repeat (first | exact hp | refine List.mem_cons_of_mem _ ?_)
    all_goals (rename ¬ _ = _ => q; exact absurd rfl q)
    all_goals (rename ¬ _ = _ => q; exact absurd rfl q)
end
end
section
local macro_rules | `(tactic| k_ne) => `(tactic| first | with_reducible assumption | k_extra "ne" | (rename ∀ p, _ ∈ _ → _ < _ => l9; first | (refine' ne_hi l9 ?km; (case km => k_mem)) | (refine' ne_lo l9 ?km; (case km => k_mem))) | (refine neN ?_; (try dsimp only); omega) | (rename ∀ p, _ ∈ _ → _ < _ => l9; clear l9; k_ne))
local macro_rules | `(tactic| k_qdec) => `(tactic| decide +kernel)
set_option maxHeartbeats 0 in
noncomputable def packA : PSigma (fun T : Prop => packP T → PySem.Challenge.rw_pb0145_01.Holds) :=
  ⟨_, fun hT => by
    k_with_none
    k_with "om" => first | assumption | exact Nat.le_trans (by assumption) (Nat.le_of_ble_eq_true rfl) | exact Nat.lt_of_le_of_lt (by assumption) (Nat.le_of_ble_eq_true rfl) | decide | omega
    k_with "k_get" => (first | k_extra "getd" | with_reducible assumption | with_reducible_and_instances exact Dct.get (by assumption) (by k_mem) | exact Dct.get (by assumption) (by k_mem))
    k_with "k_upd" => first | assumption | k_extra "upd" | (refine' Upd.head ?a; (case a => k_all)) | (refine' Upd.tail ?a ?b; (case a => k_ne); (case b => k_upd))
    k_with "exec While" => refine held_of ?_
    k_with "call builtin:len" => (k_here; (with_reducible show wpAny _ _ (call (Value.builtin "len") [Value.ref _]) _ _ _); k_dflt (refine' led_len ?k1 ?k2 ?k3 ?k4 ?_; (case k1 => k_asm); (case k2 => k_mem); (case k3 => first | exact IntsAre.length (by assumption) | exact PyProof.Rows.StrsAre.length (by assumption) | assumption); (case k4 => walk_at "om"); k_whole); intro _ _)
    k_with "subs9" => (k_here; (with_reducible show wpAny _ _ (subscriptTail _ _ (Value.ref _) (Value.int _ _)) _ _ _); k_dflt (first | (refine' led_int ?k1 ?k2 ?k3 ?k4 ?k5 ?k6 ?_ ?k7; (case k1 => k_asm); (case k2 => k_mem); (case k3 => assumption); (case k4 => first | omega | k_extra "bnd"); (case k5 => first | omega | k_extra "bnd"); (case k6 => omega); (case k7 => with_unfolding_all rfl); k_whole; intro _ _; (try k_extra "fact")) | (refine' led_str ?k1 ?k2 ?k3 ?k4 ?k5 ?k6 ?_ ?k7; (case k1 => k_asm); (case k2 => k_mem); (case k3 => assumption); (case k4 => first | omega | k_extra "bnd"); (case k5 => first | omega | k_extra "bnd"); (case k6 => omega); (case k7 => with_unfolding_all rfl); k_whole; intro _)))
    k_with "subscriptTail" => walk_at "subs9"
    k_with "subscriptTail Name Name ref int" => walk_at "subs9"
    k_with "subscriptTail Attribute Name ref int" => walk_at "subs9"
    k_with "compareOp In int ref" => (k_here; k_dflt (refine' led_in ?k1 ?k2 ?k3 ?_; (case k1 => k_asm); (case k2 => k_mem); (case k3 => assumption); k_whole))
    k_with "compareOp NotIn int ref" => (k_here; k_dflt (refine' led_notin ?k1 ?k2 ?k3 ?_; (case k1 => k_asm); (case k2 => k_mem); (case k3 => assumption); k_whole))
    k_with "compareOp In str ref" => (k_here; k_dflt (first | (refine' led_in_str ?k1 ?k2 ?k3 ?_; (case k1 => k_asm); (case k2 => walk_at "memR"); (case k3 => with_reducible assumption); k_whole) | (refine' led_in_tup ?k1 ?k2 ?k3 ?_; (case k1 => k_asm); (case k2 => walk_at "memR"); (case k3 => with_reducible assumption); k_whole) | (refine' led_in_tup ?k1 ?k2 ?k3 ?_; (case k1 => k_asm); (case k2 => k_mem); (case k3 => with_reducible assumption); k_whole) | (refine' led_in_str ?k1 ?k2 ?k3 ?_; (case k1 => k_asm); (case k2 => k_mem); (case k3 => with_reducible assumption); k_whole)))
    k_with "compareOp NotIn str ref" => (k_here; k_dflt (first | (refine' led_notin_str ?k1 ?k2 ?k3 ?_; (case k1 => k_asm); (case k2 => walk_at "memR"); (case k3 => with_reducible assumption); k_whole) | (refine' led_notin_tup ?k1 ?k2 ?k3 ?_; (case k1 => k_asm); (case k2 => walk_at "memR"); (case k3 => with_reducible assumption); k_whole) | (refine' led_notin_tup ?k1 ?k2 ?k3 ?_; (case k1 => k_asm); (case k2 => k_mem); (case k3 => with_reducible assumption); k_whole) | (refine' led_notin_str ?k1 ?k2 ?k3 ?_; (case k1 => k_asm); (case k2 => k_mem); (case k3 => with_reducible assumption); k_whole)))
    k_with "eval Tuple" => (k_here; k_dflt (refine' tup_lit ?k1 ?k2 ?k3 ?k4 ?_; (case k1 => exact rfl); (case k2 => exact Nat.le_of_ble_eq_true rfl); (case k3 => k_asm); (case k4 => k_asm); k_whole); intro _ _ _ _ _ _ _ _)
    k_with "call builtin:list.index" => (k_here; (with_reducible show wpAny _ _ (call (Value.builtin _) [Value.ref _, Value.int _ _]) _ _ _); k_dflt (refine' led_index ?k1 ?k2 ?k3 ?k4 ?k5 ?_; (case k1 => k_asm); (case k2 => k_mem); (case k3 => assumption); (case k4 => assumption); (case k5 => omega); k_whole))
    k_with "pyIter ref" => refine held_of ?_
    k_with "InvEndN" => k_extra "InvEndN"
    k_with "k_steps" => repeat' (first | (k_unfold; (try dsimp only)) | (k_end; fail_if_success skip) | walk1 | (dsimp only; walk1) | fail "no step")
    k_with "kst_same" => (intro z h1 h2 h3; (try simp only [List.contains_cons, List.contains_nil, Bool.or_false, Bool.or_eq_false_iff, beq_eq_false_iff_ne, ne_eq] at h3); (simp [h1, h3, kstB]; done))
    k_with "ktr_enter" => first | (refine' code_def ?k1 ?k2 ?k3 ?k4 ?k5 ?kA ?kF ?kK ?k6 ?k7 ?k8 ?k9 ?kB ?_ ?c2 ?c3 ?c4 ?c5; (case kA => exact rfl); (case kF => exact rfl); (case kK => assumption); (case k1 => k_asm); (case k2 => k_asm); (case k3 => k_asm); (case k4 => k_asm); (case k5 => k_asm); (case k6 => k_is); (case k7 => k_is); (case k8 => ktr_room); (case k9 => first | exact BindsTo.of_eq rfl | exact binds_K (by k_in) rfl (by k_is) rfl rfl rfl); (case c5 => decide); (case kB => exact locs rfl); (case c2 => exact rfl); (case c3 => exact rfl); (case c4 => exact rfl); k_whole; walk_at "tl1") | (refine' code_defC ?k1 ?k2 ?k3 ?k4 ?k5 ?kA ?kF ?kK ?k6 ?k7 ?k8 ?k9 ?kB ?kD ?_ ?c2 ?c3 ?c4; (case kA => exact rfl); (case kF => exact rfl); (case kK => assumption); (case k1 => k_asm); (case k2 => k_asm); (case k3 => k_asm); (case k4 => k_asm); (case k5 => k_asm); (case k6 => k_is); (case k7 => k_is); (case k8 => ktr_room); (case k9 => first | exact BindsTo.of_eq rfl | exact binds_K (by k_in) rfl (by k_is) rfl rfl rfl); (case kB => exact rfl); (case kD => decide +kernel); (case c2 => exact rfl); (case c3 => exact rfl); (case c4 => exact rfl); k_whole; walk_at "tl2")
    k_with "call ref" => (k_here; (with_reducible show wpAny _ _ (call (Value.ref 502) _) _ _ _); k_dflt (refine' digit_c ?B ?F ?X ?N ?T ?hk ?hd ?hu ?h1 ?h2 ?hz ?h0 ?p1 ?_; (case B => k_asm); (case F => k_asm); (case X => k_asm); (case N => k_asm); (case T => k_asm); (case hk => first | exact rfl | assumption); (case hd => ktr_room); (case hu => first | ktr_units | exact Nat.le_of_ble_eq_true rfl); (case h1 => assumption); (case h2 => assumption); (case hz => omega); (case h0 => omega); (case p1 => omega); k_whole); intro _ _ _ _ _ _)
    k_with "call ref" => (k_here; (with_reducible show wpAny _ _ (call (Value.ref 509) _) _ _ _); k_dflt (refine' pool_c ?B ?F ?X ?N ?T ?hk ?hd ?hu ?_; (case B => k_asm); (case F => k_asm); (case X => k_asm); (case N => k_asm); (case T => k_asm); (case hk => first | exact rfl | assumption); (case hd => ktr_room); (case hu => first | ktr_units | exact Nat.le_of_ble_eq_true rfl); k_whole); intro _ _ _ _ _ _ _ _ _)
    k_with "call ref" => (k_here; (first | (with_reducible show wpAny _ _ (call (Value.ref 491) _) _ _ _) | (with_reducible show wpAny _ _ (call (Value.ref 453) _) _ _ _) | (with_reducible show wpAny _ _ (call (Value.ref 332) _) _ _ _) | (with_reducible show wpAny _ _ (call (Value.ref 368) _) _ _ _) | (with_reducible show wpAny _ _ (call (Value.ref 545) _) _ _ _)); refine held_of ?_)
    k_with "subscriptTail" => (k_here; (with_reducible show wpAny _ _ (subscriptTail _ _ (Value.ref _) (Value.int _ _)) _ _ _); k_dflt (refine' led_menu ?k1 ?k2 ?k3 ?k4 ?k5 ?k6 ?_ ?k7; (case k1 => k_asm); (case k2 => walk_at "memR"); (case k3 => with_reducible assumption); (case k4 => first | exact Int.fmod_nonneg_of_pos _ (by decide) | omega); (case k5 => k_extra "menu"); (case k6 => exact Nat.le_of_ble_eq_true rfl); (case k7 => with_unfolding_all rfl); k_whole); intro _ _ _)
    k_with "subscriptTail Tuple BinOp ref int" => (k_here; (with_reducible show wpAny _ _ (subscriptTail _ _ (Value.ref _) (Value.int _ _)) _ _ _); k_dflt (refine' led_menu ?k1 ?k2 ?k3 ?k4 ?k5 ?k6 ?_ ?k7; (case k1 => k_asm); (case k2 => walk_at "memR"); (case k3 => with_reducible assumption); (case k4 => first | exact Int.fmod_nonneg_of_pos _ (by decide) | omega); (case k5 => k_extra "menu"); (case k6 => exact Nat.le_of_ble_eq_true rfl); (case k7 => with_unfolding_all rfl); k_whole); intro _ _ _)
    k_with "subscriptTail Name BinOp ref int" => (k_here; (with_reducible show wpAny _ _ (subscriptTail _ _ (Value.ref _) (Value.int _ _)) _ _ _); k_dflt (refine' led_pool ?k1 ?k2 ?k3 ?k4 ?k5 ?_ ?k7; (case k1 => k_asm); (case k2 => walk_at "memR"); (case k3 => with_reducible assumption); (case k4 => first | exact Int.fmod_nonneg_of_pos _ (by decide) | omega); (case k5 => k_extra "menu"); (case k7 => with_unfolding_all rfl); k_whole); intro _ _ _ _)
    k_with "setAttr ref" => (k_here; k_dflt (refine' set_dict ?k1 ?k2 ?k3 ?k4 ?k5 ?k6 ?k7 ?k8 ?k9 ?k10 ?k11 ?k12 ?k13 ?_; (case k1 => k_asm); (case k2 => k_asm); (case k3 => k_asm); (case k4 => k_inst); (case k5 => exact rfl); (case k6 => k_is); (case k7 => k_is); (case k8 => k_is); (case k9 => k_is); (case k10 => k_extra "get9"); (case k11 => k_extra "put9"); (case k12 => k_upd); (case k13 => k_extra "len9"); k_whole); walk_at "tl6")
    k_with "call builtin:len" => (k_here; (with_reducible show wpAny _ _ (call (Value.builtin "len") [Value.ref _]) _ _ _); k_dflt (refine' led_len34 ?k1 ?k2 ?k3 ?_; (case k1 => k_asm); (case k2 => walk_at "memR"); (case k3 => with_reducible assumption); k_whole); intro _ _)
    k_with "call builtin:str.split" => (k_here; k_dflt (refine' led_split ?hp ?F ?N ?_; (case hp => first | with_reducible assumption | exact pairs_sub (by with_reducible assumption)); (case F => k_asm); (case N => k_asm); k_whole); walk_at "tl7")
    k_with "assign Tuple" => (k_here; (with_reducible show wpAny _ _ (assign (Expr.Tuple _ _ _) _ (Value.ref _)) _ _ _); k_dflt (refine' kun_list ?k1 ?k2 ?k3 ?k4 ?k5 ?k6 ?_; (case k1 => k_asm); (case k2 => k_asm); (case k3 => exact News.isList (by k_asm) (by walk_at "memR")); (case k4 => exact rfl); (case k5 => exact rfl); (case k6 => exact rfl); k_whole); walk_at "tl6")
    k_with "call builtin:list.append" => (k_here; (with_reducible show wpAny _ _ (call (Value.builtin _) [Value.ref _, _]) _ _ _); k_dflt (refine' led_push ?k1 ?k2 ?k3 ?z ?_; (case k1 => k_asm); (case k2 => k_asm); (case k3 => k_upd); (case z => first | omega | (simp only [List.length_append, List.length_cons, List.length_nil]; omega)); k_whole); walk_at "tl6")
    k_with "newTuple" => (k_here; k_dflt (refine' led_tuple ?k1 ?k2 ?z ?_; (case k1 => k_asm); (case k2 => k_asm); (case z => exact Nat.le_of_ble_eq_true rfl); k_whole); walk_at "tl8")
    k_with "call builtin:dict.get" => (k_here; k_dflt (refine' co_get ?N ?hm ?lo ?hc ?_; (case N => k_asm); (case hm => walk_at "memR"); (case lo => with_reducible assumption); (case hc => with_reducible assumption); k_whole); intro _ _)
    k_with "getMethod ref" => k_extra "meth"
    k_with "getMethod ref" => (k_here; (with_reducible show wpAny _ _ (getMethod (Value.ref _) (Str.ofString "get") _) _ _ _); k_dflt (refine' co_method ?N ?hm ?lo ?hc ?_; (case N => k_asm); (case hm => walk_at "memR"); (case lo => with_reducible assumption); (case hc => with_reducible assumption); k_whole))
    k_with "exec If" => k_extra "heldIf"
    k_with "exec Assign cons ListComp" => (k_here; k_dflt (refine LCg.Assign_ListComp_U (F₀ := by k_asm) (by rfl) (by with_unfolding_all rfl) (by with_unfolding_all rfl) (by decide) (by rfl) (by decide) (by rfl) (by rfl) (by rfl) ?_); k_dflt (repeat (first | (with_reducible refine compG_held ?_) | walk1 | (dsimp only; walk1))))
    k_with "subscriptTail Call Attribute cons nil Constant ref int" => (k_here; (with_reducible show wpAny _ _ (subscriptTail _ _ (Value.ref _) (Value.int 1 _)) _ _ _); k_dflt (refine' led_second ?k1 ?k2 ?_ ?k7; (case k1 => k_asm); (case k2 => walk_at "memR"); (case k7 => with_unfolding_all rfl); k_whole))
    k_with "subscriptTail Name Slice ref ref" => (k_here; k_dflt (first | (refine' all_ints ?F ?N ?m ?i  ?z ?_ ?s ?t; (case F => k_asm); (case N => k_asm); (case m => k_mem); (case i => with_reducible assumption); (case z => walk_at "om"); (case s => with_unfolding_all rfl); (case t => kmk_pure); k_whole) | (refine' all_strs ?F ?N ?m ?i  ?z ?_ ?s ?t; (case F => k_asm); (case N => k_asm); (case m => k_mem); (case i => with_reducible assumption); (case z => walk_at "om"); (case s => with_unfolding_all rfl); (case t => kmk_pure); k_whole)); walk_at "tl3")
    k_with "eval IfExp" => k_extra "heldIE"
    k_with "subscriptTail Name BinOp ref int" => (k_here; (with_reducible show wpAny _ _ (subscriptTail _ _ (Value.ref _) (Value.int _ _)) _ _ _); k_dflt (refine' led_word ?k1 ?k2 ?k3 ?kw ?k4 ?k5 ?k6 ?_ ?k7; (case kw => k_extra "word"); (case k1 => k_asm); (case k2 => k_extra "memw"); (case k3 => with_reducible assumption); (case k4 => omega); (case k5 => omega); (case k6 => omega); (case k7 => with_unfolding_all rfl); k_whole); intro _ _ _)
    k_with "call ref" => (k_here; (with_reducible show wpAny _ _ (call (Value.ref 545) _) _ _ _); k_extra "found")
    k_with "UnrEndW" => k_extra "unrEnd"
    k_with "compareOp Eq ref ref" => k_extra "eqEnd"
    k_with "subscriptTail Attribute Name Slice ref ref" => (k_here; k_dflt (refine kba_turn (value' := PySem.Expr.Name (PySem.Str.ofString "_") ⟨0, 0, 0, 0⟩) (fun _ => rfl) ?_))
    refine hd2 rfl rfl rfl ?_
    k_go0
    (all_goals try k_fold)
    try (rename Heap.CodeRec _ _ _ => z; clear z)
    try (rename Dflts _ _ _ _ _ _ => z; clear z)
    try (rename Well _ _ _ _ => z; clear z)
    try (rename ReadsAllW _ _ _ _ _ _ => z; clear z)
    k_steps
    rename Fr _ _ _ _ => lF'; rename News _ _ _ _ => lN'
    rename_i hd0 tkh _ _ _ pool pvs pe _ _ hpl hpool _ _ _ d0 _ od0 lo0 _ _ _ _ l80 l10
    refine held_go (builder_c (by k_asm) lF' (by k_asm) lN' (by k_asm) (by first | exact rfl | assumption) (by ktr_room) ?hu ?_)
    case hu => exact Nat.le_of_ble_eq_true rfl
    intro b bd st std fm fmd t td kk ss nn ta tx pp cc co c0 it0 fi0 er0 esf eff ebf et ne nf nb nt n1 n2 n3 n4 n5 n6 n7 md tmd kv sv nv av tv pv cv oc h1 tk1 F1 N1 D1 D2 D3 D4 p1 p2 p3 p4 z1 z2 z3 H0 ord od l0 lo
    obtain ⟨od1, od2, od3, od4, od5, od6, od7⟩ := od
    have ord' := ord
    obtain ⟨o1, o2, o3, o4, o5, o6, o7, o8, o9⟩ := ord'
    simp only [List.cons_append, List.nil_append] at N1
    k_with "menu" =>
      first
      | exact (Int.fmod_lt_of_pos _ (by decide) : Int.fmod _ 2 < 2)
      | exact (Int.fmod_lt_of_pos _ (by decide) : Int.fmod _ 12 < 12)
      | exact (Int.fmod_lt_of_pos _ (by decide) : Int.fmod _ 34 < 34)
    k_with "get9" =>
      (rw [(D3 _ _ _).get (List.Mem.tail _ (List.Mem.tail _ (List.Mem.tail _ (List.Mem.tail _ (List.Mem.head _)))))]; rfl)
    k_with "put9" =>
      exact p4 _ _ _ _ _
    k_with "len9" =>
      exact z3 _ _
    k_with "getd" =>
      first | exact (D1 _).get (by k_mem) | exact (D2 _).get (by k_mem) | exact (D3 _ _ _).get (by k_mem) | exact D4.get (by k_mem)
    k_with "lits" =>
      skip
    k_steps
    rename Fr _ _ _ _ => lF'; rename News _ _ _ _ => lN'
    have C1 : AL b [bd] := AL.one od1
    have C2 : AL td [b, bd] := C1.up od2
    have C3 : AL t [td, b, bd] := C2.up o1
    have C4 : AL kk [t, td, b, bd] := C3.up o2
    have C5 : AL ss [kk, t, td, b, bd] := C4.up o3
    have C6 : AL nn [ss, kk, t, td, b, bd] := C5.up o4
    have C7 : AL ta [nn, ss, kk, t, td, b, bd] := C6.up o5
    have C8 : AL tx [ta, nn, ss, kk, t, td, b, bd] := C7.up o6
    have C9 : AL pp [tx, ta, nn, ss, kk, t, td, b, bd] := C8.up o7
    have C10 : AL cc [pp, tx, ta, nn, ss, kk, t, td, b, bd] := C9.up o8
    have C11 : AL co [cc, pp, tx, ta, nn, ss, kk, t, td, b, bd] := C10.up o9
    have C12 : AL c0 [co, cc, pp, tx, ta, nn, ss, kk, t, td, b, bd] := C11.up od3
    have C13 : AL std [c0, co, cc, pp, tx, ta, nn, ss, kk, t, td, b, bd] := C12.up od4
    have C14 : AL st [std, c0, co, cc, pp, tx, ta, nn, ss, kk, t, td, b, bd] := C13.up od5
    have C15 : AL fmd [st, std, c0, co, cc, pp, tx, ta, nn, ss, kk, t, td, b, bd] := C14.up od6
    have C16 : AL fm [fmd, st, std, c0, co, cc, pp, tx, ta, nn, ss, kk, t, td, b, bd] := C15.up od7
    refine held_go (to4_c (by k_asm) lF' (by k_asm) lN' (by k_asm) (by first | exact rfl | assumption) (by ktr_room) (by exact Nat.le_of_ble_eq_true rfl) (by k_mem) (D3 _ _ _) ?u1 ?u2 ?u3 ?ur p4 z3 ?_)
    case u1 => exact ne_hi (by assumption) (by k_mem)
    case u2 => exact Ne.symm (Nat.ne_of_lt (by refine' AL.lt ?h ?m; (case h => with_reducible assumption); (case m => walk_at "memR")))
    case u3 => exact Ne.symm (Nat.ne_of_lt (by refine' AL.lt ?h ?m; (case h => with_reducible assumption); (case m => walk_at "memR")))
    case ur =>
      repeat refine List.forall_mem_cons.mpr ⟨Ne.symm (Nat.ne_of_lt (by first | ((try dsimp only); refine' AL.lt ?h ?m; (case h => with_reducible assumption); (case m => walk_at "memR")) | fail)), ?_⟩
      exact fun p hp => Nat.ne_of_lt (l0 p hp)
    intro h2 tk2 F2 N2
    k_steps
    rename Fr _ _ _ _ => lF'; rename News _ _ _ _ => lN'
    rename_i tp tvs _ _ htp ltp ymd ytk hymd _ wa _ wl8 wl1 _
    refine held_go (elementd_c (es := [(c0, listOf #[] 0)]) (by k_asm) lF' (by k_asm) (rot5 lN') (by k_asm) (by first | exact rfl | assumption) (by ktr_room) (by exact Nat.le_of_ble_eq_true rfl) D4 ord ?hr H0 (Nat.le_of_ble_eq_true rfl) ?nd ?_)
    case nd => exact List.nodup_cons.mpr ⟨List.not_mem_nil, List.nodup_nil⟩
    case hr =>
      show ∀ p ∈ (c0, _) :: _, _
      repeat refine List.forall_mem_cons.mpr ⟨by first | exact .inl (by first | ((try dsimp only); refine' AL.lt ?h ?m; (case h => with_reducible assumption); (case m => walk_at "memR")) | fail) | exact .inr (by first | ((try dsimp only); refine' AL.lt ?h ?m; (case h => with_reducible assumption); (case m => walk_at "memR")) | fail) | exact .inl (by dsimp only; omega) | exact .inr (by dsimp only; omega) | exact .inr (lt_lo (by assumption) (show (co, oc) ∈ _ by k_mem)), ?_⟩
      exact fun p hp => .inl (Nat.lt_trans (l0 p hp) (Nat.lt_trans od1 od2))
    clear C1 C2 C3 C4 C5 C6 C7 C8 C9 C10 C11 C12 C13 C14 C15 C16
    intro tr1 m1 m2 m3 m4 m5 m6 m7 kv1 sv1 nv1 av1 tv1 pv1 cv1 oc1 es1 h3 tk3 F3 N3 H1 hr1 nd1 hf1
    k_steps
    rename Fr _ _ _ _ => lF'; rename News _ _ _ _ => lN'
    refine held_go (elementd_c (by k_asm) lF' (by k_asm) lN' (by k_asm) (by first | exact rfl | assumption) (by ktr_room) (by exact Nat.le_of_ble_eq_true rfl) D4 ord hr1 H1 (Nat.le_of_ble_eq_true rfl) nd1 ?_)
    intro tr2 q1 q2 q3 q4 q5 q6 q7 kv2 sv2 nv2 av2 tv2 pv2 cv2 oc2 es2 h4 tk4 F4 N4 H2 hr2 nd2 hf2
    k_steps
    rename_i na _ nl8 nl1 _ _ aa _ al8 al1 _ F9 N9 h9 tk9 t1 u1 v1 rg F8 N8 keep
    rename_i cutBx1 cutBx2 cutBx3 cutBx4 cutBx5 cutBx6 cutBx7 cutBx8 cutBx9 cutBx10 cutBx11 cutBx12 cutBx13 cutBx14 cutBx15 cutBx16 cutBx17 cutBx18 cutBx19 cutBx20 cutBx21 cutBx22 cutBx23 cutBx24 cutBx25 cutBx26 cutBx27 cutBx28 cutBx29 cutBx30 cutBx31 cutBx32 cutBx33 cutBx34 cutBx35 cutBx36 cutBx37 cutBx38 cutBx39 cutBx40 cutBx41 cutBx42 cutBx43 cutBx44 cutBx45 cutBx46 cutBx47 cutBx48 cutBx49 cutBx50 cutBx51 cutBx52 cutBx53 cutBx54 cutBx55 cutBx56 cutBx57 cutBx58 cutBx59 cutBx60 cutBx61 cutBx62 cutBx63 cutBx64 cutBx65 cutBx66 cutBx67 cutBx68 cutBx69 cutBx70 cutBx71 cutBx72 cutBx73
    revert cutBx1 cutBx2 cutBx3 cutBx4 cutBx5 cutBx6 cutBx7 cutBx8 cutBx9 cutBx10 cutBx11 cutBx12 cutBx13 cutBx14 cutBx15 cutBx16 cutBx17 cutBx18 cutBx19 cutBx20 cutBx21 cutBx22 cutBx23 cutBx24 cutBx25 cutBx26 cutBx27 cutBx28 cutBx29 cutBx30 cutBx31 cutBx32 cutBx33 cutBx34 cutBx35 cutBx36 cutBx37 cutBx38 cutBx39 cutBx40 cutBx41 cutBx42 cutBx43 cutBx44 cutBx45 cutBx46 hd0 tkh cutBx47 cutBx48 cutBx49 cutBx50 pool pvs pe cutBx51 cutBx52 hpl hpool cutBx53 cutBx54 cutBx55 d0 cutBx56 od0 lo0 cutBx57 cutBx58 cutBx59 cutBx60 l80 l10 b bd st std fm fmd t td kk ss nn ta tx pp cc co c0 it0 fi0 er0 esf eff ebf et ne nf nb nt n1 n2 n3 n4 n5 n6 n7 md tmd kv sv nv av tv pv cv oc h1 tk1 D1 D2 D3 D4 p1 p2 p3 p4 z1 z2 z3 H0 ord l0 lo od1 od2 od3 od4 od5 od6 od7 o1 o2 o3 o4 o5 o6 o7 o8 o9 cutBx61 cutBx62 tp tvs cutBx63 cutBx64 htp ltp ymd ytk hymd h2 tk2 cutBx65 wa cutBx66 wl8 wl1 cutBx67 cutBx68 tr1 m1 m2 m3 m4 m5 m6 m7 kv1 sv1 nv1 av1 tv1 pv1 cv1 oc1 es1 h3 tk3 H1 hr1 nd1 hf1 tr2 q1 q2 q3 q4 q5 q6 q7 kv2 sv2 nv2 av2 tv2 pv2 cv2 oc2 es2 h4 tk4 H2 hr2 nd2 hf2 na cutBx69 nl8 nl1 cutBx70 cutBx71 aa cutBx72 al8 al1 cutBx73 F9 N9 tk h9 tk9 t1 u1 v1 rg F8 N8 keep
    exact packP_of hT⟩
set_option maxHeartbeats 0 in
noncomputable def packB : PSigma (fun T : Prop => packP T → packA.1) :=
  ⟨_, fun hT => by
    k_with_none
    k_with "om" => first | assumption | exact Nat.le_trans (by assumption) (Nat.le_of_ble_eq_true rfl) | exact Nat.lt_of_le_of_lt (by assumption) (Nat.le_of_ble_eq_true rfl) | decide | omega
    k_with "k_get" => (first | k_extra "getd" | with_reducible assumption | with_reducible_and_instances exact Dct.get (by assumption) (by k_mem) | exact Dct.get (by assumption) (by k_mem))
    k_with "k_upd" => first | assumption | k_extra "upd" | (refine' Upd.head ?a; (case a => k_all)) | (refine' Upd.tail ?a ?b; (case a => k_ne); (case b => k_upd))
    k_with "exec While" => refine held_of ?_
    k_with "call builtin:len" => (k_here; (with_reducible show wpAny _ _ (call (Value.builtin "len") [Value.ref _]) _ _ _); k_dflt (refine' led_len ?k1 ?k2 ?k3 ?k4 ?_; (case k1 => k_asm); (case k2 => k_mem); (case k3 => first | exact IntsAre.length (by assumption) | exact PyProof.Rows.StrsAre.length (by assumption) | assumption); (case k4 => walk_at "om"); k_whole); intro _ _)
    k_with "subs9" => (k_here; (with_reducible show wpAny _ _ (subscriptTail _ _ (Value.ref _) (Value.int _ _)) _ _ _); k_dflt (first | (refine' led_int ?k1 ?k2 ?k3 ?k4 ?k5 ?k6 ?_ ?k7; (case k1 => k_asm); (case k2 => k_mem); (case k3 => assumption); (case k4 => first | omega | k_extra "bnd"); (case k5 => first | omega | k_extra "bnd"); (case k6 => omega); (case k7 => with_unfolding_all rfl); k_whole; intro _ _; (try k_extra "fact")) | (refine' led_str ?k1 ?k2 ?k3 ?k4 ?k5 ?k6 ?_ ?k7; (case k1 => k_asm); (case k2 => k_mem); (case k3 => assumption); (case k4 => first | omega | k_extra "bnd"); (case k5 => first | omega | k_extra "bnd"); (case k6 => omega); (case k7 => with_unfolding_all rfl); k_whole; intro _)))
    k_with "subscriptTail" => walk_at "subs9"
    k_with "subscriptTail Name Name ref int" => walk_at "subs9"
    k_with "subscriptTail Attribute Name ref int" => walk_at "subs9"
    k_with "compareOp In int ref" => (k_here; k_dflt (refine' led_in ?k1 ?k2 ?k3 ?_; (case k1 => k_asm); (case k2 => k_mem); (case k3 => assumption); k_whole))
    k_with "compareOp NotIn int ref" => (k_here; k_dflt (refine' led_notin ?k1 ?k2 ?k3 ?_; (case k1 => k_asm); (case k2 => k_mem); (case k3 => assumption); k_whole))
    k_with "compareOp In str ref" => (k_here; k_dflt (first | (refine' led_in_str ?k1 ?k2 ?k3 ?_; (case k1 => k_asm); (case k2 => walk_at "memR"); (case k3 => with_reducible assumption); k_whole) | (refine' led_in_tup ?k1 ?k2 ?k3 ?_; (case k1 => k_asm); (case k2 => walk_at "memR"); (case k3 => with_reducible assumption); k_whole) | (refine' led_in_tup ?k1 ?k2 ?k3 ?_; (case k1 => k_asm); (case k2 => k_mem); (case k3 => with_reducible assumption); k_whole) | (refine' led_in_str ?k1 ?k2 ?k3 ?_; (case k1 => k_asm); (case k2 => k_mem); (case k3 => with_reducible assumption); k_whole)))
    k_with "compareOp NotIn str ref" => (k_here; k_dflt (first | (refine' led_notin_str ?k1 ?k2 ?k3 ?_; (case k1 => k_asm); (case k2 => walk_at "memR"); (case k3 => with_reducible assumption); k_whole) | (refine' led_notin_tup ?k1 ?k2 ?k3 ?_; (case k1 => k_asm); (case k2 => walk_at "memR"); (case k3 => with_reducible assumption); k_whole) | (refine' led_notin_tup ?k1 ?k2 ?k3 ?_; (case k1 => k_asm); (case k2 => k_mem); (case k3 => with_reducible assumption); k_whole) | (refine' led_notin_str ?k1 ?k2 ?k3 ?_; (case k1 => k_asm); (case k2 => k_mem); (case k3 => with_reducible assumption); k_whole)))
    k_with "eval Tuple" => (k_here; k_dflt (refine' tup_lit ?k1 ?k2 ?k3 ?k4 ?_; (case k1 => exact rfl); (case k2 => exact Nat.le_of_ble_eq_true rfl); (case k3 => k_asm); (case k4 => k_asm); k_whole); intro _ _ _ _ _ _ _ _)
    k_with "call builtin:list.index" => (k_here; (with_reducible show wpAny _ _ (call (Value.builtin _) [Value.ref _, Value.int _ _]) _ _ _); k_dflt (refine' led_index ?k1 ?k2 ?k3 ?k4 ?k5 ?_; (case k1 => k_asm); (case k2 => k_mem); (case k3 => assumption); (case k4 => assumption); (case k5 => omega); k_whole))
    k_with "pyIter ref" => refine held_of ?_
    k_with "InvEndN" => k_extra "InvEndN"
    k_with "k_steps" => repeat' (first | (k_unfold; (try dsimp only)) | (k_end; fail_if_success skip) | walk1 | (dsimp only; walk1) | fail "no step")
    k_with "kst_same" => (intro z h1 h2 h3; (try simp only [List.contains_cons, List.contains_nil, Bool.or_false, Bool.or_eq_false_iff, beq_eq_false_iff_ne, ne_eq] at h3); (simp [h1, h3, kstB]; done))
    k_with "ktr_enter" => first | (refine' code_def ?k1 ?k2 ?k3 ?k4 ?k5 ?kA ?kF ?kK ?k6 ?k7 ?k8 ?k9 ?kB ?_ ?c2 ?c3 ?c4 ?c5; (case kA => exact rfl); (case kF => exact rfl); (case kK => assumption); (case k1 => k_asm); (case k2 => k_asm); (case k3 => k_asm); (case k4 => k_asm); (case k5 => k_asm); (case k6 => k_is); (case k7 => k_is); (case k8 => ktr_room); (case k9 => first | exact BindsTo.of_eq rfl | exact binds_K (by k_in) rfl (by k_is) rfl rfl rfl); (case c5 => decide); (case kB => exact locs rfl); (case c2 => exact rfl); (case c3 => exact rfl); (case c4 => exact rfl); k_whole; walk_at "tl1") | (refine' code_defC ?k1 ?k2 ?k3 ?k4 ?k5 ?kA ?kF ?kK ?k6 ?k7 ?k8 ?k9 ?kB ?kD ?_ ?c2 ?c3 ?c4; (case kA => exact rfl); (case kF => exact rfl); (case kK => assumption); (case k1 => k_asm); (case k2 => k_asm); (case k3 => k_asm); (case k4 => k_asm); (case k5 => k_asm); (case k6 => k_is); (case k7 => k_is); (case k8 => ktr_room); (case k9 => first | exact BindsTo.of_eq rfl | exact binds_K (by k_in) rfl (by k_is) rfl rfl rfl); (case kB => exact rfl); (case kD => decide +kernel); (case c2 => exact rfl); (case c3 => exact rfl); (case c4 => exact rfl); k_whole; walk_at "tl2")
    k_with "call ref" => (k_here; (with_reducible show wpAny _ _ (call (Value.ref 502) _) _ _ _); k_dflt (refine' digit_c ?B ?F ?X ?N ?T ?hk ?hd ?hu ?h1 ?h2 ?hz ?h0 ?p1 ?_; (case B => k_asm); (case F => k_asm); (case X => k_asm); (case N => k_asm); (case T => k_asm); (case hk => first | exact rfl | assumption); (case hd => ktr_room); (case hu => first | ktr_units | exact Nat.le_of_ble_eq_true rfl); (case h1 => assumption); (case h2 => assumption); (case hz => omega); (case h0 => omega); (case p1 => omega); k_whole); intro _ _ _ _ _ _)
    k_with "call ref" => (k_here; (with_reducible show wpAny _ _ (call (Value.ref 509) _) _ _ _); k_dflt (refine' pool_c ?B ?F ?X ?N ?T ?hk ?hd ?hu ?_; (case B => k_asm); (case F => k_asm); (case X => k_asm); (case N => k_asm); (case T => k_asm); (case hk => first | exact rfl | assumption); (case hd => ktr_room); (case hu => first | ktr_units | exact Nat.le_of_ble_eq_true rfl); k_whole); intro _ _ _ _ _ _ _ _ _)
    k_with "call ref" => (k_here; (first | (with_reducible show wpAny _ _ (call (Value.ref 491) _) _ _ _) | (with_reducible show wpAny _ _ (call (Value.ref 453) _) _ _ _) | (with_reducible show wpAny _ _ (call (Value.ref 332) _) _ _ _) | (with_reducible show wpAny _ _ (call (Value.ref 368) _) _ _ _) | (with_reducible show wpAny _ _ (call (Value.ref 545) _) _ _ _)); refine held_of ?_)
    k_with "subscriptTail" => (k_here; (with_reducible show wpAny _ _ (subscriptTail _ _ (Value.ref _) (Value.int _ _)) _ _ _); k_dflt (refine' led_menu ?k1 ?k2 ?k3 ?k4 ?k5 ?k6 ?_ ?k7; (case k1 => k_asm); (case k2 => walk_at "memR"); (case k3 => with_reducible assumption); (case k4 => first | exact Int.fmod_nonneg_of_pos _ (by decide) | omega); (case k5 => k_extra "menu"); (case k6 => exact Nat.le_of_ble_eq_true rfl); (case k7 => with_unfolding_all rfl); k_whole); intro _ _ _)
    k_with "subscriptTail Tuple BinOp ref int" => (k_here; (with_reducible show wpAny _ _ (subscriptTail _ _ (Value.ref _) (Value.int _ _)) _ _ _); k_dflt (refine' led_menu ?k1 ?k2 ?k3 ?k4 ?k5 ?k6 ?_ ?k7; (case k1 => k_asm); (case k2 => walk_at "memR"); (case k3 => with_reducible assumption); (case k4 => first | exact Int.fmod_nonneg_of_pos _ (by decide) | omega); (case k5 => k_extra "menu"); (case k6 => exact Nat.le_of_ble_eq_true rfl); (case k7 => with_unfolding_all rfl); k_whole); intro _ _ _)
    k_with "subscriptTail Name BinOp ref int" => (k_here; (with_reducible show wpAny _ _ (subscriptTail _ _ (Value.ref _) (Value.int _ _)) _ _ _); k_dflt (refine' led_pool ?k1 ?k2 ?k3 ?k4 ?k5 ?_ ?k7; (case k1 => k_asm); (case k2 => walk_at "memR"); (case k3 => with_reducible assumption); (case k4 => first | exact Int.fmod_nonneg_of_pos _ (by decide) | omega); (case k5 => k_extra "menu"); (case k7 => with_unfolding_all rfl); k_whole); intro _ _ _ _)
    k_with "setAttr ref" => (k_here; k_dflt (refine' set_dict ?k1 ?k2 ?k3 ?k4 ?k5 ?k6 ?k7 ?k8 ?k9 ?k10 ?k11 ?k12 ?k13 ?_; (case k1 => k_asm); (case k2 => k_asm); (case k3 => k_asm); (case k4 => k_inst); (case k5 => exact rfl); (case k6 => k_is); (case k7 => k_is); (case k8 => k_is); (case k9 => k_is); (case k10 => k_extra "get9"); (case k11 => k_extra "put9"); (case k12 => k_upd); (case k13 => k_extra "len9"); k_whole); walk_at "tl6")
    k_with "call builtin:len" => (k_here; (with_reducible show wpAny _ _ (call (Value.builtin "len") [Value.ref _]) _ _ _); k_dflt (refine' led_len34 ?k1 ?k2 ?k3 ?_; (case k1 => k_asm); (case k2 => walk_at "memR"); (case k3 => with_reducible assumption); k_whole); intro _ _)
    k_with "call builtin:str.split" => (k_here; k_dflt (refine' led_split ?hp ?F ?N ?_; (case hp => first | with_reducible assumption | exact pairs_sub (by with_reducible assumption)); (case F => k_asm); (case N => k_asm); k_whole); walk_at "tl7")
    k_with "assign Tuple" => (k_here; (with_reducible show wpAny _ _ (assign (Expr.Tuple _ _ _) _ (Value.ref _)) _ _ _); k_dflt (refine' kun_list ?k1 ?k2 ?k3 ?k4 ?k5 ?k6 ?_; (case k1 => k_asm); (case k2 => k_asm); (case k3 => exact News.isList (by k_asm) (by walk_at "memR")); (case k4 => exact rfl); (case k5 => exact rfl); (case k6 => exact rfl); k_whole); walk_at "tl6")
    k_with "call builtin:list.append" => (k_here; (with_reducible show wpAny _ _ (call (Value.builtin _) [Value.ref _, _]) _ _ _); k_dflt (refine' led_push ?k1 ?k2 ?k3 ?z ?_; (case k1 => k_asm); (case k2 => k_asm); (case k3 => k_upd); (case z => first | omega | (simp only [List.length_append, List.length_cons, List.length_nil]; omega)); k_whole); walk_at "tl6")
    k_with "newTuple" => (k_here; k_dflt (refine' led_tuple ?k1 ?k2 ?z ?_; (case k1 => k_asm); (case k2 => k_asm); (case z => exact Nat.le_of_ble_eq_true rfl); k_whole); walk_at "tl8")
    k_with "call builtin:dict.get" => (k_here; k_dflt (refine' co_get ?N ?hm ?lo ?hc ?_; (case N => k_asm); (case hm => walk_at "memR"); (case lo => with_reducible assumption); (case hc => with_reducible assumption); k_whole); intro _ _)
    k_with "getMethod ref" => k_extra "meth"
    k_with "getMethod ref" => (k_here; (with_reducible show wpAny _ _ (getMethod (Value.ref _) (Str.ofString "get") _) _ _ _); k_dflt (refine' co_method ?N ?hm ?lo ?hc ?_; (case N => k_asm); (case hm => walk_at "memR"); (case lo => with_reducible assumption); (case hc => with_reducible assumption); k_whole))
    k_with "exec If" => k_extra "heldIf"
    k_with "exec Assign cons ListComp" => (k_here; k_dflt (refine LCg.Assign_ListComp_U (F₀ := by k_asm) (by rfl) (by with_unfolding_all rfl) (by with_unfolding_all rfl) (by decide) (by rfl) (by decide) (by rfl) (by rfl) (by rfl) ?_); k_dflt (repeat (first | (with_reducible refine compG_held ?_) | walk1 | (dsimp only; walk1))))
    k_with "subscriptTail Call Attribute cons nil Constant ref int" => (k_here; (with_reducible show wpAny _ _ (subscriptTail _ _ (Value.ref _) (Value.int 1 _)) _ _ _); k_dflt (refine' led_second ?k1 ?k2 ?_ ?k7; (case k1 => k_asm); (case k2 => walk_at "memR"); (case k7 => with_unfolding_all rfl); k_whole))
    k_with "subscriptTail Name Slice ref ref" => (k_here; k_dflt (first | (refine' all_ints ?F ?N ?m ?i  ?z ?_ ?s ?t; (case F => k_asm); (case N => k_asm); (case m => k_mem); (case i => with_reducible assumption); (case z => walk_at "om"); (case s => with_unfolding_all rfl); (case t => kmk_pure); k_whole) | (refine' all_strs ?F ?N ?m ?i  ?z ?_ ?s ?t; (case F => k_asm); (case N => k_asm); (case m => k_mem); (case i => with_reducible assumption); (case z => walk_at "om"); (case s => with_unfolding_all rfl); (case t => kmk_pure); k_whole)); walk_at "tl3")
    k_with "eval IfExp" => k_extra "heldIE"
    k_with "subscriptTail Name BinOp ref int" => (k_here; (with_reducible show wpAny _ _ (subscriptTail _ _ (Value.ref _) (Value.int _ _)) _ _ _); k_dflt (refine' led_word ?k1 ?k2 ?k3 ?kw ?k4 ?k5 ?k6 ?_ ?k7; (case kw => k_extra "word"); (case k1 => k_asm); (case k2 => k_extra "memw"); (case k3 => with_reducible assumption); (case k4 => omega); (case k5 => omega); (case k6 => omega); (case k7 => with_unfolding_all rfl); k_whole); intro _ _ _)
    k_with "call ref" => (k_here; (with_reducible show wpAny _ _ (call (Value.ref 545) _) _ _ _); k_extra "found")
    k_with "UnrEndW" => k_extra "unrEnd"
    k_with "compareOp Eq ref ref" => k_extra "eqEnd"
    k_with "subscriptTail Attribute Name Slice ref ref" => (k_here; k_dflt (refine kba_turn (value' := PySem.Expr.Name (PySem.Str.ofString "_") ⟨0, 0, 0, 0⟩) (fun _ => rfl) ?_))
    intro cutBx1 cutBx2 cutBx3 cutBx4 cutBx5 cutBx6 cutBx7 cutBx8 cutBx9 cutBx10 cutBx11 cutBx12 cutBx13 cutBx14 cutBx15 cutBx16 cutBx17 cutBx18 cutBx19 cutBx20 cutBx21 cutBx22 cutBx23 cutBx24 cutBx25 cutBx26 cutBx27 cutBx28 cutBx29 cutBx30 cutBx31 cutBx32 cutBx33 cutBx34 cutBx35 cutBx36 cutBx37 cutBx38 cutBx39 cutBx40 cutBx41 cutBx42 cutBx43 cutBx44 cutBx45 cutBx46 hd0 tkh cutBx47 cutBx48 cutBx49 cutBx50 pool pvs pe cutBx51 cutBx52 hpl hpool cutBx53 cutBx54 cutBx55 d0 cutBx56 od0 lo0 cutBx57 cutBx58 cutBx59 cutBx60 l80 l10 b bd st std fm fmd t td kk ss nn ta tx pp cc co c0 it0 fi0 er0 esf eff ebf et ne nf nb nt n1 n2 n3 n4 n5 n6 n7 md tmd kv sv nv av tv pv cv oc h1 tk1 D1 D2 D3 D4 p1 p2 p3 p4 z1 z2 z3 H0 ord l0 lo od1 od2 od3 od4 od5 od6 od7 o1 o2 o3 o4 o5 o6 o7 o8 o9 cutBx61 cutBx62 tp tvs cutBx63 cutBx64 htp ltp ymd ytk hymd h2 tk2 cutBx65 wa cutBx66 wl8 wl1 cutBx67 cutBx68 tr1 m1 m2 m3 m4 m5 m6 m7 kv1 sv1 nv1 av1 tv1 pv1 cv1 oc1 es1 h3 tk3 H1 hr1 nd1 hf1 tr2 q1 q2 q3 q4 q5 q6 q7 kv2 sv2 nv2 av2 tv2 pv2 cv2 oc2 es2 h4 tk4 H2 hr2 nd2 hf2 na cutBx69 nl8 nl1 cutBx70 cutBx71 aa cutBx72 al8 al1 cutBx73 F9 N9 tk h9 tk9 t1 u1 v1 rg F8 N8 keep
    k_with "menu" =>
      first
      | exact (Int.fmod_lt_of_pos _ (by decide) : Int.fmod _ 2 < 2)
      | exact (Int.fmod_lt_of_pos _ (by decide) : Int.fmod _ 12 < 12)
      | exact (Int.fmod_lt_of_pos _ (by decide) : Int.fmod _ 34 < 34)
      | exact Int.lt_trans (Int.fmod_lt_of_pos _ (by decide) : Int.fmod _ 12 < 12) (by decide)
    k_with "get9" =>
      (rw [(D3 _ _ _).get (List.Mem.tail _ (List.Mem.tail _ (List.Mem.tail _ (List.Mem.tail _ (List.Mem.head _)))))]; rfl)
    k_with "put9" =>
      exact p4 _ _ _ _ _
    k_with "len9" =>
      exact z3 _ _
    k_with "getd" =>
      first | exact (D1 _).get (by k_mem) | exact (D2 _).get (by k_mem) | exact (D3 _ _ _).get (by k_mem) | exact D4.get (by k_mem)
    rename World => wW
    have hw0 : ∀ x ∈ [na, aa, t, td, kk, ss, nn, ta, tx, pp, cc, co, std, fmd, bd, st, fm, b, pool], x ≠ wa := by
      refine List.forall_mem_cons.mpr ⟨ne_hi nl8 (by repeat (first | exact List.mem_cons_self | refine List.mem_cons_of_mem _ ?_ | refine List.mem_append_right _ ?_)), ?_⟩
      refine List.forall_mem_cons.mpr ⟨ne_hi al8 (by repeat (first | exact List.mem_cons_self | refine List.mem_cons_of_mem _ ?_ | refine List.mem_append_right _ ?_)), ?_⟩
      repeat refine List.forall_mem_cons.mpr ⟨ne_lo wl8 (by repeat (first | exact List.mem_cons_self | refine List.mem_cons_of_mem _ ?_ | refine List.mem_append_right _ ?_)), ?_⟩
      exact List.forall_mem_nil _
    have hn0 : ∀ x ∈ [aa, t, td, kk, ss, nn, ta, tx, pp, cc, co, std, fmd, bd, st, fm, b, pool], x ≠ na := by
      refine List.forall_mem_cons.mpr ⟨ne_hi al8 (by repeat (first | exact List.mem_cons_self | refine List.mem_cons_of_mem _ ?_ | refine List.mem_append_right _ ?_)), ?_⟩
      repeat refine List.forall_mem_cons.mpr ⟨ne_lo nl8 (by repeat (first | exact List.mem_cons_self | refine List.mem_cons_of_mem _ ?_ | refine List.mem_append_right _ ?_)), ?_⟩
      exact List.forall_mem_nil _
    have ha0 : ∀ x ∈ [t, td, kk, ss, nn, ta, tx, pp, cc, co, std, fmd, bd, st, fm, b, pool], x ≠ aa := by
      repeat refine List.forall_mem_cons.mpr ⟨ne_lo al8 (by repeat (first | exact List.mem_cons_self | refine List.mem_cons_of_mem _ ?_ | refine List.mem_append_right _ ?_)), ?_⟩
      exact List.forall_mem_nil _
    have w1 : wa ≠ na := Ne.symm (hw0 na (.head _))
    have w2 : wa ≠ aa := Ne.symm (hw0 aa (.tail _ (.head _)))
    have w3 : na ≠ aa := Ne.symm (hn0 aa (.head _))
    have hq0 : ∀ x ∈ [wa, na, aa, std, fmd, bd, st, fm, b, pool], @LT.lt Nat _ x td ∨ @LT.lt Nat _ co x := by
      refine List.forall_mem_cons.mpr ⟨hr2 (wa, _) (by repeat (first | exact List.mem_cons_self | refine List.mem_cons_of_mem _ ?_ | refine List.mem_append_right _ ?_)), ?_⟩
      refine List.forall_mem_cons.mpr ⟨.inr (lt_lo nl8 (show (co, oc2) ∈ _ from (by repeat (first | exact List.mem_cons_self | refine List.mem_cons_of_mem _ ?_ | refine List.mem_append_right _ ?_)))), ?_⟩
      refine List.forall_mem_cons.mpr ⟨.inr (lt_lo al8 (show (co, oc2) ∈ _ from (by repeat (first | exact List.mem_cons_self | refine List.mem_cons_of_mem _ ?_ | refine List.mem_append_right _ ?_)))), ?_⟩
      repeat refine List.forall_mem_cons.mpr ⟨hr2 (_, _) (by repeat (first | exact List.mem_cons_self | refine List.mem_cons_of_mem _ ?_ | refine List.mem_append_right _ ?_)), ?_⟩
      exact List.forall_mem_nil _
    have hi1 : ∀ p ∈ es2, p.1 ≠ wa := fun p hp => old_ne (own := []) hf2 (x := wa) (by repeat (first | exact List.mem_cons_self | refine List.mem_cons_of_mem _ ?_ | refine List.mem_append_right _ ?_)) (old_ne (own := []) hf1 (x := wa) (by repeat (first | exact List.mem_cons_self | refine List.mem_cons_of_mem _ ?_ | refine List.mem_append_right _ ?_)) (List.forall_mem_cons.mpr ⟨ne_lo wl8 (by repeat (first | exact List.mem_cons_self | refine List.mem_cons_of_mem _ ?_ | refine List.mem_append_right _ ?_)), List.forall_mem_nil _⟩)) p (List.mem_append_left _ hp)
    have hi2 : ∀ p ∈ es2, p.1 ≠ na := fun p hp => Nat.ne_of_lt (nl8 p (by repeat (first | exact List.mem_append_left _ hp | refine List.mem_cons_of_mem _ ?_)))
    have hi3 : ∀ p ∈ es2, p.1 ≠ aa := fun p hp => Nat.ne_of_lt (al8 p (by repeat (first | exact List.mem_append_left _ hp | refine List.mem_cons_of_mem _ ?_)))
    clear al1 nl1 wl1 wl8 al8 nl8 ltp l80 l10 hf1 hf2 hr1 H0 H1 nd1 keep F9 N9
    rename IsRange _ _ _ _ _ _ _ _ => rgX
    have fm0 : 0 ≤ Int.fmod hd0 8 := Int.fmod_nonneg_of_pos _ (by decide)
    have fm1 : Int.fmod hd0 8 < 8 := Int.fmod_lt_of_pos _ (by decide)
    refine held_go (lq_up (n := (8 - Int.fmod hd0 8).toNat) (fun (c : LS) => (wa, listOf c.wv.toArray c.nw) :: (na, listOf c.nvv.toArray c.nn) :: (aa, listOf c.avv.toArray c.na) :: (t, instObj 413 td) :: (td, dictOf et nt) :: (kk, listOf c.kv.toArray c.n1) :: (ss, listOf c.sv.toArray c.n2) :: (nn, listOf c.nv.toArray c.n3) :: (ta, listOf c.av.toArray c.n4) :: (tx, listOf c.tv.toArray c.n5) :: (pp, listOf c.pv.toArray c.n6) :: (cc, listOf c.cv.toArray c.n7) :: (co, c.oc) :: (std, dictOf (esf it0) ne) :: (fmd, dictOf (eff fi0) nf) :: (bd, dictOf (ebf (.str ymd ytk) er0) nb) :: (st, instObj 136 std) :: (fm, instObj 296 fmd) :: (b, instObj 491 bd) :: (pool, listOf pvs.toArray pe) :: c.es)
      (fun _ => []) [Str.ofString "digit", Str.ofString "word", Str.ofString "more", Str.ofString "space", Str.ofString "name"] (fun i c => LOk wW td co wa na aa i c)
      ⟨BS0, [Value.str (Str.ofString "html:html") (tk2 + 1 + 1), Value.str (Str.ofString "html:body") (tk2 + 1 + 1 + 1)], [Value.int (TD0.kinds.length : Int) tr1, Value.int (TD1.kinds.length : Int) tr2], [], kv2, sv2, nv2, av2, tv2, pv2, cv2, 0, 0, 0, q1, q2, q3, q4, q5, q6, q7, oc2, es2⟩ (by rfl) rgX (small_one (by walk_at "om") (by walk_at "om") (by walk_at "om") (by walk_at "om")) ?rs F8 ?ini (by nofun) ?lok ?turn ?done)
    case rs => rw [rangeSize_nat]; omega
    case ini =>
      refine News.perm N8 ?_
      repeat refine List.forall_mem_cons.mpr ⟨(by repeat (first | exact List.mem_cons_self | refine List.mem_cons_of_mem _ ?_ | refine List.mem_append_right _ ?_)), ?_⟩
      intro p hp; repeat (first | exact List.mem_append_left _ hp | refine List.mem_cons_of_mem _ ?_)
    case lok =>
      refine ⟨bok0, .cons _ _ (.cons _ _ .nil), .cons _ _ (.cons _ _ .nil), .nil, H2, nd2, fun p hp => hr2 p (List.mem_append_left _ hp), hi1, hi2, hi3⟩
    case turn =>
      clear F8 N8 H2 hr2 nd2 rgX
      intro c i tk0 u h tk1 own hi hoff hnew hP F1 N1
      simp only [List.cons_append] at N1
      replace F1 : Fr _ (Array.size _) _ _ := F1
      replace N1 : News _ (Array.size _) _ _ := N1
      have hLO := hP
      obtain ⟨bok, c1, c2, c3, c4, c5, c6, e1, e2, e3⟩ := hP
      obtain ⟨y1, y2, y3, y4, y5⟩ := (⟨bok.wl, bok.nl, bok.al, bok.kl, by omega⟩ : c.B.words.length = 2 + i ∧ c.B.nodes.length = 2 + i ∧ c.B.active.length ≤ 2 * i ∧ c.B.D.kinds.length ≤ 3 + 2 * i ∧ i < 8)
      have ew : ∀ p ∈ c.es ++ own, p.1 ≠ wa := List.forall_mem_append.mpr ⟨e1, hoff.ne (List.Mem.head _)⟩
      have en : ∀ p ∈ c.es ++ own, p.1 ≠ na := List.forall_mem_append.mpr ⟨e2, hoff.ne (.tail _ (List.Mem.head _))⟩
      have ea : ∀ p ∈ c.es ++ own, p.1 ≠ aa := List.forall_mem_append.mpr ⟨e3, hoff.ne (.tail _ (.tail _ (List.Mem.head _)))⟩
      have lw := StrsAre.length c1
      have ln := IntsAre.length c2
      have la := IntsAre.length c3
      k_with "all" =>
        first | exact ne_led hw0 ew rfl | exact ne_led hn0 en rfl | exact ne_led ha0 ea rfl
      k_steps
      rename Fr _ _ _ _ => lF'; rename News _ _ _ _ => lN'
      refine held_go ?_
      refine' element_c (es := c.es) (by k_asm) lF' (by k_asm) (rotE lN') (by k_asm) (by first | exact rfl | assumption) (by ktr_room) (by exact Nat.le_of_ble_eq_true rfl) D4 ord ?hr ?hT ?hz0 c4 (by omega) c5 ?_
      case hr =>
        refine List.forall_mem_append.mpr ⟨c6, ?_⟩
        refine List.forall_mem_cons.mpr ⟨.inr (lt_lo (by assumption) (show (co, c.oc) ∈ _ by k_mem)), ?_⟩
        refine List.forall_mem_cons.mpr ⟨.inr (lt_lo (by assumption) (show (co, c.oc) ∈ _ by k_mem)), ?_⟩
        refine List.forall_mem_cons.mpr ⟨.inr (lt_lo (by assumption) (show (co, c.oc) ∈ _ by k_mem)), ?_⟩
        repeat refine List.forall_mem_cons.mpr ⟨hq0 _ (by repeat (first | exact List.mem_cons_self | refine List.mem_cons_of_mem _ ?_)), ?_⟩
        exact fun p hp => .inr (hnew p hp (co, _) (by repeat (first | exact List.mem_cons_self | refine List.mem_cons_of_mem _ ?_)))
      case hT => exact .inr ⟨_, by walk_at "memR", rfl, _, rfl⟩
      case hz0 => exact Nat.le_of_ble_eq_true rfl
      intro tr3 m1 m2 m3 m4 m5 m6 m7 kv3 sv3 nv3 av3 tv3 pv3 cv3 oc3 es3 h5 tk5 F5 N5 H3 hr3 nd3 hf3
      replace N5 := torE N5
      have ew3 := old_ne hf3 (by walk_at "memR") ew
      have en3 := old_ne hf3 (by walk_at "memR") en
      have ea3 := old_ne hf3 (by walk_at "memR") ea
      k_with "all" =>
        first | exact ne_led hw0 ew3 rfl | exact ne_led hn0 en3 rfl | exact ne_led ha0 ea3 rfl
      k_with "nonil" =>
        simp
      k_steps
      all_goals
        rename Fr _ _ _ _ => lF'; rename News _ _ _ _ => lN'; rename Str × Str => pw
        rename _ = some _ => px; rename pw ∈ pairsL => pm
        refine' endB hLO (pairs_sub pm) H3 hr3 nd3 hf3 hoff ?ho ?m1 ?m2 ?m3 _ ?ha lF' lN' (strs_snoc c1) (ints_snoc c2) ?h3 (by kst_same)
        case ho => intro p hp; repeat (first | exact hp | refine List.mem_cons_of_mem _ ?_)
        case m1 => walk_at "memR"
        case m2 => walk_at "memR"
        case m3 => walk_at "memR"
        case h3 => first | exact ints_snoc2 c3 | exact ints_snoc c3 | exact ints_snoc0 c3
        case ha => first | exact add9_nil | exact add9_m | exact add9_n (pool_html (Int.fmod_nonneg_of_pos _ (by decide)) (by assumption) px) | exact add9_mn (pool_html (Int.fmod_nonneg_of_pos _ (by decide)) (by assumption) px)
    case done =>
      intro c u h tk hP F1 N1
      rename_i cutCx1
      revert wW cutBx2 cutBx3 cutBx4 cutBx5 cutBx6 cutBx7 cutBx8 cutBx9 cutBx10 cutBx11 cutBx12 cutBx13 cutBx14 cutBx15 cutBx16 cutBx17 cutBx18 cutBx19 cutBx20 cutBx21 cutBx22 cutBx23 cutBx24 cutBx25 cutBx26 cutBx27 cutBx28 cutBx29 cutBx30 cutBx31 cutBx32 cutBx33 cutBx34 cutBx35 cutBx36 cutBx37 cutBx38 cutBx39 cutBx40 cutBx41 cutBx42 cutBx43 cutBx44 cutBx45 cutBx46 hd0 tkh cutBx47 cutBx48 cutBx49 cutBx50 pool pvs pe cutBx51 cutBx52 hpl hpool cutBx53 cutBx54 cutBx55 d0 cutBx56 od0 lo0 cutBx57 cutBx58 cutBx59 cutBx60 b bd st std fm fmd t td kk ss nn ta tx pp cc co c0 it0 fi0 er0 esf eff ebf et ne nf nb nt n1 n2 n3 n4 n5 n6 n7 md tmd kv sv nv av tv pv cv oc h1 tk1 D1 D2 D3 D4 p1 p2 p3 p4 z1 z2 z3 ord l0 lo od1 od2 od3 od4 od5 od6 od7 o1 o2 o3 o4 o5 o6 o7 o8 o9 cutBx61 cutBx62 tp tvs cutBx63 cutBx64 htp ymd ytk hymd h2 tk2 cutBx65 wa cutBx66 cutBx67 cutBx68 tr1 m1 m2 m3 m4 m5 m6 m7 kv1 sv1 nv1 av1 tv1 pv1 cv1 oc1 es1 h3 tk3 tr2 q1 q2 q3 q4 q5 q6 q7 kv2 sv2 nv2 av2 tv2 pv2 cv2 oc2 es2 h4 tk4 H2 hr2 nd2 na cutBx69 cutBx70 cutBx71 aa cutBx72 cutBx73 cutCx1 h9 tk9 t1 u1 v1 rgX F8 N8 hw0 hn0 ha0 w1 w2 w3 hq0 hi1 hi2 hi3 fm0 fm1 c u h tk hP F1 N1
      exact packP_of hT⟩
set_option maxHeartbeats 0 in
noncomputable def packC : PSigma (fun T : Prop => packP T → packB.1) :=
  ⟨_, fun hT => by
    k_with_none
    k_with "om" => first | assumption | exact Nat.le_trans (by assumption) (Nat.le_of_ble_eq_true rfl) | exact Nat.lt_of_le_of_lt (by assumption) (Nat.le_of_ble_eq_true rfl) | decide | omega
    k_with "k_get" => (first | k_extra "getd" | with_reducible assumption | with_reducible_and_instances exact Dct.get (by assumption) (by k_mem) | exact Dct.get (by assumption) (by k_mem))
    k_with "k_upd" => first | assumption | k_extra "upd" | (refine' Upd.head ?a; (case a => k_all)) | (refine' Upd.tail ?a ?b; (case a => k_ne); (case b => k_upd))
    k_with "exec While" => refine held_of ?_
    k_with "call builtin:len" => (k_here; (with_reducible show wpAny _ _ (call (Value.builtin "len") [Value.ref _]) _ _ _); k_dflt (refine' led_len ?k1 ?k2 ?k3 ?k4 ?_; (case k1 => k_asm); (case k2 => k_mem); (case k3 => first | exact IntsAre.length (by assumption) | exact PyProof.Rows.StrsAre.length (by assumption) | assumption); (case k4 => walk_at "om"); k_whole); intro _ _)
    k_with "subs9" => (k_here; (with_reducible show wpAny _ _ (subscriptTail _ _ (Value.ref _) (Value.int _ _)) _ _ _); k_dflt (first | (refine' led_int ?k1 ?k2 ?k3 ?k4 ?k5 ?k6 ?_ ?k7; (case k1 => k_asm); (case k2 => k_mem); (case k3 => assumption); (case k4 => first | omega | k_extra "bnd"); (case k5 => first | omega | k_extra "bnd"); (case k6 => omega); (case k7 => with_unfolding_all rfl); k_whole; intro _ _; (try k_extra "fact")) | (refine' led_str ?k1 ?k2 ?k3 ?k4 ?k5 ?k6 ?_ ?k7; (case k1 => k_asm); (case k2 => k_mem); (case k3 => assumption); (case k4 => first | omega | k_extra "bnd"); (case k5 => first | omega | k_extra "bnd"); (case k6 => omega); (case k7 => with_unfolding_all rfl); k_whole; intro _)))
    k_with "subscriptTail" => walk_at "subs9"
    k_with "subscriptTail Name Name ref int" => walk_at "subs9"
    k_with "subscriptTail Attribute Name ref int" => walk_at "subs9"
    k_with "compareOp In int ref" => (k_here; k_dflt (refine' led_in ?k1 ?k2 ?k3 ?_; (case k1 => k_asm); (case k2 => k_mem); (case k3 => assumption); k_whole))
    k_with "compareOp NotIn int ref" => (k_here; k_dflt (refine' led_notin ?k1 ?k2 ?k3 ?_; (case k1 => k_asm); (case k2 => k_mem); (case k3 => assumption); k_whole))
    k_with "compareOp In str ref" => (k_here; k_dflt (first | (refine' led_in_str ?k1 ?k2 ?k3 ?_; (case k1 => k_asm); (case k2 => walk_at "memR"); (case k3 => with_reducible assumption); k_whole) | (refine' led_in_tup ?k1 ?k2 ?k3 ?_; (case k1 => k_asm); (case k2 => walk_at "memR"); (case k3 => with_reducible assumption); k_whole) | (refine' led_in_tup ?k1 ?k2 ?k3 ?_; (case k1 => k_asm); (case k2 => k_mem); (case k3 => with_reducible assumption); k_whole) | (refine' led_in_str ?k1 ?k2 ?k3 ?_; (case k1 => k_asm); (case k2 => k_mem); (case k3 => with_reducible assumption); k_whole)))
    k_with "compareOp NotIn str ref" => (k_here; k_dflt (first | (refine' led_notin_str ?k1 ?k2 ?k3 ?_; (case k1 => k_asm); (case k2 => walk_at "memR"); (case k3 => with_reducible assumption); k_whole) | (refine' led_notin_tup ?k1 ?k2 ?k3 ?_; (case k1 => k_asm); (case k2 => walk_at "memR"); (case k3 => with_reducible assumption); k_whole) | (refine' led_notin_tup ?k1 ?k2 ?k3 ?_; (case k1 => k_asm); (case k2 => k_mem); (case k3 => with_reducible assumption); k_whole) | (refine' led_notin_str ?k1 ?k2 ?k3 ?_; (case k1 => k_asm); (case k2 => k_mem); (case k3 => with_reducible assumption); k_whole)))
    k_with "eval Tuple" => (k_here; k_dflt (refine' tup_lit ?k1 ?k2 ?k3 ?k4 ?_; (case k1 => exact rfl); (case k2 => exact Nat.le_of_ble_eq_true rfl); (case k3 => k_asm); (case k4 => k_asm); k_whole); intro _ _ _ _ _ _ _ _)
    k_with "call builtin:list.index" => (k_here; (with_reducible show wpAny _ _ (call (Value.builtin _) [Value.ref _, Value.int _ _]) _ _ _); k_dflt (refine' led_index ?k1 ?k2 ?k3 ?k4 ?k5 ?_; (case k1 => k_asm); (case k2 => k_mem); (case k3 => assumption); (case k4 => assumption); (case k5 => omega); k_whole))
    k_with "pyIter ref" => refine held_of ?_
    k_with "InvEndN" => k_extra "InvEndN"
    k_with "k_steps" => repeat' (first | (k_unfold; (try dsimp only)) | (k_end; fail_if_success skip) | walk1 | (dsimp only; walk1) | fail "no step")
    k_with "kst_same" => (intro z h1 h2 h3; (try simp only [List.contains_cons, List.contains_nil, Bool.or_false, Bool.or_eq_false_iff, beq_eq_false_iff_ne, ne_eq] at h3); (simp [h1, h3, kstB]; done))
    k_with "ktr_enter" => first | (refine' code_def ?k1 ?k2 ?k3 ?k4 ?k5 ?kA ?kF ?kK ?k6 ?k7 ?k8 ?k9 ?kB ?_ ?c2 ?c3 ?c4 ?c5; (case kA => exact rfl); (case kF => exact rfl); (case kK => assumption); (case k1 => k_asm); (case k2 => k_asm); (case k3 => k_asm); (case k4 => k_asm); (case k5 => k_asm); (case k6 => k_is); (case k7 => k_is); (case k8 => ktr_room); (case k9 => first | exact BindsTo.of_eq rfl | exact binds_K (by k_in) rfl (by k_is) rfl rfl rfl); (case c5 => decide); (case kB => exact locs rfl); (case c2 => exact rfl); (case c3 => exact rfl); (case c4 => exact rfl); k_whole; walk_at "tl1") | (refine' code_defC ?k1 ?k2 ?k3 ?k4 ?k5 ?kA ?kF ?kK ?k6 ?k7 ?k8 ?k9 ?kB ?kD ?_ ?c2 ?c3 ?c4; (case kA => exact rfl); (case kF => exact rfl); (case kK => assumption); (case k1 => k_asm); (case k2 => k_asm); (case k3 => k_asm); (case k4 => k_asm); (case k5 => k_asm); (case k6 => k_is); (case k7 => k_is); (case k8 => ktr_room); (case k9 => first | exact BindsTo.of_eq rfl | exact binds_K (by k_in) rfl (by k_is) rfl rfl rfl); (case kB => exact rfl); (case kD => decide +kernel); (case c2 => exact rfl); (case c3 => exact rfl); (case c4 => exact rfl); k_whole; walk_at "tl2")
    k_with "call ref" => (k_here; (with_reducible show wpAny _ _ (call (Value.ref 502) _) _ _ _); k_dflt (refine' digit_c ?B ?F ?X ?N ?T ?hk ?hd ?hu ?h1 ?h2 ?hz ?h0 ?p1 ?_; (case B => k_asm); (case F => k_asm); (case X => k_asm); (case N => k_asm); (case T => k_asm); (case hk => first | exact rfl | assumption); (case hd => ktr_room); (case hu => first | ktr_units | exact Nat.le_of_ble_eq_true rfl); (case h1 => assumption); (case h2 => assumption); (case hz => omega); (case h0 => omega); (case p1 => omega); k_whole); intro _ _ _ _ _ _)
    k_with "call ref" => (k_here; (with_reducible show wpAny _ _ (call (Value.ref 509) _) _ _ _); k_dflt (refine' pool_c ?B ?F ?X ?N ?T ?hk ?hd ?hu ?_; (case B => k_asm); (case F => k_asm); (case X => k_asm); (case N => k_asm); (case T => k_asm); (case hk => first | exact rfl | assumption); (case hd => ktr_room); (case hu => first | ktr_units | exact Nat.le_of_ble_eq_true rfl); k_whole); intro _ _ _ _ _ _ _ _ _)
    k_with "call ref" => (k_here; (first | (with_reducible show wpAny _ _ (call (Value.ref 491) _) _ _ _) | (with_reducible show wpAny _ _ (call (Value.ref 453) _) _ _ _) | (with_reducible show wpAny _ _ (call (Value.ref 332) _) _ _ _) | (with_reducible show wpAny _ _ (call (Value.ref 368) _) _ _ _) | (with_reducible show wpAny _ _ (call (Value.ref 545) _) _ _ _)); refine held_of ?_)
    k_with "subscriptTail" => (k_here; (with_reducible show wpAny _ _ (subscriptTail _ _ (Value.ref _) (Value.int _ _)) _ _ _); k_dflt (refine' led_menu ?k1 ?k2 ?k3 ?k4 ?k5 ?k6 ?_ ?k7; (case k1 => k_asm); (case k2 => walk_at "memR"); (case k3 => with_reducible assumption); (case k4 => first | exact Int.fmod_nonneg_of_pos _ (by decide) | omega); (case k5 => k_extra "menu"); (case k6 => exact Nat.le_of_ble_eq_true rfl); (case k7 => with_unfolding_all rfl); k_whole); intro _ _ _)
    k_with "subscriptTail Tuple BinOp ref int" => (k_here; (with_reducible show wpAny _ _ (subscriptTail _ _ (Value.ref _) (Value.int _ _)) _ _ _); k_dflt (refine' led_menu ?k1 ?k2 ?k3 ?k4 ?k5 ?k6 ?_ ?k7; (case k1 => k_asm); (case k2 => walk_at "memR"); (case k3 => with_reducible assumption); (case k4 => first | exact Int.fmod_nonneg_of_pos _ (by decide) | omega); (case k5 => k_extra "menu"); (case k6 => exact Nat.le_of_ble_eq_true rfl); (case k7 => with_unfolding_all rfl); k_whole); intro _ _ _)
    k_with "subscriptTail Name BinOp ref int" => (k_here; (with_reducible show wpAny _ _ (subscriptTail _ _ (Value.ref _) (Value.int _ _)) _ _ _); k_dflt (refine' led_pool ?k1 ?k2 ?k3 ?k4 ?k5 ?_ ?k7; (case k1 => k_asm); (case k2 => walk_at "memR"); (case k3 => with_reducible assumption); (case k4 => first | exact Int.fmod_nonneg_of_pos _ (by decide) | omega); (case k5 => k_extra "menu"); (case k7 => with_unfolding_all rfl); k_whole); intro _ _ _ _)
    k_with "setAttr ref" => (k_here; k_dflt (refine' set_dict ?k1 ?k2 ?k3 ?k4 ?k5 ?k6 ?k7 ?k8 ?k9 ?k10 ?k11 ?k12 ?k13 ?_; (case k1 => k_asm); (case k2 => k_asm); (case k3 => k_asm); (case k4 => k_inst); (case k5 => exact rfl); (case k6 => k_is); (case k7 => k_is); (case k8 => k_is); (case k9 => k_is); (case k10 => k_extra "get9"); (case k11 => k_extra "put9"); (case k12 => k_upd); (case k13 => k_extra "len9"); k_whole); walk_at "tl6")
    k_with "call builtin:len" => (k_here; (with_reducible show wpAny _ _ (call (Value.builtin "len") [Value.ref _]) _ _ _); k_dflt (refine' led_len34 ?k1 ?k2 ?k3 ?_; (case k1 => k_asm); (case k2 => walk_at "memR"); (case k3 => with_reducible assumption); k_whole); intro _ _)
    k_with "call builtin:str.split" => (k_here; k_dflt (refine' led_split ?hp ?F ?N ?_; (case hp => first | with_reducible assumption | exact pairs_sub (by with_reducible assumption)); (case F => k_asm); (case N => k_asm); k_whole); walk_at "tl7")
    k_with "assign Tuple" => (k_here; (with_reducible show wpAny _ _ (assign (Expr.Tuple _ _ _) _ (Value.ref _)) _ _ _); k_dflt (refine' kun_list ?k1 ?k2 ?k3 ?k4 ?k5 ?k6 ?_; (case k1 => k_asm); (case k2 => k_asm); (case k3 => exact News.isList (by k_asm) (by walk_at "memR")); (case k4 => exact rfl); (case k5 => exact rfl); (case k6 => exact rfl); k_whole); walk_at "tl6")
    k_with "call builtin:list.append" => (k_here; (with_reducible show wpAny _ _ (call (Value.builtin _) [Value.ref _, _]) _ _ _); k_dflt (refine' led_push ?k1 ?k2 ?k3 ?z ?_; (case k1 => k_asm); (case k2 => k_asm); (case k3 => k_upd); (case z => first | omega | (simp only [List.length_append, List.length_cons, List.length_nil]; omega)); k_whole); walk_at "tl6")
    k_with "newTuple" => (k_here; k_dflt (refine' led_tuple ?k1 ?k2 ?z ?_; (case k1 => k_asm); (case k2 => k_asm); (case z => exact Nat.le_of_ble_eq_true rfl); k_whole); walk_at "tl8")
    k_with "call builtin:dict.get" => (k_here; k_dflt (refine' co_get ?N ?hm ?lo ?hc ?_; (case N => k_asm); (case hm => walk_at "memR"); (case lo => with_reducible assumption); (case hc => with_reducible assumption); k_whole); intro _ _)
    k_with "getMethod ref" => k_extra "meth"
    k_with "getMethod ref" => (k_here; (with_reducible show wpAny _ _ (getMethod (Value.ref _) (Str.ofString "get") _) _ _ _); k_dflt (refine' co_method ?N ?hm ?lo ?hc ?_; (case N => k_asm); (case hm => walk_at "memR"); (case lo => with_reducible assumption); (case hc => with_reducible assumption); k_whole))
    k_with "exec If" => k_extra "heldIf"
    k_with "exec Assign cons ListComp" => (k_here; k_dflt (refine LCg.Assign_ListComp_U (F₀ := by k_asm) (by rfl) (by with_unfolding_all rfl) (by with_unfolding_all rfl) (by decide) (by rfl) (by decide) (by rfl) (by rfl) (by rfl) ?_); k_dflt (repeat (first | (with_reducible refine compG_held ?_) | walk1 | (dsimp only; walk1))))
    k_with "subscriptTail Call Attribute cons nil Constant ref int" => (k_here; (with_reducible show wpAny _ _ (subscriptTail _ _ (Value.ref _) (Value.int 1 _)) _ _ _); k_dflt (refine' led_second ?k1 ?k2 ?_ ?k7; (case k1 => k_asm); (case k2 => walk_at "memR"); (case k7 => with_unfolding_all rfl); k_whole))
    k_with "subscriptTail Name Slice ref ref" => (k_here; k_dflt (first | (refine' all_ints ?F ?N ?m ?i  ?z ?_ ?s ?t; (case F => k_asm); (case N => k_asm); (case m => k_mem); (case i => with_reducible assumption); (case z => walk_at "om"); (case s => with_unfolding_all rfl); (case t => kmk_pure); k_whole) | (refine' all_strs ?F ?N ?m ?i  ?z ?_ ?s ?t; (case F => k_asm); (case N => k_asm); (case m => k_mem); (case i => with_reducible assumption); (case z => walk_at "om"); (case s => with_unfolding_all rfl); (case t => kmk_pure); k_whole)); walk_at "tl3")
    k_with "eval IfExp" => k_extra "heldIE"
    k_with "subscriptTail Name BinOp ref int" => (k_here; (with_reducible show wpAny _ _ (subscriptTail _ _ (Value.ref _) (Value.int _ _)) _ _ _); k_dflt (refine' led_word ?k1 ?k2 ?k3 ?kw ?k4 ?k5 ?k6 ?_ ?k7; (case kw => k_extra "word"); (case k1 => k_asm); (case k2 => k_extra "memw"); (case k3 => with_reducible assumption); (case k4 => omega); (case k5 => omega); (case k6 => omega); (case k7 => with_unfolding_all rfl); k_whole); intro _ _ _)
    k_with "call ref" => (k_here; (with_reducible show wpAny _ _ (call (Value.ref 545) _) _ _ _); k_extra "found")
    k_with "UnrEndW" => k_extra "unrEnd"
    k_with "compareOp Eq ref ref" => k_extra "eqEnd"
    k_with "subscriptTail Attribute Name Slice ref ref" => (k_here; k_dflt (refine kba_turn (value' := PySem.Expr.Name (PySem.Str.ofString "_") ⟨0, 0, 0, 0⟩) (fun _ => rfl) ?_))
    intro wW cutBx2 cutBx3 cutBx4 cutBx5 cutBx6 cutBx7 cutBx8 cutBx9 cutBx10 cutBx11 cutBx12 cutBx13 cutBx14 cutBx15 cutBx16 cutBx17 cutBx18 cutBx19 cutBx20 cutBx21 cutBx22 cutBx23 cutBx24 cutBx25 cutBx26 cutBx27 cutBx28 cutBx29 cutBx30 cutBx31 cutBx32 cutBx33 cutBx34 cutBx35 cutBx36 cutBx37 cutBx38 cutBx39 cutBx40 cutBx41 cutBx42 cutBx43 cutBx44 cutBx45 cutBx46 hd0 tkh cutBx47 cutBx48 cutBx49 cutBx50 pool pvs pe cutBx51 cutBx52 hpl hpool cutBx53 cutBx54 cutBx55 d0 cutBx56 od0 lo0 cutBx57 cutBx58 cutBx59 cutBx60 b bd st std fm fmd t td kk ss nn ta tx pp cc co c0 it0 fi0 er0 esf eff ebf et ne nf nb nt n1 n2 n3 n4 n5 n6 n7 md tmd kv sv nv av tv pv cv oc h1 tk1 D1 D2 D3 D4 p1 p2 p3 p4 z1 z2 z3 ord l0 lo od1 od2 od3 od4 od5 od6 od7 o1 o2 o3 o4 o5 o6 o7 o8 o9 cutBx61 cutBx62 tp tvs cutBx63 cutBx64 htp ymd ytk hymd h2 tk2 cutBx65 wa cutBx66 cutBx67 cutBx68 tr1 m1 m2 m3 m4 m5 m6 m7 kv1 sv1 nv1 av1 tv1 pv1 cv1 oc1 es1 h3 tk3 tr2 q1 q2 q3 q4 q5 q6 q7 kv2 sv2 nv2 av2 tv2 pv2 cv2 oc2 es2 h4 tk4 H2 hr2 nd2 na cutBx69 cutBx70 cutBx71 aa cutBx72 cutBx73 cutCx1 h9 tk9 t1 u1 v1 rgX F8 N8 hw0 hn0 ha0 w1 w2 w3 hq0 hi1 hi2 hi3 fm0 fm1 c u h tk hP F1 N1
    k_with "menu" =>
      first
      | exact (Int.fmod_lt_of_pos _ (by decide) : Int.fmod _ 2 < 2)
      | exact (Int.fmod_lt_of_pos _ (by decide) : Int.fmod _ 12 < 12)
      | exact (Int.fmod_lt_of_pos _ (by decide) : Int.fmod _ 34 < 34)
      | exact Int.lt_trans (Int.fmod_lt_of_pos _ (by decide) : Int.fmod _ 12 < 12) (by decide)
    k_with "get9" =>
      (rw [(D3 _ _ _).get (List.Mem.tail _ (List.Mem.tail _ (List.Mem.tail _ (List.Mem.tail _ (List.Mem.head _)))))]; rfl)
    k_with "put9" =>
      exact p4 _ _ _ _ _
    k_with "len9" =>
      exact z3 _ _
    k_with "getd" =>
      first | exact (D1 _).get (by k_mem) | exact (D2 _).get (by k_mem) | exact (D3 _ _ _).get (by k_mem) | exact D4.get (by k_mem)
    simp only [kstB] at F1
    replace F1 : Fr _ (Array.size _) _ _ := F1
    replace N1 : News _ (Array.size _) _ _ := N1
    clear rgX F8 N8 H2 hr2 nd2 hi1 hi2 hi3
    have hLO := hP
    obtain ⟨bok, c1, c2, c3, c4, c5, c6, e1, e2, e3⟩ := hP
    have hes := es_apart N1 c4.c c6 ord e1 e2 e3 hpool
    have hco := c4.o
    have lw := StrsAre.length c1
    have ln := IntsAre.length c2
    have la := IntsAre.length c3
    have hst := hLO.start
    obtain ⟨hpp1, hpp2⟩ := pp_apart ord hq0
    obtain ⟨y1, y2, y3, y4, y5⟩ := (⟨bok.wl, bok.nl, bok.al, bok.kl, by omega⟩ : c.B.words.length = 2 + (8 - Int.fmod hd0 8).toNat ∧ c.B.nodes.length = 2 + (8 - Int.fmod hd0 8).toNat ∧ c.B.active.length ≤ 2 * (8 - Int.fmod hd0 8).toNat ∧ c.B.D.kinds.length ≤ 3 + 2 * (8 - Int.fmod hd0 8).toNat ∧ (8 - Int.fmod hd0 8).toNat ≤ 8)
    generalize (8 - Int.fmod hd0 8).toNat = n9 at bok hLO y1 y2 y3 y4 y5
    k_with "meth" =>
      (k_here; k_dflt (refine' method_inst ?k1 ?k2 ?k3 ?k4 ?k5 ?k6 ?k7 ?_; (case k1 => k_asm); (case k2 => k_asm); (case k3 => k_inst); (case k4 => k_is); (case k5 => k_is); (case k6 => k_is); (case k7 => k_get); k_whole))
    k_steps
    rename Fr _ _ _ _ => lF'; rename News _ _ _ _ => lN'; rename IsRange _ _ _ _ _ _ _ _ => rgX
    refine held_go (lq_down (n := c.B.nodes.length - 1) (fun (d : CS) => (wa, listOf c.wv.toArray c.nw) :: (na, listOf c.nvv.toArray c.nn) :: (aa, listOf c.avv.toArray c.na) :: (t, instObj 413 td) :: (td, dictOf et nt) :: (kk, listOf c.kv.toArray c.n1) :: (ss, listOf c.sv.toArray c.n2) :: (nn, listOf c.nv.toArray c.n3) :: (ta, listOf c.av.toArray c.n4) :: (tx, listOf c.tv.toArray c.n5) :: (pp, listOf d.pv.toArray c.n6) :: (cc, listOf c.cv.toArray c.n7) :: (co, c.oc) :: (std, dictOf (esf it0) ne) :: (fmd, dictOf (eff fi0) nf) :: (bd, dictOf (ebf (.str ymd ytk) er0) nb) :: (st, instObj 136 std) :: (fm, instObj 296 fmd) :: (b, instObj 491 bd) :: (pool, listOf pvs.toArray pe) :: d.es)
      (fun _ => []) [] (fun i d => COk c i d) ⟨c.pv, c.B.D.parents, c.es, c.B.D.kids⟩ (by rfl) rgX (small_down (by walk_at "om") (by walk_at "om") (by walk_at "om") (by walk_at "om")) ?rs lF' lN' (by nofun) hst ?turn ?done)
    case rs => rw [rangeSize_downNat]; omega
    case turn =>
      clear lF' lN' rgX
      intro d i tk0 u h tk1 own hi hoff hnew hP F1 N1
      simp only [List.cons_append] at N1
      simp only [kstB] at F1
      replace F1 : Fr _ (Array.size _) _ _ := F1
      replace N1 : News _ (Array.size _) _ _ := N1
      k_steps
      rename Fr _ _ _ _ => lF'; rename News _ _ _ _ => lN'
      obtain ⟨g1, g2, g3, g4, g5, g6, g7⟩ := hP.hang bok rfl (by omega)
      have hkl := hP.kl
      have hpl := hP.pl
      have hem := hP.em
      obtain ⟨cx, vs, e, ns, k1, k2, k3, k4, g, u1, u2, u3⟩ := hP.k.upd (upOf c (iAt c.B.nodes (↑c.B.nodes.length - 1 - ↑i - 1))).toNat (by rw [hem]; exact c5) (by omega)
      have hcx : ∀ y ∈ [wa, na, aa, t, td, kk, ss, nn, ta, tx, pp, cc, co, std, fmd, bd, st, fm, b, pool], y ≠ cx := same_mem (P := fun a => ∀ y ∈ [wa, na, aa, t, td, kk, ss, nn, ta, tx, pp, cc, co, std, fmd, bd, st, fm, b, pool], y ≠ a) (p := (cx, _)) hem hes k4
      have ho2 : ∀ p ∈ own, p.1 ≠ cx := hoff.ne (by
        show cx ∈ _ :: _
        repeat refine List.mem_cons_of_mem _ ?_
        exact List.mem_map.mpr ⟨_, k4, rfl⟩)
      have ho3 : ∀ p ∈ own, p.1 ≠ pp := hoff.ne (by repeat (first | exact List.mem_cons_self | refine List.mem_cons_of_mem _ ?_ | refine List.mem_append_right _ ?_))
      have hns := hP.small ns (List.mem_of_getElem? k2)
      refine held_go ?_
      refine' append_c (p := upOf c (iAt c.B.nodes (↑c.B.nodes.length - 1 - ↑i - 1))) (x := iAt c.B.nodes (↑c.B.nodes.length - 1 - ↑i)) (parents := d.par) (ns := ns) (L1 := fun o => (wa, listOf c.wv.toArray c.nw) :: (na, listOf c.nvv.toArray c.nn) :: (aa, listOf c.avv.toArray c.na) :: (t, instObj 413 td) :: (td, dictOf et nt) :: (kk, listOf c.kv.toArray c.n1) :: (ss, listOf c.sv.toArray c.n2) :: (nn, listOf c.nv.toArray c.n3) :: (ta, listOf c.av.toArray c.n4) :: (tx, listOf c.tv.toArray c.n5) :: (pp, listOf d.pv.toArray c.n6) :: (cc, listOf c.cv.toArray c.n7) :: (co, c.oc) :: (std, dictOf (esf it0) ne) :: (fmd, dictOf (eff fi0) nf) :: (bd, dictOf (ebf (.str ymd ytk) er0) nb) :: (st, instObj 136 std) :: (fm, instObj 296 fmd) :: (b, instObj 491 bd) :: (pool, listOf pvs.toArray pe) :: (g o ++ own))
        (L2 := fun o o9 => (wa, listOf c.wv.toArray c.nw) :: (na, listOf c.nvv.toArray c.nn) :: (aa, listOf c.avv.toArray c.na) :: (t, instObj 413 td) :: (td, dictOf et nt) :: (kk, listOf c.kv.toArray c.n1) :: (ss, listOf c.sv.toArray c.n2) :: (nn, listOf c.nv.toArray c.n3) :: (ta, listOf c.av.toArray c.n4) :: (tx, listOf c.tv.toArray c.n5) :: (pp, o9) :: (cc, listOf c.cv.toArray c.n7) :: (co, c.oc) :: (std, dictOf (esf it0) ne) :: (fmd, dictOf (eff fi0) nf) :: (bd, dictOf (ebf (.str ymd ytk) er0) nb) :: (st, instObj 136 std) :: (fm, instObj 296 fmd) :: (b, instObj 491 bd) :: (pool, listOf pvs.toArray pe) :: (g o ++ own))
        ?A1 lF' ?A2 lN' ?A3 ?A4 ?A5 ?A6 ?B1 ?B2 D4 ?B3 hP.p ?B4 ?h5 k1 k3 ?U ?U2 ?a1 ?a2 ?a3 ?a4 ?C1 ?C2 g1 ?C3 g3 ?C4 ?C5 g6 g7 ?k
      (case A1 => k_asm)
      (case A2 => k_asm)
      (case A3 => k_asm)
      (case A4 => first | exact rfl | assumption)
      (case A5 => ktr_room)
      (case A6 => exact Nat.le_of_ble_eq_true rfl)
      (case B1 => walk_at "memR")
      (case B2 => walk_at "memR")
      (case B3 => walk_at "memR")
      (case B4 => walk_at "memR")
      (case C1 => omega)
      (case C2 => omega)
      (case C3 => omega)
      (case C4 => omega)
      (case C5 => omega)
      case h5 => repeat (first | exact List.mem_append_left _ k4 | refine List.mem_cons_of_mem _ ?_)
      case U =>
        intro o
        repeat refine Upd.tail (hcx _ (by repeat (first | exact List.mem_cons_self | refine List.mem_cons_of_mem _ ?_))) ?_
        exact upd_app (u1 o) ho2
      case U2 =>
        intro o o9
        repeat refine Upd.tail (hpp1 _ (by repeat (first | exact List.mem_cons_self | refine List.mem_cons_of_mem _ ?_))) ?_
        refine .head ?_
        repeat refine List.forall_mem_cons.mpr ⟨hpp2 _ (by repeat (first | exact List.mem_cons_self | refine List.mem_cons_of_mem _ ?_)), ?_⟩
        exact List.forall_mem_append.mpr ⟨same_ne ((u2 o).trans hem) (fun p hp => Ne.symm (hes p hp pp (by repeat (first | exact List.mem_cons_self | refine List.mem_cons_of_mem _ ?_)))), ho3⟩
      case a1 => exact hcx _ (by repeat (first | exact List.mem_cons_self | refine List.mem_cons_of_mem _ ?_ | refine List.mem_append_right _ ?_))
      case a2 => exact hcx _ (by repeat (first | exact List.mem_cons_self | refine List.mem_cons_of_mem _ ?_ | refine List.mem_append_right _ ?_))
      case a3 => exact hcx _ (by repeat (first | exact List.mem_cons_self | refine List.mem_cons_of_mem _ ?_ | refine List.mem_append_right _ ?_))
      case a4 => exact hcx _ (by repeat (first | exact List.mem_cons_self | refine List.mem_cons_of_mem _ ?_ | refine List.mem_append_right _ ?_))
      case k =>
        intro tp h5 tk5 F5 N5 hp5
        k_steps
        rename Fr _ _ _ _ => lF'; rename News _ _ _ _ => lN'
        refine lp_end (CS.mk (d.pv.set (iAt c.B.nodes (↑c.B.nodes.length - 1 - ↑i)).toNat (.int (upOf c (iAt c.B.nodes (↑c.B.nodes.length - 1 - ↑i - 1))) tp)) (d.par.set (iAt c.B.nodes (↑c.B.nodes.length - 1 - ↑i)).toNat (upOf c (iAt c.B.nodes (↑c.B.nodes.length - 1 - ↑i - 1)))) (g (listOf (vs ++ [Value.int (iAt c.B.nodes (↑c.B.nodes.length - 1 - ↑i)) _]).toArray (e + 1))) (d.kids.set (upOf c (iAt c.B.nodes (↑c.B.nodes.length - 1 - ↑i - 1))).toNat (ns ++ [iAt c.B.nodes (↑c.B.nodes.length - 1 - ↑i)])))
          lF' lN' (fun p hp => List.mem_append_left own hp) (fun p hp => by repeat (first | exact List.mem_append_right _ hp | refine List.mem_cons_of_mem _ ?_)) ?off (by nofun) (by kst_same) (hP.next bok rfl (by omega) hp5 k3 k2 u2 u3)
        case off =>
          refine own_same ?_ hoff
          repeat refine map_cons ?_
          exact u2 _
    case done =>
      clear lF' lN' rgX
      intro d u h tk hP F1 N1
      rename_i cutDx1 cutDx2 cutDx3 cutDx4 cutDx5 cutDx6 cutDx7 cutDx8 cutDx9 cutDx10 cutDx11 cutDx12 cutDx13
      revert wW cutBx2 cutBx3 cutBx4 cutBx5 cutBx6 cutBx7 cutBx8 cutBx9 cutBx10 cutBx11 cutBx12 cutBx13 cutBx14 cutBx15 cutBx16 cutBx17 cutBx18 cutBx19 cutBx20 cutBx21 cutBx22 cutBx23 cutBx24 cutBx25 cutBx26 cutBx27 cutBx28 cutBx29 cutBx30 cutBx31 cutBx32 cutBx33 cutBx34 cutBx35 cutBx36 cutBx37 cutBx38 cutBx39 cutBx40 cutBx41 cutBx42 cutBx43 cutBx44 cutBx45 cutBx46 hd0 tkh cutBx47 cutBx48 cutBx49 cutBx50 pool pvs pe cutBx51 cutBx52 hpl hpool cutBx53 cutBx54 cutBx55 d0 cutBx56 od0 lo0 cutBx57 cutBx58 cutBx59 cutBx60 b bd st std fm fmd t td kk ss nn ta tx pp cc co c0 it0 fi0 er0 esf eff ebf et ne nf nb nt n1 n2 n3 n4 n5 n6 n7 md tmd kv sv nv av tv pv cv oc h1 tk1 D1 D2 D3 D4 p1 p2 p3 p4 z1 z2 z3 ord l0 lo od1 od2 od3 od4 od5 od6 od7 o1 o2 o3 o4 o5 o6 o7 o8 o9 cutBx61 cutBx62 tp tvs cutBx63 cutBx64 htp ymd ytk hymd h2 tk2 cutBx65 wa cutBx66 cutBx67 cutBx68 tr1 m1 m2 m3 m4 m5 m6 m7 kv1 sv1 nv1 av1 tv1 pv1 cv1 oc1 es1 h3 tk3 tr2 q1 q2 q3 q4 q5 q6 q7 kv2 sv2 nv2 av2 tv2 pv2 cv2 oc2 es2 h4 tk4 na cutBx69 cutBx70 cutBx71 aa cutBx72 cutBx73 cutCx1 h9 tk9 t1 u1 v1 hw0 hn0 ha0 w1 w2 w3 hq0 fm0 fm1 c cutDx1 cutDx2 cutDx3 cutDx4 cutDx5 c1 c2 c3 c4 c5 c6 e1 e2 e3 hes hco lw ln la hst hpp1 hpp2 n9 bok hLO y1 y2 y3 y4 y5 cutDx6 cutDx7 cutDx8 cutDx9 cutDx10 cutDx11 cutDx12 cutDx13 d u h tk hP F1 N1
      exact packP_of hT⟩
set_option maxHeartbeats 0 in
noncomputable def packD : PSigma (fun T : Prop => packP T → packC.1) :=
  ⟨_, fun hT => by
    k_with_none
    k_with "om" => first | assumption | exact Nat.le_trans (by assumption) (Nat.le_of_ble_eq_true rfl) | exact Nat.lt_of_le_of_lt (by assumption) (Nat.le_of_ble_eq_true rfl) | decide | omega
    k_with "k_get" => (first | k_extra "getd" | with_reducible assumption | with_reducible_and_instances exact Dct.get (by assumption) (by k_mem) | exact Dct.get (by assumption) (by k_mem))
    k_with "k_upd" => first | assumption | k_extra "upd" | (refine' Upd.head ?a; (case a => k_all)) | (refine' Upd.tail ?a ?b; (case a => k_ne); (case b => k_upd))
    k_with "exec While" => refine held_of ?_
    k_with "call builtin:len" => (k_here; (with_reducible show wpAny _ _ (call (Value.builtin "len") [Value.ref _]) _ _ _); k_dflt (refine' led_len ?k1 ?k2 ?k3 ?k4 ?_; (case k1 => k_asm); (case k2 => k_mem); (case k3 => first | exact IntsAre.length (by assumption) | exact PyProof.Rows.StrsAre.length (by assumption) | assumption); (case k4 => walk_at "om"); k_whole); intro _ _)
    k_with "subs9" => (k_here; (with_reducible show wpAny _ _ (subscriptTail _ _ (Value.ref _) (Value.int _ _)) _ _ _); k_dflt (first | (refine' led_int ?k1 ?k2 ?k3 ?k4 ?k5 ?k6 ?_ ?k7; (case k1 => k_asm); (case k2 => k_mem); (case k3 => assumption); (case k4 => first | omega | k_extra "bnd"); (case k5 => first | omega | k_extra "bnd"); (case k6 => omega); (case k7 => with_unfolding_all rfl); k_whole; intro _ _; (try k_extra "fact")) | (refine' led_str ?k1 ?k2 ?k3 ?k4 ?k5 ?k6 ?_ ?k7; (case k1 => k_asm); (case k2 => k_mem); (case k3 => assumption); (case k4 => first | omega | k_extra "bnd"); (case k5 => first | omega | k_extra "bnd"); (case k6 => omega); (case k7 => with_unfolding_all rfl); k_whole; intro _)))
    k_with "subscriptTail" => walk_at "subs9"
    k_with "subscriptTail Name Name ref int" => walk_at "subs9"
    k_with "subscriptTail Attribute Name ref int" => walk_at "subs9"
    k_with "compareOp In int ref" => (k_here; k_dflt (refine' led_in ?k1 ?k2 ?k3 ?_; (case k1 => k_asm); (case k2 => k_mem); (case k3 => assumption); k_whole))
    k_with "compareOp NotIn int ref" => (k_here; k_dflt (refine' led_notin ?k1 ?k2 ?k3 ?_; (case k1 => k_asm); (case k2 => k_mem); (case k3 => assumption); k_whole))
    k_with "compareOp In str ref" => (k_here; k_dflt (first | (refine' led_in_str ?k1 ?k2 ?k3 ?_; (case k1 => k_asm); (case k2 => walk_at "memR"); (case k3 => with_reducible assumption); k_whole) | (refine' led_in_tup ?k1 ?k2 ?k3 ?_; (case k1 => k_asm); (case k2 => walk_at "memR"); (case k3 => with_reducible assumption); k_whole) | (refine' led_in_tup ?k1 ?k2 ?k3 ?_; (case k1 => k_asm); (case k2 => k_mem); (case k3 => with_reducible assumption); k_whole) | (refine' led_in_str ?k1 ?k2 ?k3 ?_; (case k1 => k_asm); (case k2 => k_mem); (case k3 => with_reducible assumption); k_whole)))
    k_with "compareOp NotIn str ref" => (k_here; k_dflt (first | (refine' led_notin_str ?k1 ?k2 ?k3 ?_; (case k1 => k_asm); (case k2 => walk_at "memR"); (case k3 => with_reducible assumption); k_whole) | (refine' led_notin_tup ?k1 ?k2 ?k3 ?_; (case k1 => k_asm); (case k2 => walk_at "memR"); (case k3 => with_reducible assumption); k_whole) | (refine' led_notin_tup ?k1 ?k2 ?k3 ?_; (case k1 => k_asm); (case k2 => k_mem); (case k3 => with_reducible assumption); k_whole) | (refine' led_notin_str ?k1 ?k2 ?k3 ?_; (case k1 => k_asm); (case k2 => k_mem); (case k3 => with_reducible assumption); k_whole)))
    k_with "eval Tuple" => (k_here; k_dflt (refine' tup_lit ?k1 ?k2 ?k3 ?k4 ?_; (case k1 => exact rfl); (case k2 => exact Nat.le_of_ble_eq_true rfl); (case k3 => k_asm); (case k4 => k_asm); k_whole); intro _ _ _ _ _ _ _ _)
    k_with "call builtin:list.index" => (k_here; (with_reducible show wpAny _ _ (call (Value.builtin _) [Value.ref _, Value.int _ _]) _ _ _); k_dflt (refine' led_index ?k1 ?k2 ?k3 ?k4 ?k5 ?_; (case k1 => k_asm); (case k2 => k_mem); (case k3 => assumption); (case k4 => assumption); (case k5 => omega); k_whole))
    k_with "pyIter ref" => refine held_of ?_
    k_with "InvEndN" => k_extra "InvEndN"
    k_with "k_steps" => repeat' (first | (k_unfold; (try dsimp only)) | (k_end; fail_if_success skip) | walk1 | (dsimp only; walk1) | fail "no step")
    k_with "kst_same" => (intro z h1 h2 h3; (try simp only [List.contains_cons, List.contains_nil, Bool.or_false, Bool.or_eq_false_iff, beq_eq_false_iff_ne, ne_eq] at h3); (simp [h1, h3, kstB]; done))
    k_with "ktr_enter" => first | (refine' code_def ?k1 ?k2 ?k3 ?k4 ?k5 ?kA ?kF ?kK ?k6 ?k7 ?k8 ?k9 ?kB ?_ ?c2 ?c3 ?c4 ?c5; (case kA => exact rfl); (case kF => exact rfl); (case kK => assumption); (case k1 => k_asm); (case k2 => k_asm); (case k3 => k_asm); (case k4 => k_asm); (case k5 => k_asm); (case k6 => k_is); (case k7 => k_is); (case k8 => ktr_room); (case k9 => first | exact BindsTo.of_eq rfl | exact binds_K (by k_in) rfl (by k_is) rfl rfl rfl); (case c5 => decide); (case kB => exact locs rfl); (case c2 => exact rfl); (case c3 => exact rfl); (case c4 => exact rfl); k_whole; walk_at "tl1") | (refine' code_defC ?k1 ?k2 ?k3 ?k4 ?k5 ?kA ?kF ?kK ?k6 ?k7 ?k8 ?k9 ?kB ?kD ?_ ?c2 ?c3 ?c4; (case kA => exact rfl); (case kF => exact rfl); (case kK => assumption); (case k1 => k_asm); (case k2 => k_asm); (case k3 => k_asm); (case k4 => k_asm); (case k5 => k_asm); (case k6 => k_is); (case k7 => k_is); (case k8 => ktr_room); (case k9 => first | exact BindsTo.of_eq rfl | exact binds_K (by k_in) rfl (by k_is) rfl rfl rfl); (case kB => exact rfl); (case kD => decide +kernel); (case c2 => exact rfl); (case c3 => exact rfl); (case c4 => exact rfl); k_whole; walk_at "tl2")
    k_with "call ref" => (k_here; (with_reducible show wpAny _ _ (call (Value.ref 502) _) _ _ _); k_dflt (refine' digit_c ?B ?F ?X ?N ?T ?hk ?hd ?hu ?h1 ?h2 ?hz ?h0 ?p1 ?_; (case B => k_asm); (case F => k_asm); (case X => k_asm); (case N => k_asm); (case T => k_asm); (case hk => first | exact rfl | assumption); (case hd => ktr_room); (case hu => first | ktr_units | exact Nat.le_of_ble_eq_true rfl); (case h1 => assumption); (case h2 => assumption); (case hz => omega); (case h0 => omega); (case p1 => omega); k_whole); intro _ _ _ _ _ _)
    k_with "call ref" => (k_here; (with_reducible show wpAny _ _ (call (Value.ref 509) _) _ _ _); k_dflt (refine' pool_c ?B ?F ?X ?N ?T ?hk ?hd ?hu ?_; (case B => k_asm); (case F => k_asm); (case X => k_asm); (case N => k_asm); (case T => k_asm); (case hk => first | exact rfl | assumption); (case hd => ktr_room); (case hu => first | ktr_units | exact Nat.le_of_ble_eq_true rfl); k_whole); intro _ _ _ _ _ _ _ _ _)
    k_with "call ref" => (k_here; (first | (with_reducible show wpAny _ _ (call (Value.ref 491) _) _ _ _) | (with_reducible show wpAny _ _ (call (Value.ref 453) _) _ _ _) | (with_reducible show wpAny _ _ (call (Value.ref 332) _) _ _ _) | (with_reducible show wpAny _ _ (call (Value.ref 368) _) _ _ _) | (with_reducible show wpAny _ _ (call (Value.ref 545) _) _ _ _)); refine held_of ?_)
    k_with "subscriptTail" => (k_here; (with_reducible show wpAny _ _ (subscriptTail _ _ (Value.ref _) (Value.int _ _)) _ _ _); k_dflt (refine' led_menu ?k1 ?k2 ?k3 ?k4 ?k5 ?k6 ?_ ?k7; (case k1 => k_asm); (case k2 => walk_at "memR"); (case k3 => with_reducible assumption); (case k4 => first | exact Int.fmod_nonneg_of_pos _ (by decide) | omega); (case k5 => k_extra "menu"); (case k6 => exact Nat.le_of_ble_eq_true rfl); (case k7 => with_unfolding_all rfl); k_whole); intro _ _ _)
    k_with "subscriptTail Tuple BinOp ref int" => (k_here; (with_reducible show wpAny _ _ (subscriptTail _ _ (Value.ref _) (Value.int _ _)) _ _ _); k_dflt (refine' led_menu ?k1 ?k2 ?k3 ?k4 ?k5 ?k6 ?_ ?k7; (case k1 => k_asm); (case k2 => walk_at "memR"); (case k3 => with_reducible assumption); (case k4 => first | exact Int.fmod_nonneg_of_pos _ (by decide) | omega); (case k5 => k_extra "menu"); (case k6 => exact Nat.le_of_ble_eq_true rfl); (case k7 => with_unfolding_all rfl); k_whole); intro _ _ _)
    k_with "subscriptTail Name BinOp ref int" => (k_here; (with_reducible show wpAny _ _ (subscriptTail _ _ (Value.ref _) (Value.int _ _)) _ _ _); k_dflt (refine' led_pool ?k1 ?k2 ?k3 ?k4 ?k5 ?_ ?k7; (case k1 => k_asm); (case k2 => walk_at "memR"); (case k3 => with_reducible assumption); (case k4 => first | exact Int.fmod_nonneg_of_pos _ (by decide) | omega); (case k5 => k_extra "menu"); (case k7 => with_unfolding_all rfl); k_whole); intro _ _ _ _)
    k_with "setAttr ref" => (k_here; k_dflt (refine' set_dict ?k1 ?k2 ?k3 ?k4 ?k5 ?k6 ?k7 ?k8 ?k9 ?k10 ?k11 ?k12 ?k13 ?_; (case k1 => k_asm); (case k2 => k_asm); (case k3 => k_asm); (case k4 => k_inst); (case k5 => exact rfl); (case k6 => k_is); (case k7 => k_is); (case k8 => k_is); (case k9 => k_is); (case k10 => k_extra "get9"); (case k11 => k_extra "put9"); (case k12 => k_upd); (case k13 => k_extra "len9"); k_whole); walk_at "tl6")
    k_with "call builtin:len" => (k_here; (with_reducible show wpAny _ _ (call (Value.builtin "len") [Value.ref _]) _ _ _); k_dflt (refine' led_len34 ?k1 ?k2 ?k3 ?_; (case k1 => k_asm); (case k2 => walk_at "memR"); (case k3 => with_reducible assumption); k_whole); intro _ _)
    k_with "call builtin:str.split" => (k_here; k_dflt (refine' led_split ?hp ?F ?N ?_; (case hp => first | with_reducible assumption | exact pairs_sub (by with_reducible assumption)); (case F => k_asm); (case N => k_asm); k_whole); walk_at "tl7")
    k_with "assign Tuple" => (k_here; (with_reducible show wpAny _ _ (assign (Expr.Tuple _ _ _) _ (Value.ref _)) _ _ _); k_dflt (refine' kun_list ?k1 ?k2 ?k3 ?k4 ?k5 ?k6 ?_; (case k1 => k_asm); (case k2 => k_asm); (case k3 => exact News.isList (by k_asm) (by walk_at "memR")); (case k4 => exact rfl); (case k5 => exact rfl); (case k6 => exact rfl); k_whole); walk_at "tl6")
    k_with "call builtin:list.append" => (k_here; (with_reducible show wpAny _ _ (call (Value.builtin _) [Value.ref _, _]) _ _ _); k_dflt (refine' led_push ?k1 ?k2 ?k3 ?z ?_; (case k1 => k_asm); (case k2 => k_asm); (case k3 => k_upd); (case z => first | omega | (simp only [List.length_append, List.length_cons, List.length_nil]; omega)); k_whole); walk_at "tl6")
    k_with "newTuple" => (k_here; k_dflt (refine' led_tuple ?k1 ?k2 ?z ?_; (case k1 => k_asm); (case k2 => k_asm); (case z => exact Nat.le_of_ble_eq_true rfl); k_whole); walk_at "tl8")
    k_with "call builtin:dict.get" => (k_here; k_dflt (refine' co_get ?N ?hm ?lo ?hc ?_; (case N => k_asm); (case hm => walk_at "memR"); (case lo => with_reducible assumption); (case hc => with_reducible assumption); k_whole); intro _ _)
    k_with "getMethod ref" => k_extra "meth"
    k_with "getMethod ref" => (k_here; (with_reducible show wpAny _ _ (getMethod (Value.ref _) (Str.ofString "get") _) _ _ _); k_dflt (refine' co_method ?N ?hm ?lo ?hc ?_; (case N => k_asm); (case hm => walk_at "memR"); (case lo => with_reducible assumption); (case hc => with_reducible assumption); k_whole))
    k_with "exec If" => k_extra "heldIf"
    k_with "exec Assign cons ListComp" => (k_here; k_dflt (refine LCg.Assign_ListComp_U (F₀ := by k_asm) (by rfl) (by with_unfolding_all rfl) (by with_unfolding_all rfl) (by decide) (by rfl) (by decide) (by rfl) (by rfl) (by rfl) ?_); k_dflt (repeat (first | (with_reducible refine compG_held ?_) | walk1 | (dsimp only; walk1))))
    k_with "subscriptTail Call Attribute cons nil Constant ref int" => (k_here; (with_reducible show wpAny _ _ (subscriptTail _ _ (Value.ref _) (Value.int 1 _)) _ _ _); k_dflt (refine' led_second ?k1 ?k2 ?_ ?k7; (case k1 => k_asm); (case k2 => walk_at "memR"); (case k7 => with_unfolding_all rfl); k_whole))
    k_with "subscriptTail Name Slice ref ref" => (k_here; k_dflt (first | (refine' all_ints ?F ?N ?m ?i  ?z ?_ ?s ?t; (case F => k_asm); (case N => k_asm); (case m => k_mem); (case i => with_reducible assumption); (case z => walk_at "om"); (case s => with_unfolding_all rfl); (case t => kmk_pure); k_whole) | (refine' all_strs ?F ?N ?m ?i  ?z ?_ ?s ?t; (case F => k_asm); (case N => k_asm); (case m => k_mem); (case i => with_reducible assumption); (case z => walk_at "om"); (case s => with_unfolding_all rfl); (case t => kmk_pure); k_whole)); walk_at "tl3")
    k_with "eval IfExp" => k_extra "heldIE"
    k_with "subscriptTail Name BinOp ref int" => (k_here; (with_reducible show wpAny _ _ (subscriptTail _ _ (Value.ref _) (Value.int _ _)) _ _ _); k_dflt (refine' led_word ?k1 ?k2 ?k3 ?kw ?k4 ?k5 ?k6 ?_ ?k7; (case kw => k_extra "word"); (case k1 => k_asm); (case k2 => k_extra "memw"); (case k3 => with_reducible assumption); (case k4 => omega); (case k5 => omega); (case k6 => omega); (case k7 => with_unfolding_all rfl); k_whole); intro _ _ _)
    k_with "call ref" => (k_here; (with_reducible show wpAny _ _ (call (Value.ref 545) _) _ _ _); k_extra "found")
    k_with "UnrEndW" => k_extra "unrEnd"
    k_with "compareOp Eq ref ref" => k_extra "eqEnd"
    k_with "subscriptTail Attribute Name Slice ref ref" => (k_here; k_dflt (refine kba_turn (value' := PySem.Expr.Name (PySem.Str.ofString "_") ⟨0, 0, 0, 0⟩) (fun _ => rfl) ?_))
    intro wW cutBx2 cutBx3 cutBx4 cutBx5 cutBx6 cutBx7 cutBx8 cutBx9 cutBx10 cutBx11 cutBx12 cutBx13 cutBx14 cutBx15 cutBx16 cutBx17 cutBx18 cutBx19 cutBx20 cutBx21 cutBx22 cutBx23 cutBx24 cutBx25 cutBx26 cutBx27 cutBx28 cutBx29 cutBx30 cutBx31 cutBx32 cutBx33 cutBx34 cutBx35 cutBx36 cutBx37 cutBx38 cutBx39 cutBx40 cutBx41 cutBx42 cutBx43 cutBx44 cutBx45 cutBx46 hd0 tkh cutBx47 cutBx48 cutBx49 cutBx50 pool pvs pe cutBx51 cutBx52 hpl hpool cutBx53 cutBx54 cutBx55 d0 cutBx56 od0 lo0 cutBx57 cutBx58 cutBx59 cutBx60 b bd st std fm fmd t td kk ss nn ta tx pp cc co c0 it0 fi0 er0 esf eff ebf et ne nf nb nt n1 n2 n3 n4 n5 n6 n7 md tmd kv sv nv av tv pv cv oc h1 tk1 D1 D2 D3 D4 p1 p2 p3 p4 z1 z2 z3 ord l0 lo od1 od2 od3 od4 od5 od6 od7 o1 o2 o3 o4 o5 o6 o7 o8 o9 cutBx61 cutBx62 tp tvs cutBx63 cutBx64 htp ymd ytk hymd h2 tk2 cutBx65 wa cutBx66 cutBx67 cutBx68 tr1 m1 m2 m3 m4 m5 m6 m7 kv1 sv1 nv1 av1 tv1 pv1 cv1 oc1 es1 h3 tk3 tr2 q1 q2 q3 q4 q5 q6 q7 kv2 sv2 nv2 av2 tv2 pv2 cv2 oc2 es2 h4 tk4 na cutBx69 cutBx70 cutBx71 aa cutBx72 cutBx73 cutCx1 h9 tk9 t1 u1 v1 hw0 hn0 ha0 w1 w2 w3 hq0 fm0 fm1 c cutDx1 cutDx2 cutDx3 cutDx4 cutDx5 c1 c2 c3 c4 c5 c6 e1 e2 e3 hes hco lw ln la hst hpp1 hpp2 n9 bok hLO y1 y2 y3 y4 y5 cutDx6 cutDx7 cutDx8 cutDx9 cutDx10 cutDx11 cutDx12 cutDx13 d u h tk hP F1 N1
    k_with "menu" =>
      first
      | exact (Int.fmod_lt_of_pos _ (by decide) : Int.fmod _ 2 < 2)
      | exact (Int.fmod_lt_of_pos _ (by decide) : Int.fmod _ 12 < 12)
      | exact (Int.fmod_lt_of_pos _ (by decide) : Int.fmod _ 34 < 34)
      | exact Int.lt_trans (Int.fmod_lt_of_pos _ (by decide) : Int.fmod _ 12 < 12) (by decide)
    k_with "get9" =>
      (rw [(D3 _ _ _).get (List.Mem.tail _ (List.Mem.tail _ (List.Mem.tail _ (List.Mem.tail _ (List.Mem.head _)))))]; rfl)
    k_with "put9" =>
      exact p4 _ _ _ _ _
    k_with "len9" =>
      exact z3 _ _
    k_with "getd" =>
      first | exact (D1 _).get (by k_mem) | exact (D2 _).get (by k_mem) | exact (D3 _ _ _).get (by k_mem) | exact D4.get (by k_mem)
    k_with "meth" =>
      (k_here; k_dflt (refine' method_inst ?k1 ?k2 ?k3 ?k4 ?k5 ?k6 ?k7 ?_; (case k1 => k_asm); (case k2 => k_asm); (case k3 => k_inst); (case k4 => k_is); (case k5 => k_is); (case k6 => k_is); (case k7 => k_get); k_whole))
    simp only [kstB] at F1
    replace F1 : Fr _ (Array.size _) _ _ := F1
    replace N1 : News _ (Array.size _) _ _ := N1
    rw [← List.append_nil d.es] at N1
    k_steps
    rename Fr _ _ _ _ => lF'; rename News _ _ _ _ => lN'
    obtain ⟨g3, g4, g5, g6⟩ := hP.root bok
    have hkl := hP.kl
    have hpl := hP.pl
    have hem := hP.em
    obtain ⟨cx, vs, e, ns, k1, k2, k3, k4, g, u1, u2, u3⟩ := hP.k.upd (0 : Int).toNat (by rw [hem]; exact c5) (by omega)
    have hcx : ∀ y ∈ [wa, na, aa, t, td, kk, ss, nn, ta, tx, pp, cc, co, std, fmd, bd, st, fm, b, pool], y ≠ cx := same_mem (P := fun a => ∀ y ∈ [wa, na, aa, t, td, kk, ss, nn, ta, tx, pp, cc, co, std, fmd, bd, st, fm, b, pool], y ≠ a) (p := (cx, _)) hem hes k4
    have ho2 : ∀ p ∈ ([] : List (Addr × Obj)), p.1 ≠ cx := List.forall_mem_nil _
    have ho3 : ∀ p ∈ ([] : List (Addr × Obj)), p.1 ≠ pp := List.forall_mem_nil _
    have hns := hP.small ns (List.mem_of_getElem? k2)
    refine held_go ?_
    refine' append_c (p := (0 : Int)) (x := iAt c.B.nodes 0) (parents := d.par) (ns := ns) (L1 := fun o => (wa, listOf c.wv.toArray c.nw) :: (na, listOf c.nvv.toArray c.nn) :: (aa, listOf c.avv.toArray c.na) :: (t, instObj 413 td) :: (td, dictOf et nt) :: (kk, listOf c.kv.toArray c.n1) :: (ss, listOf c.sv.toArray c.n2) :: (nn, listOf c.nv.toArray c.n3) :: (ta, listOf c.av.toArray c.n4) :: (tx, listOf c.tv.toArray c.n5) :: (pp, listOf d.pv.toArray c.n6) :: (cc, listOf c.cv.toArray c.n7) :: (co, c.oc) :: (std, dictOf (esf it0) ne) :: (fmd, dictOf (eff fi0) nf) :: (bd, dictOf (ebf (.str ymd ytk) er0) nb) :: (st, instObj 136 std) :: (fm, instObj 296 fmd) :: (b, instObj 491 bd) :: (pool, listOf pvs.toArray pe) :: (g o ++ []))
      (L2 := fun o o9 => (wa, listOf c.wv.toArray c.nw) :: (na, listOf c.nvv.toArray c.nn) :: (aa, listOf c.avv.toArray c.na) :: (t, instObj 413 td) :: (td, dictOf et nt) :: (kk, listOf c.kv.toArray c.n1) :: (ss, listOf c.sv.toArray c.n2) :: (nn, listOf c.nv.toArray c.n3) :: (ta, listOf c.av.toArray c.n4) :: (tx, listOf c.tv.toArray c.n5) :: (pp, o9) :: (cc, listOf c.cv.toArray c.n7) :: (co, c.oc) :: (std, dictOf (esf it0) ne) :: (fmd, dictOf (eff fi0) nf) :: (bd, dictOf (ebf (.str ymd ytk) er0) nb) :: (st, instObj 136 std) :: (fm, instObj 296 fmd) :: (b, instObj 491 bd) :: (pool, listOf pvs.toArray pe) :: (g o ++ []))
      ?A1 lF' ?A2 lN' ?A3 ?A4 ?A5 ?A6 ?B1 ?B2 D4 ?B3 hP.p ?B4 ?h5 k1 k3 ?U ?U2 ?a1 ?a2 ?a3 ?a4 ?C1 ?C2 (Int.le_refl _) ?C3 g3 ?C4 ?C5 g6 ?C6 ?k
    (case A1 => k_asm)
    (case A2 => k_asm)
    (case A3 => k_asm)
    (case A4 => first | exact rfl | assumption)
    (case A5 => ktr_room)
    (case A6 => exact Nat.le_of_ble_eq_true rfl)
    (case B1 => walk_at "memR")
    (case B2 => walk_at "memR")
    (case B3 => walk_at "memR")
    (case B4 => walk_at "memR")
    (case C1 => omega)
    (case C2 => omega)
    (case C3 => omega)
    (case C4 => omega)
    (case C5 => omega)
    (case C6 => omega)
    case h5 => repeat (first | exact List.mem_append_left _ k4 | refine List.mem_cons_of_mem _ ?_)
    case U =>
      intro o
      repeat refine Upd.tail (hcx _ (by repeat (first | exact List.mem_cons_self | refine List.mem_cons_of_mem _ ?_))) ?_
      exact upd_app (u1 o) ho2
    case U2 =>
      intro o o9
      repeat refine Upd.tail (hpp1 _ (by repeat (first | exact List.mem_cons_self | refine List.mem_cons_of_mem _ ?_))) ?_
      refine .head ?_
      repeat refine List.forall_mem_cons.mpr ⟨hpp2 _ (by repeat (first | exact List.mem_cons_self | refine List.mem_cons_of_mem _ ?_)), ?_⟩
      exact List.forall_mem_append.mpr ⟨same_ne ((u2 o).trans hem) (fun p hp => Ne.symm (hes p hp pp (by repeat (first | exact List.mem_cons_self | refine List.mem_cons_of_mem _ ?_)))), ho3⟩
    case a1 => exact hcx _ (by repeat (first | exact List.mem_cons_self | refine List.mem_cons_of_mem _ ?_ | refine List.mem_append_right _ ?_))
    case a2 => exact hcx _ (by repeat (first | exact List.mem_cons_self | refine List.mem_cons_of_mem _ ?_ | refine List.mem_append_right _ ?_))
    case a3 => exact hcx _ (by repeat (first | exact List.mem_cons_self | refine List.mem_cons_of_mem _ ?_ | refine List.mem_append_right _ ?_))
    case a4 => exact hcx _ (by repeat (first | exact List.mem_cons_self | refine List.mem_cons_of_mem _ ?_ | refine List.mem_append_right _ ?_))
    case k =>
      intro tp h5 tk5 F5 N5 hp5
      obtain ⟨d2, hD, N6⟩ : ∃ d2 : CS, COk c (c.B.nodes.length - 1 + 1) d2 ∧ News _ _ h5 ((wa, listOf c.wv.toArray c.nw) :: (na, listOf c.nvv.toArray c.nn) :: (aa, listOf c.avv.toArray c.na) :: (t, instObj 413 td) :: (td, dictOf et nt) :: (kk, listOf c.kv.toArray c.n1) :: (ss, listOf c.sv.toArray c.n2) :: (nn, listOf c.nv.toArray c.n3) :: (ta, listOf c.av.toArray c.n4) :: (tx, listOf c.tv.toArray c.n5) :: (pp, listOf d2.pv.toArray c.n6) :: (cc, listOf c.cv.toArray c.n7) :: (co, c.oc) :: (std, dictOf (esf it0) ne) :: (fmd, dictOf (eff fi0) nf) :: (bd, dictOf (ebf (.str ymd ytk) er0) nb) :: (st, instObj 136 std) :: (fm, instObj 296 fmd) :: (b, instObj 491 bd) :: (pool, listOf pvs.toArray pe) :: d2.es) :=
        ⟨CS.mk _ _ _ _, hP.next bok (k := 0) (by omega) (by omega) hp5 k3 k2 u2 u3, by rw [List.append_nil] at N5; exact N5⟩
      replace N6 : News _ (Array.size _) _ _ := N6
      clear N5 hp5 hP hst u3 u2 u1 k4 k3 k2 k1 hcx ho2 ho3 hns g6 g5 g4 g3 hem hpl hkl
      have mk9 : heldP True := heldP_go trivial
      k_with "heldIf" =>
        (rename heldP True => mk9; clear mk9; refine held_of ?_)
      k_steps
      rename Fr _ _ _ _ => lF'; rename News _ _ _ _ => lN'
      refine held_go (mono_flip (Str.ofString "active") c.B.active lF' lN' ?_ ?_)
      · k_steps
        · rename Fr _ _ _ _ => lF'; rename News _ _ _ _ => lN'; rename IntsAre _ (List.reverse _) => hI9
          exact ⟨_, _, _, _, _, _, rfl, rfl, hI9, .inr rfl, lF', lN'⟩
        · rename Fr _ _ _ _ => lF'; rename News _ _ _ _ => lN'
          exact ⟨aa, _, _, c.B.active, _, _, rfl, rfl, c3, .inl rfl, fr_same lF' (by rfl), fun p hp => lN' p (by rcases List.mem_cons.mp hp with e | hp; (rw [e]; walk_at "memR"); exact hp)⟩
      · clear lF' lN'
        intro ax bv nbx ac h6 tk6 hbv hac F7 N7
        k_steps
        rename Fr _ _ _ _ => lF'; rename News _ _ _ _ => lN'
        refine heldP_go (LCg.CompSrc.ledger rfl lF' lN' (by walk_at "memR") (by have := hD.k.len; have := hD.kl; rw [sizeLine_eq, List.size_toArray]; walk_at "om") ?_)
        intro g'
        refine rest_kids (hD.k) ?hin ?step ?fin _ 0 [] [] _ (by rw [Nat.zero_add, List.size_toArray]; exact hD.k.len) .nil (fun p hp => hp) (List.forall_mem_nil _)
        case hin => intro p hp; repeat (first | exact hp | refine List.mem_cons_of_mem _ ?_)
        case step =>
          clear lF' lN'
          intro cx vs e ns I oI C oC D ys m₂ h8 tk8 E' news' hv hns hsub hcx hC hx F1 N1 off ne3
          have hnl := hD.small ns hns
          k_steps
          rename Fr _ _ _ _ => kF; rename News _ _ _ _ => kN
          exact comp_one kF kN (by assumption) off (.inr ⟨_, .tail _ (hsub (cc, listOf c.cv.toArray c.n7) (by repeat (first | exact List.mem_cons_self | refine List.mem_cons_of_mem _ ?_))), rfl, _, rfl⟩) ⟨_, _, _, rfl, rfl, by assumption⟩
        case fin =>
          intro ys es2 news' hK2 hs1 hs2 chD h9 tk9 F9 N9 off9
          have N10 := News.perm N9 (show ∀ p ∈ ((chD, listOf ys.toArray ys.length) :: (ax, listOf bv.toArray nbx) :: (wa, listOf c.wv.toArray c.nw) :: (na, listOf c.nvv.toArray c.nn) :: (aa, listOf c.avv.toArray c.na) :: (t, instObj 413 td) :: (td, dictOf et nt) :: (kk, listOf c.kv.toArray c.n1) :: (ss, listOf c.sv.toArray c.n2) :: (nn, listOf c.nv.toArray c.n3) :: (ta, listOf c.av.toArray c.n4) :: (tx, listOf c.tv.toArray c.n5) :: (pp, listOf d2.pv.toArray c.n6) :: (cc, listOf c.cv.toArray c.n7) :: (co, c.oc) :: (std, dictOf (esf it0) ne) :: (fmd, dictOf (eff fi0) nf) :: (bd, dictOf (ebf (.str ymd ytk) er0) nb) :: (st, instObj 136 std) :: (fm, instObj 296 fmd) :: (b, instObj 491 bd) :: (pool, listOf pvs.toArray pe) :: (d2.es ++ es2)), p ∈ (chD, LCg.lst ys) :: news' from by
            refine List.forall_mem_cons.mpr ⟨.head _, ?_⟩
            refine fun p hp => .tail _ ?_
            rcases List.mem_append.mp (show p ∈ ((ax, listOf bv.toArray nbx) :: (wa, listOf c.wv.toArray c.nw) :: (na, listOf c.nvv.toArray c.nn) :: (aa, listOf c.avv.toArray c.na) :: (t, instObj 413 td) :: (td, dictOf et nt) :: (kk, listOf c.kv.toArray c.n1) :: (ss, listOf c.sv.toArray c.n2) :: (nn, listOf c.nv.toArray c.n3) :: (ta, listOf c.av.toArray c.n4) :: (tx, listOf c.tv.toArray c.n5) :: (pp, listOf d2.pv.toArray c.n6) :: (cc, listOf c.cv.toArray c.n7) :: (co, c.oc) :: (std, dictOf (esf it0) ne) :: (fmd, dictOf (eff fi0) nf) :: (bd, dictOf (ebf (.str ymd ytk) er0) nb) :: (st, instObj 136 std) :: (fm, instObj 296 fmd) :: (b, instObj 491 bd) :: (pool, listOf pvs.toArray pe) :: d2.es) ++ es2 from hp) with hp | hp
            · exact hs1 p (.tail _ hp)
            · exact hs2 p hp)
          clear N9 lF' lN' hs1 hs2 off9
          have u1 := hD.p
          have u2 := c4.n
          have u3 := c4.s
          have u4 := c4.k
          have u5 := hD.pl
          have u6 := bok.ln
          have u7 := bok.ls
          k_steps
          rename_i ap aus _ hau al8 al9 an2 anus _ hanu _ _ as2 asus _ hasu _ _ ak akus _ haku _ _ tl _ tl8 _ _ _ _ _ _ _ _ t1x u1x v1x rgX F8 N8 kp8
          rename Str × Str => pt; rename pt ∈ pairsL => hpt
          have hbs := block_apart ord (hq0 std (by repeat (first | exact List.mem_cons_self | refine List.mem_cons_of_mem _ ?_ | refine List.mem_append_right _ ?_)))
          have hbf := block_apart ord (hq0 fmd (by repeat (first | exact List.mem_cons_self | refine List.mem_cons_of_mem _ ?_ | refine List.mem_append_right _ ?_)))
          have hbb := block_apart ord (hq0 bd (by repeat (first | exact List.mem_cons_self | refine List.mem_cons_of_mem _ ?_ | refine List.mem_append_right _ ?_)))
          obtain ⟨R, N20, v1, v2, v3, r0, r1, r2, r3, r4, r5, r6, r7, r8, r9, r10, r11, r12, r13, r14, r15, r16, r17, r18, rk1, rk2⟩ : ∃ R, News (Shared.heap _) (Array.size (Heap.objs (Shared.heap _))) _ ((std, dictOf (esf it0) ne) :: (fmd, dictOf (eff fi0) nf) :: (bd, dictOf (ebf (.str ymd ytk) er0) nb) :: R) ∧ (∀ p ∈ R, p.1 ≠ std) ∧ (∀ p ∈ R, p.1 ≠ fmd) ∧ (∀ p ∈ R, p.1 ≠ bd) ∧ (st, instObj 136 std) ∈ R ∧ (fm, instObj 296 fmd) ∈ R ∧ (b, instObj 491 bd) ∈ R ∧ (t, instObj 413 td) ∈ R ∧ (td, dictOf et nt) ∈ R ∧ (ss, listOf c.sv.toArray c.n2) ∈ R ∧ (nn, listOf c.nv.toArray c.n3) ∈ R ∧ (wa, listOf c.wv.toArray c.nw) ∈ R ∧ (na, listOf c.nvv.toArray c.nn) ∈ R ∧ (ax, listOf bv.toArray nbx) ∈ R ∧ (pp, listOf d2.pv.toArray c.n6) ∈ R ∧ (kk, listOf c.kv.toArray c.n1) ∈ R ∧ (cc, listOf c.cv.toArray c.n7) ∈ R ∧ (chD, listOf ys.toArray ys.length) ∈ R ∧ (tl, listOf (List.toArray [.ref ap, .ref an2, .ref as2, .ref ak]) 0) ∈ R ∧ (ap, listOf aus.toArray 0) ∈ R ∧ (an2, listOf anus.toArray 0) ∈ R ∧ (as2, listOf asus.toArray 0) ∈ R ∧ (ak, listOf akus.toArray 0) ∈ R ∧ (∀ p ∈ d2.es, p ∈ R) ∧ ∀ p ∈ es2, p ∈ R := by
            refine ⟨(tl, listOf (List.toArray [.ref ap, .ref an2, .ref as2, .ref ak]) 0) :: (ak, listOf akus.toArray 0) :: (as2, listOf asus.toArray 0) :: (an2, listOf anus.toArray 0) :: (ap, listOf aus.toArray 0) :: (chD, listOf ys.toArray ys.length) :: (ax, listOf bv.toArray nbx) :: (wa, listOf c.wv.toArray c.nw) :: (na, listOf c.nvv.toArray c.nn) :: (aa, listOf c.avv.toArray c.na) :: (t, instObj 413 td) :: (td, dictOf et nt) :: (kk, listOf c.kv.toArray c.n1) :: (ss, listOf c.sv.toArray c.n2) :: (nn, listOf c.nv.toArray c.n3) :: (ta, listOf c.av.toArray c.n4) :: (tx, listOf c.tv.toArray c.n5) :: (pp, listOf d2.pv.toArray c.n6) :: (cc, listOf c.cv.toArray c.n7) :: (co, c.oc) :: (st, instObj 136 std) :: (fm, instObj 296 fmd) :: (b, instObj 491 bd) :: (pool, listOf pvs.toArray pe) :: (d2.es ++ es2), News.perm N8 ?pm, ?v1, ?v2, ?v3, (by repeat (first | exact List.mem_cons_self | refine List.mem_cons_of_mem _ ?_ | refine List.mem_append_right _ ?_)), (by repeat (first | exact List.mem_cons_self | refine List.mem_cons_of_mem _ ?_ | refine List.mem_append_right _ ?_)), (by repeat (first | exact List.mem_cons_self | refine List.mem_cons_of_mem _ ?_ | refine List.mem_append_right _ ?_)), (by repeat (first | exact List.mem_cons_self | refine List.mem_cons_of_mem _ ?_ | refine List.mem_append_right _ ?_)), (by repeat (first | exact List.mem_cons_self | refine List.mem_cons_of_mem _ ?_ | refine List.mem_append_right _ ?_)), (by repeat (first | exact List.mem_cons_self | refine List.mem_cons_of_mem _ ?_ | refine List.mem_append_right _ ?_)), (by repeat (first | exact List.mem_cons_self | refine List.mem_cons_of_mem _ ?_ | refine List.mem_append_right _ ?_)), (by repeat (first | exact List.mem_cons_self | refine List.mem_cons_of_mem _ ?_ | refine List.mem_append_right _ ?_)), (by repeat (first | exact List.mem_cons_self | refine List.mem_cons_of_mem _ ?_ | refine List.mem_append_right _ ?_)), (by repeat (first | exact List.mem_cons_self | refine List.mem_cons_of_mem _ ?_ | refine List.mem_append_right _ ?_)), (by repeat (first | exact List.mem_cons_self | refine List.mem_cons_of_mem _ ?_ | refine List.mem_append_right _ ?_)), (by repeat (first | exact List.mem_cons_self | refine List.mem_cons_of_mem _ ?_ | refine List.mem_append_right _ ?_)), (by repeat (first | exact List.mem_cons_self | refine List.mem_cons_of_mem _ ?_ | refine List.mem_append_right _ ?_)), (by repeat (first | exact List.mem_cons_self | refine List.mem_cons_of_mem _ ?_ | refine List.mem_append_right _ ?_)), (by repeat (first | exact List.mem_cons_self | refine List.mem_cons_of_mem _ ?_ | refine List.mem_append_right _ ?_)), (by repeat (first | exact List.mem_cons_self | refine List.mem_cons_of_mem _ ?_ | refine List.mem_append_right _ ?_)), (by repeat (first | exact List.mem_cons_self | refine List.mem_cons_of_mem _ ?_ | refine List.mem_append_right _ ?_)), (by repeat (first | exact List.mem_cons_self | refine List.mem_cons_of_mem _ ?_ | refine List.mem_append_right _ ?_)), (by repeat (first | exact List.mem_cons_self | refine List.mem_cons_of_mem _ ?_ | refine List.mem_append_right _ ?_)), ?k1, ?k2⟩
            case pm =>
              repeat refine List.forall_mem_cons.mpr ⟨(by repeat (first | exact List.mem_cons_self | refine List.mem_cons_of_mem _ ?_ | refine List.mem_append_right _ ?_)), ?_⟩
              intro p hp; repeat (first | exact hp | refine List.mem_cons_of_mem _ ?_)
            case v1 =>
              refine List.forall_mem_cons.mpr ⟨list_apart N8 (by repeat (first | exact List.mem_cons_self | refine List.mem_cons_of_mem _ ?_ | refine List.mem_append_right _ ?_)) (by repeat (first | exact List.mem_cons_self | refine List.mem_cons_of_mem _ ?_ | refine List.mem_append_right _ ?_)), ?_⟩
              refine List.forall_mem_cons.mpr ⟨list_apart N8 (by repeat (first | exact List.mem_cons_self | refine List.mem_cons_of_mem _ ?_ | refine List.mem_append_right _ ?_)) (by repeat (first | exact List.mem_cons_self | refine List.mem_cons_of_mem _ ?_ | refine List.mem_append_right _ ?_)), ?_⟩
              refine List.forall_mem_cons.mpr ⟨list_apart N8 (by repeat (first | exact List.mem_cons_self | refine List.mem_cons_of_mem _ ?_ | refine List.mem_append_right _ ?_)) (by repeat (first | exact List.mem_cons_self | refine List.mem_cons_of_mem _ ?_ | refine List.mem_append_right _ ?_)), ?_⟩
              refine List.forall_mem_cons.mpr ⟨list_apart N8 (by repeat (first | exact List.mem_cons_self | refine List.mem_cons_of_mem _ ?_ | refine List.mem_append_right _ ?_)) (by repeat (first | exact List.mem_cons_self | refine List.mem_cons_of_mem _ ?_ | refine List.mem_append_right _ ?_)), ?_⟩
              refine List.forall_mem_cons.mpr ⟨list_apart N8 (by repeat (first | exact List.mem_cons_self | refine List.mem_cons_of_mem _ ?_ | refine List.mem_append_right _ ?_)) (by repeat (first | exact List.mem_cons_self | refine List.mem_cons_of_mem _ ?_ | refine List.mem_append_right _ ?_)), ?_⟩
              refine List.forall_mem_cons.mpr ⟨list_apart N8 (by repeat (first | exact List.mem_cons_self | refine List.mem_cons_of_mem _ ?_ | refine List.mem_append_right _ ?_)) (by repeat (first | exact List.mem_cons_self | refine List.mem_cons_of_mem _ ?_ | refine List.mem_append_right _ ?_)), ?_⟩
              refine List.forall_mem_cons.mpr ⟨list_apart N8 (by repeat (first | exact List.mem_cons_self | refine List.mem_cons_of_mem _ ?_ | refine List.mem_append_right _ ?_)) (by repeat (first | exact List.mem_cons_self | refine List.mem_cons_of_mem _ ?_ | refine List.mem_append_right _ ?_)), ?_⟩
              refine List.forall_mem_cons.mpr ⟨list_apart N8 (by repeat (first | exact List.mem_cons_self | refine List.mem_cons_of_mem _ ?_ | refine List.mem_append_right _ ?_)) (by repeat (first | exact List.mem_cons_self | refine List.mem_cons_of_mem _ ?_ | refine List.mem_append_right _ ?_)), ?_⟩
              refine List.forall_mem_cons.mpr ⟨list_apart N8 (by repeat (first | exact List.mem_cons_self | refine List.mem_cons_of_mem _ ?_ | refine List.mem_append_right _ ?_)) (by repeat (first | exact List.mem_cons_self | refine List.mem_cons_of_mem _ ?_ | refine List.mem_append_right _ ?_)), ?_⟩
              refine List.forall_mem_cons.mpr ⟨list_apart N8 (by repeat (first | exact List.mem_cons_self | refine List.mem_cons_of_mem _ ?_ | refine List.mem_append_right _ ?_)) (by repeat (first | exact List.mem_cons_self | refine List.mem_cons_of_mem _ ?_ | refine List.mem_append_right _ ?_)), ?_⟩
              refine List.forall_mem_cons.mpr ⟨hbs _ (by repeat (first | exact List.mem_cons_self | refine List.mem_cons_of_mem _ ?_ | refine List.mem_append_right _ ?_)), ?_⟩
              refine List.forall_mem_cons.mpr ⟨hbs _ (by repeat (first | exact List.mem_cons_self | refine List.mem_cons_of_mem _ ?_ | refine List.mem_append_right _ ?_)), ?_⟩
              refine List.forall_mem_cons.mpr ⟨hbs _ (by repeat (first | exact List.mem_cons_self | refine List.mem_cons_of_mem _ ?_ | refine List.mem_append_right _ ?_)), ?_⟩
              refine List.forall_mem_cons.mpr ⟨hbs _ (by repeat (first | exact List.mem_cons_self | refine List.mem_cons_of_mem _ ?_ | refine List.mem_append_right _ ?_)), ?_⟩
              refine List.forall_mem_cons.mpr ⟨hbs _ (by repeat (first | exact List.mem_cons_self | refine List.mem_cons_of_mem _ ?_ | refine List.mem_append_right _ ?_)), ?_⟩
              refine List.forall_mem_cons.mpr ⟨hbs _ (by repeat (first | exact List.mem_cons_self | refine List.mem_cons_of_mem _ ?_ | refine List.mem_append_right _ ?_)), ?_⟩
              refine List.forall_mem_cons.mpr ⟨hbs _ (by repeat (first | exact List.mem_cons_self | refine List.mem_cons_of_mem _ ?_ | refine List.mem_append_right _ ?_)), ?_⟩
              refine List.forall_mem_cons.mpr ⟨hbs _ (by repeat (first | exact List.mem_cons_self | refine List.mem_cons_of_mem _ ?_ | refine List.mem_append_right _ ?_)), ?_⟩
              refine List.forall_mem_cons.mpr ⟨hbs _ (by repeat (first | exact List.mem_cons_self | refine List.mem_cons_of_mem _ ?_ | refine List.mem_append_right _ ?_)), ?_⟩
              refine List.forall_mem_cons.mpr ⟨hbs _ (by repeat (first | exact List.mem_cons_self | refine List.mem_cons_of_mem _ ?_ | refine List.mem_append_right _ ?_)), ?_⟩
              refine List.forall_mem_cons.mpr ⟨inst_apart N8 (by repeat (first | exact List.mem_cons_self | refine List.mem_cons_of_mem _ ?_ | refine List.mem_append_right _ ?_)) (by repeat (first | exact List.mem_cons_self | refine List.mem_cons_of_mem _ ?_ | refine List.mem_append_right _ ?_)), ?_⟩
              refine List.forall_mem_cons.mpr ⟨inst_apart N8 (by repeat (first | exact List.mem_cons_self | refine List.mem_cons_of_mem _ ?_ | refine List.mem_append_right _ ?_)) (by repeat (first | exact List.mem_cons_self | refine List.mem_cons_of_mem _ ?_ | refine List.mem_append_right _ ?_)), ?_⟩
              refine List.forall_mem_cons.mpr ⟨inst_apart N8 (by repeat (first | exact List.mem_cons_self | refine List.mem_cons_of_mem _ ?_ | refine List.mem_append_right _ ?_)) (by repeat (first | exact List.mem_cons_self | refine List.mem_cons_of_mem _ ?_ | refine List.mem_append_right _ ?_)), ?_⟩
              refine List.forall_mem_cons.mpr ⟨list_apart N8 (by repeat (first | exact List.mem_cons_self | refine List.mem_cons_of_mem _ ?_ | refine List.mem_append_right _ ?_)) (by repeat (first | exact List.mem_cons_self | refine List.mem_cons_of_mem _ ?_ | refine List.mem_append_right _ ?_)), ?_⟩
              exact List.forall_mem_append.mpr ⟨kids_apart N8 (by repeat (first | exact List.mem_cons_self | refine List.mem_cons_of_mem _ ?_ | refine List.mem_append_right _ ?_)) hD.k (by intro p hp; repeat (first | exact List.mem_append_left _ hp | refine List.mem_cons_of_mem _ ?_)), kids_apart N8 (by repeat (first | exact List.mem_cons_self | refine List.mem_cons_of_mem _ ?_ | refine List.mem_append_right _ ?_)) hK2 (by intro p hp; repeat (first | exact List.mem_append_right _ hp | refine List.mem_cons_of_mem _ ?_))⟩
            case v2 =>
              refine List.forall_mem_cons.mpr ⟨list_apart N8 (by repeat (first | exact List.mem_cons_self | refine List.mem_cons_of_mem _ ?_ | refine List.mem_append_right _ ?_)) (by repeat (first | exact List.mem_cons_self | refine List.mem_cons_of_mem _ ?_ | refine List.mem_append_right _ ?_)), ?_⟩
              refine List.forall_mem_cons.mpr ⟨list_apart N8 (by repeat (first | exact List.mem_cons_self | refine List.mem_cons_of_mem _ ?_ | refine List.mem_append_right _ ?_)) (by repeat (first | exact List.mem_cons_self | refine List.mem_cons_of_mem _ ?_ | refine List.mem_append_right _ ?_)), ?_⟩
              refine List.forall_mem_cons.mpr ⟨list_apart N8 (by repeat (first | exact List.mem_cons_self | refine List.mem_cons_of_mem _ ?_ | refine List.mem_append_right _ ?_)) (by repeat (first | exact List.mem_cons_self | refine List.mem_cons_of_mem _ ?_ | refine List.mem_append_right _ ?_)), ?_⟩
              refine List.forall_mem_cons.mpr ⟨list_apart N8 (by repeat (first | exact List.mem_cons_self | refine List.mem_cons_of_mem _ ?_ | refine List.mem_append_right _ ?_)) (by repeat (first | exact List.mem_cons_self | refine List.mem_cons_of_mem _ ?_ | refine List.mem_append_right _ ?_)), ?_⟩
              refine List.forall_mem_cons.mpr ⟨list_apart N8 (by repeat (first | exact List.mem_cons_self | refine List.mem_cons_of_mem _ ?_ | refine List.mem_append_right _ ?_)) (by repeat (first | exact List.mem_cons_self | refine List.mem_cons_of_mem _ ?_ | refine List.mem_append_right _ ?_)), ?_⟩
              refine List.forall_mem_cons.mpr ⟨list_apart N8 (by repeat (first | exact List.mem_cons_self | refine List.mem_cons_of_mem _ ?_ | refine List.mem_append_right _ ?_)) (by repeat (first | exact List.mem_cons_self | refine List.mem_cons_of_mem _ ?_ | refine List.mem_append_right _ ?_)), ?_⟩
              refine List.forall_mem_cons.mpr ⟨list_apart N8 (by repeat (first | exact List.mem_cons_self | refine List.mem_cons_of_mem _ ?_ | refine List.mem_append_right _ ?_)) (by repeat (first | exact List.mem_cons_self | refine List.mem_cons_of_mem _ ?_ | refine List.mem_append_right _ ?_)), ?_⟩
              refine List.forall_mem_cons.mpr ⟨list_apart N8 (by repeat (first | exact List.mem_cons_self | refine List.mem_cons_of_mem _ ?_ | refine List.mem_append_right _ ?_)) (by repeat (first | exact List.mem_cons_self | refine List.mem_cons_of_mem _ ?_ | refine List.mem_append_right _ ?_)), ?_⟩
              refine List.forall_mem_cons.mpr ⟨list_apart N8 (by repeat (first | exact List.mem_cons_self | refine List.mem_cons_of_mem _ ?_ | refine List.mem_append_right _ ?_)) (by repeat (first | exact List.mem_cons_self | refine List.mem_cons_of_mem _ ?_ | refine List.mem_append_right _ ?_)), ?_⟩
              refine List.forall_mem_cons.mpr ⟨list_apart N8 (by repeat (first | exact List.mem_cons_self | refine List.mem_cons_of_mem _ ?_ | refine List.mem_append_right _ ?_)) (by repeat (first | exact List.mem_cons_self | refine List.mem_cons_of_mem _ ?_ | refine List.mem_append_right _ ?_)), ?_⟩
              refine List.forall_mem_cons.mpr ⟨hbf _ (by repeat (first | exact List.mem_cons_self | refine List.mem_cons_of_mem _ ?_ | refine List.mem_append_right _ ?_)), ?_⟩
              refine List.forall_mem_cons.mpr ⟨hbf _ (by repeat (first | exact List.mem_cons_self | refine List.mem_cons_of_mem _ ?_ | refine List.mem_append_right _ ?_)), ?_⟩
              refine List.forall_mem_cons.mpr ⟨hbf _ (by repeat (first | exact List.mem_cons_self | refine List.mem_cons_of_mem _ ?_ | refine List.mem_append_right _ ?_)), ?_⟩
              refine List.forall_mem_cons.mpr ⟨hbf _ (by repeat (first | exact List.mem_cons_self | refine List.mem_cons_of_mem _ ?_ | refine List.mem_append_right _ ?_)), ?_⟩
              refine List.forall_mem_cons.mpr ⟨hbf _ (by repeat (first | exact List.mem_cons_self | refine List.mem_cons_of_mem _ ?_ | refine List.mem_append_right _ ?_)), ?_⟩
              refine List.forall_mem_cons.mpr ⟨hbf _ (by repeat (first | exact List.mem_cons_self | refine List.mem_cons_of_mem _ ?_ | refine List.mem_append_right _ ?_)), ?_⟩
              refine List.forall_mem_cons.mpr ⟨hbf _ (by repeat (first | exact List.mem_cons_self | refine List.mem_cons_of_mem _ ?_ | refine List.mem_append_right _ ?_)), ?_⟩
              refine List.forall_mem_cons.mpr ⟨hbf _ (by repeat (first | exact List.mem_cons_self | refine List.mem_cons_of_mem _ ?_ | refine List.mem_append_right _ ?_)), ?_⟩
              refine List.forall_mem_cons.mpr ⟨hbf _ (by repeat (first | exact List.mem_cons_self | refine List.mem_cons_of_mem _ ?_ | refine List.mem_append_right _ ?_)), ?_⟩
              refine List.forall_mem_cons.mpr ⟨hbf _ (by repeat (first | exact List.mem_cons_self | refine List.mem_cons_of_mem _ ?_ | refine List.mem_append_right _ ?_)), ?_⟩
              refine List.forall_mem_cons.mpr ⟨inst_apart N8 (by repeat (first | exact List.mem_cons_self | refine List.mem_cons_of_mem _ ?_ | refine List.mem_append_right _ ?_)) (by repeat (first | exact List.mem_cons_self | refine List.mem_cons_of_mem _ ?_ | refine List.mem_append_right _ ?_)), ?_⟩
              refine List.forall_mem_cons.mpr ⟨inst_apart N8 (by repeat (first | exact List.mem_cons_self | refine List.mem_cons_of_mem _ ?_ | refine List.mem_append_right _ ?_)) (by repeat (first | exact List.mem_cons_self | refine List.mem_cons_of_mem _ ?_ | refine List.mem_append_right _ ?_)), ?_⟩
              refine List.forall_mem_cons.mpr ⟨inst_apart N8 (by repeat (first | exact List.mem_cons_self | refine List.mem_cons_of_mem _ ?_ | refine List.mem_append_right _ ?_)) (by repeat (first | exact List.mem_cons_self | refine List.mem_cons_of_mem _ ?_ | refine List.mem_append_right _ ?_)), ?_⟩
              refine List.forall_mem_cons.mpr ⟨list_apart N8 (by repeat (first | exact List.mem_cons_self | refine List.mem_cons_of_mem _ ?_ | refine List.mem_append_right _ ?_)) (by repeat (first | exact List.mem_cons_self | refine List.mem_cons_of_mem _ ?_ | refine List.mem_append_right _ ?_)), ?_⟩
              exact List.forall_mem_append.mpr ⟨kids_apart N8 (by repeat (first | exact List.mem_cons_self | refine List.mem_cons_of_mem _ ?_ | refine List.mem_append_right _ ?_)) hD.k (by intro p hp; repeat (first | exact List.mem_append_left _ hp | refine List.mem_cons_of_mem _ ?_)), kids_apart N8 (by repeat (first | exact List.mem_cons_self | refine List.mem_cons_of_mem _ ?_ | refine List.mem_append_right _ ?_)) hK2 (by intro p hp; repeat (first | exact List.mem_append_right _ hp | refine List.mem_cons_of_mem _ ?_))⟩
            case v3 =>
              refine List.forall_mem_cons.mpr ⟨list_apart N8 (by repeat (first | exact List.mem_cons_self | refine List.mem_cons_of_mem _ ?_ | refine List.mem_append_right _ ?_)) (by repeat (first | exact List.mem_cons_self | refine List.mem_cons_of_mem _ ?_ | refine List.mem_append_right _ ?_)), ?_⟩
              refine List.forall_mem_cons.mpr ⟨list_apart N8 (by repeat (first | exact List.mem_cons_self | refine List.mem_cons_of_mem _ ?_ | refine List.mem_append_right _ ?_)) (by repeat (first | exact List.mem_cons_self | refine List.mem_cons_of_mem _ ?_ | refine List.mem_append_right _ ?_)), ?_⟩
              refine List.forall_mem_cons.mpr ⟨list_apart N8 (by repeat (first | exact List.mem_cons_self | refine List.mem_cons_of_mem _ ?_ | refine List.mem_append_right _ ?_)) (by repeat (first | exact List.mem_cons_self | refine List.mem_cons_of_mem _ ?_ | refine List.mem_append_right _ ?_)), ?_⟩
              refine List.forall_mem_cons.mpr ⟨list_apart N8 (by repeat (first | exact List.mem_cons_self | refine List.mem_cons_of_mem _ ?_ | refine List.mem_append_right _ ?_)) (by repeat (first | exact List.mem_cons_self | refine List.mem_cons_of_mem _ ?_ | refine List.mem_append_right _ ?_)), ?_⟩
              refine List.forall_mem_cons.mpr ⟨list_apart N8 (by repeat (first | exact List.mem_cons_self | refine List.mem_cons_of_mem _ ?_ | refine List.mem_append_right _ ?_)) (by repeat (first | exact List.mem_cons_self | refine List.mem_cons_of_mem _ ?_ | refine List.mem_append_right _ ?_)), ?_⟩
              refine List.forall_mem_cons.mpr ⟨list_apart N8 (by repeat (first | exact List.mem_cons_self | refine List.mem_cons_of_mem _ ?_ | refine List.mem_append_right _ ?_)) (by repeat (first | exact List.mem_cons_self | refine List.mem_cons_of_mem _ ?_ | refine List.mem_append_right _ ?_)), ?_⟩
              refine List.forall_mem_cons.mpr ⟨list_apart N8 (by repeat (first | exact List.mem_cons_self | refine List.mem_cons_of_mem _ ?_ | refine List.mem_append_right _ ?_)) (by repeat (first | exact List.mem_cons_self | refine List.mem_cons_of_mem _ ?_ | refine List.mem_append_right _ ?_)), ?_⟩
              refine List.forall_mem_cons.mpr ⟨list_apart N8 (by repeat (first | exact List.mem_cons_self | refine List.mem_cons_of_mem _ ?_ | refine List.mem_append_right _ ?_)) (by repeat (first | exact List.mem_cons_self | refine List.mem_cons_of_mem _ ?_ | refine List.mem_append_right _ ?_)), ?_⟩
              refine List.forall_mem_cons.mpr ⟨list_apart N8 (by repeat (first | exact List.mem_cons_self | refine List.mem_cons_of_mem _ ?_ | refine List.mem_append_right _ ?_)) (by repeat (first | exact List.mem_cons_self | refine List.mem_cons_of_mem _ ?_ | refine List.mem_append_right _ ?_)), ?_⟩
              refine List.forall_mem_cons.mpr ⟨list_apart N8 (by repeat (first | exact List.mem_cons_self | refine List.mem_cons_of_mem _ ?_ | refine List.mem_append_right _ ?_)) (by repeat (first | exact List.mem_cons_self | refine List.mem_cons_of_mem _ ?_ | refine List.mem_append_right _ ?_)), ?_⟩
              refine List.forall_mem_cons.mpr ⟨hbb _ (by repeat (first | exact List.mem_cons_self | refine List.mem_cons_of_mem _ ?_ | refine List.mem_append_right _ ?_)), ?_⟩
              refine List.forall_mem_cons.mpr ⟨hbb _ (by repeat (first | exact List.mem_cons_self | refine List.mem_cons_of_mem _ ?_ | refine List.mem_append_right _ ?_)), ?_⟩
              refine List.forall_mem_cons.mpr ⟨hbb _ (by repeat (first | exact List.mem_cons_self | refine List.mem_cons_of_mem _ ?_ | refine List.mem_append_right _ ?_)), ?_⟩
              refine List.forall_mem_cons.mpr ⟨hbb _ (by repeat (first | exact List.mem_cons_self | refine List.mem_cons_of_mem _ ?_ | refine List.mem_append_right _ ?_)), ?_⟩
              refine List.forall_mem_cons.mpr ⟨hbb _ (by repeat (first | exact List.mem_cons_self | refine List.mem_cons_of_mem _ ?_ | refine List.mem_append_right _ ?_)), ?_⟩
              refine List.forall_mem_cons.mpr ⟨hbb _ (by repeat (first | exact List.mem_cons_self | refine List.mem_cons_of_mem _ ?_ | refine List.mem_append_right _ ?_)), ?_⟩
              refine List.forall_mem_cons.mpr ⟨hbb _ (by repeat (first | exact List.mem_cons_self | refine List.mem_cons_of_mem _ ?_ | refine List.mem_append_right _ ?_)), ?_⟩
              refine List.forall_mem_cons.mpr ⟨hbb _ (by repeat (first | exact List.mem_cons_self | refine List.mem_cons_of_mem _ ?_ | refine List.mem_append_right _ ?_)), ?_⟩
              refine List.forall_mem_cons.mpr ⟨hbb _ (by repeat (first | exact List.mem_cons_self | refine List.mem_cons_of_mem _ ?_ | refine List.mem_append_right _ ?_)), ?_⟩
              refine List.forall_mem_cons.mpr ⟨hbb _ (by repeat (first | exact List.mem_cons_self | refine List.mem_cons_of_mem _ ?_ | refine List.mem_append_right _ ?_)), ?_⟩
              refine List.forall_mem_cons.mpr ⟨inst_apart N8 (by repeat (first | exact List.mem_cons_self | refine List.mem_cons_of_mem _ ?_ | refine List.mem_append_right _ ?_)) (by repeat (first | exact List.mem_cons_self | refine List.mem_cons_of_mem _ ?_ | refine List.mem_append_right _ ?_)), ?_⟩
              refine List.forall_mem_cons.mpr ⟨inst_apart N8 (by repeat (first | exact List.mem_cons_self | refine List.mem_cons_of_mem _ ?_ | refine List.mem_append_right _ ?_)) (by repeat (first | exact List.mem_cons_self | refine List.mem_cons_of_mem _ ?_ | refine List.mem_append_right _ ?_)), ?_⟩
              refine List.forall_mem_cons.mpr ⟨inst_apart N8 (by repeat (first | exact List.mem_cons_self | refine List.mem_cons_of_mem _ ?_ | refine List.mem_append_right _ ?_)) (by repeat (first | exact List.mem_cons_self | refine List.mem_cons_of_mem _ ?_ | refine List.mem_append_right _ ?_)), ?_⟩
              refine List.forall_mem_cons.mpr ⟨list_apart N8 (by repeat (first | exact List.mem_cons_self | refine List.mem_cons_of_mem _ ?_ | refine List.mem_append_right _ ?_)) (by repeat (first | exact List.mem_cons_self | refine List.mem_cons_of_mem _ ?_ | refine List.mem_append_right _ ?_)), ?_⟩
              exact List.forall_mem_append.mpr ⟨kids_apart N8 (by repeat (first | exact List.mem_cons_self | refine List.mem_cons_of_mem _ ?_ | refine List.mem_append_right _ ?_)) hD.k (by intro p hp; repeat (first | exact List.mem_append_left _ hp | refine List.mem_cons_of_mem _ ?_)), kids_apart N8 (by repeat (first | exact List.mem_cons_self | refine List.mem_cons_of_mem _ ?_ | refine List.mem_append_right _ ?_)) hK2 (by intro p hp; repeat (first | exact List.mem_append_right _ hp | refine List.mem_cons_of_mem _ ?_))⟩
            case k1 => intro p hp; repeat (first | exact List.mem_append_left _ hp | refine List.mem_cons_of_mem _ ?_)
            case k2 => intro p hp; repeat (first | exact List.mem_append_right _ hp | refine List.mem_cons_of_mem _ ?_)
          rename_i cutEx1 cutEx2 cutEx3 cutEx4 cutEx5 cutEx6 cutEx7 cutEx8 cutEx9 cutEx10 cutEx11 cutEx12 cutEx13 cutEx14 cutEx15 cutEx16 cutEx17 cutEx18 cutEx19 cutEx20 cutEx21 cutEx22 cutEx23 cutEx24 cutEx25 cutEx26 cutEx27 cutEx28 cutEx29 cutEx30 cutEx31 cutEx32 cutEx33 cutEx34 cutEx35 cutEx36 cutEx37
          revert wW cutBx2 cutBx3 cutBx4 cutBx5 cutBx6 cutBx7 cutBx8 cutBx9 cutBx10 cutBx11 cutBx12 cutBx13 cutBx14 cutBx15 cutBx16 cutBx17 cutBx18 cutBx19 cutBx20 cutBx21 cutBx22 cutBx23 cutBx24 cutBx25 cutBx26 cutBx27 cutBx28 cutBx29 cutBx30 cutBx31 cutBx32 cutBx33 cutBx34 cutBx35 cutBx36 cutBx37 cutBx38 cutBx39 cutBx40 cutBx41 cutBx42 cutBx43 cutBx44 cutBx45 cutBx46 hd0 tkh cutBx47 cutBx48 cutBx49 cutBx50 pool pvs pe cutBx51 cutBx52 hpl hpool cutBx53 cutBx54 cutBx55 d0 cutBx56 od0 lo0 cutBx57 cutBx58 cutBx59 cutBx60 b bd st std fm fmd t td kk ss nn ta tx pp cc co c0 it0 fi0 er0 esf eff ebf et ne nf nb nt n1 n2 n3 n4 n5 n6 n7 md tmd kv sv nv av tv pv cv oc h1 tk1 D1 D2 D3 D4 p1 p2 p3 p4 z1 z2 z3 ord l0 lo od1 od2 od3 od4 od5 od6 od7 o1 o2 o3 o4 o5 o6 o7 o8 o9 cutBx61 cutBx62 cutEx1 tvs cutBx63 cutBx64 htp ymd ytk hymd h2 tk2 cutBx65 wa cutBx66 cutBx67 cutBx68 tr1 m1 m2 m3 m4 m5 m6 m7 kv1 sv1 nv1 av1 tv1 pv1 cv1 oc1 es1 h3 tk3 tr2 q1 q2 q3 q4 q5 q6 q7 kv2 sv2 nv2 av2 tv2 pv2 cv2 oc2 cutEx2 h4 tk4 na cutBx69 cutBx70 cutBx71 aa cutBx72 cutBx73 cutCx1 cutEx3 cutEx4 t1 cutEx5 cutEx6 hw0 hn0 ha0 w1 w2 w3 hq0 fm0 fm1 c cutDx1 cutDx2 cutDx3 c1 c2 c3 c4 c5 c6 e1 e2 e3 hes hco lw ln la hpp1 hpp2 n9 bok hLO y1 y2 y3 y4 y5 cutDx6 cutDx7 cutDx8 cutDx9 cutDx10 cutDx11 cutDx12 cutDx13 d u h cutEx7 cutEx8 cx vs e ns g tp h5 tk5 d2 hD ax bv nbx ac h6 tk6 hbv hac pt cutEx9 hpt cutEx10 cutEx11 cutEx12 cutEx13 cutEx14 cutEx15 cutEx16 cutEx17 cutEx18 g' ys es2 news' hK2 chD h9 tk9 u1 u2 u3 u4 u5 u6 u7 ap aus cutEx19 hau al8 al9 an2 anus cutEx20 hanu cutEx21 cutEx22 as2 asus cutEx23 hasu cutEx24 cutEx25 ak akus cutEx26 haku cutEx27 cutEx28 tl cutEx29 tl8 cutEx30 cutEx31 cutEx32 cutEx33 tk cutEx34 cutEx35 cutEx36 cutEx37 t1x u1x v1x rgX F8 N8 kp8 hbs hbf hbb R N20 v1 v2 v3 r0 r1 r2 r3 r4 r5 r6 r7 r8 r9 r10 r11 r12 r13 r14 r15 r16 r17 r18 rk1 rk2
          exact packP_of hT⟩
set_option maxHeartbeats 0 in
theorem segE : packD.1 := by
  k_with_none
  k_with "om" => first | assumption | exact Nat.le_trans (by assumption) (Nat.le_of_ble_eq_true rfl) | exact Nat.lt_of_le_of_lt (by assumption) (Nat.le_of_ble_eq_true rfl) | decide | omega
  k_with "k_get" => (first | k_extra "getd" | with_reducible assumption | with_reducible_and_instances exact Dct.get (by assumption) (by k_mem) | exact Dct.get (by assumption) (by k_mem))
  k_with "k_upd" => first | assumption | k_extra "upd" | (refine' Upd.head ?a; (case a => k_all)) | (refine' Upd.tail ?a ?b; (case a => k_ne); (case b => k_upd))
  k_with "exec While" => refine held_of ?_
  k_with "call builtin:len" => (k_here; (with_reducible show wpAny _ _ (call (Value.builtin "len") [Value.ref _]) _ _ _); k_dflt (refine' led_len ?k1 ?k2 ?k3 ?k4 ?_; (case k1 => k_asm); (case k2 => k_mem); (case k3 => first | exact IntsAre.length (by assumption) | exact PyProof.Rows.StrsAre.length (by assumption) | assumption); (case k4 => walk_at "om"); k_whole); intro _ _)
  k_with "subs9" => (k_here; (with_reducible show wpAny _ _ (subscriptTail _ _ (Value.ref _) (Value.int _ _)) _ _ _); k_dflt (first | (refine' led_int ?k1 ?k2 ?k3 ?k4 ?k5 ?k6 ?_ ?k7; (case k1 => k_asm); (case k2 => k_mem); (case k3 => assumption); (case k4 => first | omega | k_extra "bnd"); (case k5 => first | omega | k_extra "bnd"); (case k6 => omega); (case k7 => with_unfolding_all rfl); k_whole; intro _ _; (try k_extra "fact")) | (refine' led_str ?k1 ?k2 ?k3 ?k4 ?k5 ?k6 ?_ ?k7; (case k1 => k_asm); (case k2 => k_mem); (case k3 => assumption); (case k4 => first | omega | k_extra "bnd"); (case k5 => first | omega | k_extra "bnd"); (case k6 => omega); (case k7 => with_unfolding_all rfl); k_whole; intro _)))
  k_with "subscriptTail" => walk_at "subs9"
  k_with "subscriptTail Name Name ref int" => walk_at "subs9"
  k_with "subscriptTail Attribute Name ref int" => walk_at "subs9"
  k_with "compareOp In int ref" => (k_here; k_dflt (refine' led_in ?k1 ?k2 ?k3 ?_; (case k1 => k_asm); (case k2 => k_mem); (case k3 => assumption); k_whole))
  k_with "compareOp NotIn int ref" => (k_here; k_dflt (refine' led_notin ?k1 ?k2 ?k3 ?_; (case k1 => k_asm); (case k2 => k_mem); (case k3 => assumption); k_whole))
  k_with "compareOp In str ref" => (k_here; k_dflt (first | (refine' led_in_str ?k1 ?k2 ?k3 ?_; (case k1 => k_asm); (case k2 => walk_at "memR"); (case k3 => with_reducible assumption); k_whole) | (refine' led_in_tup ?k1 ?k2 ?k3 ?_; (case k1 => k_asm); (case k2 => walk_at "memR"); (case k3 => with_reducible assumption); k_whole) | (refine' led_in_tup ?k1 ?k2 ?k3 ?_; (case k1 => k_asm); (case k2 => k_mem); (case k3 => with_reducible assumption); k_whole) | (refine' led_in_str ?k1 ?k2 ?k3 ?_; (case k1 => k_asm); (case k2 => k_mem); (case k3 => with_reducible assumption); k_whole)))
  k_with "compareOp NotIn str ref" => (k_here; k_dflt (first | (refine' led_notin_str ?k1 ?k2 ?k3 ?_; (case k1 => k_asm); (case k2 => walk_at "memR"); (case k3 => with_reducible assumption); k_whole) | (refine' led_notin_tup ?k1 ?k2 ?k3 ?_; (case k1 => k_asm); (case k2 => walk_at "memR"); (case k3 => with_reducible assumption); k_whole) | (refine' led_notin_tup ?k1 ?k2 ?k3 ?_; (case k1 => k_asm); (case k2 => k_mem); (case k3 => with_reducible assumption); k_whole) | (refine' led_notin_str ?k1 ?k2 ?k3 ?_; (case k1 => k_asm); (case k2 => k_mem); (case k3 => with_reducible assumption); k_whole)))
  k_with "eval Tuple" => (k_here; k_dflt (refine' tup_lit ?k1 ?k2 ?k3 ?k4 ?_; (case k1 => exact rfl); (case k2 => exact Nat.le_of_ble_eq_true rfl); (case k3 => k_asm); (case k4 => k_asm); k_whole); intro _ _ _ _ _ _ _ _)
  k_with "call builtin:list.index" => (k_here; (with_reducible show wpAny _ _ (call (Value.builtin _) [Value.ref _, Value.int _ _]) _ _ _); k_dflt (refine' led_index ?k1 ?k2 ?k3 ?k4 ?k5 ?_; (case k1 => k_asm); (case k2 => k_mem); (case k3 => assumption); (case k4 => assumption); (case k5 => omega); k_whole))
  k_with "pyIter ref" => refine held_of ?_
  k_with "InvEndN" => k_extra "InvEndN"
  k_with "k_steps" => repeat' (first | (k_unfold; (try dsimp only)) | (k_end; fail_if_success skip) | walk1 | (dsimp only; walk1) | fail "no step")
  k_with "kst_same" => (intro z h1 h2 h3; (try simp only [List.contains_cons, List.contains_nil, Bool.or_false, Bool.or_eq_false_iff, beq_eq_false_iff_ne, ne_eq] at h3); (simp [h1, h3, kstB]; done))
  k_with "ktr_enter" => first | (refine' code_def ?k1 ?k2 ?k3 ?k4 ?k5 ?kA ?kF ?kK ?k6 ?k7 ?k8 ?k9 ?kB ?_ ?c2 ?c3 ?c4 ?c5; (case kA => exact rfl); (case kF => exact rfl); (case kK => assumption); (case k1 => k_asm); (case k2 => k_asm); (case k3 => k_asm); (case k4 => k_asm); (case k5 => k_asm); (case k6 => k_is); (case k7 => k_is); (case k8 => ktr_room); (case k9 => first | exact BindsTo.of_eq rfl | exact binds_K (by k_in) rfl (by k_is) rfl rfl rfl); (case c5 => decide); (case kB => exact locs rfl); (case c2 => exact rfl); (case c3 => exact rfl); (case c4 => exact rfl); k_whole; walk_at "tl1") | (refine' code_defC ?k1 ?k2 ?k3 ?k4 ?k5 ?kA ?kF ?kK ?k6 ?k7 ?k8 ?k9 ?kB ?kD ?_ ?c2 ?c3 ?c4; (case kA => exact rfl); (case kF => exact rfl); (case kK => assumption); (case k1 => k_asm); (case k2 => k_asm); (case k3 => k_asm); (case k4 => k_asm); (case k5 => k_asm); (case k6 => k_is); (case k7 => k_is); (case k8 => ktr_room); (case k9 => first | exact BindsTo.of_eq rfl | exact binds_K (by k_in) rfl (by k_is) rfl rfl rfl); (case kB => exact rfl); (case kD => decide +kernel); (case c2 => exact rfl); (case c3 => exact rfl); (case c4 => exact rfl); k_whole; walk_at "tl2")
  k_with "call ref" => (k_here; (with_reducible show wpAny _ _ (call (Value.ref 502) _) _ _ _); k_dflt (refine' digit_c ?B ?F ?X ?N ?T ?hk ?hd ?hu ?h1 ?h2 ?hz ?h0 ?p1 ?_; (case B => k_asm); (case F => k_asm); (case X => k_asm); (case N => k_asm); (case T => k_asm); (case hk => first | exact rfl | assumption); (case hd => ktr_room); (case hu => first | ktr_units | exact Nat.le_of_ble_eq_true rfl); (case h1 => assumption); (case h2 => assumption); (case hz => omega); (case h0 => omega); (case p1 => omega); k_whole); intro _ _ _ _ _ _)
  k_with "call ref" => (k_here; (with_reducible show wpAny _ _ (call (Value.ref 509) _) _ _ _); k_dflt (refine' pool_c ?B ?F ?X ?N ?T ?hk ?hd ?hu ?_; (case B => k_asm); (case F => k_asm); (case X => k_asm); (case N => k_asm); (case T => k_asm); (case hk => first | exact rfl | assumption); (case hd => ktr_room); (case hu => first | ktr_units | exact Nat.le_of_ble_eq_true rfl); k_whole); intro _ _ _ _ _ _ _ _ _)
  k_with "call ref" => (k_here; (first | (with_reducible show wpAny _ _ (call (Value.ref 491) _) _ _ _) | (with_reducible show wpAny _ _ (call (Value.ref 453) _) _ _ _) | (with_reducible show wpAny _ _ (call (Value.ref 332) _) _ _ _) | (with_reducible show wpAny _ _ (call (Value.ref 368) _) _ _ _) | (with_reducible show wpAny _ _ (call (Value.ref 545) _) _ _ _)); refine held_of ?_)
  k_with "subscriptTail" => (k_here; (with_reducible show wpAny _ _ (subscriptTail _ _ (Value.ref _) (Value.int _ _)) _ _ _); k_dflt (refine' led_menu ?k1 ?k2 ?k3 ?k4 ?k5 ?k6 ?_ ?k7; (case k1 => k_asm); (case k2 => walk_at "memR"); (case k3 => with_reducible assumption); (case k4 => first | exact Int.fmod_nonneg_of_pos _ (by decide) | omega); (case k5 => k_extra "menu"); (case k6 => exact Nat.le_of_ble_eq_true rfl); (case k7 => with_unfolding_all rfl); k_whole); intro _ _ _)
  k_with "subscriptTail Tuple BinOp ref int" => (k_here; (with_reducible show wpAny _ _ (subscriptTail _ _ (Value.ref _) (Value.int _ _)) _ _ _); k_dflt (refine' led_menu ?k1 ?k2 ?k3 ?k4 ?k5 ?k6 ?_ ?k7; (case k1 => k_asm); (case k2 => walk_at "memR"); (case k3 => with_reducible assumption); (case k4 => first | exact Int.fmod_nonneg_of_pos _ (by decide) | omega); (case k5 => k_extra "menu"); (case k6 => exact Nat.le_of_ble_eq_true rfl); (case k7 => with_unfolding_all rfl); k_whole); intro _ _ _)
  k_with "subscriptTail Name BinOp ref int" => (k_here; (with_reducible show wpAny _ _ (subscriptTail _ _ (Value.ref _) (Value.int _ _)) _ _ _); k_dflt (refine' led_pool ?k1 ?k2 ?k3 ?k4 ?k5 ?_ ?k7; (case k1 => k_asm); (case k2 => walk_at "memR"); (case k3 => with_reducible assumption); (case k4 => first | exact Int.fmod_nonneg_of_pos _ (by decide) | omega); (case k5 => k_extra "menu"); (case k7 => with_unfolding_all rfl); k_whole); intro _ _ _ _)
  k_with "setAttr ref" => (k_here; k_dflt (refine' set_dict ?k1 ?k2 ?k3 ?k4 ?k5 ?k6 ?k7 ?k8 ?k9 ?k10 ?k11 ?k12 ?k13 ?_; (case k1 => k_asm); (case k2 => k_asm); (case k3 => k_asm); (case k4 => k_inst); (case k5 => exact rfl); (case k6 => k_is); (case k7 => k_is); (case k8 => k_is); (case k9 => k_is); (case k10 => k_extra "get9"); (case k11 => k_extra "put9"); (case k12 => k_upd); (case k13 => k_extra "len9"); k_whole); walk_at "tl6")
  k_with "call builtin:len" => (k_here; (with_reducible show wpAny _ _ (call (Value.builtin "len") [Value.ref _]) _ _ _); k_dflt (refine' led_len34 ?k1 ?k2 ?k3 ?_; (case k1 => k_asm); (case k2 => walk_at "memR"); (case k3 => with_reducible assumption); k_whole); intro _ _)
  k_with "call builtin:str.split" => (k_here; k_dflt (refine' led_split ?hp ?F ?N ?_; (case hp => first | with_reducible assumption | exact pairs_sub (by with_reducible assumption)); (case F => k_asm); (case N => k_asm); k_whole); walk_at "tl7")
  k_with "assign Tuple" => (k_here; (with_reducible show wpAny _ _ (assign (Expr.Tuple _ _ _) _ (Value.ref _)) _ _ _); k_dflt (refine' kun_list ?k1 ?k2 ?k3 ?k4 ?k5 ?k6 ?_; (case k1 => k_asm); (case k2 => k_asm); (case k3 => exact News.isList (by k_asm) (by walk_at "memR")); (case k4 => exact rfl); (case k5 => exact rfl); (case k6 => exact rfl); k_whole); walk_at "tl6")
  k_with "call builtin:list.append" => (k_here; (with_reducible show wpAny _ _ (call (Value.builtin _) [Value.ref _, _]) _ _ _); k_dflt (refine' led_push ?k1 ?k2 ?k3 ?z ?_; (case k1 => k_asm); (case k2 => k_asm); (case k3 => k_upd); (case z => first | omega | (simp only [List.length_append, List.length_cons, List.length_nil]; omega)); k_whole); walk_at "tl6")
  k_with "newTuple" => (k_here; k_dflt (refine' led_tuple ?k1 ?k2 ?z ?_; (case k1 => k_asm); (case k2 => k_asm); (case z => exact Nat.le_of_ble_eq_true rfl); k_whole); walk_at "tl8")
  k_with "call builtin:dict.get" => (k_here; k_dflt (refine' co_get ?N ?hm ?lo ?hc ?_; (case N => k_asm); (case hm => walk_at "memR"); (case lo => with_reducible assumption); (case hc => with_reducible assumption); k_whole); intro _ _)
  k_with "getMethod ref" => k_extra "meth"
  k_with "getMethod ref" => (k_here; (with_reducible show wpAny _ _ (getMethod (Value.ref _) (Str.ofString "get") _) _ _ _); k_dflt (refine' co_method ?N ?hm ?lo ?hc ?_; (case N => k_asm); (case hm => walk_at "memR"); (case lo => with_reducible assumption); (case hc => with_reducible assumption); k_whole))
  k_with "exec If" => k_extra "heldIf"
  k_with "exec Assign cons ListComp" => (k_here; k_dflt (refine LCg.Assign_ListComp_U (F₀ := by k_asm) (by rfl) (by with_unfolding_all rfl) (by with_unfolding_all rfl) (by decide) (by rfl) (by decide) (by rfl) (by rfl) (by rfl) ?_); k_dflt (repeat (first | (with_reducible refine compG_held ?_) | walk1 | (dsimp only; walk1))))
  k_with "subscriptTail Call Attribute cons nil Constant ref int" => (k_here; (with_reducible show wpAny _ _ (subscriptTail _ _ (Value.ref _) (Value.int 1 _)) _ _ _); k_dflt (refine' led_second ?k1 ?k2 ?_ ?k7; (case k1 => k_asm); (case k2 => walk_at "memR"); (case k7 => with_unfolding_all rfl); k_whole))
  k_with "subscriptTail Name Slice ref ref" => (k_here; k_dflt (first | (refine' all_ints ?F ?N ?m ?i  ?z ?_ ?s ?t; (case F => k_asm); (case N => k_asm); (case m => k_mem); (case i => with_reducible assumption); (case z => walk_at "om"); (case s => with_unfolding_all rfl); (case t => kmk_pure); k_whole) | (refine' all_strs ?F ?N ?m ?i  ?z ?_ ?s ?t; (case F => k_asm); (case N => k_asm); (case m => k_mem); (case i => with_reducible assumption); (case z => walk_at "om"); (case s => with_unfolding_all rfl); (case t => kmk_pure); k_whole)); walk_at "tl3")
  k_with "eval IfExp" => k_extra "heldIE"
  k_with "subscriptTail Name BinOp ref int" => (k_here; (with_reducible show wpAny _ _ (subscriptTail _ _ (Value.ref _) (Value.int _ _)) _ _ _); k_dflt (refine' led_word ?k1 ?k2 ?k3 ?kw ?k4 ?k5 ?k6 ?_ ?k7; (case kw => k_extra "word"); (case k1 => k_asm); (case k2 => k_extra "memw"); (case k3 => with_reducible assumption); (case k4 => omega); (case k5 => omega); (case k6 => omega); (case k7 => with_unfolding_all rfl); k_whole); intro _ _ _)
  k_with "call ref" => (k_here; (with_reducible show wpAny _ _ (call (Value.ref 545) _) _ _ _); k_extra "found")
  k_with "UnrEndW" => k_extra "unrEnd"
  k_with "compareOp Eq ref ref" => k_extra "eqEnd"
  k_with "subscriptTail Attribute Name Slice ref ref" => (k_here; k_dflt (refine kba_turn (value' := PySem.Expr.Name (PySem.Str.ofString "_") ⟨0, 0, 0, 0⟩) (fun _ => rfl) ?_))
  intro wW cutBx2 cutBx3 cutBx4 cutBx5 cutBx6 cutBx7 cutBx8 cutBx9 cutBx10 cutBx11 cutBx12 cutBx13 cutBx14 cutBx15 cutBx16 cutBx17 cutBx18 cutBx19 cutBx20 cutBx21 cutBx22 cutBx23 cutBx24 cutBx25 cutBx26 cutBx27 cutBx28 cutBx29 cutBx30 cutBx31 cutBx32 cutBx33 cutBx34 cutBx35 cutBx36 cutBx37 cutBx38 cutBx39 cutBx40 cutBx41 cutBx42 cutBx43 cutBx44 cutBx45 cutBx46 hd0 tkh cutBx47 cutBx48 cutBx49 cutBx50 pool pvs pe cutBx51 cutBx52 hpl hpool cutBx53 cutBx54 cutBx55 d0 cutBx56 od0 lo0 cutBx57 cutBx58 cutBx59 cutBx60 b bd st std fm fmd t td kk ss nn ta tx pp cc co c0 it0 fi0 er0 esf eff ebf et ne nf nb nt n1 n2 n3 n4 n5 n6 n7 md tmd kv sv nv av tv pv cv oc h1 tk1 D1 D2 D3 D4 p1 p2 p3 p4 z1 z2 z3 ord l0 lo od1 od2 od3 od4 od5 od6 od7 o1 o2 o3 o4 o5 o6 o7 o8 o9 cutBx61 cutBx62 cutEx1 tvs cutBx63 cutBx64 htp ymd ytk hymd h2 tk2 cutBx65 wa cutBx66 cutBx67 cutBx68 tr1 m1 m2 m3 m4 m5 m6 m7 kv1 sv1 nv1 av1 tv1 pv1 cv1 oc1 es1 h3 tk3 tr2 q1 q2 q3 q4 q5 q6 q7 kv2 sv2 nv2 av2 tv2 pv2 cv2 oc2 cutEx2 h4 tk4 na cutBx69 cutBx70 cutBx71 aa cutBx72 cutBx73 cutCx1 cutEx3 cutEx4 t1 cutEx5 cutEx6 hw0 hn0 ha0 w1 w2 w3 hq0 fm0 fm1 c cutDx1 cutDx2 cutDx3 c1 c2 c3 c4 c5 c6 e1 e2 e3 hes hco lw ln la hpp1 hpp2 n9 bok hLO y1 y2 y3 y4 y5 cutDx6 cutDx7 cutDx8 cutDx9 cutDx10 cutDx11 cutDx12 cutDx13 d u h cutEx7 cutEx8 cx vs e ns g tp h5 tk5 d2 hD ax bv nbx ac h6 tk6 hbv hac pt cutEx9 hpt cutEx10 cutEx11 cutEx12 cutEx13 cutEx14 cutEx15 cutEx16 cutEx17 cutEx18 g' ys es2 news' hK2 chD h9 tk9 u1 u2 u3 u4 u5 u6 u7 ap aus cutEx19 hau al8 al9 an2 anus cutEx20 hanu cutEx21 cutEx22 as2 asus cutEx23 hasu cutEx24 cutEx25 ak akus cutEx26 haku cutEx27 cutEx28 tl cutEx29 tl8 cutEx30 cutEx31 cutEx32 cutEx33 tk cutEx34 cutEx35 cutEx36 cutEx37 t1x u1x v1x rgX F8 N8 kp8 hbs hbf hbb R N20 v1 v2 v3 r0 r1 r2 r3 r4 r5 r6 r7 r8 r9 r10 r11 r12 r13 r14 r15 r16 r17 r18 rk1 rk2
  k_with "menu" =>
    first
    | exact (Int.fmod_lt_of_pos _ (by decide) : Int.fmod _ 2 < 2)
    | exact (Int.fmod_lt_of_pos _ (by decide) : Int.fmod _ 12 < 12)
    | exact (Int.fmod_lt_of_pos _ (by decide) : Int.fmod _ 34 < 34)
    | exact Int.lt_trans (Int.fmod_lt_of_pos _ (by decide) : Int.fmod _ 12 < 12) (by decide)
  k_with "get9" =>
    (rw [(D3 _ _ _).get (List.Mem.tail _ (List.Mem.tail _ (List.Mem.tail _ (List.Mem.tail _ (List.Mem.head _)))))]; rfl)
  k_with "put9" =>
    exact p4 _ _ _ _ _
  k_with "len9" =>
    exact z3 _ _
  k_with "getd" =>
    first | exact (D1 _).get (by k_mem) | exact (D2 _).get (by k_mem) | exact (D3 _ _ _).get (by k_mem) | exact D4.get (by k_mem)
  clear N8 kp8 al8 al9 tl8 hbs hbf hbb hes hpp1 hpp2 hw0 hn0 ha0 w1 w2 w3 e1 e2 e3 c5 c6 hLO
  obtain ⟨od1, od2, od3, od4, od5, od6, od7⟩ := (⟨od1, od2, od3, od4, od5, od6, od7⟩ : @LT.lt Nat _ bd b ∧ @LT.lt Nat _ b td ∧ @LT.lt Nat _ co c0 ∧ @LT.lt Nat _ c0 std ∧ @LT.lt Nat _ std st ∧ @LT.lt Nat _ st fmd ∧ @LT.lt Nat _ fmd fm)
  obtain ⟨t8, t9, t7⟩ := ord_ne ord od1 od2 od3 od4 od5 od6
  have s1 : std ≠ fmd := Nat.ne_of_lt t7
  have s2 : fmd ≠ std := Ne.symm (Nat.ne_of_lt t7)
  have s3 : std ≠ bd := Ne.symm (Nat.ne_of_lt t8)
  have s4 : bd ≠ std := Nat.ne_of_lt t8
  have s5 : fmd ≠ bd := Ne.symm (Nat.ne_of_lt t9)
  have s6 : bd ≠ fmd := Nat.ne_of_lt t9
  clear t8 t9 t7
  have hbld := bok.bld hac
  have hwok := bok.words_ok
  have hware := bok.words_are
  have hal := flip_len hac
  have hpt := (split_of (pairs_sub hpt)).2.2.2.1
  clear od1 od2 od3 od4 od5 od6 od7 o1 o2 o3 o4 o5 o6 o7 o8 o9 ord l0
  refine held_go (lq_up (σ := Addr × Addr × Addr) (n := c.B.nodes.length + 1) (fun q => (std, dictOf (esf q.1) ne) :: (fmd, dictOf (eff q.2.1) nf) :: (bd, dictOf (ebf (.str ymd ytk) q.2.2) nb) :: R) (fun _ => []) [Str.ofString "current", Str.ofString "name"] (fun _ _ => True) (it0, fi0, er0) (by rfl) rgX (small_one (by omega) (by omega) (by omega) (by omega)) ?rs F8 N20 (by nofun) trivial ?turn ?done)
  case rs => rw [rangeSize_nat]; omega
  case done =>
    clear F8 N20 rgX
    intro q u h tk1 _ F1 N1
    simp only [kstB] at F1
    replace F1 : Fr _ (Array.size _) _ _ := F1
    replace N1 : News _ (Array.size _) _ _ := N1
    k_with "eqEnd" =>
      (k_here; k_dflt (first
        | (refine' led_eq_kids (by k_asm) (List.mem_cons_of_mem _ (List.mem_cons_of_mem _ (List.mem_cons_of_mem _ r12))) (List.mem_cons_of_mem _ (List.mem_cons_of_mem _ (List.mem_cons_of_mem _ r13))) hD.k hK2 (fun p hp => List.mem_cons_of_mem _ (List.mem_cons_of_mem _ (List.mem_cons_of_mem _ (rk1 p hp)))) (fun p hp => List.mem_cons_of_mem _ (List.mem_cons_of_mem _ (List.mem_cons_of_mem _ (rk2 p hp)))) (by exact Nat.le_of_ble_eq_true rfl) ?_; k_whole)
        | (refine' led_eq_told (by k_asm) List.mem_cons_self (List.mem_cons_of_mem _ (List.mem_cons_of_mem _ (List.mem_cons_of_mem _ (List.mem_cons_of_mem _ r14)))) (List.mem_cons_of_mem _ (List.mem_cons_of_mem _ (List.mem_cons_of_mem _ (List.mem_cons_of_mem _ r10)))) (List.mem_cons_of_mem _ (List.mem_cons_of_mem _ (List.mem_cons_of_mem _ (List.mem_cons_of_mem _ r6)))) (List.mem_cons_of_mem _ (List.mem_cons_of_mem _ (List.mem_cons_of_mem _ (List.mem_cons_of_mem _ r5)))) (List.mem_cons_of_mem _ (List.mem_cons_of_mem _ (List.mem_cons_of_mem _ (List.mem_cons_of_mem _ r11)))) (List.mem_cons_of_mem _ (List.mem_cons_of_mem _ (List.mem_cons_of_mem _ (List.mem_cons_of_mem _ r15)))) (List.mem_cons_of_mem _ (List.mem_cons_of_mem _ (List.mem_cons_of_mem _ (List.mem_cons_of_mem _ r16)))) (List.mem_cons_of_mem _ (List.mem_cons_of_mem _ (List.mem_cons_of_mem _ (List.mem_cons_of_mem _ r17)))) (List.mem_cons_of_mem _ (List.mem_cons_of_mem _ (List.mem_cons_of_mem _ (List.mem_cons_of_mem _ r18)))) hD.p c4.n c4.s c4.k hau hanu hasu haku bok.ok (by exact Nat.le_of_ble_eq_true rfl) ?_; k_whole)))
    k_steps
    wrow_close
  case turn =>
    clear F8 N20 rgX
    intro q i tk0 u h tk1 own hi hoff hnew _ F1 N1
    simp only [List.cons_append] at N1
    simp only [kstB, Int.zero_add] at F1
    replace F1 : Fr _ (Array.size _) _ _ := F1
    replace N1 : News _ (Array.size _) _ _ := N1
    obtain ⟨q1, q2, q3⟩ := q
    dsimp only at N1
    have v1' := List.forall_mem_append.mpr ⟨v1, hoff.ne (List.Mem.head _)⟩
    have v2' := List.forall_mem_append.mpr ⟨v2, hoff.ne (.tail _ (List.Mem.head _))⟩
    have v3' := List.forall_mem_append.mpr ⟨v3, hoff.ne (.tail _ (.tail _ (List.Mem.head _)))⟩
    have mk9 : heldP True := heldP_go trivial
    k_with "heldIE" =>
      (rename heldP True => mk9; clear mk9; refine held_of ?_)
    k_with "word" =>
      exact hware
    k_with "memw" =>
      exact List.mem_cons_of_mem _ (List.mem_cons_of_mem _ (List.mem_cons_of_mem _ (List.mem_append_left _ r7)))
    k_steps
    rename Fr _ _ _ _ => lF'; rename News _ _ _ _ => lN'
    refine held_go (mono_txt lF' lN' ?_ ?_)
    · k_steps
      · rename _ ∈ pairsX => hpw
        rename Fr _ _ _ _ => lF'; rename News _ _ _ _ => lN'
        exact ⟨_, _, _, _, rfl, rfl, Nat.le_trans (split_of hpw).2.2.2.1 (by decide), lF', fun p hp => lN' p (.tail _ hp)⟩
      · rename Fr _ _ _ _ => lF'; rename News _ _ _ _ => lN'
        exact ⟨_, _, _, _, rfl, rfl, Nat.le_of_ble_eq_true rfl, lF', lN'⟩
    · intro cur tcur h9 tk9 hcur F9 N9
      clear lF' lN'
      have hrng : ∀ x ∈ c.B.nodes, 0 ≤ x ∧ x < (c.B.D.names.length : Int) := fun x hx => by have := bok.pos x hx; omega
      have hmd : PyData.strOk ymd = true := by
        have h := hymd
        simp only [litL, List.mem_cons, List.not_mem_nil, or_false] at h
        rcases h with e | e <;> rw [e] <;> decide +kernel
      have ml2 : ∀ {p x y : Addr × Obj}, p ∈ R → p ∈ x :: y :: (R ++ own) := fun h => List.mem_cons_of_mem _ (List.mem_cons_of_mem _ (List.mem_append_left _ h))
      k_steps
      rename Fr _ _ _ _ => lF'; rename News _ _ _ _ => lN'; rename Addr => tu
      have hlt : ∀ p ∈ (std, dictOf (esf q1) ne) :: (fmd, dictOf (eff q2) nf) :: (bd, dictOf (ebf (.str ymd ytk) q3) nb) :: (R ++ own), p.1 < tu := by assumption
      have v1t : ∀ {o : Obj}, ∀ p ∈ (tu, o) :: (R ++ own), p.1 ≠ std := List.forall_mem_cons.mpr ⟨ne_hi hlt (by walk_at "memR"), v1'⟩
      have v2t : ∀ {o : Obj}, ∀ p ∈ (tu, o) :: (R ++ own), p.1 ≠ fmd := List.forall_mem_cons.mpr ⟨ne_hi hlt (by walk_at "memR"), v2'⟩
      have v3t : ∀ {o : Obj}, ∀ p ∈ (tu, o) :: (R ++ own), p.1 ≠ bd := List.forall_mem_cons.mpr ⟨ne_hi hlt (by walk_at "memR"), v3'⟩
      replace lN' := rotF lN'
      refine held_go ?_
      with_unfolding_all refine iter_tupTurns (by rfl) lF' lN' (List.Mem.tail _ (List.Mem.tail _ (List.Mem.tail _ (List.Mem.head _)))) (by rfl) (by rfl) ?_
      clear lF' lN' hlt
      intro it9 hit9
      k_with "unrEnd" =>
        (rename Fr _ _ _ _ => lF'; rename News _ _ _ _ => lN'; refine turn_end9 lF' lN' (List.forall_mem_cons.mpr ⟨ne_lo hit9 (List.Mem.head _), List.forall_mem_cons.mpr ⟨ne_lo hit9 (.tail _ (List.Mem.head _)), List.forall_mem_cons.mpr ⟨ne_lo hit9 (.tail _ (.tail _ (List.Mem.head _))), fun p hp => Nat.ne_of_lt (hit9 p (.tail _ (.tail _ (.tail _ hp))))⟩⟩⟩) ⟨⟨.tail _ (.tail _ (.tail _ (List.Mem.head _))), trivial⟩, ?_⟩; clear lF' lN')
      k_with "found" =>
        (k_dflt (refine' found_c (esf := esf) (eff := eff) (ebf := fun i => ebf (.str ymd ytk) i) (rest := _ :: _ :: (R ++ own)) ?B ?F ?X ?N ?T ?hk ?hd ?hu (List.forall_mem_cons.mpr ⟨?n1, v1t⟩) (List.forall_mem_cons.mpr ⟨?n2, v2t⟩) (List.forall_mem_cons.mpr ⟨?n3, v3t⟩) s1 s2 s3 s4 s5 s6 (ml2 r0) (ml2 r1) (ml2 r2) (ml2 r3) (ml2 r4) (ml2 r5) (ml2 r6) (ml2 r7) (ml2 r8) (ml2 r9)
                         c4.s c4.n c1 c2 hbv D1 D2 (fun i => D3 ymd ytk i) D4 p1 p2 (fun i j h k => p3 _ i j h k) z1 z2 (fun i => z3 _ i) hbld hrng ?l1 ?l2 ?l3 ?l4 ?l5 ?hn hwok hmd ?_; (case B => k_asm); (case F => k_asm); (case X => k_asm); (case N => exact rotF (by k_asm)); (case n1 => first | exact ne_hi (by assumption) (by walk_at "memR") | omega); (case n2 => first | exact ne_hi (by assumption) (by walk_at "memR") | omega); (case n3 => first | exact ne_hi (by assumption) (by walk_at "memR") | omega); (case T => k_asm); (case hk => first | exact rfl | assumption); (case hd => ktr_room); (case hu => exact Nat.le_of_ble_eq_true rfl); (case l1 => omega); (case l2 => omega); (case l3 => omega); (case l4 => omega); (case l5 => omega); (case hn => first | exact Nat.le_of_ble_eq_true rfl | omega); k_whole); intro _ _ _ h' tk' F' N'; (try k_sweep))
      k_steps
      rename Fr _ _ _ _ => lF'; rename News _ _ _ _ => lN'
      replace lN' := drop4 lN'
      exact lp_end (_, _, _) lF' lN' (fun p hp => List.mem_append_left own hp) (fun p hp => List.mem_cons_of_mem _ (List.mem_cons_of_mem _ (List.mem_cons_of_mem _ (List.mem_append_right _ hp)))) hoff (by nofun) (by kst_same) trivial
theorem whole : PySem.Challenge.rw_pb0145_01.Holds := packA.2 (packP_go (packB.2 (packP_go (packC.2 (packP_go (packD.2 (packP_go segE)))))))
end
end Mine
end
theorem PySem.Challenge.cw_pb0145_01_holds : PySem.Challenge.rw_pb0145_01.Holds := by
  exact Mine.whole
