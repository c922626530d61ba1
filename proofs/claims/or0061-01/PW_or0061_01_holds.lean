import PyProof.Rows.All
import Wide.All
import OpenK.AllK
import Wide.FinOn
import PySem.Challenge.RW_or0061_01
open PySem PySem.W PyProof.Rows
set_option Elab.async false
set_option maxRecDepth 100000
set_option maxHeartbeats 8000000
set_option compiler.extract_closed false
set_option genInjectivity false
set_option genSizeOf false
namespace Mine
/-! the head: the text's top, run once in the kernel -/
/-- what a def of the text is made of: its parameters, its body, its scope -/
def hd.pick (i : Nat) : Option (Arguments × List Stmt × Scope) := match PySem.Challenge.pw_or0061_01.main.body[i]? with
  | some (.FunctionDef _ a b _ _ _ s _ _ _) => some (a, b, s)
  | _ => none
def hd.pick2 (i j : Nat) : Option (Arguments × List Stmt × Scope) := match PySem.Challenge.pw_or0061_01.main.body[i]? with
  | some (.ClassDef _ _ _ l _ _ _ _ _ _ _) => (match l[j]? with
    | some (.FunctionDef _ a b _ _ _ s _ _ _) => some (a, b, s)
    | _ => none)
  | _ => none
@[reducible] def hd.fd {a : Arguments} {b : List Stmt} {s : Scope} (o : Option (Arguments × List Stmt × Scope)) (_ : o = some (a, b, s)) (name qual : Str) (closure : List (Str × Addr)) (dV kV doc pm : Value) (an : Option Addr) (cd ct : Value) (gl : Addr := 3) (bu : Addr := 0) : Data :=
  .func ⟨name, qual, a, .stmts b, s, gl, closure, dV, kV, doc, pm, an, cd, ct, bu⟩
noncomputable def hd.h2 (P : Params) : Obj := ⟨.none,none,(.dict #[⟨(PyData.keyHash P "type.__subclasses__.Exception.0"),(.str "type.__subclasses__.Exception.0" 483),(.int 227 0)⟩,⟨(PyData.keyHash P "type.__subclasses__.Exception.n"),(.str "type.__subclasses__.Exception.n" 484),(.int 1 0)⟩] 2),#[]⟩
noncomputable def hd.h3 (P : Params) : Obj := ⟨(.type "dict"),none,(.dict #[⟨(PyData.keyHash P "__name__"),(.str "__name__" 165),(.str "law_or0061_01" 700)⟩,⟨(PyData.keyHash P "__doc__"),(.str "__doc__" 166),.none⟩,⟨(PyData.keyHash P "__package__"),(.str "__package__" 167),.none⟩,⟨(PyData.keyHash P "__loader__"),(.str "__loader__" 168),(.builtin "__main__.__loader__#opaque")⟩,⟨(PyData.keyHash P "__spec__"),(.str "__spec__" 169),.none⟩,⟨(PyData.keyHash P "__annotations__"),(.str "__annotations__" 170),(.ref 6)⟩,⟨(PyData.keyHash P "__builtins__"),(.str "__builtins__" 171),(.ref 4)⟩,⟨(PyData.keyHash P "__file__"),(.str "__file__" 173),(.str "/claim/cut.py" 172)⟩,⟨(PyData.keyHash P "__cached__"),(.str "__cached__" 174),.none⟩,⟨(PyData.keyHash P "_wall"),(.str "_wall" 193),(.ref 21)⟩,⟨(PyData.keyHash P "ends_of"),(.str "ends_of" 205),(.ref 28)⟩,⟨(PyData.keyHash P "plain_set"),(.str "plain_set" 219),(.ref 35)⟩,⟨(PyData.keyHash P "ranges_of"),(.str "ranges_of" 228),(.ref 42)⟩,⟨(PyData.keyHash P "members"),(.str "members" 240),(.ref 49)⟩,⟨(PyData.keyHash P "Atom"),(.str "Atom" 278),(.ref 73)⟩,⟨(PyData.keyHash P "View"),(.str "View" 349),(.ref 124)⟩,⟨(PyData.keyHash P "place_among"),(.str "place_among" 360),(.ref 135)⟩,⟨(PyData.keyHash P "note"),(.str "note" 368),(.ref 142)⟩,⟨(PyData.keyHash P "is_stale"),(.str "is_stale" 376),(.ref 149)⟩,⟨(PyData.keyHash P "gone_uids"),(.str "gone_uids" 382),(.ref 154)⟩,⟨(PyData.keyHash P "new_letters"),(.str "new_letters" 388),(.ref 159)⟩,⟨(PyData.keyHash P "flag_pairs"),(.str "flag_pairs" 394),(.ref 164)⟩,⟨(PyData.keyHash P "flag_news"),(.str "flag_news" 404),(.ref 171)⟩,⟨(PyData.keyHash P "forget"),(.str "forget" 410),(.ref 176)⟩,⟨(PyData.keyHash P "expunge_news"),(.str "expunge_news" 420),(.ref 183)⟩,⟨(PyData.keyHash P "arrival_news"),(.str "arrival_news" 429),(.ref 190)⟩,⟨(PyData.keyHash P "news"),(.str "news" 438),(.ref 197)⟩,⟨(PyData.keyHash P "is_up_to_date"),(.str "is_up_to_date" 444),(.ref 202)⟩,⟨(PyData.keyHash P "PostError"),(.str "PostError" 486),(.ref 227)⟩,⟨(PyData.keyHash P "StoreFault"),(.str "StoreFault" 502),(.ref 240)⟩,⟨(PyData.keyHash P "SYSTEM"),(.str "SYSTEM" 506),(.str "\\Seen \\Answered \\Flagged \\Deleted \\Draft" 505)⟩,⟨(PyData.keyHash P "NO_KEYWORD"),(.str "NO_KEYWORD" 508),(.str "(){ %*\"\\]" 507)⟩,⟨(PyData.keyHash P "MOST_KEYWORD"),(.str "MOST_KEYWORD" 510),(.int 60 509)⟩,⟨(PyData.keyHash P "system_flags"),(.str "system_flags" 516),(.ref 249)⟩,⟨(PyData.keyHash P "is_keyword"),(.str "is_keyword" 524),(.ref 256)⟩,⟨(PyData.keyHash P "flag_name"),(.str "flag_name" 532),(.ref 263)⟩,⟨(PyData.keyHash P "flag_tuple"),(.str "flag_tuple" 542),(.ref 270)⟩,⟨(PyData.keyHash P "Letter"),(.str "Letter" 594),(.ref 301)⟩,⟨(PyData.keyHash P "Box"),(.str "Box" 651),(.ref 339)⟩,⟨(PyData.keyHash P "place_of"),(.str "place_of" 662),(.ref 350)⟩,⟨(PyData.keyHash P "raised"),(.str "raised" 669),(.ref 357)⟩,⟨(PyData.keyHash P "add_letter"),(.str "add_letter" 681),(.ref 364)⟩,⟨(PyData.keyHash P "set_flags"),(.str "set_flags" 693),(.ref 371)⟩,⟨(PyData.keyHash P "expunge"),(.str "expunge" 699),(.ref 376)⟩,⟨(PyData.keyHash P "_law_deck"),(.str "_law_deck" 707),(.ref 381)⟩,⟨(PyData.keyHash P "_law_card"),(.str "_law_card" 717),(.ref 388)⟩,⟨(PyData.keyHash P "_law_sorts"),(.str "_law_sorts" 723),(.ref 395)⟩,⟨(PyData.keyHash P "_law_like"),(.str "_law_like" 729),(.ref 400)⟩,⟨(PyData.keyHash P "law"),(.str "law" 749),(.ref 407)⟩] 49),#[]⟩
noncomputable def hd.h15 (P : Params) : Obj := ⟨(.type "tuple"),none,(.seq #[] 0),#[]⟩
noncomputable def hd.h17 (P : Params) : Obj := ⟨(.type "tuple"),none,(.seq #[(.str "k" 190)] 0),#[]⟩
noncomputable def hd.h18 (P : Params) : Obj := ⟨(.type "tuple"),none,(.seq #[] 0),#[]⟩
noncomputable def hd.h20 (P : Params) : Obj := ⟨(.type "code"),none,(.fields #[(.str "_wall" 187),(.str "_wall" 188),(.str "/claim/cut.py" 189),(.int 1 0),(.int 1 0),(.int 0 0),(.int 0 0),(.int 3 0),(.ref 15),(.bool true),(.int 181 0),(.ref 16),.none,(.ref 17),(.ref 18),(.ref 19),(.int 191 0),(.int 1 0),(.str "/claim/cut.py" 192)]),#[]⟩
open hd in
noncomputable def hd.h21 (P : Params) : Obj := ⟨(.type "function"),none,(fd (pick 0) rfl "_wall" "_wall" [] .none .none .none (.str "__main__" 164) none (.ref 20) .none),#[]⟩
noncomputable def hd.h22 (P : Params) : Obj := ⟨(.type "tuple"),none,(.seq #[] 0),#[]⟩
noncomputable def hd.h24 (P : Params) : Obj := ⟨(.type "tuple"),none,(.seq #[(.str "pair" 199),(.str "greatest" 200),(.str "low" 201),(.str "high" 202)] 0),#[]⟩
noncomputable def hd.h25 (P : Params) : Obj := ⟨(.type "tuple"),none,(.seq #[] 0),#[]⟩
noncomputable def hd.h27 (P : Params) : Obj := ⟨(.type "code"),none,(.fields #[(.str "ends_of" 196),(.str "ends_of" 197),(.str "/claim/cut.py" 198),(.int 5 0),(.int 2 0),(.int 0 0),(.int 0 0),(.int 3 0),(.ref 22),(.bool true),(.int 181 0),(.ref 23),.none,(.ref 24),(.ref 25),(.ref 26),(.int 203 0),(.int 5 0),(.str "/claim/cut.py" 204)]),#[]⟩
open hd in
noncomputable def hd.h28 (P : Params) : Obj := ⟨(.type "function"),none,(fd (pick 2) rfl "ends_of" "ends_of" [] .none .none .none (.str "postkeep.sets" 194) none (.ref 27) .none),#[]⟩
noncomputable def hd.h29 (P : Params) : Obj := ⟨(.type "tuple"),none,(.seq #[] 0),#[]⟩
noncomputable def hd.h31 (P : Params) : Obj := ⟨(.type "tuple"),none,(.seq #[(.str "some" 209),(.str "greatest" 210),(.str "pairs" 211),(.str "pair" 212),(.str "ends" 213),(.str "out" 214),(.str "low" 215),(.str "high" 216)] 0),#[]⟩
noncomputable def hd.h32 (P : Params) : Obj := ⟨(.type "tuple"),none,(.seq #[] 0),#[]⟩
noncomputable def hd.h34 (P : Params) : Obj := ⟨(.type "code"),none,(.fields #[(.str "plain_set" 206),(.str "plain_set" 207),(.str "/claim/cut.py" 208),(.int 14 0),(.int 2 0),(.int 0 0),(.int 0 0),(.int 3 0),(.ref 29),(.bool true),(.int 181 0),(.ref 30),.none,(.ref 31),(.ref 32),(.ref 33),(.int 217 0),(.int 14 0),(.str "/claim/cut.py" 218)]),#[]⟩
open hd in
noncomputable def hd.h35 (P : Params) : Obj := ⟨(.type "function"),none,(fd (pick 3) rfl "plain_set" "plain_set" [] .none .none .none (.str "postkeep.sets" 194) none (.ref 34) .none),#[]⟩
noncomputable def hd.h36 (P : Params) : Obj := ⟨(.type "tuple"),none,(.seq #[] 0),#[]⟩
noncomputable def hd.h38 (P : Params) : Obj := ⟨(.type "tuple"),none,(.seq #[(.str "numbers" 223),(.str "out" 224),(.str "number" 225)] 0),#[]⟩
noncomputable def hd.h39 (P : Params) : Obj := ⟨(.type "tuple"),none,(.seq #[] 0),#[]⟩
noncomputable def hd.h41 (P : Params) : Obj := ⟨(.type "code"),none,(.fields #[(.str "ranges_of" 220),(.str "ranges_of" 221),(.str "/claim/cut.py" 222),(.int 28 0),(.int 1 0),(.int 0 0),(.int 0 0),(.int 3 0),(.ref 36),(.bool true),(.int 181 0),(.ref 37),.none,(.ref 38),(.ref 39),(.ref 40),(.int 226 0),(.int 28 0),(.str "/claim/cut.py" 227)]),#[]⟩
open hd in
noncomputable def hd.h42 (P : Params) : Obj := ⟨(.type "function"),none,(fd (pick 4) rfl "ranges_of" "ranges_of" [] .none .none .none (.str "postkeep.sets" 194) none (.ref 41) .none),#[]⟩
noncomputable def hd.h43 (P : Params) : Obj := ⟨(.type "tuple"),none,(.seq #[] 0),#[]⟩
noncomputable def hd.h45 (P : Params) : Obj := ⟨(.type "tuple"),none,(.seq #[(.str "some" 232),(.str "numbers" 233),(.str "pairs" 234),(.str "out" 235),(.str "at" 236),(.str "number" 237)] 0),#[]⟩
noncomputable def hd.h46 (P : Params) : Obj := ⟨(.type "tuple"),none,(.seq #[] 0),#[]⟩
noncomputable def hd.h48 (P : Params) : Obj := ⟨(.type "code"),none,(.fields #[(.str "members" 229),(.str "members" 230),(.str "/claim/cut.py" 231),(.int 36 0),(.int 2 0),(.int 0 0),(.int 0 0),(.int 3 0),(.ref 43),(.bool true),(.int 181 0),(.ref 44),.none,(.ref 45),(.ref 46),(.ref 47),(.int 238 0),(.int 36 0),(.str "/claim/cut.py" 239)]),#[]⟩
open hd in
noncomputable def hd.h49 (P : Params) : Obj := ⟨(.type "function"),none,(fd (pick 5) rfl "members" "members" [] .none .none .none (.str "postkeep.sets" 194) none (.ref 48) .none),#[]⟩
noncomputable def hd.h57 (P : Params) : Obj := ⟨(.type "tuple"),none,(.seq #[] 0),#[]⟩
noncomputable def hd.h59 (P : Params) : Obj := ⟨(.type "tuple"),none,(.seq #[(.str "self" 258),(.str "text" 259)] 0),#[]⟩
noncomputable def hd.h60 (P : Params) : Obj := ⟨(.type "tuple"),none,(.seq #[] 0),#[]⟩
noncomputable def hd.h62 (P : Params) : Obj := ⟨(.type "code"),none,(.fields #[(.str "__init__" 255),(.str "Atom.__init__" 256),(.str "/claim/cut.py" 257),(.int 51 0),(.int 2 0),(.int 0 0),(.int 0 0),(.int 3 0),(.ref 57),(.bool true),(.int 181 0),(.ref 58),.none,(.ref 59),(.ref 60),(.ref 61),(.int 260 0),(.int 51 0),(.str "/claim/cut.py" 261)]),#[]⟩
open hd in
noncomputable def hd.h63 (P : Params) : Obj := ⟨(.type "function"),none,(fd (pick2 7 0) rfl "__init__" "Atom.__init__" [] .none .none .none (.str "postkeep.wire" 241) none (.ref 62) .none),#[]⟩
noncomputable def hd.h64 (P : Params) : Obj := ⟨(.type "tuple"),none,(.seq #[] 0),#[]⟩
noncomputable def hd.h66 (P : Params) : Obj := ⟨(.type "tuple"),none,(.seq #[(.str "self" 266)] 0),#[]⟩
noncomputable def hd.h67 (P : Params) : Obj := ⟨(.type "tuple"),none,(.seq #[] 0),#[]⟩
noncomputable def hd.h69 (P : Params) : Obj := ⟨(.type "code"),none,(.fields #[(.str "told" 263),(.str "Atom.told" 264),(.str "/claim/cut.py" 265),(.int 54 0),(.int 1 0),(.int 0 0),(.int 0 0),(.int 3 0),(.ref 64),(.bool true),(.int 181 0),(.ref 65),.none,(.ref 66),(.ref 67),(.ref 68),(.int 267 0),(.int 54 0),(.str "/claim/cut.py" 268)]),#[]⟩
open hd in
noncomputable def hd.h70 (P : Params) : Obj := ⟨(.type "function"),none,(fd (pick2 7 1) rfl "told" "Atom.told" [] .none .none .none (.str "postkeep.wire" 241) none (.ref 69) .none),#[]⟩
noncomputable def hd.h71 (P : Params) : Obj := ⟨(.type "tuple"),none,(.seq #[(.str "text" 270)] 0),#[]⟩
noncomputable def hd.h72 (P : Params) : Obj := ⟨(.type "dict"),none,(.dict #[⟨(PyData.keyHash P "__module__"),(.str "__module__" 250),(.str "postkeep.wire" 241)⟩,⟨(PyData.keyHash P "__firstlineno__"),(.str "__firstlineno__" 254),(.int 49 253)⟩,⟨(PyData.keyHash P "__init__"),(.str "__init__" 262),(.ref 63)⟩,⟨(PyData.keyHash P "told"),(.str "told" 269),(.ref 70)⟩,⟨(PyData.keyHash P "__static_attributes__"),(.str "__static_attributes__" 271),(.ref 71)⟩,⟨(PyData.keyHash P "__dict__"),(.str "__dict__" 273),(.ref 74)⟩,⟨(PyData.keyHash P "__weakref__"),(.str "__weakref__" 275),(.ref 75)⟩,⟨(PyData.keyHash P "__doc__"),(.str "__doc__" 276),.none⟩] 4),#[]⟩
noncomputable def hd.h73 (P : Params) : Obj := ⟨(.type "type"),none,(.cls ⟨"Atom",[(.type "object")],[(.ref 73),(.type "object")],72,"Atom",true,[],[],false,none,false⟩),#[none,none,(some (.str "Atom" 243)),(some (.str "Atom" 251)),(some (.builtin "object.__new__")),(some (.bool true))]⟩
noncomputable def hd.h74 (P : Params) : Obj := ⟨(.type "getset_descriptor"),none,(.fields #[(.str "__dict__" 272),(.ref 73),(.builtin "function.__dict__"),(.builtin "function.__dict__#set")]),#[]⟩
noncomputable def hd.h75 (P : Params) : Obj := ⟨(.type "getset_descriptor"),none,(.fields #[(.str "__weakref__" 274),(.ref 73),(.builtin "ExceptionGroup.__weakref__"),.none]),#[]⟩
noncomputable def hd.h85 (P : Params) : Obj := ⟨(.type "tuple"),none,(.seq #[(.bool false),(.bool false),(.bool false)] 0),#[]⟩
noncomputable def hd.h86 (P : Params) : Obj := ⟨(.type "tuple"),none,(.seq #[] 0),#[]⟩
noncomputable def hd.h89 (P : Params) : Obj := ⟨(.type "code"),none,(.fields #[(.str "__init__" 293),(.str "View.__init__" 294),(.str "/claim/cut.py" 295),(.int 59 0),(.int 5 0),(.int 0 0),(.int 0 0),(.int 3 0),(.ref 86),(.bool true),(.int 181 0),(.ref 87),.none,.none,.none,(.ref 88),(.int 296 0),(.int 59 0),(.str "/claim/cut.py" 297)]),#[]⟩
open hd in
noncomputable def hd.h90 (P : Params) : Obj := ⟨(.type "function"),none,(fd (pick2 9 0) rfl "__init__" "View.__init__" [] (.ref 85) .none .none (.str "postkeep.view" 279) none (.ref 89) .none),#[]⟩
noncomputable def hd.h91 (P : Params) : Obj := ⟨(.type "tuple"),none,(.seq #[] 0),#[]⟩
noncomputable def hd.h93 (P : Params) : Obj := ⟨(.type "tuple"),none,(.seq #[(.str "self" 302),(.str "uid" 303)] 0),#[]⟩
noncomputable def hd.h94 (P : Params) : Obj := ⟨(.type "tuple"),none,(.seq #[] 0),#[]⟩
noncomputable def hd.h96 (P : Params) : Obj := ⟨(.type "code"),none,(.fields #[(.str "number_of" 299),(.str "View.number_of" 300),(.str "/claim/cut.py" 301),(.int 68 0),(.int 2 0),(.int 0 0),(.int 0 0),(.int 3 0),(.ref 91),(.bool true),(.int 181 0),(.ref 92),.none,(.ref 93),(.ref 94),(.ref 95),(.int 304 0),(.int 68 0),(.str "/claim/cut.py" 305)]),#[]⟩
open hd in
noncomputable def hd.h97 (P : Params) : Obj := ⟨(.type "function"),none,(fd (pick2 9 1) rfl "number_of" "View.number_of" [] .none .none .none (.str "postkeep.view" 279) none (.ref 96) .none),#[]⟩
noncomputable def hd.h98 (P : Params) : Obj := ⟨(.type "tuple"),none,(.seq #[] 0),#[]⟩
noncomputable def hd.h100 (P : Params) : Obj := ⟨(.type "tuple"),none,(.seq #[(.str "self" 310),(.str "number" 311)] 0),#[]⟩
noncomputable def hd.h101 (P : Params) : Obj := ⟨(.type "tuple"),none,(.seq #[] 0),#[]⟩
noncomputable def hd.h103 (P : Params) : Obj := ⟨(.type "code"),none,(.fields #[(.str "uid_at" 307),(.str "View.uid_at" 308),(.str "/claim/cut.py" 309),(.int 71 0),(.int 2 0),(.int 0 0),(.int 0 0),(.int 3 0),(.ref 98),(.bool true),(.int 181 0),(.ref 99),.none,(.ref 100),(.ref 101),(.ref 102),(.int 312 0),(.int 71 0),(.str "/claim/cut.py" 313)]),#[]⟩
open hd in
noncomputable def hd.h104 (P : Params) : Obj := ⟨(.type "function"),none,(fd (pick2 9 2) rfl "uid_at" "View.uid_at" [] .none .none .none (.str "postkeep.view" 279) none (.ref 103) .none),#[]⟩
noncomputable def hd.h105 (P : Params) : Obj := ⟨(.type "tuple"),none,(.seq #[] 0),#[]⟩
noncomputable def hd.h108 (P : Params) : Obj := ⟨(.type "code"),none,(.fields #[(.str "uids_in" 315),(.str "View.uids_in" 316),(.str "/claim/cut.py" 317),(.int 74 0),(.int 3 0),(.int 0 0),(.int 0 0),(.int 3 0),(.ref 105),(.bool true),(.int 181 0),(.ref 106),.none,.none,.none,(.ref 107),(.int 318 0),(.int 74 0),(.str "/claim/cut.py" 319)]),#[]⟩
open hd in
noncomputable def hd.h109 (P : Params) : Obj := ⟨(.type "function"),none,(fd (pick2 9 3) rfl "uids_in" "View.uids_in" [] .none .none .none (.str "postkeep.view" 279) none (.ref 108) .none),#[]⟩
noncomputable def hd.h110 (P : Params) : Obj := ⟨(.type "tuple"),none,(.seq #[] 0),#[]⟩
noncomputable def hd.h112 (P : Params) : Obj := ⟨(.type "tuple"),none,(.seq #[(.str "self" 324),(.str "some" 325)] 0),#[]⟩
noncomputable def hd.h113 (P : Params) : Obj := ⟨(.type "tuple"),none,(.seq #[] 0),#[]⟩
noncomputable def hd.h115 (P : Params) : Obj := ⟨(.type "code"),none,(.fields #[(.str "has_number" 321),(.str "View.has_number" 322),(.str "/claim/cut.py" 323),(.int 79 0),(.int 2 0),(.int 0 0),(.int 0 0),(.int 3 0),(.ref 110),(.bool true),(.int 181 0),(.ref 111),.none,(.ref 112),(.ref 113),(.ref 114),(.int 326 0),(.int 79 0),(.str "/claim/cut.py" 327)]),#[]⟩
open hd in
noncomputable def hd.h116 (P : Params) : Obj := ⟨(.type "function"),none,(fd (pick2 9 4) rfl "has_number" "View.has_number" [] .none .none .none (.str "postkeep.view" 279) none (.ref 115) .none),#[]⟩
noncomputable def hd.h117 (P : Params) : Obj := ⟨(.type "tuple"),none,(.seq #[] 0),#[]⟩
noncomputable def hd.h120 (P : Params) : Obj := ⟨(.type "code"),none,(.fields #[(.str "told" 329),(.str "View.told" 330),(.str "/claim/cut.py" 331),(.int 82 0),(.int 1 0),(.int 0 0),(.int 0 0),(.int 3 0),(.ref 117),(.bool true),(.int 181 0),(.ref 118),.none,.none,.none,(.ref 119),(.int 332 0),(.int 82 0),(.str "/claim/cut.py" 333)]),#[]⟩
open hd in
noncomputable def hd.h121 (P : Params) : Obj := ⟨(.type "function"),none,(fd (pick2 9 5) rfl "told" "View.told" [] .none .none .none (.str "postkeep.view" 279) none (.ref 120) .none),#[]⟩
noncomputable def hd.h122 (P : Params) : Obj := ⟨(.type "tuple"),none,(.seq #[(.str "box" 335),(.str "flags" 336),(.str "is_readonly" 337),(.str "modseqs" 338),(.str "uids" 339),(.str "uses_modseq" 340),(.str "uses_vanished" 341)] 0),#[]⟩
noncomputable def hd.h123 (P : Params) : Obj := ⟨(.type "dict"),none,(.dict #[⟨(PyData.keyHash P "__module__"),(.str "__module__" 288),(.str "postkeep.view" 279)⟩,⟨(PyData.keyHash P "__firstlineno__"),(.str "__firstlineno__" 292),(.int 57 291)⟩,⟨(PyData.keyHash P "__init__"),(.str "__init__" 298),(.ref 90)⟩,⟨(PyData.keyHash P "number_of"),(.str "number_of" 306),(.ref 97)⟩,⟨(PyData.keyHash P "uid_at"),(.str "uid_at" 314),(.ref 104)⟩,⟨(PyData.keyHash P "uids_in"),(.str "uids_in" 320),(.ref 109)⟩,⟨(PyData.keyHash P "has_number"),(.str "has_number" 328),(.ref 116)⟩,⟨(PyData.keyHash P "told"),(.str "told" 334),(.ref 121)⟩,⟨(PyData.keyHash P "__static_attributes__"),(.str "__static_attributes__" 342),(.ref 122)⟩,⟨(PyData.keyHash P "__dict__"),(.str "__dict__" 344),(.ref 125)⟩,⟨(PyData.keyHash P "__weakref__"),(.str "__weakref__" 346),(.ref 126)⟩,⟨(PyData.keyHash P "__doc__"),(.str "__doc__" 347),.none⟩] 4),#[]⟩
noncomputable def hd.h124 (P : Params) : Obj := ⟨(.type "type"),none,(.cls ⟨"View",[(.type "object")],[(.ref 124),(.type "object")],123,"View",true,[],[],false,none,false⟩),#[none,none,(some (.str "View" 281)),(some (.str "View" 289)),(some (.builtin "object.__new__")),(some (.bool true))]⟩
noncomputable def hd.h125 (P : Params) : Obj := ⟨(.type "getset_descriptor"),none,(.fields #[(.str "__dict__" 343),(.ref 124),(.builtin "function.__dict__"),(.builtin "function.__dict__#set")]),#[]⟩
noncomputable def hd.h126 (P : Params) : Obj := ⟨(.type "getset_descriptor"),none,(.fields #[(.str "__weakref__" 345),(.ref 124),(.builtin "ExceptionGroup.__weakref__"),.none]),#[]⟩
noncomputable def hd.h129 (P : Params) : Obj := ⟨(.type "tuple"),none,(.seq #[] 0),#[]⟩
noncomputable def hd.h131 (P : Params) : Obj := ⟨(.type "tuple"),none,(.seq #[(.str "uids" 353),(.str "uid" 354),(.str "low" 355),(.str "high" 356),(.str "middle" 357)] 0),#[]⟩
noncomputable def hd.h132 (P : Params) : Obj := ⟨(.type "tuple"),none,(.seq #[] 0),#[]⟩
noncomputable def hd.h134 (P : Params) : Obj := ⟨(.type "code"),none,(.fields #[(.str "place_among" 350),(.str "place_among" 351),(.str "/claim/cut.py" 352),(.int 84 0),(.int 2 0),(.int 0 0),(.int 0 0),(.int 3 0),(.ref 129),(.bool true),(.int 181 0),(.ref 130),.none,(.ref 131),(.ref 132),(.ref 133),(.int 358 0),(.int 84 0),(.str "/claim/cut.py" 359)]),#[]⟩
open hd in
noncomputable def hd.h135 (P : Params) : Obj := ⟨(.type "function"),none,(fd (pick 10) rfl "place_among" "place_among" [] .none .none .none (.str "postkeep.view" 279) none (.ref 134) .none),#[]⟩
noncomputable def hd.h136 (P : Params) : Obj := ⟨(.type "tuple"),none,(.seq #[] 0),#[]⟩
noncomputable def hd.h138 (P : Params) : Obj := ⟨(.type "tuple"),none,(.seq #[(.str "view" 364),(.str "letter" 365)] 0),#[]⟩
noncomputable def hd.h139 (P : Params) : Obj := ⟨(.type "tuple"),none,(.seq #[] 0),#[]⟩
noncomputable def hd.h141 (P : Params) : Obj := ⟨(.type "code"),none,(.fields #[(.str "note" 361),(.str "note" 362),(.str "/claim/cut.py" 363),(.int 93 0),(.int 2 0),(.int 0 0),(.int 0 0),(.int 3 0),(.ref 136),(.bool true),(.int 181 0),(.ref 137),.none,(.ref 138),(.ref 139),(.ref 140),(.int 366 0),(.int 93 0),(.str "/claim/cut.py" 367)]),#[]⟩
open hd in
noncomputable def hd.h142 (P : Params) : Obj := ⟨(.type "function"),none,(fd (pick 11) rfl "note" "note" [] .none .none .none (.str "postkeep.view" 279) none (.ref 141) .none),#[]⟩
noncomputable def hd.h143 (P : Params) : Obj := ⟨(.type "tuple"),none,(.seq #[] 0),#[]⟩
noncomputable def hd.h145 (P : Params) : Obj := ⟨(.type "tuple"),none,(.seq #[(.str "view" 372),(.str "letter" 373)] 0),#[]⟩
noncomputable def hd.h146 (P : Params) : Obj := ⟨(.type "tuple"),none,(.seq #[] 0),#[]⟩
noncomputable def hd.h148 (P : Params) : Obj := ⟨(.type "code"),none,(.fields #[(.str "is_stale" 369),(.str "is_stale" 370),(.str "/claim/cut.py" 371),(.int 96 0),(.int 2 0),(.int 0 0),(.int 0 0),(.int 3 0),(.ref 143),(.bool true),(.int 181 0),(.ref 144),.none,(.ref 145),(.ref 146),(.ref 147),(.int 374 0),(.int 96 0),(.str "/claim/cut.py" 375)]),#[]⟩
open hd in
noncomputable def hd.h149 (P : Params) : Obj := ⟨(.type "function"),none,(fd (pick 12) rfl "is_stale" "is_stale" [] .none .none .none (.str "postkeep.view" 279) none (.ref 148) .none),#[]⟩
noncomputable def hd.h150 (P : Params) : Obj := ⟨(.type "tuple"),none,(.seq #[] 0),#[]⟩
noncomputable def hd.h153 (P : Params) : Obj := ⟨(.type "code"),none,(.fields #[(.str "gone_uids" 377),(.str "gone_uids" 378),(.str "/claim/cut.py" 379),(.int 100 0),(.int 1 0),(.int 0 0),(.int 0 0),(.int 3 0),(.ref 150),(.bool true),(.int 181 0),(.ref 151),.none,.none,.none,(.ref 152),(.int 380 0),(.int 100 0),(.str "/claim/cut.py" 381)]),#[]⟩
open hd in
noncomputable def hd.h154 (P : Params) : Obj := ⟨(.type "function"),none,(fd (pick 13) rfl "gone_uids" "gone_uids" [] .none .none .none (.str "postkeep.view" 279) none (.ref 153) .none),#[]⟩
noncomputable def hd.h155 (P : Params) : Obj := ⟨(.type "tuple"),none,(.seq #[] 0),#[]⟩
noncomputable def hd.h158 (P : Params) : Obj := ⟨(.type "code"),none,(.fields #[(.str "new_letters" 383),(.str "new_letters" 384),(.str "/claim/cut.py" 385),(.int 103 0),(.int 1 0),(.int 0 0),(.int 0 0),(.int 3 0),(.ref 155),(.bool true),(.int 181 0),(.ref 156),.none,.none,.none,(.ref 157),(.int 386 0),(.int 103 0),(.str "/claim/cut.py" 387)]),#[]⟩
open hd in
noncomputable def hd.h159 (P : Params) : Obj := ⟨(.type "function"),none,(fd (pick 14) rfl "new_letters" "new_letters" [] .none .none .none (.str "postkeep.view" 279) none (.ref 158) .none),#[]⟩
noncomputable def hd.h160 (P : Params) : Obj := ⟨(.type "tuple"),none,(.seq #[] 0),#[]⟩
noncomputable def hd.h163 (P : Params) : Obj := ⟨(.type "code"),none,(.fields #[(.str "flag_pairs" 389),(.str "flag_pairs" 390),(.str "/claim/cut.py" 391),(.int 106 0),(.int 2 0),(.int 0 0),(.int 0 0),(.int 3 0),(.ref 160),(.bool true),(.int 181 0),(.ref 161),.none,.none,.none,(.ref 162),(.int 392 0),(.int 106 0),(.str "/claim/cut.py" 393)]),#[]⟩
open hd in
noncomputable def hd.h164 (P : Params) : Obj := ⟨(.type "function"),none,(fd (pick 15) rfl "flag_pairs" "flag_pairs" [] .none .none .none (.str "postkeep.view" 279) none (.ref 163) .none),#[]⟩
noncomputable def hd.h165 (P : Params) : Obj := ⟨(.type "tuple"),none,(.seq #[] 0),#[]⟩
noncomputable def hd.h167 (P : Params) : Obj := ⟨(.type "tuple"),none,(.seq #[(.str "view" 398),(.str "answers" 399),(.str "at" 400),(.str "letter" 401)] 0),#[]⟩
noncomputable def hd.h168 (P : Params) : Obj := ⟨(.type "tuple"),none,(.seq #[] 0),#[]⟩
noncomputable def hd.h170 (P : Params) : Obj := ⟨(.type "code"),none,(.fields #[(.str "flag_news" 395),(.str "flag_news" 396),(.str "/claim/cut.py" 397),(.int 113 0),(.int 1 0),(.int 0 0),(.int 0 0),(.int 3 0),(.ref 165),(.bool true),(.int 181 0),(.ref 166),.none,(.ref 167),(.ref 168),(.ref 169),(.int 402 0),(.int 113 0),(.str "/claim/cut.py" 403)]),#[]⟩
open hd in
noncomputable def hd.h171 (P : Params) : Obj := ⟨(.type "function"),none,(fd (pick 16) rfl "flag_news" "flag_news" [] .none .none .none (.str "postkeep.view" 279) none (.ref 170) .none),#[]⟩
noncomputable def hd.h172 (P : Params) : Obj := ⟨(.type "tuple"),none,(.seq #[] 0),#[]⟩
noncomputable def hd.h175 (P : Params) : Obj := ⟨(.type "code"),none,(.fields #[(.str "forget" 405),(.str "forget" 406),(.str "/claim/cut.py" 407),(.int 121 0),(.int 2 0),(.int 0 0),(.int 0 0),(.int 3 0),(.ref 172),(.bool true),(.int 181 0),(.ref 173),.none,.none,.none,(.ref 174),(.int 408 0),(.int 121 0),(.str "/claim/cut.py" 409)]),#[]⟩
open hd in
noncomputable def hd.h176 (P : Params) : Obj := ⟨(.type "function"),none,(fd (pick 17) rfl "forget" "forget" [] .none .none .none (.str "postkeep.view" 279) none (.ref 175) .none),#[]⟩
noncomputable def hd.h177 (P : Params) : Obj := ⟨(.type "tuple"),none,(.seq #[] 0),#[]⟩
noncomputable def hd.h179 (P : Params) : Obj := ⟨(.type "tuple"),none,(.seq #[(.str "view" 414),(.str "gone" 415),(.str "answers" 416),(.str "uid" 417)] 0),#[]⟩
noncomputable def hd.h180 (P : Params) : Obj := ⟨(.type "tuple"),none,(.seq #[] 0),#[]⟩
noncomputable def hd.h182 (P : Params) : Obj := ⟨(.type "code"),none,(.fields #[(.str "expunge_news" 411),(.str "expunge_news" 412),(.str "/claim/cut.py" 413),(.int 125 0),(.int 1 0),(.int 0 0),(.int 0 0),(.int 3 0),(.ref 177),(.bool true),(.int 181 0),(.ref 178),.none,(.ref 179),(.ref 180),(.ref 181),(.int 418 0),(.int 125 0),(.str "/claim/cut.py" 419)]),#[]⟩
open hd in
noncomputable def hd.h183 (P : Params) : Obj := ⟨(.type "function"),none,(fd (pick 18) rfl "expunge_news" "expunge_news" [] .none .none .none (.str "postkeep.view" 279) none (.ref 182) .none),#[]⟩
noncomputable def hd.h184 (P : Params) : Obj := ⟨(.type "tuple"),none,(.seq #[] 0),#[]⟩
noncomputable def hd.h186 (P : Params) : Obj := ⟨(.type "tuple"),none,(.seq #[(.str "view" 424),(.str "letters" 425),(.str "letter" 426)] 0),#[]⟩
noncomputable def hd.h187 (P : Params) : Obj := ⟨(.type "tuple"),none,(.seq #[] 0),#[]⟩
noncomputable def hd.h189 (P : Params) : Obj := ⟨(.type "code"),none,(.fields #[(.str "arrival_news" 421),(.str "arrival_news" 422),(.str "/claim/cut.py" 423),(.int 135 0),(.int 1 0),(.int 0 0),(.int 0 0),(.int 3 0),(.ref 184),(.bool true),(.int 181 0),(.ref 185),.none,(.ref 186),(.ref 187),(.ref 188),(.int 427 0),(.int 135 0),(.str "/claim/cut.py" 428)]),#[]⟩
open hd in
noncomputable def hd.h190 (P : Params) : Obj := ⟨(.type "function"),none,(fd (pick 19) rfl "arrival_news" "arrival_news" [] .none .none .none (.str "postkeep.view" 279) none (.ref 189) .none),#[]⟩
noncomputable def hd.h191 (P : Params) : Obj := ⟨(.type "tuple"),none,(.seq #[] 0),#[]⟩
noncomputable def hd.h193 (P : Params) : Obj := ⟨(.type "tuple"),none,(.seq #[(.str "view" 433),(.str "may_expunge" 434),(.str "answers" 435)] 0),#[]⟩
noncomputable def hd.h194 (P : Params) : Obj := ⟨(.type "tuple"),none,(.seq #[] 0),#[]⟩
noncomputable def hd.h196 (P : Params) : Obj := ⟨(.type "code"),none,(.fields #[(.str "news" 430),(.str "news" 431),(.str "/claim/cut.py" 432),(.int 141 0),(.int 2 0),(.int 0 0),(.int 0 0),(.int 3 0),(.ref 191),(.bool true),(.int 181 0),(.ref 192),.none,(.ref 193),(.ref 194),(.ref 195),(.int 436 0),(.int 141 0),(.str "/claim/cut.py" 437)]),#[]⟩
open hd in
noncomputable def hd.h197 (P : Params) : Obj := ⟨(.type "function"),none,(fd (pick 20) rfl "news" "news" [] .none .none .none (.str "postkeep.view" 279) none (.ref 196) .none),#[]⟩
noncomputable def hd.h198 (P : Params) : Obj := ⟨(.type "tuple"),none,(.seq #[] 0),#[]⟩
noncomputable def hd.h201 (P : Params) : Obj := ⟨(.type "code"),none,(.fields #[(.str "is_up_to_date" 439),(.str "is_up_to_date" 440),(.str "/claim/cut.py" 441),(.int 146 0),(.int 1 0),(.int 0 0),(.int 0 0),(.int 3 0),(.ref 198),(.bool true),(.int 181 0),(.ref 199),.none,.none,.none,(.ref 200),(.int 442 0),(.int 146 0),(.str "/claim/cut.py" 443)]),#[]⟩
open hd in
noncomputable def hd.h202 (P : Params) : Obj := ⟨(.type "function"),none,(fd (pick 21) rfl "is_up_to_date" "is_up_to_date" [] .none .none .none (.str "postkeep.view" 279) none (.ref 201) .none),#[]⟩
noncomputable def hd.h203 (P : Params) : Obj := ⟨(.type "tuple"),none,(.seq #[(.type "Exception")] 0),#[]⟩
noncomputable def hd.h210 (P : Params) : Obj := ⟨(.type "tuple"),none,(.seq #[(.int (-1) 460)] 0),#[]⟩
noncomputable def hd.h211 (P : Params) : Obj := ⟨(.type "tuple"),none,(.seq #[] 0),#[]⟩
noncomputable def hd.h213 (P : Params) : Obj := ⟨(.type "tuple"),none,(.seq #[(.str "self" 464),(.str "what" 465),(.str "at" 466)] 0),#[]⟩
noncomputable def hd.h214 (P : Params) : Obj := ⟨(.type "tuple"),none,(.seq #[] 0),#[]⟩
noncomputable def hd.h216 (P : Params) : Obj := ⟨(.type "code"),none,(.fields #[(.str "__init__" 461),(.str "PostError.__init__" 462),(.str "/claim/cut.py" 463),(.int 151 0),(.int 3 0),(.int 0 0),(.int 0 0),(.int 3 0),(.ref 211),(.bool true),(.int 181 0),(.ref 212),.none,(.ref 213),(.ref 214),(.ref 215),(.int 467 0),(.int 151 0),(.str "/claim/cut.py" 468)]),#[]⟩
open hd in
noncomputable def hd.h217 (P : Params) : Obj := ⟨(.type "function"),none,(fd (pick2 23 0) rfl "__init__" "PostError.__init__" [] (.ref 210) .none .none (.str "postkeep.errors" 445) none (.ref 216) .none),#[]⟩
noncomputable def hd.h218 (P : Params) : Obj := ⟨(.type "tuple"),none,(.seq #[] 0),#[]⟩
noncomputable def hd.h220 (P : Params) : Obj := ⟨(.type "tuple"),none,(.seq #[(.str "self" 473)] 0),#[]⟩
noncomputable def hd.h221 (P : Params) : Obj := ⟨(.type "tuple"),none,(.seq #[] 0),#[]⟩
noncomputable def hd.h223 (P : Params) : Obj := ⟨(.type "code"),none,(.fields #[(.str "told" 470),(.str "PostError.told" 471),(.str "/claim/cut.py" 472),(.int 156 0),(.int 1 0),(.int 0 0),(.int 0 0),(.int 3 0),(.ref 218),(.bool true),(.int 181 0),(.ref 219),.none,(.ref 220),(.ref 221),(.ref 222),(.int 474 0),(.int 156 0),(.str "/claim/cut.py" 475)]),#[]⟩
open hd in
noncomputable def hd.h224 (P : Params) : Obj := ⟨(.type "function"),none,(fd (pick2 23 1) rfl "told" "PostError.told" [] .none .none .none (.str "postkeep.errors" 445) none (.ref 223) .none),#[]⟩
noncomputable def hd.h225 (P : Params) : Obj := ⟨(.type "tuple"),none,(.seq #[(.str "at" 477),(.str "what" 478)] 0),#[]⟩
noncomputable def hd.h226 (P : Params) : Obj := ⟨(.type "dict"),none,(.dict #[⟨(PyData.keyHash P "__module__"),(.str "__module__" 454),(.str "postkeep.errors" 445)⟩,⟨(PyData.keyHash P "__firstlineno__"),(.str "__firstlineno__" 458),(.int 149 457)⟩,⟨(PyData.keyHash P "__init__"),(.str "__init__" 469),(.ref 217)⟩,⟨(PyData.keyHash P "told"),(.str "told" 476),(.ref 224)⟩,⟨(PyData.keyHash P "__static_attributes__"),(.str "__static_attributes__" 479),(.ref 225)⟩,⟨(PyData.keyHash P "__weakref__"),(.str "__weakref__" 481),(.ref 228)⟩,⟨(PyData.keyHash P "__doc__"),(.str "__doc__" 482),.none⟩] 3),#[]⟩
noncomputable def hd.h227 (P : Params) : Obj := ⟨(.type "type"),none,(.cls ⟨"PostError",[(.type "Exception")],[(.ref 227),(.type "Exception"),(.type "BaseException"),(.type "object")],226,"PostError",true,[],[(.ref 240)],false,none,false⟩),#[(some (.ref 203)),none,(some (.str "PostError" 447)),(some (.str "PostError" 455)),(some (.builtin "Exception.__new__")),(some (.bool true))]⟩
noncomputable def hd.h228 (P : Params) : Obj := ⟨(.type "getset_descriptor"),none,(.fields #[(.str "__weakref__" 480),(.ref 227),(.builtin "ExceptionGroup.__weakref__"),.none]),#[]⟩
noncomputable def hd.h231 (P : Params) : Obj := ⟨(.type "tuple"),none,(.seq #[(.ref 227)] 0),#[]⟩
noncomputable def hd.h238 (P : Params) : Obj := ⟨(.type "tuple"),none,(.seq #[] 0),#[]⟩
noncomputable def hd.h239 (P : Params) : Obj := ⟨(.type "dict"),none,(.dict #[⟨(PyData.keyHash P "__module__"),(.str "__module__" 494),(.str "postkeep.errors" 445)⟩,⟨(PyData.keyHash P "__firstlineno__"),(.str "__firstlineno__" 498),(.int 158 497)⟩,⟨(PyData.keyHash P "__static_attributes__"),(.str "__static_attributes__" 499),(.ref 238)⟩,⟨(PyData.keyHash P "__doc__"),(.str "__doc__" 500),.none⟩] 2),#[]⟩
noncomputable def hd.h240 (P : Params) : Obj := ⟨(.type "type"),none,(.cls ⟨"StoreFault",[(.ref 227)],[(.ref 240),(.ref 227),(.type "Exception"),(.type "BaseException"),(.type "object")],239,"StoreFault",true,[],[],false,none,false⟩),#[(some (.ref 231)),none,(some (.str "StoreFault" 487)),(some (.str "StoreFault" 495)),(some (.builtin "Exception.__new__")),(some (.bool true))]⟩
noncomputable def hd.h243 (P : Params) : Obj := ⟨(.type "tuple"),none,(.seq #[] 0),#[]⟩
noncomputable def hd.h245 (P : Params) : Obj := ⟨(.type "tuple"),none,(.seq #[] 0),#[]⟩
noncomputable def hd.h246 (P : Params) : Obj := ⟨(.type "tuple"),none,(.seq #[] 0),#[]⟩
noncomputable def hd.h248 (P : Params) : Obj := ⟨(.type "code"),none,(.fields #[(.str "system_flags" 511),(.str "system_flags" 512),(.str "/claim/cut.py" 513),(.int 164 0),(.int 0 0),(.int 0 0),(.int 0 0),(.int 3 0),(.ref 243),(.bool true),(.int 181 0),(.ref 244),.none,(.ref 245),(.ref 246),(.ref 247),(.int 514 0),(.int 164 0),(.str "/claim/cut.py" 515)]),#[]⟩
open hd in
noncomputable def hd.h249 (P : Params) : Obj := ⟨(.type "function"),none,(fd (pick 29) rfl "system_flags" "system_flags" [] .none .none .none (.str "postkeep.boxes" 503) none (.ref 248) .none),#[]⟩
noncomputable def hd.h250 (P : Params) : Obj := ⟨(.type "tuple"),none,(.seq #[] 0),#[]⟩
noncomputable def hd.h252 (P : Params) : Obj := ⟨(.type "tuple"),none,(.seq #[(.str "text" 520),(.str "sign" 521)] 0),#[]⟩
noncomputable def hd.h253 (P : Params) : Obj := ⟨(.type "tuple"),none,(.seq #[] 0),#[]⟩
noncomputable def hd.h255 (P : Params) : Obj := ⟨(.type "code"),none,(.fields #[(.str "is_keyword" 517),(.str "is_keyword" 518),(.str "/claim/cut.py" 519),(.int 166 0),(.int 1 0),(.int 0 0),(.int 0 0),(.int 3 0),(.ref 250),(.bool true),(.int 181 0),(.ref 251),.none,(.ref 252),(.ref 253),(.ref 254),(.int 522 0),(.int 166 0),(.str "/claim/cut.py" 523)]),#[]⟩
open hd in
noncomputable def hd.h256 (P : Params) : Obj := ⟨(.type "function"),none,(fd (pick 30) rfl "is_keyword" "is_keyword" [] .none .none .none (.str "postkeep.boxes" 503) none (.ref 255) .none),#[]⟩
noncomputable def hd.h257 (P : Params) : Obj := ⟨(.type "tuple"),none,(.seq #[] 0),#[]⟩
noncomputable def hd.h259 (P : Params) : Obj := ⟨(.type "tuple"),none,(.seq #[(.str "text" 528),(.str "name" 529)] 0),#[]⟩
noncomputable def hd.h260 (P : Params) : Obj := ⟨(.type "tuple"),none,(.seq #[] 0),#[]⟩
noncomputable def hd.h262 (P : Params) : Obj := ⟨(.type "code"),none,(.fields #[(.str "flag_name" 525),(.str "flag_name" 526),(.str "/claim/cut.py" 527),(.int 173 0),(.int 1 0),(.int 0 0),(.int 0 0),(.int 3 0),(.ref 257),(.bool true),(.int 181 0),(.ref 258),.none,(.ref 259),(.ref 260),(.ref 261),(.int 530 0),(.int 173 0),(.str "/claim/cut.py" 531)]),#[]⟩
open hd in
noncomputable def hd.h263 (P : Params) : Obj := ⟨(.type "function"),none,(fd (pick 31) rfl "flag_name" "flag_name" [] .none .none .none (.str "postkeep.boxes" 503) none (.ref 262) .none),#[]⟩
noncomputable def hd.h264 (P : Params) : Obj := ⟨(.type "tuple"),none,(.seq #[] 0),#[]⟩
noncomputable def hd.h266 (P : Params) : Obj := ⟨(.type "tuple"),none,(.seq #[(.str "flags" 536),(.str "found" 537),(.str "text" 538),(.str "name" 539)] 0),#[]⟩
noncomputable def hd.h267 (P : Params) : Obj := ⟨(.type "tuple"),none,(.seq #[] 0),#[]⟩
noncomputable def hd.h269 (P : Params) : Obj := ⟨(.type "code"),none,(.fields #[(.str "flag_tuple" 533),(.str "flag_tuple" 534),(.str "/claim/cut.py" 535),(.int 180 0),(.int 1 0),(.int 0 0),(.int 0 0),(.int 3 0),(.ref 264),(.bool true),(.int 181 0),(.ref 265),.none,(.ref 266),(.ref 267),(.ref 268),(.int 540 0),(.int 180 0),(.str "/claim/cut.py" 541)]),#[]⟩
open hd in
noncomputable def hd.h270 (P : Params) : Obj := ⟨(.type "function"),none,(fd (pick 32) rfl "flag_tuple" "flag_tuple" [] .none .none .none (.str "postkeep.boxes" 503) none (.ref 269) .none),#[]⟩
noncomputable def hd.h278 (P : Params) : Obj := ⟨(.type "tuple"),none,(.seq #[] 0),#[]⟩
noncomputable def hd.h280 (P : Params) : Obj := ⟨(.type "tuple"),none,(.seq #[(.str "self" 558),(.str "uid" 559),(.str "octets" 560),(.str "flags" 561),(.str "instant" 562),(.str "modseq" 563)] 0),#[]⟩
noncomputable def hd.h281 (P : Params) : Obj := ⟨(.type "tuple"),none,(.seq #[] 0),#[]⟩
noncomputable def hd.h283 (P : Params) : Obj := ⟨(.type "code"),none,(.fields #[(.str "__init__" 555),(.str "Letter.__init__" 556),(.str "/claim/cut.py" 557),(.int 189 0),(.int 6 0),(.int 0 0),(.int 0 0),(.int 3 0),(.ref 278),(.bool true),(.int 181 0),(.ref 279),.none,(.ref 280),(.ref 281),(.ref 282),(.int 564 0),(.int 189 0),(.str "/claim/cut.py" 565)]),#[]⟩
open hd in
noncomputable def hd.h284 (P : Params) : Obj := ⟨(.type "function"),none,(fd (pick2 33 0) rfl "__init__" "Letter.__init__" [] .none .none .none (.str "postkeep.boxes" 503) none (.ref 283) .none),#[]⟩
noncomputable def hd.h285 (P : Params) : Obj := ⟨(.type "tuple"),none,(.seq #[] 0),#[]⟩
noncomputable def hd.h287 (P : Params) : Obj := ⟨(.type "tuple"),none,(.seq #[(.str "self" 570),(.str "name" 571)] 0),#[]⟩
noncomputable def hd.h288 (P : Params) : Obj := ⟨(.type "tuple"),none,(.seq #[] 0),#[]⟩
noncomputable def hd.h290 (P : Params) : Obj := ⟨(.type "code"),none,(.fields #[(.str "has" 567),(.str "Letter.has" 568),(.str "/claim/cut.py" 569),(.int 196 0),(.int 2 0),(.int 0 0),(.int 0 0),(.int 3 0),(.ref 285),(.bool true),(.int 181 0),(.ref 286),.none,(.ref 287),(.ref 288),(.ref 289),(.int 572 0),(.int 196 0),(.str "/claim/cut.py" 573)]),#[]⟩
open hd in
noncomputable def hd.h291 (P : Params) : Obj := ⟨(.type "function"),none,(fd (pick2 33 1) rfl "has" "Letter.has" [] .none .none .none (.str "postkeep.boxes" 503) none (.ref 290) .none),#[]⟩
noncomputable def hd.h292 (P : Params) : Obj := ⟨(.type "tuple"),none,(.seq #[] 0),#[]⟩
noncomputable def hd.h294 (P : Params) : Obj := ⟨(.type "tuple"),none,(.seq #[(.str "self" 578)] 0),#[]⟩
noncomputable def hd.h295 (P : Params) : Obj := ⟨(.type "tuple"),none,(.seq #[] 0),#[]⟩
noncomputable def hd.h297 (P : Params) : Obj := ⟨(.type "code"),none,(.fields #[(.str "told" 575),(.str "Letter.told" 576),(.str "/claim/cut.py" 577),(.int 199 0),(.int 1 0),(.int 0 0),(.int 0 0),(.int 3 0),(.ref 292),(.bool true),(.int 181 0),(.ref 293),.none,(.ref 294),(.ref 295),(.ref 296),(.int 579 0),(.int 199 0),(.str "/claim/cut.py" 580)]),#[]⟩
open hd in
noncomputable def hd.h298 (P : Params) : Obj := ⟨(.type "function"),none,(fd (pick2 33 2) rfl "told" "Letter.told" [] .none .none .none (.str "postkeep.boxes" 503) none (.ref 297) .none),#[]⟩
noncomputable def hd.h299 (P : Params) : Obj := ⟨(.type "tuple"),none,(.seq #[(.str "flags" 582),(.str "instant" 583),(.str "modseq" 584),(.str "octets" 585),(.str "uid" 586)] 0),#[]⟩
noncomputable def hd.h300 (P : Params) : Obj := ⟨(.type "dict"),none,(.dict #[⟨(PyData.keyHash P "__module__"),(.str "__module__" 550),(.str "postkeep.boxes" 503)⟩,⟨(PyData.keyHash P "__firstlineno__"),(.str "__firstlineno__" 554),(.int 187 553)⟩,⟨(PyData.keyHash P "__init__"),(.str "__init__" 566),(.ref 284)⟩,⟨(PyData.keyHash P "has"),(.str "has" 574),(.ref 291)⟩,⟨(PyData.keyHash P "told"),(.str "told" 581),(.ref 298)⟩,⟨(PyData.keyHash P "__static_attributes__"),(.str "__static_attributes__" 587),(.ref 299)⟩,⟨(PyData.keyHash P "__dict__"),(.str "__dict__" 589),(.ref 302)⟩,⟨(PyData.keyHash P "__weakref__"),(.str "__weakref__" 591),(.ref 303)⟩,⟨(PyData.keyHash P "__doc__"),(.str "__doc__" 592),.none⟩] 4),#[]⟩
noncomputable def hd.h301 (P : Params) : Obj := ⟨(.type "type"),none,(.cls ⟨"Letter",[(.type "object")],[(.ref 301),(.type "object")],300,"Letter",true,[],[],false,none,false⟩),#[none,none,(some (.str "Letter" 543)),(some (.str "Letter" 551)),(some (.builtin "object.__new__")),(some (.bool true))]⟩
noncomputable def hd.h302 (P : Params) : Obj := ⟨(.type "getset_descriptor"),none,(.fields #[(.str "__dict__" 588),(.ref 301),(.builtin "function.__dict__"),(.builtin "function.__dict__#set")]),#[]⟩
noncomputable def hd.h303 (P : Params) : Obj := ⟨(.type "getset_descriptor"),none,(.fields #[(.str "__weakref__" 590),(.ref 301),(.builtin "ExceptionGroup.__weakref__"),.none]),#[]⟩
noncomputable def hd.h313 (P : Params) : Obj := ⟨(.type "tuple"),none,(.seq #[] 0),#[]⟩
noncomputable def hd.h315 (P : Params) : Obj := ⟨(.type "tuple"),none,(.seq #[(.str "self" 610),(.str "name" 611),(.str "validity" 612)] 0),#[]⟩
noncomputable def hd.h316 (P : Params) : Obj := ⟨(.type "tuple"),none,(.seq #[] 0),#[]⟩
noncomputable def hd.h318 (P : Params) : Obj := ⟨(.type "code"),none,(.fields #[(.str "__init__" 607),(.str "Box.__init__" 608),(.str "/claim/cut.py" 609),(.int 203 0),(.int 3 0),(.int 0 0),(.int 0 0),(.int 3 0),(.ref 313),(.bool true),(.int 181 0),(.ref 314),.none,(.ref 315),(.ref 316),(.ref 317),(.int 613 0),(.int 203 0),(.str "/claim/cut.py" 614)]),#[]⟩
open hd in
noncomputable def hd.h319 (P : Params) : Obj := ⟨(.type "function"),none,(fd (pick2 34 0) rfl "__init__" "Box.__init__" [] .none .none .none (.str "postkeep.boxes" 503) none (.ref 318) .none),#[]⟩
noncomputable def hd.h320 (P : Params) : Obj := ⟨(.type "tuple"),none,(.seq #[] 0),#[]⟩
noncomputable def hd.h322 (P : Params) : Obj := ⟨(.type "tuple"),none,(.seq #[(.str "self" 619),(.str "uid" 620),(.str "at" 621)] 0),#[]⟩
noncomputable def hd.h323 (P : Params) : Obj := ⟨(.type "tuple"),none,(.seq #[] 0),#[]⟩
noncomputable def hd.h325 (P : Params) : Obj := ⟨(.type "code"),none,(.fields #[(.str "letter" 616),(.str "Box.letter" 617),(.str "/claim/cut.py" 618),(.int 212 0),(.int 2 0),(.int 0 0),(.int 0 0),(.int 3 0),(.ref 320),(.bool true),(.int 181 0),(.ref 321),.none,(.ref 322),(.ref 323),(.ref 324),(.int 622 0),(.int 212 0),(.str "/claim/cut.py" 623)]),#[]⟩
open hd in
noncomputable def hd.h326 (P : Params) : Obj := ⟨(.type "function"),none,(fd (pick2 34 1) rfl "letter" "Box.letter" [] .none .none .none (.str "postkeep.boxes" 503) none (.ref 325) .none),#[]⟩
noncomputable def hd.h327 (P : Params) : Obj := ⟨(.type "tuple"),none,(.seq #[] 0),#[]⟩
noncomputable def hd.h330 (P : Params) : Obj := ⟨(.type "code"),none,(.fields #[(.str "uids" 625),(.str "Box.uids" 626),(.str "/claim/cut.py" 627),(.int 216 0),(.int 1 0),(.int 0 0),(.int 0 0),(.int 3 0),(.ref 327),(.bool true),(.int 181 0),(.ref 328),.none,.none,.none,(.ref 329),(.int 628 0),(.int 216 0),(.str "/claim/cut.py" 629)]),#[]⟩
open hd in
noncomputable def hd.h331 (P : Params) : Obj := ⟨(.type "function"),none,(fd (pick2 34 2) rfl "uids" "Box.uids" [] .none .none .none (.str "postkeep.boxes" 503) none (.ref 330) .none),#[]⟩
noncomputable def hd.h332 (P : Params) : Obj := ⟨(.type "tuple"),none,(.seq #[] 0),#[]⟩
noncomputable def hd.h335 (P : Params) : Obj := ⟨(.type "code"),none,(.fields #[(.str "told" 631),(.str "Box.told" 632),(.str "/claim/cut.py" 633),(.int 219 0),(.int 1 0),(.int 0 0),(.int 0 0),(.int 3 0),(.ref 332),(.bool true),(.int 181 0),(.ref 333),.none,.none,.none,(.ref 334),(.int 634 0),(.int 219 0),(.str "/claim/cut.py" 635)]),#[]⟩
open hd in
noncomputable def hd.h336 (P : Params) : Obj := ⟨(.type "function"),none,(fd (pick2 34 3) rfl "told" "Box.told" [] .none .none .none (.str "postkeep.boxes" 503) none (.ref 335) .none),#[]⟩
noncomputable def hd.h337 (P : Params) : Obj := ⟨(.type "tuple"),none,(.seq #[(.str "floor" 637),(.str "gone" 638),(.str "letters" 639),(.str "name" 640),(.str "next_uid" 641),(.str "top" 642),(.str "validity" 643)] 0),#[]⟩
noncomputable def hd.h338 (P : Params) : Obj := ⟨(.type "dict"),none,(.dict #[⟨(PyData.keyHash P "__module__"),(.str "__module__" 602),(.str "postkeep.boxes" 503)⟩,⟨(PyData.keyHash P "__firstlineno__"),(.str "__firstlineno__" 606),(.int 201 605)⟩,⟨(PyData.keyHash P "__init__"),(.str "__init__" 615),(.ref 319)⟩,⟨(PyData.keyHash P "letter"),(.str "letter" 624),(.ref 326)⟩,⟨(PyData.keyHash P "uids"),(.str "uids" 630),(.ref 331)⟩,⟨(PyData.keyHash P "told"),(.str "told" 636),(.ref 336)⟩,⟨(PyData.keyHash P "__static_attributes__"),(.str "__static_attributes__" 644),(.ref 337)⟩,⟨(PyData.keyHash P "__dict__"),(.str "__dict__" 646),(.ref 340)⟩,⟨(PyData.keyHash P "__weakref__"),(.str "__weakref__" 648),(.ref 341)⟩,⟨(PyData.keyHash P "__doc__"),(.str "__doc__" 649),.none⟩] 4),#[]⟩
noncomputable def hd.h339 (P : Params) : Obj := ⟨(.type "type"),none,(.cls ⟨"Box",[(.type "object")],[(.ref 339),(.type "object")],338,"Box",true,[],[],false,none,false⟩),#[none,none,(some (.str "Box" 595)),(some (.str "Box" 603)),(some (.builtin "object.__new__")),(some (.bool true))]⟩
noncomputable def hd.h340 (P : Params) : Obj := ⟨(.type "getset_descriptor"),none,(.fields #[(.str "__dict__" 645),(.ref 339),(.builtin "function.__dict__"),(.builtin "function.__dict__#set")]),#[]⟩
noncomputable def hd.h341 (P : Params) : Obj := ⟨(.type "getset_descriptor"),none,(.fields #[(.str "__weakref__" 647),(.ref 339),(.builtin "ExceptionGroup.__weakref__"),.none]),#[]⟩
noncomputable def hd.h344 (P : Params) : Obj := ⟨(.type "tuple"),none,(.seq #[] 0),#[]⟩
noncomputable def hd.h346 (P : Params) : Obj := ⟨(.type "tuple"),none,(.seq #[(.str "letters" 655),(.str "uid" 656),(.str "low" 657),(.str "high" 658),(.str "middle" 659)] 0),#[]⟩
noncomputable def hd.h347 (P : Params) : Obj := ⟨(.type "tuple"),none,(.seq #[] 0),#[]⟩
noncomputable def hd.h349 (P : Params) : Obj := ⟨(.type "code"),none,(.fields #[(.str "place_of" 652),(.str "place_of" 653),(.str "/claim/cut.py" 654),(.int 222 0),(.int 2 0),(.int 0 0),(.int 0 0),(.int 3 0),(.ref 344),(.bool true),(.int 181 0),(.ref 345),.none,(.ref 346),(.ref 347),(.ref 348),(.int 660 0),(.int 222 0),(.str "/claim/cut.py" 661)]),#[]⟩
open hd in
noncomputable def hd.h350 (P : Params) : Obj := ⟨(.type "function"),none,(fd (pick 35) rfl "place_of" "place_of" [] .none .none .none (.str "postkeep.boxes" 503) none (.ref 349) .none),#[]⟩
noncomputable def hd.h351 (P : Params) : Obj := ⟨(.type "tuple"),none,(.seq #[] 0),#[]⟩
noncomputable def hd.h353 (P : Params) : Obj := ⟨(.type "tuple"),none,(.seq #[(.str "box" 666)] 0),#[]⟩
noncomputable def hd.h354 (P : Params) : Obj := ⟨(.type "tuple"),none,(.seq #[] 0),#[]⟩
noncomputable def hd.h356 (P : Params) : Obj := ⟨(.type "code"),none,(.fields #[(.str "raised" 663),(.str "raised" 664),(.str "/claim/cut.py" 665),(.int 233 0),(.int 1 0),(.int 0 0),(.int 0 0),(.int 3 0),(.ref 351),(.bool true),(.int 181 0),(.ref 352),.none,(.ref 353),(.ref 354),(.ref 355),(.int 667 0),(.int 233 0),(.str "/claim/cut.py" 668)]),#[]⟩
open hd in
noncomputable def hd.h357 (P : Params) : Obj := ⟨(.type "function"),none,(fd (pick 36) rfl "raised" "raised" [] .none .none .none (.str "postkeep.boxes" 503) none (.ref 356) .none),#[]⟩
noncomputable def hd.h358 (P : Params) : Obj := ⟨(.type "tuple"),none,(.seq #[] 0),#[]⟩
noncomputable def hd.h360 (P : Params) : Obj := ⟨(.type "tuple"),none,(.seq #[(.str "box" 673),(.str "octets" 674),(.str "flags" 675),(.str "instant" 676),(.str "names" 677),(.str "letter" 678)] 0),#[]⟩
noncomputable def hd.h361 (P : Params) : Obj := ⟨(.type "tuple"),none,(.seq #[] 0),#[]⟩
noncomputable def hd.h363 (P : Params) : Obj := ⟨(.type "code"),none,(.fields #[(.str "add_letter" 670),(.str "add_letter" 671),(.str "/claim/cut.py" 672),(.int 236 0),(.int 4 0),(.int 0 0),(.int 0 0),(.int 3 0),(.ref 358),(.bool true),(.int 181 0),(.ref 359),.none,(.ref 360),(.ref 361),(.ref 362),(.int 679 0),(.int 236 0),(.str "/claim/cut.py" 680)]),#[]⟩
open hd in
noncomputable def hd.h364 (P : Params) : Obj := ⟨(.type "function"),none,(fd (pick 37) rfl "add_letter" "add_letter" [] .none .none .none (.str "postkeep.boxes" 503) none (.ref 363) .none),#[]⟩
noncomputable def hd.h365 (P : Params) : Obj := ⟨(.type "tuple"),none,(.seq #[] 0),#[]⟩
noncomputable def hd.h367 (P : Params) : Obj := ⟨(.type "tuple"),none,(.seq #[(.str "box" 685),(.str "uid" 686),(.str "flags" 687),(.str "names" 688),(.str "at" 689),(.str "letter" 690)] 0),#[]⟩
noncomputable def hd.h368 (P : Params) : Obj := ⟨(.type "tuple"),none,(.seq #[] 0),#[]⟩
noncomputable def hd.h370 (P : Params) : Obj := ⟨(.type "code"),none,(.fields #[(.str "set_flags" 682),(.str "set_flags" 683),(.str "/claim/cut.py" 684),(.int 242 0),(.int 3 0),(.int 0 0),(.int 0 0),(.int 3 0),(.ref 365),(.bool true),(.int 181 0),(.ref 366),.none,(.ref 367),(.ref 368),(.ref 369),(.int 691 0),(.int 242 0),(.str "/claim/cut.py" 692)]),#[]⟩
open hd in
noncomputable def hd.h371 (P : Params) : Obj := ⟨(.type "function"),none,(fd (pick 38) rfl "set_flags" "set_flags" [] .none .none .none (.str "postkeep.boxes" 503) none (.ref 370) .none),#[]⟩
noncomputable def hd.h372 (P : Params) : Obj := ⟨(.type "tuple"),none,(.seq #[] 0),#[]⟩
noncomputable def hd.h375 (P : Params) : Obj := ⟨(.type "code"),none,(.fields #[(.str "expunge" 694),(.str "expunge" 695),(.str "/claim/cut.py" 696),(.int 252 0),(.int 2 0),(.int 0 0),(.int 0 0),(.int 3 0),(.ref 372),(.bool true),(.int 181 0),(.ref 373),.none,.none,.none,(.ref 374),(.int 697 0),(.int 252 0),(.str "/claim/cut.py" 698)]),#[]⟩
open hd in
noncomputable def hd.h376 (P : Params) : Obj := ⟨(.type "function"),none,(fd (pick 39) rfl "expunge" "expunge" [] .none .none .none (.str "postkeep.boxes" 503) none (.ref 375) .none),#[]⟩
noncomputable def hd.h377 (P : Params) : Obj := ⟨(.type "tuple"),none,(.seq #[] 0),#[]⟩
noncomputable def hd.h380 (P : Params) : Obj := ⟨(.type "code"),none,(.fields #[(.str "_law_deck" 702),(.str "_law_deck" 703),(.str "/claim/cut.py" 704),(.int 264 0),(.int 1 0),(.int 0 0),(.int 0 0),(.int 3 0),(.ref 377),(.bool true),(.int 181 0),(.ref 378),.none,.none,.none,(.ref 379),(.int 705 0),(.int 264 0),(.str "/claim/cut.py" 706)]),#[]⟩
open hd in
noncomputable def hd.h381 (P : Params) : Obj := ⟨(.type "function"),none,(fd (pick 41) rfl "_law_deck" "_law_deck" [] .none .none .none (.str "law_or0061_01" 700) none (.ref 380) .none),#[]⟩
noncomputable def hd.h382 (P : Params) : Obj := ⟨(.type "tuple"),none,(.seq #[] 0),#[]⟩
noncomputable def hd.h384 (P : Params) : Obj := ⟨(.type "tuple"),none,(.seq #[(.str "deck" 711),(.str "many" 712),(.str "at" 713),(.str "cell" 714)] 0),#[]⟩
noncomputable def hd.h385 (P : Params) : Obj := ⟨(.type "tuple"),none,(.seq #[] 0),#[]⟩
noncomputable def hd.h387 (P : Params) : Obj := ⟨(.type "code"),none,(.fields #[(.str "_law_card" 708),(.str "_law_card" 709),(.str "/claim/cut.py" 710),(.int 266 0),(.int 2 0),(.int 0 0),(.int 0 0),(.int 3 0),(.ref 382),(.bool true),(.int 181 0),(.ref 383),.none,(.ref 384),(.ref 385),(.ref 386),(.int 715 0),(.int 266 0),(.str "/claim/cut.py" 716)]),#[]⟩
open hd in
noncomputable def hd.h388 (P : Params) : Obj := ⟨(.type "function"),none,(fd (pick 42) rfl "_law_card" "_law_card" [] .none .none .none (.str "law_or0061_01" 700) none (.ref 387) .none),#[]⟩
noncomputable def hd.h389 (P : Params) : Obj := ⟨(.type "tuple"),none,(.seq #[] 0),#[]⟩
noncomputable def hd.h391 (P : Params) : Obj := ⟨(.type "tuple"),none,(.seq #[] 0),#[]⟩
noncomputable def hd.h392 (P : Params) : Obj := ⟨(.type "tuple"),none,(.seq #[] 0),#[]⟩
noncomputable def hd.h394 (P : Params) : Obj := ⟨(.type "code"),none,(.fields #[(.str "_law_sorts" 718),(.str "_law_sorts" 719),(.str "/claim/cut.py" 720),(.int 271 0),(.int 0 0),(.int 0 0),(.int 0 0),(.int 3 0),(.ref 389),(.bool true),(.int 181 0),(.ref 390),.none,(.ref 391),(.ref 392),(.ref 393),(.int 721 0),(.int 271 0),(.str "/claim/cut.py" 722)]),#[]⟩
open hd in
noncomputable def hd.h395 (P : Params) : Obj := ⟨(.type "function"),none,(fd (pick 43) rfl "_law_sorts" "_law_sorts" [] .none .none .none (.str "law_or0061_01" 700) none (.ref 394) .none),#[]⟩
noncomputable def hd.h396 (P : Params) : Obj := ⟨(.type "tuple"),none,(.seq #[] 0),#[]⟩
noncomputable def hd.h399 (P : Params) : Obj := ⟨(.type "code"),none,(.fields #[(.str "_law_like" 724),(.str "_law_like" 725),(.str "/claim/cut.py" 726),(.int 273 0),(.int 3 0),(.int 0 0),(.int 0 0),(.int 3 0),(.ref 396),(.bool true),(.int 181 0),(.ref 397),.none,.none,.none,(.ref 398),(.int 727 0),(.int 273 0),(.str "/claim/cut.py" 728)]),#[]⟩
open hd in
noncomputable def hd.h400 (P : Params) : Obj := ⟨(.type "function"),none,(fd (pick 44) rfl "_law_like" "_law_like" [] .none .none .none (.str "law_or0061_01" 700) none (.ref 399) .none),#[]⟩
noncomputable def hd.h401 (P : Params) : Obj := ⟨(.type "tuple"),none,(.seq #[] 0),#[]⟩
noncomputable def hd.h403 (P : Params) : Obj := ⟨(.type "tuple"),none,(.seq #[(.str "script" 733),(.str "deck" 734),(.str "box" 735),(.str "turn" 736),(.str "uses" 737),(.str "vanishes" 738),(.str "one" 739),(.str "other" 740),(.str "known" 741),(.str "came" 742),(.str "way" 743),(.str "uid" 744),(.str "fresh" 745),(.str "answers" 746)] 0),#[]⟩
noncomputable def hd.h404 (P : Params) : Obj := ⟨(.type "tuple"),none,(.seq #[] 0),#[]⟩
noncomputable def hd.h406 (P : Params) : Obj := ⟨(.type "code"),none,(.fields #[(.str "law" 730),(.str "law" 731),(.str "/claim/cut.py" 732),(.int 284 0),(.int 1 0),(.int 0 0),(.int 0 0),(.int 3 0),(.ref 401),(.bool true),(.int 181 0),(.ref 402),.none,(.ref 403),(.ref 404),(.ref 405),(.int 747 0),(.int 284 0),(.str "/claim/cut.py" 748)]),#[]⟩
open hd in
noncomputable def hd.h407 (P : Params) : Obj := ⟨(.type "function"),none,(fd (pick 45) rfl "law" "law" [] .none .none .none (.str "law_or0061_01" 700) none (.ref 406) .none),#[]⟩
/-- the objects that stand behind the top -/
noncomputable def hd.heap_39 : Params → Frag := fun P =>
  (nat_lit 2, hd.h2 P) ::
  (nat_lit 3, hd.h3 P) ::
  (nat_lit 15, hd.h15 P) ::
  (nat_lit 17, hd.h17 P) ::
  (nat_lit 18, hd.h18 P) ::
  (nat_lit 20, hd.h20 P) ::
  (nat_lit 21, hd.h21 P) ::
  (nat_lit 22, hd.h22 P) ::
  (nat_lit 24, hd.h24 P) ::
  (nat_lit 25, hd.h25 P) ::
  (nat_lit 27, hd.h27 P) ::
  (nat_lit 28, hd.h28 P) ::
  (nat_lit 29, hd.h29 P) ::
  (nat_lit 31, hd.h31 P) ::
  (nat_lit 32, hd.h32 P) ::
  (nat_lit 34, hd.h34 P) ::
  (nat_lit 35, hd.h35 P) ::
  (nat_lit 36, hd.h36 P) ::
  (nat_lit 38, hd.h38 P) ::
  (nat_lit 39, hd.h39 P) ::
  (nat_lit 41, hd.h41 P) ::
  (nat_lit 42, hd.h42 P) ::
  (nat_lit 43, hd.h43 P) ::
  (nat_lit 45, hd.h45 P) ::
  (nat_lit 46, hd.h46 P) ::
  (nat_lit 48, hd.h48 P) ::
  (nat_lit 49, hd.h49 P) ::
  (nat_lit 57, hd.h57 P) ::
  (nat_lit 59, hd.h59 P) ::
  (nat_lit 60, hd.h60 P) ::
  (nat_lit 62, hd.h62 P) ::
  (nat_lit 63, hd.h63 P) ::
  (nat_lit 64, hd.h64 P) ::
  (nat_lit 66, hd.h66 P) ::
  (nat_lit 67, hd.h67 P) ::
  (nat_lit 69, hd.h69 P) ::
  (nat_lit 70, hd.h70 P) ::
  (nat_lit 71, hd.h71 P) ::
  (nat_lit 72, hd.h72 P) ::
  (nat_lit 73, hd.h73 P) ::
  (nat_lit 74, hd.h74 P) ::
  (nat_lit 75, hd.h75 P) ::
  (nat_lit 85, hd.h85 P) ::
  (nat_lit 86, hd.h86 P) ::
  (nat_lit 89, hd.h89 P) ::
  (nat_lit 90, hd.h90 P) ::
  (nat_lit 91, hd.h91 P) ::
  (nat_lit 93, hd.h93 P) ::
  (nat_lit 94, hd.h94 P) ::
  (nat_lit 96, hd.h96 P) ::
  (nat_lit 97, hd.h97 P) ::
  (nat_lit 98, hd.h98 P) ::
  (nat_lit 100, hd.h100 P) ::
  (nat_lit 101, hd.h101 P) ::
  (nat_lit 103, hd.h103 P) ::
  (nat_lit 104, hd.h104 P) ::
  (nat_lit 105, hd.h105 P) ::
  (nat_lit 108, hd.h108 P) ::
  (nat_lit 109, hd.h109 P) ::
  (nat_lit 110, hd.h110 P) ::
  (nat_lit 112, hd.h112 P) ::
  (nat_lit 113, hd.h113 P) ::
  (nat_lit 115, hd.h115 P) ::
  (nat_lit 116, hd.h116 P) ::
  (nat_lit 117, hd.h117 P) ::
  (nat_lit 120, hd.h120 P) ::
  (nat_lit 121, hd.h121 P) ::
  (nat_lit 122, hd.h122 P) ::
  (nat_lit 123, hd.h123 P) ::
  (nat_lit 124, hd.h124 P) ::
  (nat_lit 125, hd.h125 P) ::
  (nat_lit 126, hd.h126 P) ::
  (nat_lit 129, hd.h129 P) ::
  (nat_lit 131, hd.h131 P) ::
  (nat_lit 132, hd.h132 P) ::
  (nat_lit 134, hd.h134 P) ::
  (nat_lit 135, hd.h135 P) ::
  (nat_lit 136, hd.h136 P) ::
  (nat_lit 138, hd.h138 P) ::
  (nat_lit 139, hd.h139 P) ::
  (nat_lit 141, hd.h141 P) ::
  (nat_lit 142, hd.h142 P) ::
  (nat_lit 143, hd.h143 P) ::
  (nat_lit 145, hd.h145 P) ::
  (nat_lit 146, hd.h146 P) ::
  (nat_lit 148, hd.h148 P) ::
  (nat_lit 149, hd.h149 P) ::
  (nat_lit 150, hd.h150 P) ::
  (nat_lit 153, hd.h153 P) ::
  (nat_lit 154, hd.h154 P) ::
  (nat_lit 155, hd.h155 P) ::
  (nat_lit 158, hd.h158 P) ::
  (nat_lit 159, hd.h159 P) ::
  (nat_lit 160, hd.h160 P) ::
  (nat_lit 163, hd.h163 P) ::
  (nat_lit 164, hd.h164 P) ::
  (nat_lit 165, hd.h165 P) ::
  (nat_lit 167, hd.h167 P) ::
  (nat_lit 168, hd.h168 P) ::
  (nat_lit 170, hd.h170 P) ::
  (nat_lit 171, hd.h171 P) ::
  (nat_lit 172, hd.h172 P) ::
  (nat_lit 175, hd.h175 P) ::
  (nat_lit 176, hd.h176 P) ::
  (nat_lit 177, hd.h177 P) ::
  (nat_lit 179, hd.h179 P) ::
  (nat_lit 180, hd.h180 P) ::
  (nat_lit 182, hd.h182 P) ::
  (nat_lit 183, hd.h183 P) ::
  (nat_lit 184, hd.h184 P) ::
  (nat_lit 186, hd.h186 P) ::
  (nat_lit 187, hd.h187 P) ::
  (nat_lit 189, hd.h189 P) ::
  (nat_lit 190, hd.h190 P) ::
  (nat_lit 191, hd.h191 P) ::
  (nat_lit 193, hd.h193 P) ::
  (nat_lit 194, hd.h194 P) ::
  (nat_lit 196, hd.h196 P) ::
  (nat_lit 197, hd.h197 P) ::
  (nat_lit 198, hd.h198 P) ::
  (nat_lit 201, hd.h201 P) ::
  (nat_lit 202, hd.h202 P) ::
  (nat_lit 203, hd.h203 P) ::
  (nat_lit 210, hd.h210 P) ::
  (nat_lit 211, hd.h211 P) ::
  (nat_lit 213, hd.h213 P) ::
  (nat_lit 214, hd.h214 P) ::
  (nat_lit 216, hd.h216 P) ::
  (nat_lit 217, hd.h217 P) ::
  (nat_lit 218, hd.h218 P) ::
  (nat_lit 220, hd.h220 P) ::
  (nat_lit 221, hd.h221 P) ::
  (nat_lit 223, hd.h223 P) ::
  (nat_lit 224, hd.h224 P) ::
  (nat_lit 225, hd.h225 P) ::
  (nat_lit 226, hd.h226 P) ::
  (nat_lit 227, hd.h227 P) ::
  (nat_lit 228, hd.h228 P) ::
  (nat_lit 231, hd.h231 P) ::
  (nat_lit 238, hd.h238 P) ::
  (nat_lit 239, hd.h239 P) ::
  (nat_lit 240, hd.h240 P) ::
  (nat_lit 243, hd.h243 P) ::
  (nat_lit 245, hd.h245 P) ::
  (nat_lit 246, hd.h246 P) ::
  (nat_lit 248, hd.h248 P) ::
  (nat_lit 249, hd.h249 P) ::
  (nat_lit 250, hd.h250 P) ::
  (nat_lit 252, hd.h252 P) ::
  (nat_lit 253, hd.h253 P) ::
  (nat_lit 255, hd.h255 P) ::
  (nat_lit 256, hd.h256 P) ::
  (nat_lit 257, hd.h257 P) ::
  (nat_lit 259, hd.h259 P) ::
  (nat_lit 260, hd.h260 P) ::
  (nat_lit 262, hd.h262 P) ::
  (nat_lit 263, hd.h263 P) ::
  (nat_lit 264, hd.h264 P) ::
  (nat_lit 266, hd.h266 P) ::
  (nat_lit 267, hd.h267 P) ::
  (nat_lit 269, hd.h269 P) ::
  (nat_lit 270, hd.h270 P) ::
  (nat_lit 278, hd.h278 P) ::
  (nat_lit 280, hd.h280 P) ::
  (nat_lit 281, hd.h281 P) ::
  (nat_lit 283, hd.h283 P) ::
  (nat_lit 284, hd.h284 P) ::
  (nat_lit 285, hd.h285 P) ::
  (nat_lit 287, hd.h287 P) ::
  (nat_lit 288, hd.h288 P) ::
  (nat_lit 290, hd.h290 P) ::
  (nat_lit 291, hd.h291 P) ::
  (nat_lit 292, hd.h292 P) ::
  (nat_lit 294, hd.h294 P) ::
  (nat_lit 295, hd.h295 P) ::
  (nat_lit 297, hd.h297 P) ::
  (nat_lit 298, hd.h298 P) ::
  (nat_lit 299, hd.h299 P) ::
  (nat_lit 300, hd.h300 P) ::
  (nat_lit 301, hd.h301 P) ::
  (nat_lit 302, hd.h302 P) ::
  (nat_lit 303, hd.h303 P) ::
  (nat_lit 313, hd.h313 P) ::
  (nat_lit 315, hd.h315 P) ::
  (nat_lit 316, hd.h316 P) ::
  (nat_lit 318, hd.h318 P) ::
  (nat_lit 319, hd.h319 P) ::
  (nat_lit 320, hd.h320 P) ::
  (nat_lit 322, hd.h322 P) ::
  (nat_lit 323, hd.h323 P) ::
  (nat_lit 325, hd.h325 P) ::
  (nat_lit 326, hd.h326 P) ::
  (nat_lit 327, hd.h327 P) ::
  (nat_lit 330, hd.h330 P) ::
  (nat_lit 331, hd.h331 P) ::
  (nat_lit 332, hd.h332 P) ::
  (nat_lit 335, hd.h335 P) ::
  (nat_lit 336, hd.h336 P) ::
  (nat_lit 337, hd.h337 P) ::
  (nat_lit 338, hd.h338 P) ::
  (nat_lit 339, hd.h339 P) ::
  (nat_lit 340, hd.h340 P) ::
  (nat_lit 341, hd.h341 P) ::
  (nat_lit 344, hd.h344 P) ::
  (nat_lit 346, hd.h346 P) ::
  (nat_lit 347, hd.h347 P) ::
  (nat_lit 349, hd.h349 P) ::
  (nat_lit 350, hd.h350 P) ::
  (nat_lit 351, hd.h351 P) ::
  (nat_lit 353, hd.h353 P) ::
  (nat_lit 354, hd.h354 P) ::
  (nat_lit 356, hd.h356 P) ::
  (nat_lit 357, hd.h357 P) ::
  (nat_lit 358, hd.h358 P) ::
  (nat_lit 360, hd.h360 P) ::
  (nat_lit 361, hd.h361 P) ::
  (nat_lit 363, hd.h363 P) ::
  (nat_lit 364, hd.h364 P) ::
  (nat_lit 365, hd.h365 P) ::
  (nat_lit 367, hd.h367 P) ::
  (nat_lit 368, hd.h368 P) ::
  (nat_lit 370, hd.h370 P) ::
  (nat_lit 371, hd.h371 P) ::
  (nat_lit 372, hd.h372 P) ::
  (nat_lit 375, hd.h375 P) ::
  (nat_lit 376, hd.h376 P) ::
  (nat_lit 377, hd.h377 P) ::
  (nat_lit 380, hd.h380 P) ::
  (nat_lit 381, hd.h381 P) ::
  (nat_lit 382, hd.h382 P) ::
  (nat_lit 384, hd.h384 P) ::
  (nat_lit 385, hd.h385 P) ::
  (nat_lit 387, hd.h387 P) ::
  (nat_lit 388, hd.h388 P) ::
  (nat_lit 389, hd.h389 P) ::
  (nat_lit 391, hd.h391 P) ::
  (nat_lit 392, hd.h392 P) ::
  (nat_lit 394, hd.h394 P) ::
  (nat_lit 395, hd.h395 P) ::
  (nat_lit 396, hd.h396 P) ::
  (nat_lit 399, hd.h399 P) ::
  (nat_lit 400, hd.h400 P) ::
  (nat_lit 401, hd.h401 P) ::
  (nat_lit 403, hd.h403 P) ::
  (nat_lit 404, hd.h404 P) ::
  (nat_lit 406, hd.h406 P) ::
  (nat_lit 407, hd.h407 P) ::
  []
noncomputable def hd.view_39 : Program := view PySem.Challenge.pw_or0061_01 [0, 2, 3, 4, 5, 7, 9, 10, 11, 12, 13, 14, 15, 16, 17, 18, 19, 20, 21, 23, 24, 26, 27, 28, 29, 30, 31, 32, 33, 34, 35, 36, 37, 38, 39, 41, 42, 43, 44, 45]
theorem hd.at_ : ∀ P, [nat_lit 2, nat_lit 3, nat_lit 15, nat_lit 17, nat_lit 18, nat_lit 20, nat_lit 21, nat_lit 22, nat_lit 24, nat_lit 25, nat_lit 27, nat_lit 28, nat_lit 29, nat_lit 31, nat_lit 32, nat_lit 34, nat_lit 35, nat_lit 36, nat_lit 38, nat_lit 39, nat_lit 41, nat_lit 42, nat_lit 43, nat_lit 45, nat_lit 46, nat_lit 48, nat_lit 49, nat_lit 57, nat_lit 59, nat_lit 60, nat_lit 62, nat_lit 63, nat_lit 64, nat_lit 66, nat_lit 67, nat_lit 69, nat_lit 70, nat_lit 71, nat_lit 72, nat_lit 73, nat_lit 74, nat_lit 75, nat_lit 85, nat_lit 86, nat_lit 89, nat_lit 90, nat_lit 91, nat_lit 93, nat_lit 94, nat_lit 96, nat_lit 97, nat_lit 98, nat_lit 100, nat_lit 101, nat_lit 103, nat_lit 104, nat_lit 105, nat_lit 108, nat_lit 109, nat_lit 110, nat_lit 112, nat_lit 113, nat_lit 115, nat_lit 116, nat_lit 117, nat_lit 120, nat_lit 121, nat_lit 122, nat_lit 123, nat_lit 124, nat_lit 125, nat_lit 126, nat_lit 129, nat_lit 131, nat_lit 132, nat_lit 134, nat_lit 135, nat_lit 136, nat_lit 138, nat_lit 139, nat_lit 141, nat_lit 142, nat_lit 143, nat_lit 145, nat_lit 146, nat_lit 148, nat_lit 149, nat_lit 150, nat_lit 153, nat_lit 154, nat_lit 155, nat_lit 158, nat_lit 159, nat_lit 160, nat_lit 163, nat_lit 164, nat_lit 165, nat_lit 167, nat_lit 168, nat_lit 170, nat_lit 171, nat_lit 172, nat_lit 175, nat_lit 176, nat_lit 177, nat_lit 179, nat_lit 180, nat_lit 182, nat_lit 183, nat_lit 184, nat_lit 186, nat_lit 187, nat_lit 189, nat_lit 190, nat_lit 191, nat_lit 193, nat_lit 194, nat_lit 196, nat_lit 197, nat_lit 198, nat_lit 201, nat_lit 202, nat_lit 203, nat_lit 210, nat_lit 211, nat_lit 213, nat_lit 214, nat_lit 216, nat_lit 217, nat_lit 218, nat_lit 220, nat_lit 221, nat_lit 223, nat_lit 224, nat_lit 225, nat_lit 226, nat_lit 227, nat_lit 228, nat_lit 231, nat_lit 238, nat_lit 239, nat_lit 240, nat_lit 243, nat_lit 245, nat_lit 246, nat_lit 248, nat_lit 249, nat_lit 250, nat_lit 252, nat_lit 253, nat_lit 255, nat_lit 256, nat_lit 257, nat_lit 259, nat_lit 260, nat_lit 262, nat_lit 263, nat_lit 264, nat_lit 266, nat_lit 267, nat_lit 269, nat_lit 270, nat_lit 278, nat_lit 280, nat_lit 281, nat_lit 283, nat_lit 284, nat_lit 285, nat_lit 287, nat_lit 288, nat_lit 290, nat_lit 291, nat_lit 292, nat_lit 294, nat_lit 295, nat_lit 297, nat_lit 298, nat_lit 299, nat_lit 300, nat_lit 301, nat_lit 302, nat_lit 303, nat_lit 313, nat_lit 315, nat_lit 316, nat_lit 318, nat_lit 319, nat_lit 320, nat_lit 322, nat_lit 323, nat_lit 325, nat_lit 326, nat_lit 327, nat_lit 330, nat_lit 331, nat_lit 332, nat_lit 335, nat_lit 336, nat_lit 337, nat_lit 338, nat_lit 339, nat_lit 340, nat_lit 341, nat_lit 344, nat_lit 346, nat_lit 347, nat_lit 349, nat_lit 350, nat_lit 351, nat_lit 353, nat_lit 354, nat_lit 356, nat_lit 357, nat_lit 358, nat_lit 360, nat_lit 361, nat_lit 363, nat_lit 364, nat_lit 365, nat_lit 367, nat_lit 368, nat_lit 370, nat_lit 371, nat_lit 372, nat_lit 375, nat_lit 376, nat_lit 377, nat_lit 380, nat_lit 381, nat_lit 382, nat_lit 384, nat_lit 385, nat_lit 387, nat_lit 388, nat_lit 389, nat_lit 391, nat_lit 392, nat_lit 394, nat_lit 395, nat_lit 396, nat_lit 399, nat_lit 400, nat_lit 401, nat_lit 403, nat_lit 404, nat_lit 406, nat_lit 407] = (hd.heap_39 P).map (·.1) := fun _ => by kernel_rfl
noncomputable abbrev hd.hook : Hook := kHook hd.heap_39 [nat_lit 2, nat_lit 3, nat_lit 15, nat_lit 17, nat_lit 18, nat_lit 20, nat_lit 21, nat_lit 22, nat_lit 24, nat_lit 25, nat_lit 27, nat_lit 28, nat_lit 29, nat_lit 31, nat_lit 32, nat_lit 34, nat_lit 35, nat_lit 36, nat_lit 38, nat_lit 39, nat_lit 41, nat_lit 42, nat_lit 43, nat_lit 45, nat_lit 46, nat_lit 48, nat_lit 49, nat_lit 57, nat_lit 59, nat_lit 60, nat_lit 62, nat_lit 63, nat_lit 64, nat_lit 66, nat_lit 67, nat_lit 69, nat_lit 70, nat_lit 71, nat_lit 72, nat_lit 73, nat_lit 74, nat_lit 75, nat_lit 85, nat_lit 86, nat_lit 89, nat_lit 90, nat_lit 91, nat_lit 93, nat_lit 94, nat_lit 96, nat_lit 97, nat_lit 98, nat_lit 100, nat_lit 101, nat_lit 103, nat_lit 104, nat_lit 105, nat_lit 108, nat_lit 109, nat_lit 110, nat_lit 112, nat_lit 113, nat_lit 115, nat_lit 116, nat_lit 117, nat_lit 120, nat_lit 121, nat_lit 122, nat_lit 123, nat_lit 124, nat_lit 125, nat_lit 126, nat_lit 129, nat_lit 131, nat_lit 132, nat_lit 134, nat_lit 135, nat_lit 136, nat_lit 138, nat_lit 139, nat_lit 141, nat_lit 142, nat_lit 143, nat_lit 145, nat_lit 146, nat_lit 148, nat_lit 149, nat_lit 150, nat_lit 153, nat_lit 154, nat_lit 155, nat_lit 158, nat_lit 159, nat_lit 160, nat_lit 163, nat_lit 164, nat_lit 165, nat_lit 167, nat_lit 168, nat_lit 170, nat_lit 171, nat_lit 172, nat_lit 175, nat_lit 176, nat_lit 177, nat_lit 179, nat_lit 180, nat_lit 182, nat_lit 183, nat_lit 184, nat_lit 186, nat_lit 187, nat_lit 189, nat_lit 190, nat_lit 191, nat_lit 193, nat_lit 194, nat_lit 196, nat_lit 197, nat_lit 198, nat_lit 201, nat_lit 202, nat_lit 203, nat_lit 210, nat_lit 211, nat_lit 213, nat_lit 214, nat_lit 216, nat_lit 217, nat_lit 218, nat_lit 220, nat_lit 221, nat_lit 223, nat_lit 224, nat_lit 225, nat_lit 226, nat_lit 227, nat_lit 228, nat_lit 231, nat_lit 238, nat_lit 239, nat_lit 240, nat_lit 243, nat_lit 245, nat_lit 246, nat_lit 248, nat_lit 249, nat_lit 250, nat_lit 252, nat_lit 253, nat_lit 255, nat_lit 256, nat_lit 257, nat_lit 259, nat_lit 260, nat_lit 262, nat_lit 263, nat_lit 264, nat_lit 266, nat_lit 267, nat_lit 269, nat_lit 270, nat_lit 278, nat_lit 280, nat_lit 281, nat_lit 283, nat_lit 284, nat_lit 285, nat_lit 287, nat_lit 288, nat_lit 290, nat_lit 291, nat_lit 292, nat_lit 294, nat_lit 295, nat_lit 297, nat_lit 298, nat_lit 299, nat_lit 300, nat_lit 301, nat_lit 302, nat_lit 303, nat_lit 313, nat_lit 315, nat_lit 316, nat_lit 318, nat_lit 319, nat_lit 320, nat_lit 322, nat_lit 323, nat_lit 325, nat_lit 326, nat_lit 327, nat_lit 330, nat_lit 331, nat_lit 332, nat_lit 335, nat_lit 336, nat_lit 337, nat_lit 338, nat_lit 339, nat_lit 340, nat_lit 341, nat_lit 344, nat_lit 346, nat_lit 347, nat_lit 349, nat_lit 350, nat_lit 351, nat_lit 353, nat_lit 354, nat_lit 356, nat_lit 357, nat_lit 358, nat_lit 360, nat_lit 361, nat_lit 363, nat_lit 364, nat_lit 365, nat_lit 367, nat_lit 368, nat_lit 370, nat_lit 371, nat_lit 372, nat_lit 375, nat_lit 376, nat_lit 377, nat_lit 380, nat_lit 381, nat_lit 382, nat_lit 384, nat_lit 385, nat_lit 387, nat_lit 388, nat_lit 389, nat_lit 391, nat_lit 392, nat_lit 394, nat_lit 395, nat_lit 396, nat_lit 399, nat_lit 400, nat_lit 401, nat_lit 403, nat_lit 404, nat_lit 406, nat_lit 407] hd.at_
noncomputable abbrev hd.p : Program := PySem.Challenge.rw_or0061_01.row.toRowW.prog
noncomputable def hd.env : Env := { scope := hd.p.main.scope, locals := mainNs, globals := mainNs, cells := [], code := .ref 13, frame := some 14 }
def hd.o1 (_ : Params) : Obj := ⟨.type "tuple", none, .seq #[] 0, #[]⟩
def hd.o2 (_ : Params) : Obj := ⟨.none, none, .fields #[], #[]⟩
def hd.o3 (_ : Params) : Obj := ⟨.type "code", none, .fields #[.str "<module>" 182, .str "<module>" 183, .str "/claim/cut.py" 184, .int 1 0, .int 0 0, .int 0 0, .int 0 0, .int 0 0, .ref 11, .bool false, .int 181 0, .ref 12, .none, .none, .none, .none, .int 185 0, .int 1 0, .str "/claim/cut.py" 186], #[]⟩
def hd.o4 (_ : Params) : Obj := ⟨.type "frame", none, .plain, #[some (.ref 13), some (.ref 3), some (.ref 3), none, some (.str "__main__" 164), none, some (.ref 0)]⟩
noncomputable def hd.sa (P : Params) : Heap := ⟨⟨[boot_o_0 P, boot_o_1 P, boot_o_2 P, boot_o_3 P, boot_o_4 P, boot_o_5 P, boot_o_6 P, boot_o_7 P, boot_o_8 P, boot_o_9 P, boot_o_10 P, hd.o1 P, hd.o2 P, hd.o3 P, hd.o4 P]⟩, {}⟩
noncomputable def hd.sb (P : Params) : BT :=
  .node (boot_o_0 P)
    (.node (boot_o_1 P) (.node (boot_o_3 P) (.node (boot_o_7 P) .nil .nil) (.node (hd.o1 P) .nil .nil)) (.node (boot_o_5 P) (.node (boot_o_9 P) .nil .nil) (.node (hd.o3 P) .nil .nil)))
    (.node (boot_o_2 P) (.node (boot_o_4 P) (.node (boot_o_8 P) .nil .nil) (.node (hd.o2 P) .nil .nil)) (.node (boot_o_6 P) (.node (boot_o_10 P) .nil .nil) (.node (hd.o4 P) .nil .nil)))
noncomputable abbrev hd.cE : Code := .body (behindTheImports hd.p) hd.env
noncomputable abbrev hd.st0 (w : World) (os : OsState) : SharedT := ⟨hd.sb w.params, 15, {}, ⟨[]⟩, {}, 187, os⟩
open hd in
/-- all objects behind the top -/
noncomputable def hd.objs (P : Params) : List Obj := [
  boot_o_0 P,
  boot_o_1 P,
  hd.h2 P,
  hd.h3 P,
  boot_o_4 P,
  boot_o_5 P,
  boot_o_6 P,
  boot_o_7 P,
  boot_o_8 P,
  boot_o_9 P,
  boot_o_10 P,
  ⟨(.type "tuple"),none,(.seq #[] 0),#[]⟩,
  ⟨.none,none,(.fields #[(.int 1 0),(.int 0 0),(.ref 20),(.int 5 0),(.int 0 0),(.ref 27),(.int 14 0),(.int 0 0),(.ref 34),(.int 28 0),(.int 0 0),(.ref 41),(.int 36 0),(.int 0 0),(.ref 48),(.int 49 0),(.int 0 0),(.ref 55),(.int 57 0),(.int 0 0),(.ref 83),(.int 84 0),(.int 0 0),(.ref 134),(.int 93 0),(.int 0 0),(.ref 141),(.int 96 0),(.int 0 0),(.ref 148),(.int 100 0),(.int 0 0),(.ref 153),(.int 103 0),(.int 0 0),(.ref 158),(.int 106 0),(.int 0 0),(.ref 163),(.int 113 0),(.int 0 0),(.ref 170),(.int 121 0),(.int 0 0),(.ref 175),(.int 125 0),(.int 0 0),(.ref 182),(.int 135 0),(.int 0 0),(.ref 189),(.int 141 0),(.int 0 0),(.ref 196),(.int 146 0),(.int 0 0),(.ref 201),(.int 149 0),(.int 0 0),(.ref 208),(.int 158 0),(.int 0 0),(.ref 236),(.int 164 0),(.int 0 0),(.ref 248),(.int 166 0),(.int 0 0),(.ref 255),(.int 173 0),(.int 0 0),(.ref 262),(.int 180 0),(.int 0 0),(.ref 269),(.int 187 0),(.int 0 0),(.ref 276),(.int 201 0),(.int 0 0),(.ref 311),(.int 222 0),(.int 0 0),(.ref 349),(.int 233 0),(.int 0 0),(.ref 356),(.int 236 0),(.int 0 0),(.ref 363),(.int 242 0),(.int 0 0),(.ref 370),(.int 252 0),(.int 0 0),(.ref 375),(.int 264 0),(.int 0 0),(.ref 380),(.int 266 0),(.int 0 0),(.ref 387),(.int 271 0),(.int 0 0),(.ref 394),(.int 273 0),(.int 0 0),(.ref 399),(.int 284 0),(.int 0 0),(.ref 406)]),#[]⟩,
  ⟨(.type "code"),none,(.fields #[(.str "<module>" 182),(.str "<module>" 183),(.str "/claim/cut.py" 184),(.int 1 0),(.int 0 0),(.int 0 0),(.int 0 0),(.int 0 0),(.ref 11),(.bool false),(.int 181 0),(.ref 12),.none,.none,.none,.none,(.int 185 0),(.int 1 0),(.str "/claim/cut.py" 186)]),#[]⟩,
  ⟨(.type "frame"),none,.plain,#[(some (.ref 13)),(some (.ref 3)),(some (.ref 3)),none,(some (.str "__main__" 164)),none,(some (.ref 0))]⟩,
  hd.h15 P,
  ⟨.none,none,(.fields #[]),#[]⟩,
  hd.h17 P,
  hd.h18 P,
  ⟨.none,none,(fd (pick 0) rfl "_wall" "_wall" [] .none .none .none .none none .none .none 0 0),#[]⟩,
  hd.h20 P,
  hd.h21 P,
  hd.h22 P,
  ⟨.none,none,(.fields #[]),#[]⟩,
  hd.h24 P,
  hd.h25 P,
  ⟨.none,none,(fd (pick 2) rfl "ends_of" "ends_of" [] .none .none .none .none none .none .none 0 0),#[]⟩,
  hd.h27 P,
  hd.h28 P,
  hd.h29 P,
  ⟨.none,none,(.fields #[]),#[]⟩,
  hd.h31 P,
  hd.h32 P,
  ⟨.none,none,(fd (pick 3) rfl "plain_set" "plain_set" [] .none .none .none .none none .none .none 0 0),#[]⟩,
  hd.h34 P,
  hd.h35 P,
  hd.h36 P,
  ⟨.none,none,(.fields #[]),#[]⟩,
  hd.h38 P,
  hd.h39 P,
  ⟨.none,none,(fd (pick 4) rfl "ranges_of" "ranges_of" [] .none .none .none .none none .none .none 0 0),#[]⟩,
  hd.h41 P,
  hd.h42 P,
  hd.h43 P,
  ⟨.none,none,(.fields #[]),#[]⟩,
  hd.h45 P,
  hd.h46 P,
  ⟨.none,none,(fd (pick 5) rfl "members" "members" [] .none .none .none .none none .none .none 0 0),#[]⟩,
  hd.h48 P,
  hd.h49 P,
  ⟨(.type "tuple"),none,(.seq #[] 0),#[]⟩,
  ⟨(.type "builtin_function_or_method"),none,(.fields #[(.builtin "type.__prepare__"),(.type "type")]),#[]⟩,
  ⟨(.type "dict"),none,(.dict #[⟨(PyData.keyHash P "__module__"),(.str "__module__" 250),(.str "postkeep.wire" 241)⟩,⟨(PyData.keyHash P "__qualname__"),(.str "__qualname__" 252),(.str "Atom" 251)⟩,⟨(PyData.keyHash P "__firstlineno__"),(.str "__firstlineno__" 254),(.int 49 253)⟩,⟨(PyData.keyHash P "__init__"),(.str "__init__" 262),(.ref 63)⟩,⟨(PyData.keyHash P "told"),(.str "told" 269),(.ref 70)⟩,⟨(PyData.keyHash P "__static_attributes__"),(.str "__static_attributes__" 271),(.ref 71)⟩] 6),#[]⟩,
  ⟨(.type "tuple"),none,(.seq #[] 0),#[]⟩,
  ⟨.none,none,(.fields #[(.int 51 0),(.int 4 0),(.ref 62),(.int 54 0),(.int 4 0),(.ref 69)]),#[]⟩,
  ⟨(.type "code"),none,(.fields #[(.str "Atom" 245),(.str "Atom" 246),(.str "/claim/cut.py" 247),(.int 49 0),(.int 0 0),(.int 0 0),(.int 0 0),(.int 0 0),(.ref 53),(.bool false),(.int 181 0),(.ref 54),.none,.none,.none,.none,(.int 248 0),(.int 49 0),(.str "/claim/cut.py" 249)]),#[]⟩,
  ⟨(.type "frame"),none,.plain,#[(some (.ref 55)),(some (.ref 3)),(some (.ref 52)),none,(some (.str "postkeep.wire" 241)),none,(some (.ref 0))]⟩,
  hd.h57 P,
  ⟨.none,none,(.fields #[]),#[]⟩,
  hd.h59 P,
  hd.h60 P,
  ⟨.none,none,(fd (pick2 7 0) rfl "__init__" "Atom.__init__" [] .none .none .none .none none .none .none 0 0),#[]⟩,
  hd.h62 P,
  hd.h63 P,
  hd.h64 P,
  ⟨.none,none,(.fields #[]),#[]⟩,
  hd.h66 P,
  hd.h67 P,
  ⟨.none,none,(fd (pick2 7 1) rfl "told" "Atom.told" [] .none .none .none .none none .none .none 0 0),#[]⟩,
  hd.h69 P,
  hd.h70 P,
  hd.h71 P,
  hd.h72 P,
  hd.h73 P,
  hd.h74 P,
  hd.h75 P,
  ⟨(.type "super"),none,(.fields #[(.ref 73),(.ref 73),(.ref 73)]),#[]⟩,
  ⟨(.type "builtin_function_or_method"),none,(.fields #[(.builtin "object.__init_subclass__"),(.ref 73)]),#[]⟩,
  ⟨(.type "tuple"),none,(.seq #[] 0),#[]⟩,
  ⟨(.type "builtin_function_or_method"),none,(.fields #[(.builtin "type.__prepare__"),(.type "type")]),#[]⟩,
  ⟨(.type "dict"),none,(.dict #[⟨(PyData.keyHash P "__module__"),(.str "__module__" 288),(.str "postkeep.view" 279)⟩,⟨(PyData.keyHash P "__qualname__"),(.str "__qualname__" 290),(.str "View" 289)⟩,⟨(PyData.keyHash P "__firstlineno__"),(.str "__firstlineno__" 292),(.int 57 291)⟩,⟨(PyData.keyHash P "__init__"),(.str "__init__" 298),(.ref 90)⟩,⟨(PyData.keyHash P "number_of"),(.str "number_of" 306),(.ref 97)⟩,⟨(PyData.keyHash P "uid_at"),(.str "uid_at" 314),(.ref 104)⟩,⟨(PyData.keyHash P "uids_in"),(.str "uids_in" 320),(.ref 109)⟩,⟨(PyData.keyHash P "has_number"),(.str "has_number" 328),(.ref 116)⟩,⟨(PyData.keyHash P "told"),(.str "told" 334),(.ref 121)⟩,⟨(PyData.keyHash P "__static_attributes__"),(.str "__static_attributes__" 342),(.ref 122)⟩] 10),#[]⟩,
  ⟨(.type "tuple"),none,(.seq #[] 0),#[]⟩,
  ⟨.none,none,(.fields #[(.int 59 0),(.int 4 0),(.ref 89),(.int 68 0),(.int 4 0),(.ref 96),(.int 71 0),(.int 4 0),(.ref 103),(.int 74 0),(.int 4 0),(.ref 108),(.int 79 0),(.int 4 0),(.ref 115),(.int 82 0),(.int 4 0),(.ref 120)]),#[]⟩,
  ⟨(.type "code"),none,(.fields #[(.str "View" 283),(.str "View" 284),(.str "/claim/cut.py" 285),(.int 57 0),(.int 0 0),(.int 0 0),(.int 0 0),(.int 0 0),(.ref 81),(.bool false),(.int 181 0),(.ref 82),.none,.none,.none,.none,(.int 286 0),(.int 57 0),(.str "/claim/cut.py" 287)]),#[]⟩,
  ⟨(.type "frame"),none,.plain,#[(some (.ref 83)),(some (.ref 3)),(some (.ref 80)),none,(some (.str "postkeep.view" 279)),none,(some (.ref 0))]⟩,
  hd.h85 P,
  hd.h86 P,
  ⟨.none,none,(.fields #[]),#[]⟩,
  ⟨.none,none,(fd (pick2 9 0) rfl "__init__" "View.__init__" [] .none .none .none .none none .none .none 0 0),#[]⟩,
  hd.h89 P,
  hd.h90 P,
  hd.h91 P,
  ⟨.none,none,(.fields #[]),#[]⟩,
  hd.h93 P,
  hd.h94 P,
  ⟨.none,none,(fd (pick2 9 1) rfl "number_of" "View.number_of" [] .none .none .none .none none .none .none 0 0),#[]⟩,
  hd.h96 P,
  hd.h97 P,
  hd.h98 P,
  ⟨.none,none,(.fields #[]),#[]⟩,
  hd.h100 P,
  hd.h101 P,
  ⟨.none,none,(fd (pick2 9 2) rfl "uid_at" "View.uid_at" [] .none .none .none .none none .none .none 0 0),#[]⟩,
  hd.h103 P,
  hd.h104 P,
  hd.h105 P,
  ⟨.none,none,(.fields #[]),#[]⟩,
  ⟨.none,none,(fd (pick2 9 3) rfl "uids_in" "View.uids_in" [] .none .none .none .none none .none .none 0 0),#[]⟩,
  hd.h108 P,
  hd.h109 P,
  hd.h110 P,
  ⟨.none,none,(.fields #[]),#[]⟩,
  hd.h112 P,
  hd.h113 P,
  ⟨.none,none,(fd (pick2 9 4) rfl "has_number" "View.has_number" [] .none .none .none .none none .none .none 0 0),#[]⟩,
  hd.h115 P,
  hd.h116 P,
  hd.h117 P,
  ⟨.none,none,(.fields #[]),#[]⟩,
  ⟨.none,none,(fd (pick2 9 5) rfl "told" "View.told" [] .none .none .none .none none .none .none 0 0),#[]⟩,
  hd.h120 P,
  hd.h121 P,
  hd.h122 P,
  hd.h123 P,
  hd.h124 P,
  hd.h125 P,
  hd.h126 P,
  ⟨(.type "super"),none,(.fields #[(.ref 124),(.ref 124),(.ref 124)]),#[]⟩,
  ⟨(.type "builtin_function_or_method"),none,(.fields #[(.builtin "object.__init_subclass__"),(.ref 124)]),#[]⟩,
  hd.h129 P,
  ⟨.none,none,(.fields #[]),#[]⟩,
  hd.h131 P,
  hd.h132 P,
  ⟨.none,none,(fd (pick 10) rfl "place_among" "place_among" [] .none .none .none .none none .none .none 0 0),#[]⟩,
  hd.h134 P,
  hd.h135 P,
  hd.h136 P,
  ⟨.none,none,(.fields #[]),#[]⟩,
  hd.h138 P,
  hd.h139 P,
  ⟨.none,none,(fd (pick 11) rfl "note" "note" [] .none .none .none .none none .none .none 0 0),#[]⟩,
  hd.h141 P,
  hd.h142 P,
  hd.h143 P,
  ⟨.none,none,(.fields #[]),#[]⟩,
  hd.h145 P,
  hd.h146 P,
  ⟨.none,none,(fd (pick 12) rfl "is_stale" "is_stale" [] .none .none .none .none none .none .none 0 0),#[]⟩,
  hd.h148 P,
  hd.h149 P,
  hd.h150 P,
  ⟨.none,none,(.fields #[]),#[]⟩,
  ⟨.none,none,(fd (pick 13) rfl "gone_uids" "gone_uids" [] .none .none .none .none none .none .none 0 0),#[]⟩,
  hd.h153 P,
  hd.h154 P,
  hd.h155 P,
  ⟨.none,none,(.fields #[]),#[]⟩,
  ⟨.none,none,(fd (pick 14) rfl "new_letters" "new_letters" [] .none .none .none .none none .none .none 0 0),#[]⟩,
  hd.h158 P,
  hd.h159 P,
  hd.h160 P,
  ⟨.none,none,(.fields #[]),#[]⟩,
  ⟨.none,none,(fd (pick 15) rfl "flag_pairs" "flag_pairs" [] .none .none .none .none none .none .none 0 0),#[]⟩,
  hd.h163 P,
  hd.h164 P,
  hd.h165 P,
  ⟨.none,none,(.fields #[]),#[]⟩,
  hd.h167 P,
  hd.h168 P,
  ⟨.none,none,(fd (pick 16) rfl "flag_news" "flag_news" [] .none .none .none .none none .none .none 0 0),#[]⟩,
  hd.h170 P,
  hd.h171 P,
  hd.h172 P,
  ⟨.none,none,(.fields #[]),#[]⟩,
  ⟨.none,none,(fd (pick 17) rfl "forget" "forget" [] .none .none .none .none none .none .none 0 0),#[]⟩,
  hd.h175 P,
  hd.h176 P,
  hd.h177 P,
  ⟨.none,none,(.fields #[]),#[]⟩,
  hd.h179 P,
  hd.h180 P,
  ⟨.none,none,(fd (pick 18) rfl "expunge_news" "expunge_news" [] .none .none .none .none none .none .none 0 0),#[]⟩,
  hd.h182 P,
  hd.h183 P,
  hd.h184 P,
  ⟨.none,none,(.fields #[]),#[]⟩,
  hd.h186 P,
  hd.h187 P,
  ⟨.none,none,(fd (pick 19) rfl "arrival_news" "arrival_news" [] .none .none .none .none none .none .none 0 0),#[]⟩,
  hd.h189 P,
  hd.h190 P,
  hd.h191 P,
  ⟨.none,none,(.fields #[]),#[]⟩,
  hd.h193 P,
  hd.h194 P,
  ⟨.none,none,(fd (pick 20) rfl "news" "news" [] .none .none .none .none none .none .none 0 0),#[]⟩,
  hd.h196 P,
  hd.h197 P,
  hd.h198 P,
  ⟨.none,none,(.fields #[]),#[]⟩,
  ⟨.none,none,(fd (pick 21) rfl "is_up_to_date" "is_up_to_date" [] .none .none .none .none none .none .none 0 0),#[]⟩,
  hd.h201 P,
  hd.h202 P,
  hd.h203 P,
  ⟨(.type "builtin_function_or_method"),none,(.fields #[(.builtin "type.__prepare__"),(.type "type")]),#[]⟩,
  ⟨(.type "dict"),none,(.dict #[⟨(PyData.keyHash P "__module__"),(.str "__module__" 454),(.str "postkeep.errors" 445)⟩,⟨(PyData.keyHash P "__qualname__"),(.str "__qualname__" 456),(.str "PostError" 455)⟩,⟨(PyData.keyHash P "__firstlineno__"),(.str "__firstlineno__" 458),(.int 149 457)⟩,⟨(PyData.keyHash P "__init__"),(.str "__init__" 469),(.ref 217)⟩,⟨(PyData.keyHash P "told"),(.str "told" 476),(.ref 224)⟩,⟨(PyData.keyHash P "__static_attributes__"),(.str "__static_attributes__" 479),(.ref 225)⟩] 6),#[]⟩,
  ⟨(.type "tuple"),none,(.seq #[] 0),#[]⟩,
  ⟨.none,none,(.fields #[(.int 151 0),(.int 4 0),(.ref 216),(.int 156 0),(.int 4 0),(.ref 223)]),#[]⟩,
  ⟨(.type "code"),none,(.fields #[(.str "PostError" 449),(.str "PostError" 450),(.str "/claim/cut.py" 451),(.int 149 0),(.int 0 0),(.int 0 0),(.int 0 0),(.int 0 0),(.ref 206),(.bool false),(.int 181 0),(.ref 207),.none,.none,.none,.none,(.int 452 0),(.int 149 0),(.str "/claim/cut.py" 453)]),#[]⟩,
  ⟨(.type "frame"),none,.plain,#[(some (.ref 208)),(some (.ref 3)),(some (.ref 205)),none,(some (.str "postkeep.errors" 445)),none,(some (.ref 0))]⟩,
  hd.h210 P,
  hd.h211 P,
  ⟨.none,none,(.fields #[]),#[]⟩,
  hd.h213 P,
  hd.h214 P,
  ⟨.none,none,(fd (pick2 23 0) rfl "__init__" "PostError.__init__" [] .none .none .none .none none .none .none 0 0),#[]⟩,
  hd.h216 P,
  hd.h217 P,
  hd.h218 P,
  ⟨.none,none,(.fields #[]),#[]⟩,
  hd.h220 P,
  hd.h221 P,
  ⟨.none,none,(fd (pick2 23 1) rfl "told" "PostError.told" [] .none .none .none .none none .none .none 0 0),#[]⟩,
  hd.h223 P,
  hd.h224 P,
  hd.h225 P,
  hd.h226 P,
  hd.h227 P,
  hd.h228 P,
  ⟨(.type "super"),none,(.fields #[(.ref 227),(.ref 227),(.ref 227)]),#[]⟩,
  ⟨(.type "builtin_function_or_method"),none,(.fields #[(.builtin "object.__init_subclass__"),(.ref 227)]),#[]⟩,
  hd.h231 P,
  ⟨(.type "builtin_function_or_method"),none,(.fields #[(.builtin "type.__prepare__"),(.type "type")]),#[]⟩,
  ⟨(.type "dict"),none,(.dict #[⟨(PyData.keyHash P "__module__"),(.str "__module__" 494),(.str "postkeep.errors" 445)⟩,⟨(PyData.keyHash P "__qualname__"),(.str "__qualname__" 496),(.str "StoreFault" 495)⟩,⟨(PyData.keyHash P "__firstlineno__"),(.str "__firstlineno__" 498),(.int 158 497)⟩,⟨(PyData.keyHash P "__static_attributes__"),(.str "__static_attributes__" 499),(.ref 238)⟩] 4),#[]⟩,
  ⟨(.type "tuple"),none,(.seq #[] 0),#[]⟩,
  ⟨.none,none,(.fields #[]),#[]⟩,
  ⟨(.type "code"),none,(.fields #[(.str "StoreFault" 489),(.str "StoreFault" 490),(.str "/claim/cut.py" 491),(.int 158 0),(.int 0 0),(.int 0 0),(.int 0 0),(.int 0 0),(.ref 234),(.bool false),(.int 181 0),(.ref 235),.none,.none,.none,.none,(.int 492 0),(.int 158 0),(.str "/claim/cut.py" 493)]),#[]⟩,
  ⟨(.type "frame"),none,.plain,#[(some (.ref 236)),(some (.ref 3)),(some (.ref 233)),none,(some (.str "postkeep.errors" 445)),none,(some (.ref 0))]⟩,
  hd.h238 P,
  hd.h239 P,
  hd.h240 P,
  ⟨(.type "super"),none,(.fields #[(.ref 240),(.ref 240),(.ref 240)]),#[]⟩,
  ⟨(.type "builtin_function_or_method"),none,(.fields #[(.builtin "object.__init_subclass__"),(.ref 240)]),#[]⟩,
  hd.h243 P,
  ⟨.none,none,(.fields #[]),#[]⟩,
  hd.h245 P,
  hd.h246 P,
  ⟨.none,none,(fd (pick 29) rfl "system_flags" "system_flags" [] .none .none .none .none none .none .none 0 0),#[]⟩,
  hd.h248 P,
  hd.h249 P,
  hd.h250 P,
  ⟨.none,none,(.fields #[]),#[]⟩,
  hd.h252 P,
  hd.h253 P,
  ⟨.none,none,(fd (pick 30) rfl "is_keyword" "is_keyword" [] .none .none .none .none none .none .none 0 0),#[]⟩,
  hd.h255 P,
  hd.h256 P,
  hd.h257 P,
  ⟨.none,none,(.fields #[]),#[]⟩,
  hd.h259 P,
  hd.h260 P,
  ⟨.none,none,(fd (pick 31) rfl "flag_name" "flag_name" [] .none .none .none .none none .none .none 0 0),#[]⟩,
  hd.h262 P,
  hd.h263 P,
  hd.h264 P,
  ⟨.none,none,(.fields #[]),#[]⟩,
  hd.h266 P,
  hd.h267 P,
  ⟨.none,none,(fd (pick 32) rfl "flag_tuple" "flag_tuple" [] .none .none .none .none none .none .none 0 0),#[]⟩,
  hd.h269 P,
  hd.h270 P,
  ⟨(.type "tuple"),none,(.seq #[] 0),#[]⟩,
  ⟨(.type "builtin_function_or_method"),none,(.fields #[(.builtin "type.__prepare__"),(.type "type")]),#[]⟩,
  ⟨(.type "dict"),none,(.dict #[⟨(PyData.keyHash P "__module__"),(.str "__module__" 550),(.str "postkeep.boxes" 503)⟩,⟨(PyData.keyHash P "__qualname__"),(.str "__qualname__" 552),(.str "Letter" 551)⟩,⟨(PyData.keyHash P "__firstlineno__"),(.str "__firstlineno__" 554),(.int 187 553)⟩,⟨(PyData.keyHash P "__init__"),(.str "__init__" 566),(.ref 284)⟩,⟨(PyData.keyHash P "has"),(.str "has" 574),(.ref 291)⟩,⟨(PyData.keyHash P "told"),(.str "told" 581),(.ref 298)⟩,⟨(PyData.keyHash P "__static_attributes__"),(.str "__static_attributes__" 587),(.ref 299)⟩] 7),#[]⟩,
  ⟨(.type "tuple"),none,(.seq #[] 0),#[]⟩,
  ⟨.none,none,(.fields #[(.int 189 0),(.int 4 0),(.ref 283),(.int 196 0),(.int 4 0),(.ref 290),(.int 199 0),(.int 4 0),(.ref 297)]),#[]⟩,
  ⟨(.type "code"),none,(.fields #[(.str "Letter" 545),(.str "Letter" 546),(.str "/claim/cut.py" 547),(.int 187 0),(.int 0 0),(.int 0 0),(.int 0 0),(.int 0 0),(.ref 274),(.bool false),(.int 181 0),(.ref 275),.none,.none,.none,.none,(.int 548 0),(.int 187 0),(.str "/claim/cut.py" 549)]),#[]⟩,
  ⟨(.type "frame"),none,.plain,#[(some (.ref 276)),(some (.ref 3)),(some (.ref 273)),none,(some (.str "postkeep.boxes" 503)),none,(some (.ref 0))]⟩,
  hd.h278 P,
  ⟨.none,none,(.fields #[]),#[]⟩,
  hd.h280 P,
  hd.h281 P,
  ⟨.none,none,(fd (pick2 33 0) rfl "__init__" "Letter.__init__" [] .none .none .none .none none .none .none 0 0),#[]⟩,
  hd.h283 P,
  hd.h284 P,
  hd.h285 P,
  ⟨.none,none,(.fields #[]),#[]⟩,
  hd.h287 P,
  hd.h288 P,
  ⟨.none,none,(fd (pick2 33 1) rfl "has" "Letter.has" [] .none .none .none .none none .none .none 0 0),#[]⟩,
  hd.h290 P,
  hd.h291 P,
  hd.h292 P,
  ⟨.none,none,(.fields #[]),#[]⟩,
  hd.h294 P,
  hd.h295 P,
  ⟨.none,none,(fd (pick2 33 2) rfl "told" "Letter.told" [] .none .none .none .none none .none .none 0 0),#[]⟩,
  hd.h297 P,
  hd.h298 P,
  hd.h299 P,
  hd.h300 P,
  hd.h301 P,
  hd.h302 P,
  hd.h303 P,
  ⟨(.type "super"),none,(.fields #[(.ref 301),(.ref 301),(.ref 301)]),#[]⟩,
  ⟨(.type "builtin_function_or_method"),none,(.fields #[(.builtin "object.__init_subclass__"),(.ref 301)]),#[]⟩,
  ⟨(.type "tuple"),none,(.seq #[] 0),#[]⟩,
  ⟨(.type "builtin_function_or_method"),none,(.fields #[(.builtin "type.__prepare__"),(.type "type")]),#[]⟩,
  ⟨(.type "dict"),none,(.dict #[⟨(PyData.keyHash P "__module__"),(.str "__module__" 602),(.str "postkeep.boxes" 503)⟩,⟨(PyData.keyHash P "__qualname__"),(.str "__qualname__" 604),(.str "Box" 603)⟩,⟨(PyData.keyHash P "__firstlineno__"),(.str "__firstlineno__" 606),(.int 201 605)⟩,⟨(PyData.keyHash P "__init__"),(.str "__init__" 615),(.ref 319)⟩,⟨(PyData.keyHash P "letter"),(.str "letter" 624),(.ref 326)⟩,⟨(PyData.keyHash P "uids"),(.str "uids" 630),(.ref 331)⟩,⟨(PyData.keyHash P "told"),(.str "told" 636),(.ref 336)⟩,⟨(PyData.keyHash P "__static_attributes__"),(.str "__static_attributes__" 644),(.ref 337)⟩] 8),#[]⟩,
  ⟨(.type "tuple"),none,(.seq #[] 0),#[]⟩,
  ⟨.none,none,(.fields #[(.int 203 0),(.int 4 0),(.ref 318),(.int 212 0),(.int 4 0),(.ref 325),(.int 216 0),(.int 4 0),(.ref 330),(.int 219 0),(.int 4 0),(.ref 335)]),#[]⟩,
  ⟨(.type "code"),none,(.fields #[(.str "Box" 597),(.str "Box" 598),(.str "/claim/cut.py" 599),(.int 201 0),(.int 0 0),(.int 0 0),(.int 0 0),(.int 0 0),(.ref 309),(.bool false),(.int 181 0),(.ref 310),.none,.none,.none,.none,(.int 600 0),(.int 201 0),(.str "/claim/cut.py" 601)]),#[]⟩,
  ⟨(.type "frame"),none,.plain,#[(some (.ref 311)),(some (.ref 3)),(some (.ref 308)),none,(some (.str "postkeep.boxes" 503)),none,(some (.ref 0))]⟩,
  hd.h313 P,
  ⟨.none,none,(.fields #[]),#[]⟩,
  hd.h315 P,
  hd.h316 P,
  ⟨.none,none,(fd (pick2 34 0) rfl "__init__" "Box.__init__" [] .none .none .none .none none .none .none 0 0),#[]⟩,
  hd.h318 P,
  hd.h319 P,
  hd.h320 P,
  ⟨.none,none,(.fields #[]),#[]⟩,
  hd.h322 P,
  hd.h323 P,
  ⟨.none,none,(fd (pick2 34 1) rfl "letter" "Box.letter" [] .none .none .none .none none .none .none 0 0),#[]⟩,
  hd.h325 P,
  hd.h326 P,
  hd.h327 P,
  ⟨.none,none,(.fields #[]),#[]⟩,
  ⟨.none,none,(fd (pick2 34 2) rfl "uids" "Box.uids" [] .none .none .none .none none .none .none 0 0),#[]⟩,
  hd.h330 P,
  hd.h331 P,
  hd.h332 P,
  ⟨.none,none,(.fields #[]),#[]⟩,
  ⟨.none,none,(fd (pick2 34 3) rfl "told" "Box.told" [] .none .none .none .none none .none .none 0 0),#[]⟩,
  hd.h335 P,
  hd.h336 P,
  hd.h337 P,
  hd.h338 P,
  hd.h339 P,
  hd.h340 P,
  hd.h341 P,
  ⟨(.type "super"),none,(.fields #[(.ref 339),(.ref 339),(.ref 339)]),#[]⟩,
  ⟨(.type "builtin_function_or_method"),none,(.fields #[(.builtin "object.__init_subclass__"),(.ref 339)]),#[]⟩,
  hd.h344 P,
  ⟨.none,none,(.fields #[]),#[]⟩,
  hd.h346 P,
  hd.h347 P,
  ⟨.none,none,(fd (pick 35) rfl "place_of" "place_of" [] .none .none .none .none none .none .none 0 0),#[]⟩,
  hd.h349 P,
  hd.h350 P,
  hd.h351 P,
  ⟨.none,none,(.fields #[]),#[]⟩,
  hd.h353 P,
  hd.h354 P,
  ⟨.none,none,(fd (pick 36) rfl "raised" "raised" [] .none .none .none .none none .none .none 0 0),#[]⟩,
  hd.h356 P,
  hd.h357 P,
  hd.h358 P,
  ⟨.none,none,(.fields #[]),#[]⟩,
  hd.h360 P,
  hd.h361 P,
  ⟨.none,none,(fd (pick 37) rfl "add_letter" "add_letter" [] .none .none .none .none none .none .none 0 0),#[]⟩,
  hd.h363 P,
  hd.h364 P,
  hd.h365 P,
  ⟨.none,none,(.fields #[]),#[]⟩,
  hd.h367 P,
  hd.h368 P,
  ⟨.none,none,(fd (pick 38) rfl "set_flags" "set_flags" [] .none .none .none .none none .none .none 0 0),#[]⟩,
  hd.h370 P,
  hd.h371 P,
  hd.h372 P,
  ⟨.none,none,(.fields #[]),#[]⟩,
  ⟨.none,none,(fd (pick 39) rfl "expunge" "expunge" [] .none .none .none .none none .none .none 0 0),#[]⟩,
  hd.h375 P,
  hd.h376 P,
  hd.h377 P,
  ⟨.none,none,(.fields #[]),#[]⟩,
  ⟨.none,none,(fd (pick 41) rfl "_law_deck" "_law_deck" [] .none .none .none .none none .none .none 0 0),#[]⟩,
  hd.h380 P,
  hd.h381 P,
  hd.h382 P,
  ⟨.none,none,(.fields #[]),#[]⟩,
  hd.h384 P,
  hd.h385 P,
  ⟨.none,none,(fd (pick 42) rfl "_law_card" "_law_card" [] .none .none .none .none none .none .none 0 0),#[]⟩,
  hd.h387 P,
  hd.h388 P,
  hd.h389 P,
  ⟨.none,none,(.fields #[]),#[]⟩,
  hd.h391 P,
  hd.h392 P,
  ⟨.none,none,(fd (pick 43) rfl "_law_sorts" "_law_sorts" [] .none .none .none .none none .none .none 0 0),#[]⟩,
  hd.h394 P,
  hd.h395 P,
  hd.h396 P,
  ⟨.none,none,(.fields #[]),#[]⟩,
  ⟨.none,none,(fd (pick 44) rfl "_law_like" "_law_like" [] .none .none .none .none none .none .none 0 0),#[]⟩,
  hd.h399 P,
  hd.h400 P,
  hd.h401 P,
  ⟨.none,none,(.fields #[]),#[]⟩,
  hd.h403 P,
  hd.h404 P,
  ⟨.none,none,(fd (pick 45) rfl "law" "law" [] .none .none .none .none none .none .none 0 0),#[]⟩,
  hd.h406 P,
  hd.h407 P]
noncomputable def hd.bt : Nat → BT → List Obj → BT
  | _, t, [] => t
  | i, t, o :: l => hd.bt (i + 1) (t.ins i o) l
theorem hd.open_ : ∀ w : World, (fencedOpening treeTable hd.p w 5614).map (fun s => (s.heap, s.gens, s.drawn, s.toks)) = some (boot_heap w.params, Array.mk [], boot_drawn, boot_toks) :=
  boot_open (by kernel_rfl) (by decide) (fun s => by kernel_rfl)
theorem hd.size : ∀ w : World, ((boot_heap w.params).isNs mainGlobals && (Array.mk [] : Array GenState).size == 0, (boot_heap w.params).objs.size, (boot_heap w.params).nsMap mainGlobals "__annotations__") = (true, 11, some (.ref 6)) := by
  intro w
  rw [PySem.W.Fast.te8920871248978507458]
  kernel_rfl
theorem hd.pre : ∀ w : World, (fun os => topGo treeTable hd.p w 11 (some (.ref 6)) 12 ⟨boot_heap w.params, ⟨[]⟩, boot_drawn, boot_toks, os⟩ (topStub hd.p)) = fun os => some (⟨hd.sa w.params, ⟨[]⟩, {}, 187, os⟩, ⟨denote treeTable hd.cE, hd.cE, ⟨0, 0, 0, 0⟩, [topFrame ⟨0, 0, 0, 0⟩]⟩) := by
  intro w
  rw [PySem.W.Fast.te15667345088766844465, PySem.W.Fast.te14364793385576792824, PySem.W.Fast.te11892475500146522536]
  kernel_rfl
theorem hd.block : ∀ w : World, (fun os => segRun treeTable hd.p w 11 (some (.ref 6)) 1 1 ⟨hd.sa w.params, ⟨[]⟩, {}, 187, os⟩ (blockOf (behindTheImports hd.p) hd.env hd.cE ⟨0, 0, 0, 0⟩ [topFrame ⟨0, 0, 0, 0⟩])) = fun os => some (.next, (hd.st0 w os).abs, hd.cE, ⟨0, 0, 0, 0⟩) := by
  intro w
  rw [PySem.W.Fast.te14374325043358763698, PySem.W.Fast.te14364793385576792824]
  kernel_rfl
noncomputable def hd.l1 : List Stmt := ((behindTheImports hd.p).drop 0).take 7
open hd in
noncomputable def hd.tr1 (P : Params) : BT := (BT.set (BT.set (BT.set (hd.bt 0 .nil ((hd.objs P).take 50)) 2 fun _ => boot_o_2 P) 3 fun _ => ⟨(.type "dict"),none,(.dict #[⟨(PyData.keyHash P "__name__"),(.str "__name__" 165),(.str "postkeep.wire" 241)⟩,⟨(PyData.keyHash P "__doc__"),(.str "__doc__" 166),.none⟩,⟨(PyData.keyHash P "__package__"),(.str "__package__" 167),.none⟩,⟨(PyData.keyHash P "__loader__"),(.str "__loader__" 168),(.builtin "__main__.__loader__#opaque")⟩,⟨(PyData.keyHash P "__spec__"),(.str "__spec__" 169),.none⟩,⟨(PyData.keyHash P "__annotations__"),(.str "__annotations__" 170),(.ref 6)⟩,⟨(PyData.keyHash P "__builtins__"),(.str "__builtins__" 171),(.ref 4)⟩,⟨(PyData.keyHash P "__file__"),(.str "__file__" 173),(.str "/claim/cut.py" 172)⟩,⟨(PyData.keyHash P "__cached__"),(.str "__cached__" 174),.none⟩,⟨(PyData.keyHash P "_wall"),(.str "_wall" 193),(.ref 21)⟩,⟨(PyData.keyHash P "ends_of"),(.str "ends_of" 205),(.ref 28)⟩,⟨(PyData.keyHash P "plain_set"),(.str "plain_set" 219),(.ref 35)⟩,⟨(PyData.keyHash P "ranges_of"),(.str "ranges_of" 228),(.ref 42)⟩,⟨(PyData.keyHash P "members"),(.str "members" 240),(.ref 49)⟩] 14),#[]⟩) 12 fun _ => ⟨.none,none,(.fields #[(.int 1 0),(.int 0 0),(.ref 20),(.int 5 0),(.int 0 0),(.ref 27),(.int 14 0),(.int 0 0),(.ref 34),(.int 28 0),(.int 0 0),(.ref 41),(.int 36 0),(.int 0 0),(.ref 48)]),#[]⟩)
noncomputable abbrev hd.st1 (w : World) (os : OsState) : SharedT := ⟨hd.tr1 w.params, 50, {}, ⟨[]⟩, {}, 243, os⟩
theorem hd.piece1 : ∀ w : World, (fun os => segRunT treeTable hd.p w 11 (some (.ref 6)) 1 181 (hd.st0 w os) (piecesOf hd.l1 hd.env hd.cE ⟨0,0,0,0⟩ [topFrame ⟨0, 0, 0, 0⟩])) = fun os => some (.next, hd.st1 w os, hd.cE, ⟨48,0,48,8⟩) := by
  intro w
  rw [PySem.W.Fast.te10110043849684766642, PySem.W.Fast.te14364793385576792824]
  kernel_rfl
noncomputable def hd.l2 : List Stmt := ((behindTheImports hd.p).drop 7).take 2
open hd in
noncomputable def hd.tr2 (P : Params) : BT := (BT.set (BT.set (BT.set (hd.bt 0 .nil ((hd.objs P).take 78)) 2 fun _ => boot_o_2 P) 3 fun _ => ⟨(.type "dict"),none,(.dict #[⟨(PyData.keyHash P "__name__"),(.str "__name__" 165),(.str "postkeep.view" 279)⟩,⟨(PyData.keyHash P "__doc__"),(.str "__doc__" 166),.none⟩,⟨(PyData.keyHash P "__package__"),(.str "__package__" 167),.none⟩,⟨(PyData.keyHash P "__loader__"),(.str "__loader__" 168),(.builtin "__main__.__loader__#opaque")⟩,⟨(PyData.keyHash P "__spec__"),(.str "__spec__" 169),.none⟩,⟨(PyData.keyHash P "__annotations__"),(.str "__annotations__" 170),(.ref 6)⟩,⟨(PyData.keyHash P "__builtins__"),(.str "__builtins__" 171),(.ref 4)⟩,⟨(PyData.keyHash P "__file__"),(.str "__file__" 173),(.str "/claim/cut.py" 172)⟩,⟨(PyData.keyHash P "__cached__"),(.str "__cached__" 174),.none⟩,⟨(PyData.keyHash P "_wall"),(.str "_wall" 193),(.ref 21)⟩,⟨(PyData.keyHash P "ends_of"),(.str "ends_of" 205),(.ref 28)⟩,⟨(PyData.keyHash P "plain_set"),(.str "plain_set" 219),(.ref 35)⟩,⟨(PyData.keyHash P "ranges_of"),(.str "ranges_of" 228),(.ref 42)⟩,⟨(PyData.keyHash P "members"),(.str "members" 240),(.ref 49)⟩,⟨(PyData.keyHash P "Atom"),(.str "Atom" 278),(.ref 73)⟩] 15),#[]⟩) 12 fun _ => ⟨.none,none,(.fields #[(.int 1 0),(.int 0 0),(.ref 20),(.int 5 0),(.int 0 0),(.ref 27),(.int 14 0),(.int 0 0),(.ref 34),(.int 28 0),(.int 0 0),(.ref 41),(.int 36 0),(.int 0 0),(.ref 48),(.int 49 0),(.int 0 0),(.ref 55)]),#[]⟩)
noncomputable abbrev hd.st2 (w : World) (os : OsState) : SharedT := ⟨hd.tr2 w.params, 78, {}, ⟨[]⟩, {}, 281, os⟩
theorem hd.piece2 : ∀ w : World, (fun os => segRunT treeTable hd.p w 11 (some (.ref 6)) 1 263 (hd.st1 w os) (piecesOf hd.l2 hd.env hd.cE ⟨48,0,48,8⟩ [topFrame ⟨0, 0, 0, 0⟩])) = fun os => some (.next, hd.st2 w os, hd.cE, ⟨56,0,56,8⟩) := by
  intro w
  rw [PySem.W.Fast.te10110043849684766642, PySem.W.Fast.te14364793385576792824]
  kernel_rfl
noncomputable def hd.l3 : List Stmt := ((behindTheImports hd.p).drop 9).take 1
open hd in
noncomputable def hd.tr3 (P : Params) : BT := (BT.set (BT.set (BT.set (hd.bt 0 .nil ((hd.objs P).take 129)) 2 fun _ => boot_o_2 P) 3 fun _ => ⟨(.type "dict"),none,(.dict #[⟨(PyData.keyHash P "__name__"),(.str "__name__" 165),(.str "postkeep.view" 279)⟩,⟨(PyData.keyHash P "__doc__"),(.str "__doc__" 166),.none⟩,⟨(PyData.keyHash P "__package__"),(.str "__package__" 167),.none⟩,⟨(PyData.keyHash P "__loader__"),(.str "__loader__" 168),(.builtin "__main__.__loader__#opaque")⟩,⟨(PyData.keyHash P "__spec__"),(.str "__spec__" 169),.none⟩,⟨(PyData.keyHash P "__annotations__"),(.str "__annotations__" 170),(.ref 6)⟩,⟨(PyData.keyHash P "__builtins__"),(.str "__builtins__" 171),(.ref 4)⟩,⟨(PyData.keyHash P "__file__"),(.str "__file__" 173),(.str "/claim/cut.py" 172)⟩,⟨(PyData.keyHash P "__cached__"),(.str "__cached__" 174),.none⟩,⟨(PyData.keyHash P "_wall"),(.str "_wall" 193),(.ref 21)⟩,⟨(PyData.keyHash P "ends_of"),(.str "ends_of" 205),(.ref 28)⟩,⟨(PyData.keyHash P "plain_set"),(.str "plain_set" 219),(.ref 35)⟩,⟨(PyData.keyHash P "ranges_of"),(.str "ranges_of" 228),(.ref 42)⟩,⟨(PyData.keyHash P "members"),(.str "members" 240),(.ref 49)⟩,⟨(PyData.keyHash P "Atom"),(.str "Atom" 278),(.ref 73)⟩,⟨(PyData.keyHash P "View"),(.str "View" 349),(.ref 124)⟩] 16),#[]⟩) 12 fun _ => ⟨.none,none,(.fields #[(.int 1 0),(.int 0 0),(.ref 20),(.int 5 0),(.int 0 0),(.ref 27),(.int 14 0),(.int 0 0),(.ref 34),(.int 28 0),(.int 0 0),(.ref 41),(.int 36 0),(.int 0 0),(.ref 48),(.int 49 0),(.int 0 0),(.ref 55),(.int 57 0),(.int 0 0),(.ref 83)]),#[]⟩)
noncomputable abbrev hd.st3 (w : World) (os : OsState) : SharedT := ⟨hd.tr3 w.params, 129, {}, ⟨[]⟩, {}, 350, os⟩
theorem hd.piece3 : ∀ w : World, (fun os => segRunT treeTable hd.p w 11 (some (.ref 6)) 1 378 (hd.st2 w os) (piecesOf hd.l3 hd.env hd.cE ⟨56,0,56,8⟩ [topFrame ⟨0, 0, 0, 0⟩])) = fun os => some (.next, hd.st3 w os, hd.cE, ⟨57,0,83,86⟩) := by
  intro w
  rw [PySem.W.Fast.te10110043849684766642, PySem.W.Fast.te14364793385576792824]
  kernel_rfl
noncomputable def hd.l4 : List Stmt := ((behindTheImports hd.p).drop 10).take 13
open hd in
noncomputable def hd.tr4 (P : Params) : BT := (BT.set (BT.set (BT.set (hd.bt 0 .nil ((hd.objs P).take 203)) 2 fun _ => boot_o_2 P) 3 fun _ => ⟨(.type "dict"),none,(.dict #[⟨(PyData.keyHash P "__name__"),(.str "__name__" 165),(.str "postkeep.errors" 445)⟩,⟨(PyData.keyHash P "__doc__"),(.str "__doc__" 166),.none⟩,⟨(PyData.keyHash P "__package__"),(.str "__package__" 167),.none⟩,⟨(PyData.keyHash P "__loader__"),(.str "__loader__" 168),(.builtin "__main__.__loader__#opaque")⟩,⟨(PyData.keyHash P "__spec__"),(.str "__spec__" 169),.none⟩,⟨(PyData.keyHash P "__annotations__"),(.str "__annotations__" 170),(.ref 6)⟩,⟨(PyData.keyHash P "__builtins__"),(.str "__builtins__" 171),(.ref 4)⟩,⟨(PyData.keyHash P "__file__"),(.str "__file__" 173),(.str "/claim/cut.py" 172)⟩,⟨(PyData.keyHash P "__cached__"),(.str "__cached__" 174),.none⟩,⟨(PyData.keyHash P "_wall"),(.str "_wall" 193),(.ref 21)⟩,⟨(PyData.keyHash P "ends_of"),(.str "ends_of" 205),(.ref 28)⟩,⟨(PyData.keyHash P "plain_set"),(.str "plain_set" 219),(.ref 35)⟩,⟨(PyData.keyHash P "ranges_of"),(.str "ranges_of" 228),(.ref 42)⟩,⟨(PyData.keyHash P "members"),(.str "members" 240),(.ref 49)⟩,⟨(PyData.keyHash P "Atom"),(.str "Atom" 278),(.ref 73)⟩,⟨(PyData.keyHash P "View"),(.str "View" 349),(.ref 124)⟩,⟨(PyData.keyHash P "place_among"),(.str "place_among" 360),(.ref 135)⟩,⟨(PyData.keyHash P "note"),(.str "note" 368),(.ref 142)⟩,⟨(PyData.keyHash P "is_stale"),(.str "is_stale" 376),(.ref 149)⟩,⟨(PyData.keyHash P "gone_uids"),(.str "gone_uids" 382),(.ref 154)⟩,⟨(PyData.keyHash P "new_letters"),(.str "new_letters" 388),(.ref 159)⟩,⟨(PyData.keyHash P "flag_pairs"),(.str "flag_pairs" 394),(.ref 164)⟩,⟨(PyData.keyHash P "flag_news"),(.str "flag_news" 404),(.ref 171)⟩,⟨(PyData.keyHash P "forget"),(.str "forget" 410),(.ref 176)⟩,⟨(PyData.keyHash P "expunge_news"),(.str "expunge_news" 420),(.ref 183)⟩,⟨(PyData.keyHash P "arrival_news"),(.str "arrival_news" 429),(.ref 190)⟩,⟨(PyData.keyHash P "news"),(.str "news" 438),(.ref 197)⟩,⟨(PyData.keyHash P "is_up_to_date"),(.str "is_up_to_date" 444),(.ref 202)⟩] 28),#[]⟩) 12 fun _ => ⟨.none,none,(.fields #[(.int 1 0),(.int 0 0),(.ref 20),(.int 5 0),(.int 0 0),(.ref 27),(.int 14 0),(.int 0 0),(.ref 34),(.int 28 0),(.int 0 0),(.ref 41),(.int 36 0),(.int 0 0),(.ref 48),(.int 49 0),(.int 0 0),(.ref 55),(.int 57 0),(.int 0 0),(.ref 83),(.int 84 0),(.int 0 0),(.ref 134),(.int 93 0),(.int 0 0),(.ref 141),(.int 96 0),(.int 0 0),(.ref 148),(.int 100 0),(.int 0 0),(.ref 153),(.int 103 0),(.int 0 0),(.ref 158),(.int 106 0),(.int 0 0),(.ref 163),(.int 113 0),(.int 0 0),(.ref 170),(.int 121 0),(.int 0 0),(.ref 175),(.int 125 0),(.int 0 0),(.ref 182),(.int 135 0),(.int 0 0),(.ref 189),(.int 141 0),(.int 0 0),(.ref 196),(.int 146 0),(.int 0 0),(.ref 201)]),#[]⟩)
noncomputable abbrev hd.st4 (w : World) (os : OsState) : SharedT := ⟨hd.tr4 w.params, 203, {}, ⟨[]⟩, {}, 447, os⟩
theorem hd.piece4 : ∀ w : World, (fun os => segRunT treeTable hd.p w 11 (some (.ref 6)) 1 359 (hd.st3 w os) (piecesOf hd.l4 hd.env hd.cE ⟨57,0,83,86⟩ [topFrame ⟨0, 0, 0, 0⟩])) = fun os => some (.next, hd.st4 w os, hd.cE, ⟨148,0,148,8⟩) := by
  intro w
  rw [PySem.W.Fast.te10110043849684766642, PySem.W.Fast.te14364793385576792824]
  kernel_rfl
noncomputable def hd.l5 : List Stmt := ((behindTheImports hd.p).drop 23).take 1
open hd in
noncomputable def hd.tr5 (P : Params) : BT := (BT.set (BT.set (BT.set (hd.bt 0 .nil ((hd.objs P).take 231)) 3 fun _ => ⟨(.type "dict"),none,(.dict #[⟨(PyData.keyHash P "__name__"),(.str "__name__" 165),(.str "postkeep.errors" 445)⟩,⟨(PyData.keyHash P "__doc__"),(.str "__doc__" 166),.none⟩,⟨(PyData.keyHash P "__package__"),(.str "__package__" 167),.none⟩,⟨(PyData.keyHash P "__loader__"),(.str "__loader__" 168),(.builtin "__main__.__loader__#opaque")⟩,⟨(PyData.keyHash P "__spec__"),(.str "__spec__" 169),.none⟩,⟨(PyData.keyHash P "__annotations__"),(.str "__annotations__" 170),(.ref 6)⟩,⟨(PyData.keyHash P "__builtins__"),(.str "__builtins__" 171),(.ref 4)⟩,⟨(PyData.keyHash P "__file__"),(.str "__file__" 173),(.str "/claim/cut.py" 172)⟩,⟨(PyData.keyHash P "__cached__"),(.str "__cached__" 174),.none⟩,⟨(PyData.keyHash P "_wall"),(.str "_wall" 193),(.ref 21)⟩,⟨(PyData.keyHash P "ends_of"),(.str "ends_of" 205),(.ref 28)⟩,⟨(PyData.keyHash P "plain_set"),(.str "plain_set" 219),(.ref 35)⟩,⟨(PyData.keyHash P "ranges_of"),(.str "ranges_of" 228),(.ref 42)⟩,⟨(PyData.keyHash P "members"),(.str "members" 240),(.ref 49)⟩,⟨(PyData.keyHash P "Atom"),(.str "Atom" 278),(.ref 73)⟩,⟨(PyData.keyHash P "View"),(.str "View" 349),(.ref 124)⟩,⟨(PyData.keyHash P "place_among"),(.str "place_among" 360),(.ref 135)⟩,⟨(PyData.keyHash P "note"),(.str "note" 368),(.ref 142)⟩,⟨(PyData.keyHash P "is_stale"),(.str "is_stale" 376),(.ref 149)⟩,⟨(PyData.keyHash P "gone_uids"),(.str "gone_uids" 382),(.ref 154)⟩,⟨(PyData.keyHash P "new_letters"),(.str "new_letters" 388),(.ref 159)⟩,⟨(PyData.keyHash P "flag_pairs"),(.str "flag_pairs" 394),(.ref 164)⟩,⟨(PyData.keyHash P "flag_news"),(.str "flag_news" 404),(.ref 171)⟩,⟨(PyData.keyHash P "forget"),(.str "forget" 410),(.ref 176)⟩,⟨(PyData.keyHash P "expunge_news"),(.str "expunge_news" 420),(.ref 183)⟩,⟨(PyData.keyHash P "arrival_news"),(.str "arrival_news" 429),(.ref 190)⟩,⟨(PyData.keyHash P "news"),(.str "news" 438),(.ref 197)⟩,⟨(PyData.keyHash P "is_up_to_date"),(.str "is_up_to_date" 444),(.ref 202)⟩,⟨(PyData.keyHash P "PostError"),(.str "PostError" 486),(.ref 227)⟩] 29),#[]⟩) 12 fun _ => ⟨.none,none,(.fields #[(.int 1 0),(.int 0 0),(.ref 20),(.int 5 0),(.int 0 0),(.ref 27),(.int 14 0),(.int 0 0),(.ref 34),(.int 28 0),(.int 0 0),(.ref 41),(.int 36 0),(.int 0 0),(.ref 48),(.int 49 0),(.int 0 0),(.ref 55),(.int 57 0),(.int 0 0),(.ref 83),(.int 84 0),(.int 0 0),(.ref 134),(.int 93 0),(.int 0 0),(.ref 141),(.int 96 0),(.int 0 0),(.ref 148),(.int 100 0),(.int 0 0),(.ref 153),(.int 103 0),(.int 0 0),(.ref 158),(.int 106 0),(.int 0 0),(.ref 163),(.int 113 0),(.int 0 0),(.ref 170),(.int 121 0),(.int 0 0),(.ref 175),(.int 125 0),(.int 0 0),(.ref 182),(.int 135 0),(.int 0 0),(.ref 189),(.int 141 0),(.int 0 0),(.ref 196),(.int 146 0),(.int 0 0),(.ref 201),(.int 149 0),(.int 0 0),(.ref 208)]),#[]⟩) 227 fun _ => ⟨(.type "type"),none,(.cls ⟨"PostError",[(.type "Exception")],[(.ref 227),(.type "Exception"),(.type "BaseException"),(.type "object")],226,"PostError",true,[],[],false,none,false⟩),#[(some (.ref 203)),none,(some (.str "PostError" 447)),(some (.str "PostError" 455)),(some (.builtin "Exception.__new__")),(some (.bool true))]⟩)
noncomputable abbrev hd.st5 (w : World) (os : OsState) : SharedT := ⟨hd.tr5 w.params, 231, {}, ⟨[]⟩, {}, 487, os⟩
theorem hd.piece5 : ∀ w : World, (fun os => segRunT treeTable hd.p w 11 (some (.ref 6)) 1 269 (hd.st4 w os) (piecesOf hd.l5 hd.env hd.cE ⟨148,0,148,8⟩ [topFrame ⟨0, 0, 0, 0⟩])) = fun os => some (.next, hd.st5 w os, hd.cE, ⟨149,0,157,35⟩) := by
  intro w
  rw [PySem.W.Fast.te10110043849684766642, PySem.W.Fast.te14364793385576792824]
  kernel_rfl
noncomputable def hd.l6 : List Stmt := ((behindTheImports hd.p).drop 24).take 9
open hd in
noncomputable def hd.tr6 (P : Params) : BT := (BT.set (BT.set (hd.bt 0 .nil ((hd.objs P).take 271)) 3 fun _ => ⟨(.type "dict"),none,(.dict #[⟨(PyData.keyHash P "__name__"),(.str "__name__" 165),(.str "postkeep.boxes" 503)⟩,⟨(PyData.keyHash P "__doc__"),(.str "__doc__" 166),.none⟩,⟨(PyData.keyHash P "__package__"),(.str "__package__" 167),.none⟩,⟨(PyData.keyHash P "__loader__"),(.str "__loader__" 168),(.builtin "__main__.__loader__#opaque")⟩,⟨(PyData.keyHash P "__spec__"),(.str "__spec__" 169),.none⟩,⟨(PyData.keyHash P "__annotations__"),(.str "__annotations__" 170),(.ref 6)⟩,⟨(PyData.keyHash P "__builtins__"),(.str "__builtins__" 171),(.ref 4)⟩,⟨(PyData.keyHash P "__file__"),(.str "__file__" 173),(.str "/claim/cut.py" 172)⟩,⟨(PyData.keyHash P "__cached__"),(.str "__cached__" 174),.none⟩,⟨(PyData.keyHash P "_wall"),(.str "_wall" 193),(.ref 21)⟩,⟨(PyData.keyHash P "ends_of"),(.str "ends_of" 205),(.ref 28)⟩,⟨(PyData.keyHash P "plain_set"),(.str "plain_set" 219),(.ref 35)⟩,⟨(PyData.keyHash P "ranges_of"),(.str "ranges_of" 228),(.ref 42)⟩,⟨(PyData.keyHash P "members"),(.str "members" 240),(.ref 49)⟩,⟨(PyData.keyHash P "Atom"),(.str "Atom" 278),(.ref 73)⟩,⟨(PyData.keyHash P "View"),(.str "View" 349),(.ref 124)⟩,⟨(PyData.keyHash P "place_among"),(.str "place_among" 360),(.ref 135)⟩,⟨(PyData.keyHash P "note"),(.str "note" 368),(.ref 142)⟩,⟨(PyData.keyHash P "is_stale"),(.str "is_stale" 376),(.ref 149)⟩,⟨(PyData.keyHash P "gone_uids"),(.str "gone_uids" 382),(.ref 154)⟩,⟨(PyData.keyHash P "new_letters"),(.str "new_letters" 388),(.ref 159)⟩,⟨(PyData.keyHash P "flag_pairs"),(.str "flag_pairs" 394),(.ref 164)⟩,⟨(PyData.keyHash P "flag_news"),(.str "flag_news" 404),(.ref 171)⟩,⟨(PyData.keyHash P "forget"),(.str "forget" 410),(.ref 176)⟩,⟨(PyData.keyHash P "expunge_news"),(.str "expunge_news" 420),(.ref 183)⟩,⟨(PyData.keyHash P "arrival_news"),(.str "arrival_news" 429),(.ref 190)⟩,⟨(PyData.keyHash P "news"),(.str "news" 438),(.ref 197)⟩,⟨(PyData.keyHash P "is_up_to_date"),(.str "is_up_to_date" 444),(.ref 202)⟩,⟨(PyData.keyHash P "PostError"),(.str "PostError" 486),(.ref 227)⟩,⟨(PyData.keyHash P "StoreFault"),(.str "StoreFault" 502),(.ref 240)⟩,⟨(PyData.keyHash P "SYSTEM"),(.str "SYSTEM" 506),(.str "\\Seen \\Answered \\Flagged \\Deleted \\Draft" 505)⟩,⟨(PyData.keyHash P "NO_KEYWORD"),(.str "NO_KEYWORD" 508),(.str "(){ %*\"\\]" 507)⟩,⟨(PyData.keyHash P "MOST_KEYWORD"),(.str "MOST_KEYWORD" 510),(.int 60 509)⟩,⟨(PyData.keyHash P "system_flags"),(.str "system_flags" 516),(.ref 249)⟩,⟨(PyData.keyHash P "is_keyword"),(.str "is_keyword" 524),(.ref 256)⟩,⟨(PyData.keyHash P "flag_name"),(.str "flag_name" 532),(.ref 263)⟩,⟨(PyData.keyHash P "flag_tuple"),(.str "flag_tuple" 542),(.ref 270)⟩] 37),#[]⟩) 12 fun _ => ⟨.none,none,(.fields #[(.int 1 0),(.int 0 0),(.ref 20),(.int 5 0),(.int 0 0),(.ref 27),(.int 14 0),(.int 0 0),(.ref 34),(.int 28 0),(.int 0 0),(.ref 41),(.int 36 0),(.int 0 0),(.ref 48),(.int 49 0),(.int 0 0),(.ref 55),(.int 57 0),(.int 0 0),(.ref 83),(.int 84 0),(.int 0 0),(.ref 134),(.int 93 0),(.int 0 0),(.ref 141),(.int 96 0),(.int 0 0),(.ref 148),(.int 100 0),(.int 0 0),(.ref 153),(.int 103 0),(.int 0 0),(.ref 158),(.int 106 0),(.int 0 0),(.ref 163),(.int 113 0),(.int 0 0),(.ref 170),(.int 121 0),(.int 0 0),(.ref 175),(.int 125 0),(.int 0 0),(.ref 182),(.int 135 0),(.int 0 0),(.ref 189),(.int 141 0),(.int 0 0),(.ref 196),(.int 146 0),(.int 0 0),(.ref 201),(.int 149 0),(.int 0 0),(.ref 208),(.int 158 0),(.int 0 0),(.ref 236),(.int 164 0),(.int 0 0),(.ref 248),(.int 166 0),(.int 0 0),(.ref 255),(.int 173 0),(.int 0 0),(.ref 262),(.int 180 0),(.int 0 0),(.ref 269)]),#[]⟩)
noncomputable abbrev hd.st6 (w : World) (os : OsState) : SharedT := ⟨hd.tr6 w.params, 271, {}, ⟨[]⟩, {}, 543, os⟩
theorem hd.piece6 : ∀ w : World, (fun os => segRunT treeTable hd.p w 11 (some (.ref 6)) 1 370 (hd.st5 w os) (piecesOf hd.l6 hd.env hd.cE ⟨149,0,157,35⟩ [topFrame ⟨0, 0, 0, 0⟩])) = fun os => some (.next, hd.st6 w os, hd.cE, ⟨180,0,186,31⟩) := by
  intro w
  rw [PySem.W.Fast.te10110043849684766642, PySem.W.Fast.te14364793385576792824]
  kernel_rfl
noncomputable def hd.l7 : List Stmt := ((behindTheImports hd.p).drop 33).take 1
open hd in
noncomputable def hd.tr7 (P : Params) : BT := (BT.set (BT.set (hd.bt 0 .nil ((hd.objs P).take 306)) 3 fun _ => ⟨(.type "dict"),none,(.dict #[⟨(PyData.keyHash P "__name__"),(.str "__name__" 165),(.str "postkeep.boxes" 503)⟩,⟨(PyData.keyHash P "__doc__"),(.str "__doc__" 166),.none⟩,⟨(PyData.keyHash P "__package__"),(.str "__package__" 167),.none⟩,⟨(PyData.keyHash P "__loader__"),(.str "__loader__" 168),(.builtin "__main__.__loader__#opaque")⟩,⟨(PyData.keyHash P "__spec__"),(.str "__spec__" 169),.none⟩,⟨(PyData.keyHash P "__annotations__"),(.str "__annotations__" 170),(.ref 6)⟩,⟨(PyData.keyHash P "__builtins__"),(.str "__builtins__" 171),(.ref 4)⟩,⟨(PyData.keyHash P "__file__"),(.str "__file__" 173),(.str "/claim/cut.py" 172)⟩,⟨(PyData.keyHash P "__cached__"),(.str "__cached__" 174),.none⟩,⟨(PyData.keyHash P "_wall"),(.str "_wall" 193),(.ref 21)⟩,⟨(PyData.keyHash P "ends_of"),(.str "ends_of" 205),(.ref 28)⟩,⟨(PyData.keyHash P "plain_set"),(.str "plain_set" 219),(.ref 35)⟩,⟨(PyData.keyHash P "ranges_of"),(.str "ranges_of" 228),(.ref 42)⟩,⟨(PyData.keyHash P "members"),(.str "members" 240),(.ref 49)⟩,⟨(PyData.keyHash P "Atom"),(.str "Atom" 278),(.ref 73)⟩,⟨(PyData.keyHash P "View"),(.str "View" 349),(.ref 124)⟩,⟨(PyData.keyHash P "place_among"),(.str "place_among" 360),(.ref 135)⟩,⟨(PyData.keyHash P "note"),(.str "note" 368),(.ref 142)⟩,⟨(PyData.keyHash P "is_stale"),(.str "is_stale" 376),(.ref 149)⟩,⟨(PyData.keyHash P "gone_uids"),(.str "gone_uids" 382),(.ref 154)⟩,⟨(PyData.keyHash P "new_letters"),(.str "new_letters" 388),(.ref 159)⟩,⟨(PyData.keyHash P "flag_pairs"),(.str "flag_pairs" 394),(.ref 164)⟩,⟨(PyData.keyHash P "flag_news"),(.str "flag_news" 404),(.ref 171)⟩,⟨(PyData.keyHash P "forget"),(.str "forget" 410),(.ref 176)⟩,⟨(PyData.keyHash P "expunge_news"),(.str "expunge_news" 420),(.ref 183)⟩,⟨(PyData.keyHash P "arrival_news"),(.str "arrival_news" 429),(.ref 190)⟩,⟨(PyData.keyHash P "news"),(.str "news" 438),(.ref 197)⟩,⟨(PyData.keyHash P "is_up_to_date"),(.str "is_up_to_date" 444),(.ref 202)⟩,⟨(PyData.keyHash P "PostError"),(.str "PostError" 486),(.ref 227)⟩,⟨(PyData.keyHash P "StoreFault"),(.str "StoreFault" 502),(.ref 240)⟩,⟨(PyData.keyHash P "SYSTEM"),(.str "SYSTEM" 506),(.str "\\Seen \\Answered \\Flagged \\Deleted \\Draft" 505)⟩,⟨(PyData.keyHash P "NO_KEYWORD"),(.str "NO_KEYWORD" 508),(.str "(){ %*\"\\]" 507)⟩,⟨(PyData.keyHash P "MOST_KEYWORD"),(.str "MOST_KEYWORD" 510),(.int 60 509)⟩,⟨(PyData.keyHash P "system_flags"),(.str "system_flags" 516),(.ref 249)⟩,⟨(PyData.keyHash P "is_keyword"),(.str "is_keyword" 524),(.ref 256)⟩,⟨(PyData.keyHash P "flag_name"),(.str "flag_name" 532),(.ref 263)⟩,⟨(PyData.keyHash P "flag_tuple"),(.str "flag_tuple" 542),(.ref 270)⟩,⟨(PyData.keyHash P "Letter"),(.str "Letter" 594),(.ref 301)⟩] 38),#[]⟩) 12 fun _ => ⟨.none,none,(.fields #[(.int 1 0),(.int 0 0),(.ref 20),(.int 5 0),(.int 0 0),(.ref 27),(.int 14 0),(.int 0 0),(.ref 34),(.int 28 0),(.int 0 0),(.ref 41),(.int 36 0),(.int 0 0),(.ref 48),(.int 49 0),(.int 0 0),(.ref 55),(.int 57 0),(.int 0 0),(.ref 83),(.int 84 0),(.int 0 0),(.ref 134),(.int 93 0),(.int 0 0),(.ref 141),(.int 96 0),(.int 0 0),(.ref 148),(.int 100 0),(.int 0 0),(.ref 153),(.int 103 0),(.int 0 0),(.ref 158),(.int 106 0),(.int 0 0),(.ref 163),(.int 113 0),(.int 0 0),(.ref 170),(.int 121 0),(.int 0 0),(.ref 175),(.int 125 0),(.int 0 0),(.ref 182),(.int 135 0),(.int 0 0),(.ref 189),(.int 141 0),(.int 0 0),(.ref 196),(.int 146 0),(.int 0 0),(.ref 201),(.int 149 0),(.int 0 0),(.ref 208),(.int 158 0),(.int 0 0),(.ref 236),(.int 164 0),(.int 0 0),(.ref 248),(.int 166 0),(.int 0 0),(.ref 255),(.int 173 0),(.int 0 0),(.ref 262),(.int 180 0),(.int 0 0),(.ref 269),(.int 187 0),(.int 0 0),(.ref 276)]),#[]⟩)
noncomputable abbrev hd.st7 (w : World) (os : OsState) : SharedT := ⟨hd.tr7 w.params, 306, {}, ⟨[]⟩, {}, 595, os⟩
theorem hd.piece7 : ∀ w : World, (fun os => segRunT treeTable hd.p w 11 (some (.ref 6)) 1 294 (hd.st6 w os) (piecesOf hd.l7 hd.env hd.cE ⟨180,0,186,31⟩ [topFrame ⟨0, 0, 0, 0⟩])) = fun os => some (.next, hd.st7 w os, hd.cE, ⟨187,0,200,77⟩) := by
  intro w
  rw [PySem.W.Fast.te10110043849684766642, PySem.W.Fast.te14364793385576792824]
  kernel_rfl
noncomputable def hd.l8 : List Stmt := ((behindTheImports hd.p).drop 34).take 3
open hd in
noncomputable def hd.tr8 (P : Params) : BT := (BT.set (BT.set (hd.bt 0 .nil ((hd.objs P).take 358)) 3 fun _ => ⟨(.type "dict"),none,(.dict #[⟨(PyData.keyHash P "__name__"),(.str "__name__" 165),(.str "postkeep.boxes" 503)⟩,⟨(PyData.keyHash P "__doc__"),(.str "__doc__" 166),.none⟩,⟨(PyData.keyHash P "__package__"),(.str "__package__" 167),.none⟩,⟨(PyData.keyHash P "__loader__"),(.str "__loader__" 168),(.builtin "__main__.__loader__#opaque")⟩,⟨(PyData.keyHash P "__spec__"),(.str "__spec__" 169),.none⟩,⟨(PyData.keyHash P "__annotations__"),(.str "__annotations__" 170),(.ref 6)⟩,⟨(PyData.keyHash P "__builtins__"),(.str "__builtins__" 171),(.ref 4)⟩,⟨(PyData.keyHash P "__file__"),(.str "__file__" 173),(.str "/claim/cut.py" 172)⟩,⟨(PyData.keyHash P "__cached__"),(.str "__cached__" 174),.none⟩,⟨(PyData.keyHash P "_wall"),(.str "_wall" 193),(.ref 21)⟩,⟨(PyData.keyHash P "ends_of"),(.str "ends_of" 205),(.ref 28)⟩,⟨(PyData.keyHash P "plain_set"),(.str "plain_set" 219),(.ref 35)⟩,⟨(PyData.keyHash P "ranges_of"),(.str "ranges_of" 228),(.ref 42)⟩,⟨(PyData.keyHash P "members"),(.str "members" 240),(.ref 49)⟩,⟨(PyData.keyHash P "Atom"),(.str "Atom" 278),(.ref 73)⟩,⟨(PyData.keyHash P "View"),(.str "View" 349),(.ref 124)⟩,⟨(PyData.keyHash P "place_among"),(.str "place_among" 360),(.ref 135)⟩,⟨(PyData.keyHash P "note"),(.str "note" 368),(.ref 142)⟩,⟨(PyData.keyHash P "is_stale"),(.str "is_stale" 376),(.ref 149)⟩,⟨(PyData.keyHash P "gone_uids"),(.str "gone_uids" 382),(.ref 154)⟩,⟨(PyData.keyHash P "new_letters"),(.str "new_letters" 388),(.ref 159)⟩,⟨(PyData.keyHash P "flag_pairs"),(.str "flag_pairs" 394),(.ref 164)⟩,⟨(PyData.keyHash P "flag_news"),(.str "flag_news" 404),(.ref 171)⟩,⟨(PyData.keyHash P "forget"),(.str "forget" 410),(.ref 176)⟩,⟨(PyData.keyHash P "expunge_news"),(.str "expunge_news" 420),(.ref 183)⟩,⟨(PyData.keyHash P "arrival_news"),(.str "arrival_news" 429),(.ref 190)⟩,⟨(PyData.keyHash P "news"),(.str "news" 438),(.ref 197)⟩,⟨(PyData.keyHash P "is_up_to_date"),(.str "is_up_to_date" 444),(.ref 202)⟩,⟨(PyData.keyHash P "PostError"),(.str "PostError" 486),(.ref 227)⟩,⟨(PyData.keyHash P "StoreFault"),(.str "StoreFault" 502),(.ref 240)⟩,⟨(PyData.keyHash P "SYSTEM"),(.str "SYSTEM" 506),(.str "\\Seen \\Answered \\Flagged \\Deleted \\Draft" 505)⟩,⟨(PyData.keyHash P "NO_KEYWORD"),(.str "NO_KEYWORD" 508),(.str "(){ %*\"\\]" 507)⟩,⟨(PyData.keyHash P "MOST_KEYWORD"),(.str "MOST_KEYWORD" 510),(.int 60 509)⟩,⟨(PyData.keyHash P "system_flags"),(.str "system_flags" 516),(.ref 249)⟩,⟨(PyData.keyHash P "is_keyword"),(.str "is_keyword" 524),(.ref 256)⟩,⟨(PyData.keyHash P "flag_name"),(.str "flag_name" 532),(.ref 263)⟩,⟨(PyData.keyHash P "flag_tuple"),(.str "flag_tuple" 542),(.ref 270)⟩,⟨(PyData.keyHash P "Letter"),(.str "Letter" 594),(.ref 301)⟩,⟨(PyData.keyHash P "Box"),(.str "Box" 651),(.ref 339)⟩,⟨(PyData.keyHash P "place_of"),(.str "place_of" 662),(.ref 350)⟩,⟨(PyData.keyHash P "raised"),(.str "raised" 669),(.ref 357)⟩] 41),#[]⟩) 12 fun _ => ⟨.none,none,(.fields #[(.int 1 0),(.int 0 0),(.ref 20),(.int 5 0),(.int 0 0),(.ref 27),(.int 14 0),(.int 0 0),(.ref 34),(.int 28 0),(.int 0 0),(.ref 41),(.int 36 0),(.int 0 0),(.ref 48),(.int 49 0),(.int 0 0),(.ref 55),(.int 57 0),(.int 0 0),(.ref 83),(.int 84 0),(.int 0 0),(.ref 134),(.int 93 0),(.int 0 0),(.ref 141),(.int 96 0),(.int 0 0),(.ref 148),(.int 100 0),(.int 0 0),(.ref 153),(.int 103 0),(.int 0 0),(.ref 158),(.int 106 0),(.int 0 0),(.ref 163),(.int 113 0),(.int 0 0),(.ref 170),(.int 121 0),(.int 0 0),(.ref 175),(.int 125 0),(.int 0 0),(.ref 182),(.int 135 0),(.int 0 0),(.ref 189),(.int 141 0),(.int 0 0),(.ref 196),(.int 146 0),(.int 0 0),(.ref 201),(.int 149 0),(.int 0 0),(.ref 208),(.int 158 0),(.int 0 0),(.ref 236),(.int 164 0),(.int 0 0),(.ref 248),(.int 166 0),(.int 0 0),(.ref 255),(.int 173 0),(.int 0 0),(.ref 262),(.int 180 0),(.int 0 0),(.ref 269),(.int 187 0),(.int 0 0),(.ref 276),(.int 201 0),(.int 0 0),(.ref 311),(.int 222 0),(.int 0 0),(.ref 349),(.int 233 0),(.int 0 0),(.ref 356)]),#[]⟩)
noncomputable abbrev hd.st8 (w : World) (os : OsState) : SharedT := ⟨hd.tr8 w.params, 358, {}, ⟨[]⟩, {}, 670, os⟩
theorem hd.piece8 : ∀ w : World, (fun os => segRunT treeTable hd.p w 11 (some (.ref 6)) 1 381 (hd.st7 w os) (piecesOf hd.l8 hd.env hd.cE ⟨187,0,200,77⟩ [topFrame ⟨0, 0, 0, 0⟩])) = fun os => some (.next, hd.st8 w os, hd.cE, ⟨233,0,235,18⟩) := by
  intro w
  rw [PySem.W.Fast.te10110043849684766642, PySem.W.Fast.te14364793385576792824]
  kernel_rfl
noncomputable def hd.l9 : List Stmt := ((behindTheImports hd.p).drop 37).take 9
open hd in
noncomputable def hd.tr9 (P : Params) : BT := (hd.bt 0 .nil ((hd.objs P).take 408))
noncomputable abbrev hd.st9 (w : World) (os : OsState) : SharedT := ⟨hd.tr9 w.params, 408, {}, ⟨[]⟩, {}, 750, os⟩
theorem hd.piece9 : ∀ w : World, (fun os => segRunT treeTable hd.p w 11 (some (.ref 6)) 1 258 (hd.st8 w os) (piecesOf hd.l9 hd.env hd.cE ⟨233,0,235,18⟩ [topFrame ⟨0, 0, 0, 0⟩])) = fun os => some (.next, hd.st9 w os, hd.cE, ⟨284,0,309,40⟩) := by
  intro w
  rw [PySem.W.Fast.te10110043849684766642, PySem.W.Fast.te14364793385576792824]
  kernel_rfl
theorem hd.split : behindTheImports hd.p = hd.l1 ++ (hd.l2 ++ (hd.l3 ++ (hd.l4 ++ (hd.l5 ++ (hd.l6 ++ (hd.l7 ++ (hd.l8 ++ (hd.l9 ++ [])))))))) := by kernel_rfl
noncomputable abbrev hd.end_ (P : Params) : Heap := ⟨⟨hd.objs P⟩, {}⟩
theorem hd.fin : ∀ w : World, (fun os => topRun treeTable hd.p w 11 (some (.ref 6)) 2 (hd.st9 w os).abs ⟨doneF .next, hd.cE, ⟨284,0,309,40⟩, [topFrame ⟨0, 0, 0, 0⟩]⟩) = fun os => some ⟨hd.end_ w.params, ⟨[]⟩, {}, 750, os⟩ := by
  intro w
  rw [PySem.W.Fast.te14082659384304107361, PySem.W.Fast.te14364793385576792824]
  kernel_rfl
theorem hd.run (w : World) (os : OsState) : topRun treeTable hd.p w 11 (some (.ref 6)) (12 + (1 + (181 + (263 + (378 + (359 + (269 + (370 + (294 + (381 + (258 + 2))))))))))) ⟨boot_heap w.params, ⟨[]⟩, boot_drawn, boot_toks, os⟩ (topStub hd.p) = some ⟨hd.end_ w.params, ⟨[]⟩, {}, 750, os⟩ := by
  refine go_top (congrFun (hd.pre w) os) (piece_block (congrFun (hd.block w) os) ?_)
  rw [congrArg (fun l => restOf l hd.env hd.cE ⟨0, 0, 0, 0⟩ [topFrame ⟨0, 0, 0, 0⟩]) hd.split]
  exact piece_app (segRun_of (congrFun (hd.piece1 w) os)) (piece_app (segRun_of (congrFun (hd.piece2 w) os)) (piece_app (segRun_of (congrFun (hd.piece3 w) os)) (piece_app (segRun_of (congrFun (hd.piece4 w) os)) (piece_app (segRun_of (congrFun (hd.piece5 w) os)) (piece_app (segRun_of (congrFun (hd.piece6 w) os)) (piece_app (segRun_of (congrFun (hd.piece7 w) os)) (piece_app (segRun_of (congrFun (hd.piece8 w) os)) (piece_app (segRun_of (congrFun (hd.piece9 w) os)) (piece_nil (congrFun (hd.fin w) os))))))))))
noncomputable abbrev hd.X (s : Shared) : Bool := xlAt hd.view_39 [] s && recOk (RowW.records PySem.Challenge.rw_or0061_01.row.toRowW) s
noncomputable abbrev hd.fs (P : Params) (os : OsState) : Shared := ⟨hd.end_ P, ⟨[]⟩, {}, 750, os⟩
theorem hd.look1a : ∀ w : World, staticsOk (importedModules hd.p.main.body) (boot_heap w.params) (hd.end_ w.params) = true := by
  intro w
  rw [PySem.W.Fast.te5923862056798008813]
  unfold staticsOk
  rw [PySem.W.Fast.te8920871248978507458]
  kernel_rfl
theorem hd.look1b : ∀ w : World, namesBound hd.p (hd.end_ w.params) = true := by
  intro w
  unfold namesBound
  kernel_rfl
theorem hd.look1c : ∀ w : World, ∀ os : OsState, gensDone (hd.fs w.params os) = true := by
  intro w os
  kernel_rfl
theorem hd.look1d : ∀ w : World, laidKept (boot_heap w.params) (hd.end_ w.params) = true := by
  intro w
  unfold laidKept
  rw [PySem.W.Fast.te8920871248978507458]
  kernel_rfl
theorem hd.look1 : ∀ w : World, (fun os => (staticsOk (importedModules hd.p.main.body) (boot_heap w.params) (hd.end_ w.params) && namesBound hd.p (hd.end_ w.params) && gensDone (hd.fs w.params os) && laidKept (boot_heap w.params) (hd.end_ w.params))) = fun _ => true := fun w => funext fun os =>
  look_both (look_both (look_both (hd.look1a w) (hd.look1b w)) (hd.look1c w os)) (hd.look1d w)
theorem hd.look2 : ∀ w : World, (fun os => openSeen hd.view_39 ["PostError"] (importedModules hd.p.main.body) hd.X true (hd.fs w.params os)) = fun _ => openGood hd.view_39 ["PostError"] := by
  intro w
  rw [PySem.W.Fast.te4187177175401517315, PySem.W.Fast.te5923862056798008813]
  funext os
  unfold PySem.W.Fast.tw4187177175401517315 openGood
  refine looks_pair ?_ (looks_pair ?_ (looks_pair ?_ (looks_pair ?_ (looks_pair ?_ (looks_pair ?_ (looks_pair ?_ (looks_pair ?_ ?_)))))))
  all_goals (as_aux_lemma => kernel_rfl)
theorem hd.look3 : ∀ w : World, (fun os => hd.hook.obs (hd.fs w.params os)) = fun _ => hd.hook.val w := by
  intro w
  kernel_rfl
theorem hd.left : LeftO hd.p hd.view_39 ["PostError"] hd.X hd.hook.obs hd.hook.val 5614 :=
  LeftO.of_pieces hd.open_ hd.size hd.run (by decide) fun w => funext fun os => Prod.ext (congrFun (hd.look1 w) os) (Prod.ext (congrFun (hd.look2 w) os) (congrFun (hd.look3 w) os))
theorem hd.said : PySem.Challenge.rw_or0061_01.wellSaid = true := by
  unfold OpenLaw.wellSaid OpenRow.wellSaid OpenRow.partSaid looksOpen
  repeat' (with_reducible apply look_both)
  all_goals decide +kernel
theorem hd.has : (defOf hd.view_39 PySem.Challenge.rw_or0061_01.row.toRowW.name).isSome = true := by kernel_rfl
noncomputable def hd.dk : DefRec × List (Str × PySem.Expr) := (defOf hd.view_39 PySem.Challenge.rw_or0061_01.row.toRowW.name).get hd.has
theorem hd.defd : defOf hd.view_39 PySem.Challenge.rw_or0061_01.row.toRowW.name = some (hd.dk.1, hd.dk.2) := by
  show _ = some hd.dk
  exact (Option.some_get hd.has).symm
theorem hd.thedef : hd.p.theDef PySem.Challenge.rw_or0061_01.row.toRowW.name = some (hd.dk.1.params, hd.dk.1.body, hd.dk.1.scope) := by kernel_rfl
theorem hd.kwd : kwWritten? hd.dk.1.params.kwonlyargs hd.dk.1.params.kw_defaults = some hd.dk.2 := by kernel_rfl
theorem hd.named : hd.dk.1.name = Str.ofString "law" := by kernel_rfl
theorem hd.ok : (chainsOk hd.view_39 && opensWell hd.p && (frees PySem.Challenge.rw_or0061_01.row.toRowW && PySem.Challenge.rw_or0061_01.row.toRowW.within.isEmpty)) = true := by kernel_rfl
theorem hd.main (walk : WalkO hd.view_39 ["PostError"] (XL hd.view_39 []) hd.hook.says PySem.Challenge.rw_or0061_01.row.toRowW hd.dk.1 hd.dk.2 fun f vs => call f vs) : PySem.Challenge.rw_or0061_01.Holds := by
  refine holds_law hd.said fun said => ?_
  refine PySem.W.holds_open (q := hd.view_39) (loose := ["PostError"]) (Xt := hd.X) (XP := XL hd.view_39 []) (Yf := hd.hook.obs) (Ya := hd.hook.val) (YP := hd.hook.says) (N := 5614) hd.left (Hook.of hd.hook) (Hook.keeps hd.hook) (fun s e => xl_of s (Bool.and_eq_true_iff.mp e).1) XL.keeps hd.defd hd.thedef hd.kwd (fun s e => recFacts_of (Bool.and_eq_true_iff.mp e).2) (by rfl) said hd.ok ⟨rfl, rfl, rfl, rfl, rfl, by decide +kernel⟩ ?hw walk
  case hw => w_witness2
open PySem.Calls

theorem isList_hide {h : Heap} {W : List Addr} {l : Addr} {vs : Array Value} (x : h.IsList l vs) (n : l ∉ W) : (hideAll h W).IsList l vs := let ⟨o, ho, r⟩ := x; ⟨o, hideAll_get _ ho n, r⟩
/-- what stands fixed in a heap: the text's own objects and the two namespaces -/
structure Bed (w : World) (mg mb : Str → Option Value) (h : Heap) : Prop where
  x : (hd.heap_39 w.params).In h
  t : TopRead hd.view_39 (looseW hd.view_39 [Str.ofString "PostError"]) mg mb h
theorem Bed.keeps {w : World} {mg mb : Str → Option Value} {h h' : Heap} (B : Bed w mg mb h) (k : ∀ b o, h.get? b = some o → h'.get? b = some o) : Bed w mg mb h' := ⟨B.x.keeps k, B.t.keeps k⟩

abbrev AT (dp un : Nat) (fr : Option (List Env)) (gd : Option (List Code)) : Around := { handled := none, depth := dp, frames := fr, guards := gd, units := un }

/-- the heap's frame: all but the addresses W stands as it stood -/
def Ext (W : List Addr) (h h' : Heap) : Prop := ∀ b o, b ∉ W → h.get? b = some o → h'.get? b = some o
theorem Ext.refl {W : List Addr} {h : Heap} : Ext W h h := fun _ _ _ e => e
theorem Ext.trans {W : List Addr} {h h' h'' : Heap} (a : Ext W h h') (b : Ext W h' h'') : Ext W h h'' := fun x o n e => b x o n (a x o n e)
theorem Ext.mono {W W' : List Addr} {h h' : Heap} (a : Ext W h h') (s : ∀ x ∈ W, x ∈ W') : Ext W' h h' := fun x o n e => a x o (fun m => n (s x m)) e
theorem Ext.nil {h h' : Heap} (a : Ext [] h h') : ∀ b o, h.get? b = some o → h'.get? b = some o := fun b o e => a b o (by simp) e
theorem Ext.of_keeps {W : List Addr} {h h' : Heap} (a : ∀ b o, h.get? b = some o → h'.get? b = some o) : Ext W h h' := fun b o _ e => a b o e
theorem ext_of {g h h₁ : Heap} {L : Addr} {m : Str → Option Value} {W : List Addr} (e : g = hideAll h W) (F : Fr g L h₁ m) : Ext W h h₁ := fun b o hb ho => F.keep b o (e ▸ hideAll_get _ ho hb)
theorem Ext.fr {W : List Addr} {g h h' : Heap} {L : Addr} {m : Str → Option Value} (a : Ext W h h') (F : Fr g L h m) (hg : ∀ b ∈ W, g.get? b = none) (hL : L ∉ W) : Fr g L h' m := by
  obtain ⟨o, es, ep, x, r⟩ := F.ns
  refine ⟨⟨o, es, ep, a L o hL x, r⟩, fun b o e => a b o (fun hb => ?_) (F.keep b o e), F.above⟩
  rw [hg b hb] at e; cases e
theorem Ext.news {W : List Addr} {g h h' : Heap} {L : Addr} {news : List (Addr × Obj)} (a : Ext W h h') (N : News g L h news) (hn : ∀ p ∈ news, p.1 ∉ W) : News g L h' news := fun p hp => ⟨a _ _ (hn p hp) (N p hp).1, (N p hp).2⟩

section
variable {prog : Program} {w : World} {mg mb : Str → Option Value} {A : Around} {s : Shared} {hB : Heap} {news : List (Addr × Obj)}
  {R : Result → Shared → Prop} {name qual : Str} {params : Arguments} {body : List Stmt} {scope : Scope} {dV kV doc pm cdv ct oc : Value} {an od : Option Addr} {osl : Array (Option Value)} {f : Addr} {args : Args} {binds : List (Str × Value)}

theorem enter (B : Bed w mg mb hB) (st : hB.StaysIn s.heap) (hW : ∀ p ∈ news, s.heap.get? p.1 = some p.2 ∧ hB.get? p.1 = none)
    (ho : (hd.heap_39 w.params).lookup f = some ⟨oc, od, .func (fnOf name qual params body scope dV kV doc pm an cdv ct), osl⟩) (hcd : codeIn (hd.heap_39 w.params) cdv qual = true) (hroom : A.depth < recursionLimit)
    (hbind : BindsTo s (fnOf name qual params body scope dV kV doc pm an cdv ct) args binds) (hloc : ∀ y ∈ binds, scope.names.lookup y.1 = some .local)
    (h : ∀ g L h₁ tk, g = hideAll s.heap (news.map (·.1)) → Fr g L h₁ (fun y => binds.reverse.lookup y) → News g L h₁ news → Bed w mg mb g → (∀ p ∈ news, p.1 < L) →
      wpAny (model prog w) (A.deeper (envOf qual scope L f cdv)) (execs body (envOf qual scope L f cdv))
        (fun fl s' => R (.ok (.ret (match fl with | .ret v => v | _ => .none))) s') (fun _ _ => False)
        { s with heap := h₁, toks := tk })
    (hco : scope.isCoroutine = false := by rfl) (hgen : scope.isGenerator = false := by rfl) (hk : scope.kind = .function := by rfl)
    (hcell : ∀ x ∈ scope.names, x.2 ≠ .cell := by decide) : codeAny (model prog w) A (.call (.ref f) args) R s := by
  have X : (hd.heap_39 w.params).In s.heap := B.x.keeps st
  refine codeAny_call_def (fd := fnOf name qual params body scope dV kV doc pm an cdv ct) (body := body) (binds := binds) hroom (X _ _ ho) rfl (B.t.nolimit.keeps st) (codeRec_of X hcd) rfl hbind hcell hloc (fun h₁ hns hk₁ => ?_) hco hgen hk
  have nm : ∀ b o, hB.get? b = some o → b ∉ news.map (·.1) := fun b o e q => by
    obtain ⟨p, hp, rfl⟩ := List.mem_map.mp q
    rw [(hW p hp).2] at e; cases e
  have B' : Bed w mg mb (hideAll s.heap (news.map (·.1))) := B.keeps fun b o e => hideAll_get _ (st b o e) (nm b o e)
  exact wpAny_mono (h _ s.heap.objs.size h₁ _ rfl ⟨hns, fun b o e => hk₁ b o (of_hideAll _ e), Nat.le_of_eq (hideAll_size _ _)⟩
    (fun p hp => ⟨hk₁ _ _ (hW p hp).1, Nat.ne_of_lt (Heap.lt_size (hW p hp).1), hideAll_none _ (List.mem_map_of_mem hp)⟩) B' (fun p hp => Heap.lt_size (hW p hp).1)) (fun fl s' hl => hl) fun _ _ y => y.elim
end

theorem enterZ {vals : List Value} (B : Bed w mg mb hB) (st : hB.StaysIn s.heap) (hW : ∀ p ∈ news, s.heap.get? p.1 = some p.2 ∧ hB.get? p.1 = none)
    (ho : (hd.heap_39 w.params).lookup f = some ⟨oc, od, .func (fnOf name qual params body scope dV kV doc pm an cdv ct), osl⟩) (hcd : codeIn (hd.heap_39 w.params) cdv qual = true) (hroom : A.depth < recursionLimit)
    (hbind : bindArgs (fnOf name qual params body scope dV kV doc pm an cdv ct) ⟨vals, []⟩ = pure ((params.args.map (·.arg)).zip vals)) (hloc : ∀ y ∈ (params.args.map (·.arg)).zip vals, scope.names.lookup y.1 = some .local)
    (h : ∀ g L h₁ tk, g = hideAll s.heap (news.map (·.1)) → Fr g L h₁ (fun y => ((params.args.map (·.arg)).zip vals).reverse.lookup y) → News g L h₁ news → Bed w mg mb g → (∀ p ∈ news, p.1 < L) →
      wpAny (model prog w) (A.deeper (envOf qual scope L f cdv)) (execs body (envOf qual scope L f cdv))
        (fun fl s' => R (.ok (.ret (match fl with | .ret v => v | _ => .none))) s') (fun _ _ => False)
        { s with heap := h₁, toks := tk })
    (hco : scope.isCoroutine = false := by rfl) (hgen : scope.isGenerator = false := by rfl) (hk : scope.kind = .function := by rfl)
    (hcell : ∀ x ∈ scope.names, x.2 ≠ .cell := by decide) : codeAny (model prog w) A (.call (.ref f) ⟨vals, []⟩) R s :=
  enter B st hW ho hcd hroom (BindsTo.of_eq hbind) hloc h hco hgen hk hcell

theorem inst_keeps {h h' : Heap} {x C : Addr} {ox : Obj} {od : Option Obj} (I : InstAt h x ox C od) (k : ∀ b o, h.get? b = some o → h'.get? b = some o) : InstAt h' x ox C od := by
  obtain ⟨a, b, c, d⟩ := I
  refine ⟨k _ _ a, b, c, ?_⟩
  cases e : ox.dict with
  | none => cases od with
    | none => trivial
    | some o => rw [e] at d; exact d.elim
  | some dx =>
    cases od with
    | none => rw [e] at d; exact d.elim
    | some o => rw [e] at d; exact k _ _ d

/-- a frame's names in a loop: those of ps as they stand, those of st whatever they are, all else as ahead of it -/
noncomputable def over (ps : List (Str × Value)) (u : Str → Option Value) (st : List Str) (m₀ : Str → Option Value) : Str → Option Value := match ps with
  | [] => fun z => if st.contains z then u z else m₀ z
  | p :: r => fun z => if z = p.1 then some p.2 else over r u st m₀ z
theorem over_eq {m m₀ : Str → Option Value} {st : List Str} {z : Str} : ∀ {ps : List (Str × Value)}, (∀ p ∈ ps, m p.1 = some p.2) → (st.contains z = false → (∀ p ∈ ps, z ≠ p.1) → m z = m₀ z) → over ps m st m₀ z = m z
  | [], _, h => by
    show (if st.contains z = true then m z else m₀ z) = m z
    cases e : st.contains z with
    | true => rfl
    | false => exact (h e (fun _ hp => nomatch hp)).symm
  | p :: r, h1, h2 => by
    show (if z = p.1 then some p.2 else over r m st m₀ z) = m z
    by_cases e : z = p.1
    · rw [if_pos e, e, h1 p (.head _)]
    · rw [if_neg e]
      refine over_eq (fun q hq => h1 q (.tail _ hq)) fun hs hr => h2 hs fun q hq => ?_
      rcases List.mem_cons.mp hq with rfl | hq
      · exact e
      · exact hr q hq
theorem over_fr {g h : Heap} {L : Addr} {m m₀ : Str → Option Value} {st : List Str} {ps : List (Str × Value)} (F : Fr g L h m) (h1 : ∀ p ∈ ps, m p.1 = some p.2) (h2 : ∀ z, st.contains z = false → (∀ p ∈ ps, z ≠ p.1) → m z = m₀ z) :
    Fr g L h (over ps m st m₀) := by
  have e : over ps m st m₀ = m := funext fun z => over_eq h1 (h2 z)
  rw [e]; exact F

/-- the walk's words for what the two rules below want -/
theorem fill_row : PySem.Challenge.rw_or0061_01.prog = PySem.Challenge.rw_or0061_01.prog ∧ hd.heap_39 = hd.heap_39 := ⟨rfl, rfl⟩
local macro_rules | `(tactic| walk_at $s:str) => `(tactic| k_extra $s)
example : True := by
  k_with "enter" => (((refine wpAny_call ?_; walk_at "enterI")))
  exact trivial
example : True := by
  k_with "enterI" => (((
  (have hFill := fill_row); revert hFill; k_fill; intro hFill; clear hFill;
  refine' enterZ ?Bw2 ?stw2 ?hWw2 ?how2 ?hcdw2 ?roomw2 ?bindw2 ?locw2 ?_ ?c1w2 ?c2w2 ?c3w2 ?c4w2; (case Bw2 => assumption); (case stw2 => assumption); (case hWw2 => first | assumption | exact List.forall_mem_nil _); (case how2 => k_dflt k_is); (case c1w2 => exact rfl); (case c2w2 => exact rfl); (case c3w2 => exact rfl); (case hcdw2 => k_is); (case bindw2 => exact rfl); (case locw2 => exact locs rfl); (case c4w2 => decide); (case roomw2 => ((try dsimp only [AT, Around.deeper, Around.in1, Around.under]); simp only [recursionLimit]; omega));
  (intro g L h₁ tk₁ hg F N Bg lW; have X := Bg.x; have T := Bg.t; (try dsimp only); (try simp only [List.map_cons, List.map_nil] at hg); (simp only [List.map_cons, List.map_nil, List.zip_cons_cons, List.zip_nil_left, List.zip_nil_right, List.reverse_cons, List.reverse_nil, List.nil_append, List.cons_append] at F); (try k_lt lW)))))
  exact trivial
example : True := by
  k_with "stop" => ((first
  | (with_reducible show wpAny _ _ (execs (Stmt.While _ _ _ _ :: _) _) _ _ _)
  | (with_reducible show wpAny _ _ (execs (Stmt.For _ _ _ _ _ :: _) _) _ _ _)
  | (with_reducible show wpAny _ _ (execs (Stmt.Assign _ (Expr.ListComp _ _ _ _) _ :: _) _) _ _ _)
  | (with_reducible show wpAny _ _ (eval (Expr.ListComp _ _ _ _) _) _ _ _)))
  exact trivial
example : True := by
  k_with "go" => ((((try dsimp only); (repeat' ((fail_if_success walk_at "stop"); (first | (walk1; (try dsimp only)) | (dsimp only; walk1; (try dsimp only))))); (all_goals (try dsimp only)))))
  exact trivial
example : True := by
  k_with "goall" => ((((repeat' (first | (walk1; (try dsimp only)) | (dsimp only; walk1; (try dsimp only)))); (all_goals (try dsimp only)))))
  exact trivial
local macro_rules | `(tactic| k_ne) => `(tactic| (refine neN ?_; (try dsimp only); first | (with_reducible assumption) | exact Ne.symm (by with_reducible assumption) | exact Nat.ne_of_lt (by with_reducible assumption) | exact Nat.ne_of_gt (by with_reducible assumption) | walk_at "ne"))
local macro_rules | `(tactic| k_inst) => `(tactic| exact inst_keeps (by with_reducible assumption) (Fr.keep (by k_asm)))
example : True := by
  k_with "names" => (((intro z9 hz9; (have hz8 := hz9); (simp only [List.contains_cons, List.contains_nil, Bool.or_false, Bool.or_eq_false_iff, beq_eq_false_iff_ne] at hz8); (first | (simp [over, hz8]; done) | (simp_all [over]; done)))))
  exact trivial
example : True := by
  k_with "room" => ((first | omega | (dsimp only [AT, Around.deeper, Around.in1, Around.under]; omega)))
  exact trivial
example : True := by
  k_with "after0" => (((have F' := Ext.fr he' (by k_asm) (List.forall_mem_nil _) List.not_mem_nil; have N' := Ext.news he' (by k_asm) (fun _ _ => List.not_mem_nil))))
  exact trivial
/-! P1 -/
section
variable {prog : Program} {w : World} {mg mb : Str → Option Value} {dp un : Nat} {fr : Option (List Env)} {gd : Option (List Code)} {E : Value → Shared → Prop} {s : Shared} {hB : Heap} {Q : Value → Shared → Prop}

theorem store_any {M : Model} {A : Around} {E : Value → Shared → Prop} {s : Shared} {Q : Unit → Shared → Prop} {env : Env} {x : Str} {i : Int} {t : Tok}
    (h : ∀ z : Int, wpAny M A (storeName env x (.int z t)) Q E s) : wpAny M A (storeName env x (.int i t)) Q E s := h i
example : True := by
  k_with "storeName" => ((fail_if_success (have := @off1)); ((k_here; (with_reducible show wpAny _ _ (storeName _ _ (Value.int (_ + 2) _)) _ _ _); refine store_any ?_; intro _)))
  exact trivial
theorem card_spec {d c : Addr} {at' many : Int} {t t2 : Tok} {n : Nat} {vs : List Value} {ns : List Int}
    (B : Bed w mg mb hB) (st : hB.StaysIn s.heap) (hr : dp < 900) (hd : s.heap.get? d = some (listOf #[.ref c, .int at' t] n)) (hdB : hB.get? d = none)
    (hc : s.heap.IsList c vs.toArray) (hv : IntsAre vs ns) (hlen : ns.length ≤ 63) (h0 : 0 ≤ at') (h1 : at' ≤ 1000) (hm : 2 ≤ many) (hm2 : many ≤ 100) (hcd : c ≠ d)
    (h : ∀ r t' t3 h' tk, 0 ≤ r → r < many → Ext [d] s.heap h' → h'.get? d = some (listOf #[.ref c, .int (at' + 1) t'] n) → Q (.int r t3) { s with heap := h', toks := tk }) :
    wpAny (model prog w) (AT dp un fr gd) (call (.ref 388) [.ref d, .int many t2]) Q E s := by
  have hW : ∀ p ∈ [(d, listOf #[.ref c, .int at' t] n)], s.heap.get? p.1 = some p.2 ∧ hB.get? p.1 = none := by simpa using ⟨hd, hdB⟩
  walk_at "enter"
  have hc' : g.IsList c vs.toArray := hg ▸ isList_hide hc (by simpa using hcd)
  walk_at "go"
  all_goals (refine h _ _ _ _ _ (Int.fmod_nonneg_of_pos _ (by omega)) (Int.fmod_lt_of_pos _ (by omega)) (ext_of hg (by assumption)) ((by assumption : News _ _ _ _) _ (.head _)).1)
theorem off1 : True := trivial
end
/-! P2 -/
/-! the data: letters, boxes, views -/
def flagsS : Nat → List Str
  | 0 => []
  | 1 => ["\\Seen"]
  | 2 => ["k"]
  | _ => ["\\Flagged", "k"]
def flagsD (k : Nat) : PyData := .tuple ((flagsS k).map .str)
def FlagsAt (h : Heap) (a : Addr) (k : Nat) : Prop := k < 4 ∧ ∃ o n vs, h.get? a = some o ∧ o.cls = .type "tuple" ∧ o.data = .seq (List.toArray vs) n ∧ StrsAre vs (flagsS k)
theorem FlagsAt.at {h h' : Heap} {a : Addr} {k : Nat} (x : FlagsAt h a k) (e : ∀ o, h.get? a = some o → h'.get? a = some o) : FlagsAt h' a k := ⟨x.1, let ⟨o, n, vs, a1, r⟩ := x.2; ⟨o, n, vs, e _ a1, r⟩⟩
theorem strs_reads {h : Heap} : ∀ {vs : List Value} {ss : List Str}, StrsAre vs ss → ReadsAll h vs (ss.map .str) []
  | _, _, .nil => .nil
  | _, _, .cons y t r => by
    have := ReadsAll.cons (Reads.str (h := h) y t) (strs_reads r)
    simpa using this
theorem FlagsAt.reads {h : Heap} {a : Addr} {k : Nat} (x : FlagsAt h a k) : Reads h (.ref a) (flagsD k) [] := by
  obtain ⟨_, o, n, vs, e1, e2, e3, r⟩ := x
  exact reads_tuple_at e1 e2 e3 (by simpa using strs_reads r)
theorem flags_eqv {i j : Nat} (hi : i < 4) (hj : j < 4) : PyData.eqv (flagsD i) (flagsD j) = decide (i = j) := by
  have : ∀ i : Fin 4, ∀ j : Fin 4, PyData.eqv (flagsD i.1) (flagsD j.1) = decide (i.1 = j.1) := by decide +kernel
  exact this ⟨i, hi⟩ ⟨j, hj⟩
theorem flags_shaped {i : Nat} (hi : i < 4) : SeqAt.shaped (flagsD i) = true := by
  have : ∀ i : Fin 4, SeqAt.shaped (flagsD i.1) = true := by decide +kernel
  exact this ⟨i, hi⟩

structure Lt where
  x : Addr
  dx : Addr
  ft : Addr
  uid : Int
  ms : Int
  srt : Nat
  oct : Value
  inst : Value
  t0 : Tok
  t1 : Tok
  t2 : Tok
  t3 : Tok
  t4 : Tok
  tu : Tok
  tm : Tok
def letterEs (w : World) (l : Lt) : List DictEntry :=
  [⟨PyData.keyHash w.params "uid", .str "uid" l.t0, .int l.uid l.tu⟩, ⟨PyData.keyHash w.params "octets", .str "octets" l.t1, l.oct⟩, ⟨PyData.keyHash w.params "flags", .str "flags" l.t2, .ref l.ft⟩,
   ⟨PyData.keyHash w.params "instant", .str "instant" l.t3, l.inst⟩, ⟨PyData.keyHash w.params "modseq", .str "modseq" l.t4, .int l.ms l.tm⟩]
structure LetterAt (w : World) (h : Heap) (l : Lt) : Prop where
  inst : InstAt h l.x (instObj 301 l.dx) 301 (some (dictOf (letterEs w l) 5))
  fl : FlagsAt h l.ft l.srt
  hh : handedIn l.oct = true ∧ handedIn l.inst = true
theorem inst_at {h h' : Heap} {x dx C : Addr} {od : Obj} (I : InstAt h x (instObj C dx) C (some od)) (k1 : ∀ o, h.get? x = some o → h'.get? x = some o) (k2 : ∀ o, h.get? dx = some o → h'.get? dx = some o) : InstAt h' x (instObj C dx) C (some od) :=
  ⟨k1 _ I.at_, I.cls, I.no, k2 _ I.dict⟩
theorem LetterAt.at {w : World} {h h' : Heap} {l : Lt} (x : LetterAt w h l) (e : ∀ b ∈ [l.x, l.dx, l.ft], ∀ o, h.get? b = some o → h'.get? b = some o) : LetterAt w h' l :=
  ⟨inst_at x.inst (e _ (by simp)) (e _ (by simp)), x.fl.at (e _ (by simp)), x.hh⟩
theorem LetterAt.keeps {w : World} {h h' : Heap} {l : Lt} (x : LetterAt w h l) (e : ∀ b o, h.get? b = some o → h'.get? b = some o) : LetterAt w h' l := x.at fun b _ => e b

/-- a thing that may turn: a list, or a dict that is no letter's -/
def mutK (o : Obj) : Bool := match o.cls with
  | .type "list" => true
  | .type "dict" => (match o.data with | .dict es _ => (match es.toList.head? with | none => true | some e => !(e.key.isStr "uid")) | _ => false)
  | _ => false
def Mut (h : Heap) (b : Addr) : Prop := ∃ o, h.get? b = some o ∧ mutK o = true
theorem LetterAt.off {w : World} {h : Heap} {l : Lt} {b : Addr} (x : LetterAt w h l) (m : Mut h b) : b ∉ [l.x, l.dx, l.ft] := by
  obtain ⟨o, ho, hm⟩ := m
  intro hb
  simp only [List.mem_cons, List.not_mem_nil, or_false] at hb
  rcases hb with rfl | rfl | rfl
  · rw [x.inst.at_] at ho; cases ho; exact absurd (show false = true from hm) (by decide)
  · have := x.inst.dict; dsimp only at this; rw [this] at ho; cases ho
    have : mutK (dictOf (letterEs w l) 5) = false := by
      show (!(Value.isStr (.str "uid" l.t0) "uid")) = false
      show (!(("uid" : Str) == "uid")) = false
      decide
    rw [this] at hm; cases hm
  · obtain ⟨_, o', n, vs, e1, e2, _⟩ := x.fl
    rw [e1] at ho; cases ho
    unfold mutK at hm; rw [e2] at hm; exact absurd hm (by simp)
theorem LetterAt.ext {w : World} {h h' : Heap} {l : Lt} {W : List Addr} (x : LetterAt w h l) (m : ∀ b ∈ W, Mut h b) (e : Ext W h h') : LetterAt w h' l :=
  x.at fun b hb o ho => e b o (fun hw => x.off (m b hw) hb) ho
theorem ext_hide {h : Heap} {W : List Addr} : Ext W h (hideAll h W) := fun _ _ n e => hideAll_get _ e n
theorem mut_list {h : Heap} {b : Addr} {its : Array Value} {n : Nat} (e : h.get? b = some (listOf its n)) : Mut h b := ⟨_, e, rfl⟩
theorem Mut.keep {h h' : Heap} {b : Addr} (m : Mut h b) (e : ∀ o, h.get? b = some o → h'.get? b = some o) : Mut h' b := let ⟨o, a, r⟩ := m; ⟨o, e _ a, r⟩

def Sorted (us : List Int) : Prop := us.Pairwise (· < ·)

section
variable {prog : Program} {w : World} {E : Value → Shared → Prop} {s : Shared}
abbrev refsOf (ls : List Lt) : Array Value := (ls.map fun l => Value.ref l.x).toArray
theorem item_letter {A : Around} {value slice : PySem.Expr} {g : Heap} {L lb : Addr} {m : Str → Option Value} {ls : List Lt} {k : Int} {u : Tok} {Q : Value → Shared → Prop}
    (hl : g.IsList lb (refsOf ls)) (F : Fr g L s.heap m) (h0 : 0 ≤ k) (h1 : k < ls.length) (h63 : ls.length ≤ 1000)
    (h : ∀ l, ls[k.toNat]? = some l → Q (.ref l.x) s)
    (hs : subscripted slice false (.ref lb) (.int k u) = operate [.ref lb, .int k u] (getItem (.ref lb) (.int k u)) := by with_unfolding_all rfl) :
    wpAny (model prog w) A (subscriptTail value slice (.ref lb) (.int k u)) Q E s := by
  have hL : s.heap.IsList lb (refsOf ls) := hl.at fun o e => F.keep lb o e
  have hk : k.toNat < ls.length := by omega
  exact tail_any hL.typeIs slot_list_getitem.lookup (wpAny_getItem_list hL h0 (by omega) (x := .ref (ls[k.toNat]'hk).x) (by simp [refsOf, hk]) (h _ (List.getElem?_eq_getElem hk))) hs
theorem len_list {A : Around} {g : Heap} {L lb : Addr} {m : Str → Option Value} {its : Array Value} {Q : Value → Shared → Prop}
    (hl : g.IsList lb its) (F : Fr g L s.heap m) (h63 : its.size ≤ 1000) (h : Q (.int its.size (s.toks + 1)) { s with toks := s.toks + 1 + 1 }) : wpAny (model prog w) A (call (.builtin "len") [.ref lb]) Q E s :=
  call_len_list (hl.at fun o e => F.keep lb o e) (by omega) h
theorem len_refs {A : Around} {g : Heap} {L lb : Addr} {m : Str → Option Value} {ls : List Lt} {Q : Value → Shared → Prop}
    (hl : g.IsList lb (refsOf ls)) (F : Fr g L s.heap m) (h63 : ls.length ≤ 1000) (h : Q (.int ls.length (s.toks + 1)) { s with toks := s.toks + 1 + 1 }) : wpAny (model prog w) A (call (.builtin "len") [.ref lb]) Q E s :=
  len_list hl F (by simpa [refsOf] using h63) (by simpa [refsOf] using h)
def uidsOf (ls : List Lt) : List Int := ls.map (·.uid)
theorem uids_get {ls : List Lt} {i : Nat} {l : Lt} (h : ls[i]? = some l) : (uidsOf ls)[i]? = some l.uid := by simp [uidsOf, h]
theorem uids_get' {ls : List Lt} {i : Nat} {v : Int} (h : (uidsOf ls)[i]? = some v) : ∃ l, ls[i]? = some l ∧ l.uid = v := by
  simp only [uidsOf, List.getElem?_map, Option.map_eq_some_iff] at h; exact h
theorem uids_len {ls : List Lt} : (uidsOf ls).length = ls.length := by simp [uidsOf]
end

/-- a box -/
structure Bx where
  x : Addr
  dx : Addr
  lb : Addr
  gb : Addr
  ln : Nat
  gn : Nat
  nxt : Int
  top : Int
  ls : List Lt
  gs : List Value
  vname : Value
  vval : Value
  vfl : Value
  k0 : Tok
  k1 : Tok
  k2 : Tok
  k3 : Tok
  k4 : Tok
  k5 : Tok
  k6 : Tok
  tn : Tok
  tt : Tok
def boxEs (w : World) (b : Bx) : List DictEntry :=
  [⟨PyData.keyHash w.params "name", .str "name" b.k0, b.vname⟩, ⟨PyData.keyHash w.params "validity", .str "validity" b.k1, b.vval⟩, ⟨PyData.keyHash w.params "next_uid", .str "next_uid" b.k2, .int b.nxt b.tn⟩,
   ⟨PyData.keyHash w.params "top", .str "top" b.k3, .int b.top b.tt⟩, ⟨PyData.keyHash w.params "floor", .str "floor" b.k4, b.vfl⟩, ⟨PyData.keyHash w.params "letters", .str "letters" b.k5, .ref b.lb⟩, ⟨PyData.keyHash w.params "gone", .str "gone" b.k6, .ref b.gb⟩]
structure BoxAt (w : World) (h : Heap) (b : Bx) : Prop where
  inst : InstAt h b.x (instObj 339 b.dx) 339 (some (dictOf (boxEs w b) 7))
  list : h.get? b.lb = some (listOf (refsOf b.ls) b.ln)
  gone : h.get? b.gb = some (listOf b.gs.toArray b.gn)
  lets : ∀ l ∈ b.ls, LetterAt w h l
  sorted : Sorted (uidsOf b.ls)
  pos : ∀ l ∈ b.ls, 1 ≤ l.uid ∧ l.uid < b.nxt
  len : b.ls.length ≤ 100
  glen : b.gs.length ≤ 1000
theorem BoxAt.isList {w : World} {h : Heap} {b : Bx} (x : BoxAt w h b) : h.IsList b.lb (refsOf b.ls) := ⟨_, x.list, rfl, _, rfl⟩
theorem BoxAt.at {w : World} {h h' : Heap} {b : Bx} {W : List Addr} (x : BoxAt w h b) (m : ∀ a ∈ W, Mut h a) (e : Ext W h h') (n : ∀ a ∈ [b.x, b.dx, b.lb, b.gb], a ∉ W) : BoxAt w h' b :=
  ⟨inst_at x.inst (fun o => e _ o (n _ (by simp))) (fun o => e _ o (n _ (by simp))), e _ _ (n _ (by simp)) x.list, e _ _ (n _ (by simp)) x.gone, fun l hl => (x.lets l hl).ext m e, x.sorted, x.pos, x.len, x.glen⟩
theorem BoxAt.keeps {w : World} {h h' : Heap} {b : Bx} (x : BoxAt w h b) (e : ∀ a o, h.get? a = some o → h'.get? a = some o) : BoxAt w h' b := x.at (W := []) (by simp) (.of_keeps e) (by simp)
theorem BoxAt.mut {w : World} {h : Heap} {b : Bx} (x : BoxAt w h b) : Mut h b.lb ∧ Mut h b.gb ∧ Mut h b.dx := by
  refine ⟨mut_list x.list, mut_list x.gone, _, x.inst.dict, ?_⟩
  show (!(("name" : Str) == "uid")) = true
  decide
theorem BoxAt.xne {w : World} {h : Heap} {b : Bx} (x : BoxAt w h b) {a : Addr} (m : Mut h a) : a ≠ b.x := by
  rintro rfl
  obtain ⟨o, ho, hm⟩ := m
  rw [x.inst.at_] at ho; cases ho; exact absurd (show false = true from hm) (by decide)

/-- a view -/
structure Vw where
  x : Addr
  dx : Addr
  ul : Addr
  fv : Addr
  mv : Addr
  bx : Addr
  un : Nat
  uses : Bool
  van : Bool
  us : List Int
  uvs : List Value
  fl : Int → Option Nat
  ms : Int → Option Int
  k0 : Tok
  k1 : Tok
  k2 : Tok
  k3 : Tok
  k4 : Tok
  k5 : Tok
  k6 : Tok
def viewEs (w : World) (v : Vw) : List DictEntry :=
  [⟨PyData.keyHash w.params "box", .str "box" v.k0, .ref v.bx⟩, ⟨PyData.keyHash w.params "is_readonly", .str "is_readonly" v.k1, .bool false⟩, ⟨PyData.keyHash w.params "uses_modseq", .str "uses_modseq" v.k2, .bool v.uses⟩,
   ⟨PyData.keyHash w.params "uses_vanished", .str "uses_vanished" v.k3, .bool v.van⟩, ⟨PyData.keyHash w.params "uids", .str "uids" v.k4, .ref v.ul⟩, ⟨PyData.keyHash w.params "flags", .str "flags" v.k5, .ref v.fv⟩, ⟨PyData.keyHash w.params "modseqs", .str "modseqs" v.k6, .ref v.mv⟩]
def FlagTab (prog : Program) (w : World) (h : Heap) (d : Addr) (f : Int → Option Nat) : Prop :=
  ∃ kvs, h.DictOf (PySem.intKind prog w) d kvs ∧ ∀ u, match f u with | some k => ∃ a, valueAt kvs u = some (.ref a) ∧ FlagsAt h a k | none => valueAt kvs u = none
def MsTab (prog : Program) (w : World) (h : Heap) (d : Addr) (f : Int → Option Int) : Prop :=
  ∃ kvs, h.DictOf (PySem.intKind prog w) d kvs ∧ ∀ u, match f u with | some k => ∃ t, valueAt kvs u = some (.int k t) | none => valueAt kvs u = none
structure ViewAt (prog : Program) (w : World) (h : Heap) (v : Vw) : Prop where
  inst : InstAt h v.x (instObj 124 v.dx) 124 (some (dictOf (viewEs w v) 7))
  list : h.get? v.ul = some (listOf v.uvs.toArray v.un)
  ivs : IntsAre v.uvs v.us
  flags : FlagTab prog w h v.fv v.fl
  mods : MsTab prog w h v.mv v.ms
  fdom : ∀ u, (v.fl u).isSome = true ↔ u ∈ v.us
  mdom : ∀ u, (v.ms u).isSome = true ↔ u ∈ v.us
  sorted : Sorted v.us
  pos : ∀ u ∈ v.us, 1 ≤ u
  len : v.us.length ≤ 100
  apart : v.fv ≠ v.mv
  lo : (v.fv == sysModules) = false
theorem dict_int_head {prog : Program} {w : World} {o : Obj} {kvs : List (Int × Value)} (x : o.IsDictOf (PySem.intKind prog w) kvs) (k : Str) : ∀ es n, o.data = .dict es n → ∀ e, es.toList.head? = some e → e.key.isStr k = false := by
  obtain ⟨es, ep, _, hd, hk, _⟩ := x
  intro es' n hd' e he
  rw [hd] at hd'
  cases hd'
  obtain ⟨i, hi, _⟩ := hk e (by
    have := List.mem_of_mem_head? (Option.mem_def.mpr he)
    simpa using this)
  cases hq : e.key with
  | str s t => rw [hq] at hi; simp [PySem.intKind, Value.isInt] at hi
  | _ => rfl
theorem mut_dict {prog : Program} {w : World} {h : Heap} {d : Addr} {kvs : List (Int × Value)} (x : h.DictOf (PySem.intKind prog w) d kvs) : Mut h d := by
  obtain ⟨o, ho, hd⟩ := Heap.dictOf_iff.mp x
  refine ⟨o, ho, ?_⟩
  have hx := dict_int_head hd "uid"
  obtain ⟨es, ep, hc, hdat, _⟩ := hd
  have hcls : o.cls = .type "dict" := hc.1
  unfold mutK
  rw [hcls, hdat]
  dsimp only
  cases e : es.toList.head? with
  | none => rfl
  | some e' => show (!(e'.key.isStr "uid")) = true; rw [hx es ep hdat e' e]; rfl
example : True := by
  k_with "subscriptTail" => (((k_here; (with_reducible show wpAny _ _ (subscriptTail _ _ (Value.ref _) (Value.int _ _)) _ _ _); k_dflt (refine' item_letter ?k1w10 ?k2w10 ?k3w10 ?k4w10 ?k5w10 ?_; (case k1w10 => with_reducible assumption); (case k2w10 => k_asm); (case k3w10 => omega); (case k4w10 => omega); (case k5w10 => omega); intro lt' hlt'; have hI' := (hLs _ (List.mem_of_getElem? hlt')).inst))))
  exact trivial
example : True := by
  k_with "call builtin:len" => (((k_here; (with_reducible show wpAny _ _ (call (Value.builtin "len") [Value.ref _]) _ _ _); k_dflt (refine' len_refs ?k1w11 ?k2w11 ?k3w11 ?_; (case k1w11 => with_reducible assumption); (case k2w11 => k_asm); (case k3w11 => omega)))))
  exact trivial
/-! P3 -/
section
variable {prog : Program} {w : World} {mg mb : Str → Option Value} {dp un : Nat} {fr : Option (List Env)} {gd : Option (List Code)} {E : Value → Shared → Prop} {s : Shared} {hB : Heap} {Q : Value → Shared → Prop}

theorem fdiv2 (a b : Int) (h : a < b) : a ≤ (a + b).fdiv 2 ∧ (a + b).fdiv 2 < b := by
  have : (a + b).fdiv 2 = (a + b) / 2 := Int.fdiv_eq_ediv_of_nonneg _ (by decide)
  rw [this]; omega

theorem sorted_le {ns : List Int} (hs : Sorted ns) {i j : Nat} {v v' : Int} (hij : i ≤ j) (h1 : ns[i]? = some v) (h2 : ns[j]? = some v') : v ≤ v' := by
  obtain ⟨a1, rfl⟩ := List.getElem?_eq_some_iff.mp h1
  obtain ⟨a2, rfl⟩ := List.getElem?_eq_some_iff.mp h2
  rcases Nat.lt_or_eq_of_le hij with h | rfl
  · exact Int.le_of_lt (List.pairwise_iff_getElem.mp hs i j a1 a2 h)
  · exact Int.le_refl _
theorem getD_some {ns : List Int} {k : Nat} (h : k < ns.length) : ns[k]? = some (ns.getD k 0) := by
  simp [List.getD, h]

theorem place_among_spec {a : Addr} {u : Int} {tu : Tok} {vs : List Value} {ns : List Int}
    (B : Bed w mg mb hB) (st : hB.StaysIn s.heap) (hr : dp < 900) (hl : s.heap.IsList a vs.toArray) (hv : IntsAre vs ns) (hlen : ns.length ≤ 1000) (hs : Sorted ns)
    (h : ∀ (r : Int) t' h' tk, ((∃ i : Nat, ns[i]? = some u ∧ r = i) ∨ (r = -1 ∧ u ∉ ns)) → Ext [] s.heap h' → Q (.int r t') { s with heap := h', toks := tk }) :
    wpAny (model prog w) (AT dp un fr gd) (call (.ref 135) [.ref a, .int u tu]) Q E s := by
  have hW : ∀ p ∈ ([] : List (Addr × Obj)), s.heap.get? p.1 = some p.2 ∧ hB.get? p.1 = none := List.forall_mem_nil _
  walk_at "enter"
  have hl' : g.IsList a vs.toArray := hg ▸ isList_hide hl (by simp)
  walk_at "go"
  rename_i F1 N1
  refine wpAny_execs_cons ?_
  let m₀ : Str → Option Value := fun y => List.lookup y [(Str.ofString "uid", Value.int u tu), (Str.ofString "uids", Value.ref a)]
  refine While_inv (n₀ := ns.length) (news := []) (fun n m nx => nx = [] ∧ ∃ (lo hi : Int) (tl th : Tok), m "low" = some (.int lo tl) ∧ m "high" = some (.int hi th) ∧ (∀ z, (["low", "high", "middle"] : List Str).contains z = false → m z = m₀ z) ∧ 0 ≤ lo ∧ lo ≤ hi ∧ hi ≤ ns.length ∧ n = (hi - lo).toNat ∧
    (∀ i : Nat, i < lo → ∀ v, ns[i]? = some v → v < u) ∧ (∀ i : Nat, hi ≤ i → ∀ v, ns[i]? = some v → u ≤ v)) F1 News.nil ⟨rfl, 0, ns.length, _, _, rfl, rfl, ?_, by omega, by omega, by omega, by omega, ?_, ?_⟩ ?_
  · intro z hz
    simp only [List.contains_cons, List.contains_nil, Bool.or_false, Bool.or_eq_false_iff, beq_eq_false_iff_ne] at hz
    simp [hz, m₀]
  · intro i hi; omega
  · intro i hi v hv'
    have := (List.getElem?_eq_some_iff.mp hv').1; omega
  rintro n m₁ nx h₂ tk₂ F2 N2 ⟨rfl, lo, hi, tl, th, e1, e2, e3, b1, b2, b3, rfl, p1, p2⟩
  replace F2 := over_fr (st := ["low", "high", "middle"]) (ps := [("low", .int lo tl), ("high", .int hi th)]) (m₀ := m₀) F2 (by simp [e1, e2]) (fun z hz _ => e3 z hz)
  walk_at "go"
  · rename lo < hi => hlt; rename Fr _ _ _ _ => F3; rename News _ _ _ _ => N3
    obtain ⟨c1, c2⟩ := fdiv2 lo hi hlt
    generalize (lo + hi).fdiv 2 = md at *
    have hk := getD_some (ns := ns) (k := md.toNat) (by omega)
    refine WhileStep.intro (n' := (hi - (md + 1)).toNat) F3 N3 (by omega) ⟨rfl, md + 1, hi, _, _, rfl, rfl, ?_, by omega, by omega, by omega, rfl, ?_, p2⟩
    · intro z hz
      have hz' := hz
      simp only [List.contains_cons, List.contains_nil, Bool.or_false, Bool.or_eq_false_iff, beq_eq_false_iff_ne] at hz'
      dsimp only
      rw [if_neg hz'.1, if_neg hz'.2.2, over_eq (by simp [e1, e2]) (fun _ _ => e3 z hz)]
      exact e3 z hz
    · intro i hi' v hv'
      have := sorted_le hs (i := i) (j := md.toNat) (by omega) hv' hk
      omega
  · rename lo < hi => hlt; rename Fr _ _ _ _ => F3; rename News _ _ _ _ => N3
    obtain ⟨c1, c2⟩ := fdiv2 lo hi hlt
    generalize (lo + hi).fdiv 2 = md at *
    have hk := getD_some (ns := ns) (k := md.toNat) (by omega)
    refine WhileStep.intro (n' := (md - lo).toNat) F3 N3 (by omega) ⟨rfl, lo, md, _, _, rfl, rfl, ?_, by omega, by omega, by omega, rfl, p1, ?_⟩
    · intro z hz
      have hz' := hz
      simp only [List.contains_cons, List.contains_nil, Bool.or_false, Bool.or_eq_false_iff, beq_eq_false_iff_ne] at hz'
      dsimp only
      rw [if_neg hz'.2.1, if_neg hz'.2.2, over_eq (by simp [e1, e2]) (fun _ _ => e3 z hz)]
      exact e3 z hz
    · intro i hi' v hv'
      have := sorted_le hs (i := md.toNat) (j := i) (by omega) hk hv'
      omega
  all_goals (have e5 := ext_of hg (by assumption : Fr _ _ _ _))
  · rename (_ = u) => hu
    rename (lo < _) => hlt
    have hk := getD_some (ns := ns) (k := lo.toNat) (by omega)
    exact h _ _ _ _ (.inl ⟨lo.toNat, by rw [hk, hu], by omega⟩) e5
  · rename (¬ lo < hi) => hlt
    rename (_ ≠ u) => hu
    rename (lo < _) => hl2
    have hk := getD_some (ns := ns) (k := lo.toNat) (by omega)
    refine h _ _ _ _ (.inr ⟨rfl, fun hm => ?_⟩) e5
    obtain ⟨i, hi1, hi2⟩ := List.getElem_of_mem hm
    have hi3 : ns[i]? = some u := by rw [List.getElem?_eq_getElem hi1, hi2]
    rcases Nat.lt_trichotomy i lo.toNat with q | q | q
    · have := p1 i (by omega) u hi3; omega
    · subst q; rw [hk] at hi3; exact hu (Option.some.inj hi3)
    · have q1 := p2 lo.toNat (by omega) _ hk
      obtain ⟨a1, a2⟩ := List.getElem?_eq_some_iff.mp hk
      have q2 := List.pairwise_iff_getElem.mp hs lo.toNat i a1 hi1 q
      rw [hi2, a2] at q2; omega
  · rename (¬ lo < hi) => hlt
    rename (¬ lo < _) => hl2
    refine h _ _ _ _ (.inr ⟨rfl, fun hm => ?_⟩) e5
    obtain ⟨i, hi1, hi2⟩ := List.getElem_of_mem hm
    have hi3 : ns[i]? = some u := by rw [List.getElem?_eq_getElem hi1, hi2]
    have := p1 i (by omega) u hi3; omega
end
/-! P4 -/
section
variable {prog : Program} {w : World} {mg mb : Str → Option Value} {dp un : Nat} {fr : Option (List Env)} {gd : Option (List Code)} {E : Value → Shared → Prop} {s : Shared} {hB : Heap} {Q : Value → Shared → Prop}

theorem place_of_spec {lb : Addr} {u : Int} {tu : Tok} {ls : List Lt}
    (B : Bed w mg mb hB) (st : hB.StaysIn s.heap) (hr : dp < 900) (hl : s.heap.IsList lb (refsOf ls)) (hLs : ∀ l ∈ ls, LetterAt w s.heap l) (hlen : ls.length ≤ 1000) (hs : Sorted (uidsOf ls))
    (h : ∀ (r : Int) t' h' tk, ((∃ i l, ls[i]? = some l ∧ l.uid = u ∧ r = (i : Nat)) ∨ (r = -1 ∧ ∀ l ∈ ls, l.uid ≠ u)) → Ext [] s.heap h' → Q (.int r t') { s with heap := h', toks := tk }) :
    wpAny (model prog w) (AT dp un fr gd) (call (.ref 350) [.ref lb, .int u tu]) Q E s := by
  have hW : ∀ p ∈ ([] : List (Addr × Obj)), s.heap.get? p.1 = some p.2 ∧ hB.get? p.1 = none := List.forall_mem_nil _
  walk_at "enter"
  have hl' : g.IsList lb (refsOf ls) := hg ▸ isList_hide hl (by simp)
  replace hLs : ∀ l ∈ ls, LetterAt w g l := hg ▸ hLs
  walk_at "go"
  rename Fr _ _ _ _ => F1
  refine wpAny_execs_cons ?_
  let m₀ : Str → Option Value := fun y => List.lookup y [(Str.ofString "uid", Value.int u tu), (Str.ofString "letters", Value.ref lb)]
  refine While_inv (n₀ := ls.length) (news := []) (fun n m nx => nx = [] ∧ ∃ (lo hi : Int) (tl th : Tok), m "low" = some (.int lo tl) ∧ m "high" = some (.int hi th) ∧ (∀ z, (["low", "high", "middle"] : List Str).contains z = false → m z = m₀ z) ∧ 0 ≤ lo ∧ lo ≤ hi ∧ hi ≤ ls.length ∧ n = (hi - lo).toNat ∧
    (∀ i : Nat, i < lo → ∀ v, (uidsOf ls)[i]? = some v → v < u) ∧ (∀ i : Nat, hi ≤ i → ∀ v, (uidsOf ls)[i]? = some v → u ≤ v)) F1 News.nil ⟨rfl, 0, ls.length, _, _, rfl, rfl, ?_, by omega, by omega, by omega, by omega, ?_, ?_⟩ ?_
  · intro z hz
    simp only [List.contains_cons, List.contains_nil, Bool.or_false, Bool.or_eq_false_iff, beq_eq_false_iff_ne] at hz
    simp [hz, m₀]
  · intro i hi; omega
  · intro i hi v hv'
    have := (List.getElem?_eq_some_iff.mp hv').1; rw [uids_len] at this; omega
  rintro n m₁ nx h₂ tk₂ F2 N2 ⟨rfl, lo, hi, tl, th, e1, e2, e3, b1, b2, b3, rfl, p1, p2⟩
  replace F2 := over_fr (st := ["low", "high", "middle"]) (ps := [("low", .int lo tl), ("high", .int hi th)]) (m₀ := m₀) F2 (by simp [e1, e2]) (fun z hz _ => e3 z hz)
  have hmid : lo < hi → lo ≤ (lo + hi).fdiv 2 ∧ (lo + hi).fdiv 2 < hi := fdiv2 lo hi
  generalize hmd : (lo + hi).fdiv 2 = md at hmid
  walk_at "go"
  · rename lo < hi => hlt; rename Fr _ _ _ _ => F3; rename News _ _ _ _ => N3; rename Lt.uid _ < u => hmu
    obtain ⟨c1, c2⟩ := hmid hlt
    rw [hmd] at hlt' F3
    have hk := uids_get hlt'
    refine WhileStep.intro (n' := (hi - (md + 1)).toNat) F3 N3 (by omega) ⟨rfl, md + 1, hi, _, _, rfl, rfl, by walk_at "names", by omega, by omega, by omega, rfl, ?_, p2⟩
    · intro i hi' v hv'
      have := sorted_le hs (i := i) (j := md.toNat) (by omega) hv' hk
      omega
  · rename lo < hi => hlt; rename Fr _ _ _ _ => F3; rename News _ _ _ _ => N3; rename ¬ Lt.uid _ < u => hmu
    obtain ⟨c1, c2⟩ := hmid hlt
    rw [hmd] at hlt' F3
    have hk := uids_get hlt'
    refine WhileStep.intro (n' := (md - lo).toNat) F3 N3 (by omega) ⟨rfl, lo, md, _, _, rfl, rfl, by walk_at "names", by omega, by omega, by omega, rfl, p1, ?_⟩
    · intro i hi' v hv'
      have := sorted_le hs (i := md.toNat) (j := i) (by omega) hk hv'
      omega
  all_goals (have e5 := ext_of hg (by assumption : Fr _ _ _ _))
  · rename (_ = u) => hu
    rename (lo < _) => hlt
    exact h _ _ _ _ (.inl ⟨lo.toNat, _, hlt', hu, by omega⟩) e5
  all_goals (refine h _ _ _ _ (.inr ⟨rfl, fun l hm hlu => ?_⟩) e5; obtain ⟨i, hi1, hi2⟩ := List.getElem_of_mem hm; have hi3 : (uidsOf ls)[i]? = some u := by rw [← hlu, ← hi2]; exact uids_get (List.getElem?_eq_getElem hi1))
  · rename (¬ lo < hi) => hlt
    rename (_ ≠ u) => hu
    have hk := uids_get hlt'
    rcases Nat.lt_trichotomy i lo.toNat with q | q | q
    · have := p1 i (by omega) u hi3; omega
    · subst q; rw [hk] at hi3; exact hu (Option.some.inj hi3)
    · have q1 := p2 lo.toNat (by omega) _ hk
      obtain ⟨a1, a2⟩ := List.getElem?_eq_some_iff.mp hk
      have q2 := List.pairwise_iff_getElem.mp hs lo.toNat i a1 (by rw [uids_len]; exact hi1) q
      rw [a2, (List.getElem?_eq_some_iff.mp hi3).2] at q2; omega
  · rename (¬ lo < _) => hl2
    have := p1 i (by omega) u hi3; omega
end
/-! P5 -/
section
variable {prog : Program} {w : World} {mg mb : Str → Option Value} {dp un : Nat} {fr : Option (List Env)} {gd : Option (List Code)} {E : Value → Shared → Prop} {s : Shared} {hB : Heap} {Q : Value → Shared → Prop}

theorem place_of_spec2 {lb : Addr} {u : Int} {tu : Tok} {ls : List Lt}
    (B : Bed w mg mb hB) (st : hB.StaysIn s.heap) (hr : dp < 900) (hl : s.heap.IsList lb (refsOf ls)) (hLs : ∀ l ∈ ls, LetterAt w s.heap l) (hlen : ls.length ≤ 1000) (hs : Sorted (uidsOf ls))
    (h1 : ∀ (i : Nat) (l : Lt) t' h' tk, ls[i]? = some l → l.uid = u → i < ls.length → Ext [] s.heap h' → Q (.int i t') { s with heap := h', toks := tk })
    (h2 : (∀ l ∈ ls, l.uid ≠ u) → ∀ t' h' tk, Ext [] s.heap h' → Q (.int (-1) t') { s with heap := h', toks := tk }) :
    wpAny (model prog w) (AT dp un fr gd) (call (.ref 350) [.ref lb, .int u tu]) Q E s := by
  refine place_of_spec B st hr hl hLs hlen hs fun r t' h' tk hc he => ?_
  rcases hc with ⟨i, l, hi, hu, rfl⟩ | ⟨rfl, hno⟩
  · exact h1 i l t' h' tk hi hu (List.getElem?_eq_some_iff.mp hi).1 he
  · exact h2 hno t' h' tk he
example : True := by
  k_with "call ref" => ((fail_if_success (have := @off2)); ((k_here; (with_reducible show wpAny _ _ (call (Value.ref 350) _) _ _ _); k_dflt (refine' place_of_spec2 ?Bw12 ?stw12 ?hrw12 ?hlw12 ?hLsw12 ?lenw12 ?hsw12 ?_ ?_; (case Bw12 => assumption); (case stw12 => exact Fr.keep (by k_asm)); (case hrw12 => walk_at "room"); (case hlw12 => exact Heap.IsList.at hl' fun o e => Fr.keep (by k_asm) _ o e); (case hLsw12 => exact fun l m => (hLs l m).keeps (Fr.keep (by k_asm))); (case lenw12 => omega); (case hsw12 => assumption); (all_goals (first | (intro i' l' t' h' tk' hi' hu' hi2' he'; walk_at "after0"; clear he') | (intro hno' t' h' tk' he'; walk_at "after0"; clear he')))))))
  exact trivial

theorem box_letter_spec {b : Bx} {u : Int} {tu : Tok}
    (B : Bed w mg mb hB) (st : hB.StaysIn s.heap) (hr : dp < 890) (hb : BoxAt w s.heap b)
    (h1 : ∀ (i : Nat) (l : Lt) h' tk, b.ls[i]? = some l → l.uid = u → Ext [] s.heap h' → Q (.ref l.x) { s with heap := h', toks := tk })
    (h2 : (∀ l ∈ b.ls, l.uid ≠ u) → ∀ h' tk, Ext [] s.heap h' → Q .none { s with heap := h', toks := tk }) :
    wpAny (model prog w) (AT dp un fr gd) (call (.ref 326) [.ref b.x, .int u tu]) Q E s := by
  have hW : ∀ p ∈ ([] : List (Addr × Obj)), s.heap.get? p.1 = some p.2 ∧ hB.get? p.1 = none := List.forall_mem_nil _
  walk_at "enter"
  replace hb : BoxAt w g b := hg ▸ hb
  have hI := hb.inst
  have hl' := hb.isList
  have hLs := hb.lets
  have hs := hb.sorted
  have hlen := hb.len
  walk_at "go"
  all_goals (have e5 := ext_of hg (by assumption : Fr _ _ _ _))
  · rw [show ((i' : Int).toNat) = i' from rfl, hi'] at hlt'
    cases hlt'
    exact h1 i' l' _ _ hi' hu' e5
  · exact h2 hno' _ _ e5
theorem off2 : True := trivial
end
/-! P6 -/
/-! comprehensions: one rule for all of them -/
section
variable {prog : Program} {w : World} {A : Around} {E : Value → Shared → Prop} {env : Env}

inductive CompStep (C : Addr) (s s' : Shared) : Prop
  | mk (h' : _) (tk : _) (m' : _) (z1 : s' = { s with heap := h', toks := tk }) (z2 : h'.Ns C m') (z3 : ∀ b o, b ≠ C → s.heap.get? b = some o → h'.get? b = some o) : CompStep C s s'

abbrev compTests' (ifs : List PySem.Expr) (env : Env) : Sem Bool := forIn ifs true fun c r => if r = true then do let ok ← isTrue c env (eval c env); pure (ForInStep.yield ok) else pure (ForInStep.yield r)

def CompOut (p : Value → Bool) (R : Heap → Value → Value → List Addr → Prop) (C : Addr) (v : Value) (s₃ : Shared) (y : Value) (s₆ : Shared) : Prop := p v = true ∧ CompStep C s₃ s₆ ∧ ∃ foot, R s₆.heap v y foot ∧ ∀ b ∈ foot, s₃.heap.get? b = none
def CompSkip (p : Value → Bool) (C : Addr) (v : Value) (s₃ : Shared) (s₅ : Shared) : Prop := p v = false ∧ CompStep C s₃ s₅
def CompTurn (prog : Program) (w : World) (A : Around) (target elt : PySem.Expr) (ifs : List PySem.Expr) (p : Value → Bool) (R : Heap → Value → Value → List Addr → Prop) (C : Addr) (cenv : Env) (v : Value) (s₃ : Shared) : Prop :=
  wpAny (model prog w) A (assign target cenv v) (fun _ s₄ => wpAny (model prog w) A (compTests' ifs cenv) (fun ok s₅ =>
    if ok = true then wpAny (model prog w) A (eval elt cenv) (CompOut p R C v s₃) (fun _ _ => False) s₅
    else CompSkip p C v s₃ s₅) (fun _ _ => False) s₄) (fun _ _ => False) s₃

theorem comp_loop {R₀ : Result → Shared → Prop} {s : Shared} {elt target iter : PySem.Expr} {ifs : List PySem.Expr} {scope : Scope} {pos : Pos} {I D : Addr} {fp : List Addr} {n : Nat} {P : Nat → Value → Prop} {St : Nat → Heap → Prop}
    {cenv : Env} {m : Str → Option Value} (W : Walks prog w A I fp [I] n P St) (p : Value → Bool) (R : Heap → Value → Value → List Addr → Prop)
    (hR : ∀ h h' v y foot, R h v y foot → (∀ b ∈ foot, ∀ o, h.get? b = some o → h'.get? b = some o) → R h' v y foot)
    (hlive : ∀ i h, St i h → ∃ o, h.get? I = some o)
    (hDC : D ≠ cenv.locals) (hDf : D ∉ fp) (hCf : cenv.locals ∉ fp) (hfpn : ∀ b ∈ fp, b ≠ cenv.locals)
    (hst : St 0 s.heap) (hacc : s.heap.PlainList D #[]) (hn : s.heap.Ns cenv.locals m)
    (turn : ∀ i v s₃ m₃, P i v → i < n → s₃.heap.Ns cenv.locals m₃ → (∀ b o, b ≠ cenv.locals → b ≠ I → b ≠ D → s.heap.get? b = some o → s₃.heap.get? b = some o) → CompTurn prog w A target elt ifs p R cenv.locals cenv v s₃)
    (hEnd : ∀ h' tk m' ys (vs : List Value), h'.Ns cenv.locals m' → h'.PlainList D ys → vs.length = n → (∀ j v, vs[j]? = some v → P j v) →
      Paired (fun v y => ∃ foot, R h' v y foot ∧ ∀ b ∈ foot, b ≠ cenv.locals ∧ b ≠ D ∧ b ≠ I ∧ s.heap.get? b = none) (vs.filter p) ys.toList →
      (∀ b o, b ≠ cenv.locals → b ≠ I → b ≠ D → s.heap.get? b = some o → h'.get? b = some o) → R₀ (.ok .next) { s with heap := h', toks := tk })
    (hsz : n ≤ 1000) (ht : ∀ v, letOwnedTupleGo target (.ref I) v = pure ()) :
    codeAny (model prog w) A (.compLoop (.ListComp elt [⟨target, iter, ifs, 0⟩] scope pos) 0 (.ref I) (.ref D) cenv) R₀ s := by
  refine codeAny_compLoop_tests
    (fun k s' => ∃ h' tk m' ys, ∃ vs : List Value, s' = { s with heap := h', toks := tk } ∧ St vs.length h' ∧ h'.PlainList D ys ∧ h'.Ns cenv.locals m' ∧ (∀ j v, vs[j]? = some v → P j v) ∧
      Paired (fun v y => ∃ foot, R h' v y foot ∧ ∀ b ∈ foot, b ≠ cenv.locals ∧ b ≠ D ∧ b ≠ I ∧ s.heap.get? b = none) (vs.filter p) ys.toList ∧ vs.length ≤ n ∧ k = n + 1 - vs.length ∧
      (∀ b o, b ≠ cenv.locals → b ≠ I → b ≠ D → s.heap.get? b = some o → h'.get? b = some o)) ?_ (n + 1)
    ⟨s.heap, s.toks, m, #[], [], rfl, hst, hacc, hn, by simp, by simpa using Paired.nil, Nat.zero_le _, rfl, fun _ _ _ _ _ e => e⟩ ht
  rintro k s' ⟨H, tk, m', ys, vs, rfl, hst', hacc', hn', hP, hF, hi, rfl, hk⟩
  have hCI : cenv.locals ≠ I := fun e => hCf (e ▸ W.sub I (by simp))
  have hDI : D ≠ I := fun e => hDf (e ▸ W.sub I (by simp))
  by_cases hlt : vs.length < n
  · refine W.item vs.length _ _ _ hlt hst' fun v h₁ tk₁ hPv hst₁ hk₁ => ?_
    have kI : ∀ b o, b ≠ I → H.get? b = some o → h₁.get? b = some o := fun b o hb e => hk₁ b o (by simpa using hb) e
    have hn₁ : h₁.Ns cenv.locals m' := hn'.at' fun o e => kI _ o hCI e
    have hacc₁ : h₁.PlainList D ys := hacc'.at fun o e => kI _ o hDI e
    have hP' : ∀ j u, (vs ++ [v])[j]? = some u → P j u := fun j u hj => by
      rcases Nat.lt_trichotomy j vs.length with h | h | h
      · exact hP j u (by rwa [List.getElem?_append_left h] at hj)
      · subst h; simp at hj; subst hj; exact hPv
      · have hnone : (vs ++ [v])[j]? = none := List.getElem?_eq_none (by rw [List.length_append, List.length_singleton]; omega)
        rw [hnone] at hj; cases hj
    have hk3 : ∀ b o, b ≠ cenv.locals → b ≠ I → b ≠ D → s.heap.get? b = some o → h₁.get? b = some o := fun b o h1 h2 h3 e => kI b o h2 (hk b o h1 h2 h3 e)
    have hF₁ : Paired (fun v y => ∃ foot, R h₁ v y foot ∧ ∀ b ∈ foot, b ≠ cenv.locals ∧ b ≠ D ∧ b ≠ I ∧ s.heap.get? b = none) (vs.filter p) ys.toList :=
      hF.mono fun _ _ ⟨foot, r, hf⟩ => ⟨foot, hR _ _ _ _ _ r fun b hb o e => kI b o (hf b hb).2.2.1 e, hf⟩
    have T := turn vs.length v { s with heap := h₁, toks := tk₁ } m' hPv hlt hn₁ hk3
    refine wpAny_mono T (fun _ s₄ h₄ => wpAny_mono h₄ (fun ok s₅ h₅ => ?_) fun _ _ x => x.elim) fun _ _ x => x.elim
    obtain ⟨oI, hoI⟩ := hlive _ _ hst₁
    cases ok with
    | false =>
      simp only [Bool.false_eq_true, if_false] at h₅ ⊢
      obtain ⟨hpv, h₆, tk₆, m₆, rfl, hn₆, hk₆⟩ := h₅
      refine ⟨n + 1 - (vs.length + 1), by omega, h₆, tk₆, m₆, ys, vs ++ [v], rfl, ?_, hacc₁.at fun o e => hk₆ _ o hDC e, hn₆, hP', ?_, (by rw [List.length_append, List.length_singleton]; exact hlt), (by rw [List.length_append, List.length_singleton]),
        fun b o h1 h2 h3 e => hk₆ b o h1 (hk3 b o h1 h2 h3 e)⟩
      · have := W.frame _ _ h₆ hst₁ fun b hb o e => hk₆ b o (hfpn b hb) e
        simpa using this
      · rw [List.filter_append]
        have : Paired (fun v y => ∃ foot, R h₆ v y foot ∧ ∀ b ∈ foot, b ≠ cenv.locals ∧ b ≠ D ∧ b ≠ I ∧ s.heap.get? b = none) (vs.filter p) ys.toList :=
          hF₁.mono fun _ _ ⟨foot, r, hf⟩ => ⟨foot, hR _ _ _ _ _ r fun b hb o e => hk₆ b o (hf b hb).1 e, hf⟩
        simpa [hpv] using this
    | true =>
      simp only [if_true] at h₅ ⊢
      refine wpAny_mono h₅ (fun y s₆ h₆ => ?_) fun _ _ x => x.elim
      obtain ⟨hpv, ⟨h₆, tk₆, m₆, rfl, hn₆, hk₆⟩, foot, hRy, hnew⟩ := h₆
      have hacc₆ : h₆.PlainList D ys := hacc₁.at fun o e => hk₆ _ o hDC e
      have hys : ys.size ≤ sizeLine := by
        have e1 := hF.length
        have e2 : (vs.filter p).length ≤ vs.length := List.length_filter_le _ _
        have e4 : ys.toList.length = ys.size := by simp
        rw [sizeLine_eq]; omega
      have hfoot : ∀ b ∈ foot, b ≠ cenv.locals ∧ b ≠ D ∧ b ≠ I ∧ s.heap.get? b = none := fun b hb => by
        have hnone : h₁.get? b = none := hnew b hb
        obtain ⟨_, _, _, hC, _⟩ := hn₁
        obtain ⟨_, hD'⟩ := hacc₁
        have n1 : b ≠ cenv.locals := by rintro rfl; rw [hC] at hnone; cases hnone
        have n2 : b ≠ D := by rintro rfl; rw [hD'] at hnone; cases hnone
        have n3 : b ≠ I := by rintro rfl; rw [hoI] at hnone; cases hnone
        refine ⟨n1, n2, n3, ?_⟩
        cases q : s.heap.get? b with
        | none => rfl
        | some o => rw [hk3 b o n1 n3 n2 q] at hnone; cases hnone
      refine wpAny_list_append_plain (hsz := hys) hacc₆ fun h₇ hl₇ hs₇ => ?_
      have k7 : ∀ b o, b ≠ D → h₆.get? b = some o → h₇.get? b = some o := fun b o hb e => hs₇.extBut b o hb e
      refine ⟨n + 1 - (vs.length + 1), by omega, h₇, tk₆, m₆, ys.push y, vs ++ [v], rfl, ?_, hl₇, hn₆.sameBut hs₇ (Ne.symm hDC), hP', ?_, (by rw [List.length_append, List.length_singleton]; exact hlt), (by rw [List.length_append, List.length_singleton]),
        fun b o h1 h2 h3 e => k7 b o h3 (hk₆ b o h1 (hk3 b o h1 h2 h3 e))⟩
      · have := W.frame _ _ h₇ hst₁ fun b hb o e => k7 b o (fun h => hDf (h ▸ hb)) (hk₆ b o (hfpn b hb) e)
        simpa using this
      · rw [List.filter_append]
        have h1 : Paired (fun v y => ∃ foot, R h₇ v y foot ∧ ∀ b ∈ foot, b ≠ cenv.locals ∧ b ≠ D ∧ b ≠ I ∧ s.heap.get? b = none) (vs.filter p) ys.toList :=
          hF₁.mono fun _ _ ⟨foot, r, hf⟩ => ⟨foot, hR _ _ _ _ _ r fun b hb o e => k7 b o (hf b hb).2.1 (hk₆ b o (hf b hb).1 e), hf⟩
        have h2 : ∃ foot, R h₇ v y foot ∧ ∀ b ∈ foot, b ≠ cenv.locals ∧ b ≠ D ∧ b ≠ I ∧ s.heap.get? b = none := ⟨foot, hR _ _ _ _ _ hRy fun b hb o e => k7 b o (hfoot b hb).2.1 e, hfoot⟩
        simpa [hpv] using Paired.snoc h1 h2
  · have hin : vs.length = n := by omega
    refine W.done _ _ _ (hin ▸ hst') fun h₁ tk₁ hk₁ => ?_
    have kI : ∀ b o, b ≠ I → H.get? b = some o → h₁.get? b = some o := fun b o hb e => hk₁ b o (by simpa using hb) e
    exact hEnd h₁ tk₁ m' ys vs (hn'.at' fun o e => kI _ o hCI e) (hacc'.at fun o e => kI _ o hDI e) hin hP
      (hF.mono fun _ _ ⟨foot, r, hf⟩ => ⟨foot, hR _ _ _ _ _ r fun b hb o e => kI b o (hf b hb).2.2.1 e, hf⟩) fun b o h1 h2 h3 e => kI b o h2 (hk b o h1 h2 h3 e)

theorem comp_all {s : Shared} {elt target iter : PySem.Expr} {ifs : List PySem.Expr} {scope : Scope} {cl : List (Str × Addr)} {pos : Pos} {Q : Value → Shared → Prop} (p : Value → Bool) (R : Heap → Value → Value → List Addr → Prop)
    (hclos : closureFor scope env = pure cl) (hcell : ∀ y ∈ scope.names, y.2 ≠ .cell) (hkind : scope.kind = .function)
    (hnames : ∀ y ∈ scope.names, y.2 = .local → scope.names.lookup y.1 = some .local)
    (hR : ∀ h h' v y foot, R h v y foot → (∀ b ∈ foot, ∀ o, h.get? b = some o → h'.get? b = some o) → R h' v y foot)
    (h : wpAny (model prog w) A (eval iter env) (fun xv s₁ => wpAny (model prog w) A (pyIter xv) (fun it s₂ => ∃ I fp n P St, it = .ref I ∧ Walks prog w A I fp [I] n P St ∧ n ≤ 1000 ∧ (∀ i h, St i h → ∃ o, h.get? I = some o) ∧ St 0 s₂.heap ∧ (∀ b ∈ fp, b < s₂.heap.objs.size) ∧
      (∀ C i v s₃ m₃, s₂.heap.objs.size ≤ C → P i v → i < n → s₃.heap.Ns C m₃ → (∀ b o, b ≠ I → s₂.heap.get? b = some o → s₃.heap.get? b = some o) → CompTurn prog w A target elt ifs p R C (compEnvC scope cl C env) v s₃) ∧
      (∀ D h' tk ys (vs : List Value), s₂.heap.get? D = none → h'.PlainList D ys → vs.length = n → (∀ j v, vs[j]? = some v → P j v) → Paired (fun v y => ∃ foot, R h' v y foot ∧ ∀ b ∈ foot, b ≠ D ∧ s₂.heap.get? b = none) (vs.filter p) ys.toList →
        (∀ b o, b ≠ I → s₂.heap.get? b = some o → h'.get? b = some o) → Q (.ref D) { s₂ with heap := h', toks := tk })) E s₁) E s)
    (hs : ∀ x, foldedSetIterable iter env x = pure x := by intro _; rfl) (ht : ∀ I v, letOwnedTupleGo target (.ref I) v = pure () := by intro _ _; rfl) :
    wpAny (model prog w) A (eval (.ListComp elt [⟨target, iter, ifs, 0⟩] scope pos) env) Q E s := by
  rw [eval_ListComp]
  refine wpAny_comprehension_free (use := none) rfl hs hclos hkind hnames (wpAny_mono h (fun xv s₁ h₁ => wpAny_mono h₁ (fun it s₂ h₂ => ?_) fun _ _ e => e) fun _ _ e => e)
  obtain ⟨I, fp, n, P, St, rfl, W, hsz, hlive, hst, hfp, turn, hQ⟩ := h₂
  refine wpAny_newObj_type (wpAny_newFunctionEnv hcell (by intro y hy; simp at hy) (fun h₁ hns₁ hsb₁ => ?_) hkind)
  dsimp only at hns₁ hsb₁ ⊢
  generalize hH2 : s₂.heap.push { cls := .type "list", dict := none, data := .seq ([] : List Value).toArray } = H2 at hns₁ hsb₁ ⊢
  have hC : H2.objs.size = s₂.heap.objs.size + 1 := by rw [← hH2, Heap.size_push]
  have hDC : s₂.heap.objs.size ≠ H2.objs.size := by rw [hC]; exact Nat.ne_of_lt (Nat.lt_succ_self _)
  have below : ∀ b, b < s₂.heap.objs.size → b ≠ H2.objs.size ∧ b ≠ s₂.heap.objs.size := fun b hb => ⟨by rw [hC]; exact Nat.ne_of_lt (Nat.lt_succ_of_lt hb), Nat.ne_of_lt hb⟩
  have hDf : s₂.heap.objs.size ∉ fp := fun hm => Nat.lt_irrefl _ (hfp _ hm)
  have hCf : H2.objs.size ∉ fp := fun hm => by have := hfp _ hm; rw [hC] at this; exact Nat.lt_irrefl _ (Nat.lt_of_succ_lt this)
  have old : ∀ b o, s₂.heap.get? b = some o → h₁.get? b = some o := fun b o e => hsb₁.extBut b o (below b (Heap.lt_size e)).1 (Heap.get?_push_of_some _ (hH2 ▸ Heap.get?_push_of_some _ e))
  have hacc : h₁.PlainList s₂.heap.objs.size #[] := ⟨_, hsb₁.extBut _ _ hDC (Heap.get?_push_of_some _ (hH2 ▸ Heap.get?_push_size _ rfl))⟩
  have hst₁ : St 0 h₁ := W.frame _ _ _ hst fun b _ o e => old b o e
  have fresh : ∀ a, s₂.heap.objs.size ≤ a → s₂.heap.get? a = none := fun a ha => by
    cases e : s₂.heap.get? a with
    | none => rfl
    | some o' => exact absurd (Heap.lt_size e) (Nat.not_lt.mpr ha)
  have loop : ∀ s₃ : Shared, s₃ = { s₂ with heap := h₁, toks := s₂.toks + ([] : List (Str × Value)).length } →
      codeAny (model prog w) A (.compLoop (.ListComp elt [⟨target, iter, ifs, 0⟩] scope pos) 0 (.ref I) (.ref s₂.heap.objs.size) (compEnvC scope cl H2.objs.size env))
        (compPost (model prog w) A E none Q (.ref s₂.heap.objs.size) H2.objs.size) s₃ := by
    rintro s₃ rfl
    refine comp_loop (cenv := compEnvC scope cl H2.objs.size env) W p R hR hlive hDC hDf hCf (fun b hb => (below b (hfp b hb)).1) hst₁ hacc hns₁
      (fun i v s₃ m₃ hv hi hn hk => turn _ i v s₃ m₃ (by rw [hC]; exact Nat.le_succ _) hv hi hn fun b o hb e => hk b o (below b (Heap.lt_size e)).1 hb (below b (Heap.lt_size e)).2 (old b o e)) (fun h' tk m' ys vs hn hpl hlen hP hF hk => ?_) hsz (ht I)
    refine ⟨m', hn, fun h'' hs'' => ?_⟩
    refine hQ _ h'' tk ys vs (fresh _ (Nat.le_refl _)) (hpl.at fun o e => hs''.extBut _ o hDC e) hlen hP (hF.mono fun _ _ ⟨foot, r, hf⟩ => ⟨foot, hR _ _ _ _ _ r fun b hb o e => hs''.extBut b o (hf b hb).1 e, fun b hb => ⟨(hf b hb).2.1, ?_⟩⟩) fun b o hb e => ?_
    rotate_left
    · cases q : s₂.heap.get? b with
      | none => rfl
      | some o => have := (hf b hb).2.2.2; rw [old b o q] at this; cases this
    · exact hs''.extBut b o (below b (Heap.lt_size e)).1 (hk b o (below b (Heap.lt_size e)).1 hb (below b (Heap.lt_size e)).2 (old b o e))
  exact codeAny_compStart_list (loop _ rfl) (W.self 0 _ _ _ hst₁ (loop _ rfl))
end
/-! P7 -/
section
variable {prog : Program} {w : World} {mg mb : Str → Option Value} {A : Around} {s : Shared} {hB : Heap} {news : List (Addr × Obj)}
  {R : Result → Shared → Prop} {name qual : Str} {params : Arguments} {body : List Stmt} {scope : Scope} {dV kV doc pm cdv ct oc : Value} {an od : Option Addr} {osl : Array (Option Value)} {f : Addr}
/-- the entry into a def some of whose names are cells -/
theorem enterC {vals : List Value} (B : Bed w mg mb hB) (st : hB.StaysIn s.heap) (hW : ∀ p ∈ news, s.heap.get? p.1 = some p.2 ∧ hB.get? p.1 = none)
    (ho : (hd.heap_39 w.params).lookup f = some ⟨oc, od, .func (fnOf name qual params body scope dV kV doc pm an cdv ct), osl⟩) (hcd : codeIn (hd.heap_39 w.params) cdv qual = true) (hroom : A.depth < recursionLimit)
    (hbind : bindArgs (fnOf name qual params body scope dV kV doc pm an cdv ct) ⟨vals, []⟩ = pure ((params.args.map (·.arg)).zip vals))
    (hkind : (((params.args.map (·.arg)).zip vals).all fun y => scope.names.lookup y.1 == some .local || scope.names.lookup y.1 == some .cell) = true)
    (hnd : ((cellsFrom 0 scope.names []).map (·.1)).Nodup)
    (h : ∀ g L h₁ tk cells, g = hideAll s.heap (news.map (·.1)) → Fr g L h₁ (bindL (envOfC qual scope L f cdv).kindOf ((params.args.map (·.arg)).zip vals) fun _ => none) → News g L h₁ (cells ++ news) →
      CellsAre (bindC (envOfC qual scope L f cdv).kindOf ((params.args.map (·.arg)).zip vals) fun _ => none) (cellsFrom (L + 1) scope.names []) cells → Bed w mg mb g → (∀ p ∈ news, p.1 < L) →
      wpAny (model prog w) (A.deeper (envOfC qual scope L f cdv)) (execs body (envOfC qual scope L f cdv))
        (fun fl s' => R (.ok (.ret (match fl with | .ret v => v | _ => .none))) s') (fun _ _ => False)
        { s with heap := h₁, toks := tk })
    (hco : scope.isCoroutine = false := by rfl) (hgen : scope.isGenerator = false := by rfl) (hk : scope.kind = .function := by rfl) : codeAny (model prog w) A (.call (.ref f) ⟨vals, []⟩) R s := by
  have X : (hd.heap_39 w.params).In s.heap := B.x.keeps st
  refine codeAny_call_function (fd := fnOf name qual params body scope dV kV doc pm an cdv ct) hroom (X _ _ ho) rfl hco hgen rfl (codeRec_of X hcd) (BindsTo.of_eq hbind _ _ _ _ ?_)
  refine wpAny_newFunctionEnv_cells hk (kindsX hkind _) fun env' he s' x => ?_
  subst he
  refine ⟨(B.t.nolimit.keeps st).keeps x.toInCall.keep, codeAny_func ?_⟩
  obtain ⟨h₁, tk, rfl, _⟩ := x.done
  have hk₁ := x.toInCall.keep
  obtain ⟨cells, NC, Y⟩ := Cl.news (h₀ := s.heap) (Nat.le_refl _) fun n c hm => ⟨x.cell n c (lookup_of_mem_nodup (cellsFrom_names scope.names 0 (s.heap.objs.size + 1) [] [] rfl ▸ hnd) hm), x.above n c hm⟩
  have nm : ∀ b o, hB.get? b = some o → b ∉ news.map (·.1) := fun b o e q => by
    obtain ⟨p, hp, rfl⟩ := List.mem_map.mp q
    rw [(hW p hp).2] at e; cases e
  have B' : Bed w mg mb (hideAll s.heap (news.map (·.1))) := B.keeps fun b o e => hideAll_get _ (st b o e) (nm b o e)
  refine wpAny_mono (h _ s.heap.objs.size h₁ tk cells rfl ⟨x.toInCall.ns, fun b o e => hk₁ b o (of_hideAll _ e), Nat.le_of_eq (hideAll_size _ _)⟩ (fun p hp => ?_) Y B' (fun p hp => Heap.lt_size (hW p hp).1)) (fun fl s' hl => hl) fun _ _ y => y.elim
  rcases List.mem_append.mp hp with hp | hp
  · refine ⟨(NC p hp).1, (NC p hp).2.1, ?_⟩
    cases q : (hideAll s.heap (news.map (·.1))).get? p.1 with
    | none => rfl
    | some o => have := of_hideAll _ q; rw [(NC p hp).2.2] at this; cases this
  · exact ⟨hk₁ _ _ (hW p hp).1, Nat.ne_of_lt (Heap.lt_size (hW p hp).1), hideAll_none _ (List.mem_map_of_mem hp)⟩
end

section
variable {prog : Program} {w : World} {A : Around} {E : Value → Shared → Prop} {env : Env}
/-- a comprehension over a list that stands, its elements told by the items (kind a: no new object) or new tuples (kind b) -/
theorem pyIter_list_walk {l : Addr} {its : List Value} {s : Shared} {T : Value → Shared → Prop} (hh : A.handled = none) (hl : s.heap.IsList l its.toArray)
    (h : ∀ I s₂, s₂ = { s with heap := s₂.heap } → s.heap.get? I = none → s.heap.objs.size ≤ s₂.heap.objs.size → (∀ b o, s.heap.get? b = some o → s₂.heap.get? b = some o) → Walks prog w A I [I, l] [I] its.length (fun i v => its[i]? = some v) (fun i h => h.IsListIter I l i ∧ h.IsList l its.toArray) →
      (∀ i (h : Heap), (h.IsListIter I l i ∧ h.IsList l its.toArray) → ∃ o, h.get? I = some o) → (s₂.heap.IsListIter I l 0 ∧ s₂.heap.IsList l its.toArray) → (∀ b ∈ [I, l], b < s₂.heap.objs.size) → T (.ref I) s₂) :
    wpAny (model prog w) A (pyIter (.ref l)) T E s := by
  refine wpAny_pyIter_list hl ?_
  obtain ⟨ol, hol, _⟩ := id hl
  have hlt : l < s.heap.objs.size := Heap.lt_size hol
  have hne : l ≠ s.heap.objs.size := Nat.ne_of_lt hlt
  have W := Walks.list (prog := prog) (w := w) hh s.heap.objs.size l hne its.toArray
  simp only [List.size_toArray, List.getElem?_toArray] at W
  have hfresh : s.heap.get? s.heap.objs.size = none := by
    cases e : s.heap.get? s.heap.objs.size with
    | none => rfl
    | some o' => exact absurd (Heap.lt_size e) (Nat.lt_irrefl _)
  refine h s.heap.objs.size _ rfl hfresh (by rw [Heap.size_push]; exact Nat.le_succ _) (fun b o e => Heap.get?_push_of_some _ e) W (fun i h x => let ⟨⟨o, a, _⟩, _⟩ := x; ⟨o, a⟩) ⟨⟨_, Heap.get?_push_size _ rfl, rfl, rfl⟩, hl.at fun o e => Heap.get?_push_of_some _ e⟩ ?_
  intro b hb
  rw [Heap.size_push]
  simp only [List.mem_cons, List.not_mem_nil, or_false] at hb
  rcases hb with rfl | rfl
  · exact Nat.lt_succ_self _
  · exact Nat.lt_succ_of_lt hlt

def RelA (F : Value → Value → Prop) : Heap → Value → Value → List Addr → Prop := fun _ v y foot => foot = [] ∧ F v y
abbrev tupObj (its : List Value) : Obj := { cls := .type "tuple", data := .seq its.toArray }
def RelB (G : Value → List Value → Prop) : Heap → Value → Value → List Addr → Prop := fun h v y foot => ∃ T its, y = .ref T ∧ foot = [T] ∧ h.get? T = some (tupObj its) ∧ G v its
theorem relA_stable {F : Value → Value → Prop} : ∀ h h' v y foot, RelA F h v y foot → (∀ b ∈ foot, ∀ o, h.get? b = some o → h'.get? b = some o) → RelA F h' v y foot := fun _ _ _ _ _ r _ => r
theorem relB_stable {G : Value → List Value → Prop} : ∀ h h' v y foot, RelB G h v y foot → (∀ b ∈ foot, ∀ o, h.get? b = some o → h'.get? b = some o) → RelB G h' v y foot := by
  rintro h h' v y foot ⟨T, its, rfl, rfl, e, g⟩ k
  exact ⟨T, its, rfl, rfl, k T (by simp) _ e, g⟩

inductive CompFrom (prog : Program) (w : World) (A : Around) (env : Env) (target elt : PySem.Expr) (ifs : List PySem.Expr) (scope : Scope) (cl : List (Str × Addr)) (p : Value → Bool) (R : Heap → Value → Value → List Addr → Prop) (Q : Value → Shared → Prop) (xv : Value) (s₁ : Shared) : Prop
  | mk (l : _) (its : _) (z1 : xv = .ref l) (z2 : s₁.heap.IsList l (List.toArray its)) (z3 : its.length ≤ 1000) (z4 : (∀ C (v : Value) s₃ m₃, v ∈ its → Fr s₁.heap C s₃.heap m₃ → CompTurn prog w A target elt ifs p R C (compEnvC scope cl C env) v s₃)) (z5 : (∀ D h' tk n ys, s₁.heap.get? D = none → h'.get? D = some (listOf (List.toArray ys) n) → Paired (fun v y => ∃ foot, R h' v y foot ∧ ∀ b ∈ foot, b ≠ D ∧ s₁.heap.get? b = none) (its.filter p) ys → (∀ b o, s₁.heap.get? b = some o → h'.get? b = some o) → Q (.ref D) { s₁ with heap := h', toks := tk })) : CompFrom prog w A env target elt ifs scope cl p R Q xv s₁
theorem comp_list {s : Shared} {elt target iter : PySem.Expr} {ifs : List PySem.Expr} {scope : Scope} {cl : List (Str × Addr)} {pos : Pos} {Q : Value → Shared → Prop} (p : Value → Bool) (R : Heap → Value → Value → List Addr → Prop)
    (hh : A.handled = none) (hclos : closureFor scope env = pure cl) (hcell : ∀ y ∈ scope.names, y.2 ≠ .cell) (hkind : scope.kind = .function)
    (hnames : ∀ y ∈ scope.names, y.2 = .local → scope.names.lookup y.1 = some .local)
    (hR : ∀ h h' v y foot, R h v y foot → (∀ b ∈ foot, ∀ o, h.get? b = some o → h'.get? b = some o) → R h' v y foot)
    (h : wpAny (model prog w) A (eval iter env) (CompFrom prog w A env target elt ifs scope cl p R Q) E s)
    (hs : ∀ x, foldedSetIterable iter env x = pure x := by intro _; rfl) (ht : ∀ I v, letOwnedTupleGo target (.ref I) v = pure () := by intro _ _; rfl) :
    wpAny (model prog w) A (eval (.ListComp elt [⟨target, iter, ifs, 0⟩] scope pos) env) Q E s := by
  refine comp_all p R hclos hcell hkind hnames hR (wpAny_mono h (fun xv s₁ h₁ => ?_) fun _ _ x => x) hs ht
  obtain ⟨l, its, rfl, hl, hlen, turn, hQ⟩ := h₁
  refine pyIter_list_walk hh hl fun I s₂ es hI hle hk W hlive hst hfp => ?_
  have up : ∀ b, s₂.heap.get? b = none → s₁.heap.get? b = none := fun b e => by
    cases q : s₁.heap.get? b with
    | none => rfl
    | some o => rw [hk b o q] at e; cases e
  have neI : ∀ b o, s₁.heap.get? b = some o → b ≠ I := by
    rintro b o e rfl; rw [hI] at e; cases e
  refine ⟨I, _, _, _, _, rfl, W, hlen, hlive, hst, hfp, fun C i v s₃ m₃ hC hv _ hn hk' => turn C v s₃ m₃ (List.mem_of_getElem? hv) ⟨hn, fun b o e => hk' b o (neI b o e) (hk b o e), Nat.le_trans hle hC⟩, fun D h' tk ys vs hD hpl hlen' hP hF hk' => ?_⟩
  · obtain ⟨n, hn⟩ := hpl
    have e : vs = its := List.ext_getElem? fun j => by
      cases q : vs[j]? with
      | some v => exact (hP j v q).symm
      | none =>
        have : its.length ≤ j := by rw [← hlen']; exact List.getElem?_eq_none_iff.mp q
        exact (List.getElem?_eq_none this).symm
    subst e
    have hF' : Paired (fun v y => ∃ foot, R h' v y foot ∧ ∀ b ∈ foot, b ≠ D ∧ s₁.heap.get? b = none) (vs.filter p) ys.toList := hF.mono fun _ _ ⟨foot, r, hf⟩ => ⟨foot, r, fun b hb => ⟨(hf b hb).1, up b (hf b hb).2⟩⟩
    have := hQ D h' tk n ys.toList (up D hD) (by simpa using hn) hF' fun b o e => hk' b o (neI b o e) (hk b o e)
    rw [es]
    exact this

section
variable {M : Model} {s : Shared} {h₀ : Heap} {C : Addr} {m : Str → Option Value} {scope : Scope} {cl : List (Str × Addr)} {x : Str} {pos px : Pos} {v : Value}
theorem cname_L {Q : Value → Shared → Prop} (F : Fr h₀ C s.heap m) (hv : m x = some v) (h : Q v s)
    (hk : (compEnvC scope cl C env).scope.kind = .function) (hl : (compEnvC scope cl C env).kindOf x = some .local) (hd : (x == ("__debug__" : Str)) = false := by decide) :
    wpAny M A (eval (.Name x pos) (compEnvC scope cl C env)) Q E s := wpAny_Name (wpAny_loadName_local hk hl F.ns hv h) hd
theorem cname_C {Q : Value → Shared → Prop} {c : Addr} {o : Obj} (F : Fr h₀ C s.heap m) (hc : cl.lookup x = some c) (ho : h₀.get? c = some o) (hd : o.data = .cell (some v)) (h : Q v s)
    (hk : (compEnvC scope cl C env).scope.kind = .function) (hl : (compEnvC scope cl C env).kindOf x = some .cell) (hb : (x == ("__debug__" : Str)) = false := by decide) :
    wpAny M A (eval (.Name x pos) (compEnvC scope cl C env)) Q E s := wpAny_Name (wpAny_loadName_cell hk hl hc ⟨o, F.keep _ _ ho, hd⟩ h) hb
theorem cname_G {Q : Value → Shared → Prop} {K : Frag} {mg mb : Str → Option Value} {p : Program} {loose : List Str} (F : Fr h₀ C s.heap m) (X : K.In h₀) (T : TopRead p loose mg mb h₀) (e : nsIn K mainGlobals x = some (some v)) (h : Q v s)
    (hg : env.globals = mainGlobals) (hk : (compEnvC scope cl C env).scope.kind = .function) (hx : (compEnvC scope cl C env).kindOf x = some .globalImplicit) (hd : (x == ("__debug__" : Str)) = false := by decide) :
    wpAny M A (eval (.Name x pos) (compEnvC scope cl C env)) Q E s :=
  Name_function_global hk hx (loadGlobal_global (env := compEnvC scope cl C env) (by show s.heap.Ns env.globals mg; rw [hg]; exact T.g.keeps F.keep) (mg_of X T.g e) h) hd
theorem cname_B {Q : Value → Shared → Prop} {K : Frag} {mg mb : Str → Option Value} {p : Program} {loose : List Str} (F : Fr h₀ C s.heap m) (X : K.In h₀) (T : TopRead p loose mg mb h₀) (e : nsIn K mainGlobals x = some none) (hv : bootBuiltins x = some v) (hn : x ≠ "__name__") (h : Q v s)
    (hg : env.globals = mainGlobals) (hb : env.builtins = builtinsNs) (hk : (compEnvC scope cl C env).scope.kind = .function) (hx : (compEnvC scope cl C env).kindOf x = some .globalImplicit) (hd : (x == ("__debug__" : Str)) = false := by decide) :
    wpAny M A (eval (.Name x pos) (compEnvC scope cl C env)) Q E s :=
  Name_function_global hk hx (loadGlobal_builtin (env := compEnvC scope cl C env) (by show s.heap.Ns env.globals mg; rw [hg]; exact T.g.keeps F.keep) (mg_none_of X T.g e) (by show s.heap.Ns env.builtins mb; rw [hb]; exact T.b.keeps F.keep) ((T.builtins x hn).trans hv) h) hd
theorem cassign {Q : Unit → Shared → Prop} (F : Fr h₀ C s.heap m) (h : ∀ h', Fr h₀ C h' (fun y => if y = x then some v else m y) → (∀ b o, b ≠ C → s.heap.get? b = some o → h'.get? b = some o) → Q () { s with heap := h', toks := s.toks + 1 })
    (hl : (compEnvC scope cl C env).kindOf x = some .local) (hp : ((compEnvC scope cl C env).scope.kind == .class || ((compEnvC scope cl C env).scope.kind == .module && (compEnvC scope cl C env).locals != (compEnvC scope cl C env).globals)) = false) :
    wpAny M A (assign (.Name x px) (compEnvC scope cl C env) v) Q E s :=
  wpAny_assign_Name (wpAny_storeName_local hl F.ns (fun h' hn hs => h h' (F.set hn hs) fun b o hb e => hs.extBut b o hb e) hp)
theorem ctest0 {Q : Bool → Shared → Prop} {env' : Env} (h : Q true s) : wpAny M A (compTests' [] env') Q E s := wpAny_pure h
theorem ctest1 {Q : Bool → Shared → Prop} {env' : Env} {c : PySem.Expr} (h : wpAny M A (isTrue c env' (eval c env')) Q E s) : wpAny M A (compTests' [c] env') Q E s := by
  unfold compTests'
  rw [List.forIn_cons]
  refine wpAny_bind ?_
  rw [if_pos rfl]
  refine wpAny_bind (wpAny_mono h (fun b s' hb => wpAny_pure ?_) fun _ _ x => x)
  dsimp only
  rw [List.forIn_nil]
  exact wpAny_pure hb
end
theorem CompStep.of {C : Addr} {s : Shared} {h' : Heap} {tk : Nat} {h₀ : Heap} {m : Str → Option Value} (F : Fr h₀ C h' m) (k : ∀ b o, b ≠ C → s.heap.get? b = some o → h'.get? b = some o) : CompStep C s { s with heap := h', toks := tk } := ⟨h', tk, m, rfl, F.ns, k⟩
end

theorem none_of {W : List Addr} {h h' : Heap} (e : Ext W h h') {a : Addr} (ha : h'.get? a = none) (hW : a ∉ W := by simp) : h.get? a = none := by
  cases q : h.get? a with
  | none => rfl
  | some o => rw [e a o hW q] at ha; cases ha
theorem none_keeps {h h' : Heap} (e : ∀ b o, h.get? b = some o → h'.get? b = some o) {a : Addr} (ha : h'.get? a = none) : h.get? a = none := none_of (W := []) (.of_keeps e) ha
theorem paired_map {α β γ : Type} {F : β → γ → Prop} {f : α → β} : ∀ {ls : List α} {ys : List γ}, Paired F (ls.map f) ys → Paired (fun l y => F (f l) y) ls ys
  | [], _, h => by cases h; exact .nil
  | _ :: _, _, h => by cases h with | cons a r => exact .cons a (paired_map r)
theorem paired_mono {α γ : Type} {F G : α → γ → Prop} : ∀ {ls : List α} {ys : List γ}, Paired F ls ys → (∀ l ∈ ls, ∀ y, F l y → G l y) → Paired G ls ys
  | _, _, .nil, _ => .nil
  | _, _, .cons a r, h => .cons (h _ (.head _) _ a) (paired_mono r fun l hl => h l (.tail _ hl))
theorem paired_ints {α : Type} {f : α → Int} : ∀ {ls : List α} {ys : List Value}, Paired (fun l y => ∃ t, y = .int (f l) t) ls ys → IntsAre ys (ls.map f)
  | _, _, .nil => .nil
  | _, _, .cons a r => by obtain ⟨t, rfl⟩ := a; exact .cons _ t (paired_ints r)
theorem letter_inj {w : World} {h : Heap} {l l' : Lt} (a : LetterAt w h l) (b : LetterAt w h l') (e : l.x = l'.x) : l.uid = l'.uid ∧ l.ms = l'.ms ∧ l.ft = l'.ft ∧ l.tm = l'.tm ∧ l.tu = l'.tu := by
  have h1 := a.inst.at_
  have h2 := b.inst.at_
  rw [e, h2] at h1
  have e1 : l'.dx = l.dx := by injection h1 with h1; injection h1 with _ h1; injection h1
  have d1 : h.get? l.dx = some (dictOf (letterEs w l) 5) := a.inst.dict
  have d2 : h.get? l'.dx = some (dictOf (letterEs w l') 5) := b.inst.dict
  rw [e1, d1] at d2
  have e2 : letterEs w l = letterEs w l' := by
    injection d2 with d2; injection d2 with _ _ d2; injection d2 with d2; simpa using d2
  unfold letterEs at e2
  simp only [List.cons.injEq, DictEntry.mk.injEq, Value.int.injEq, Value.ref.injEq] at e2
  obtain ⟨⟨_, _, a1, a2⟩, _, ⟨_, _, a3⟩, _, ⟨_, _, a4, a5⟩, _⟩ := e2
  exact ⟨a1, a4, a3, a5, a2⟩
theorem filt {α : Type} (l : List α) : l.filter (fun _ => true) = l := List.filter_eq_self.mpr (by simp)
example : True := by
  k_with "eval Name" => (((k_here; (with_reducible show wpAny _ _ (eval _ (compEnvC _ _ _ _)) _ _ _); k_dflt (first
  | (refine' cname_L ?Fw13 ?vw13 ?_ ?aw13 ?bw13; (case aw13 => exact rfl); (case bw13 => exact rfl); (case Fw13 => k_asm); (case vw13 => exact rfl); k_whole)
  | (refine' cname_C ?Fw13 ?cw13 ?ow13 ?dw13 ?_ ?aw13 ?bw13; (case aw13 => exact rfl); (case bw13 => exact rfl); (case Fw13 => k_asm); (case cw13 => exact rfl); (case ow13 => assumption); (case dw13 => assumption); k_whole)
  | (refine' cname_G ?Fw13 ?Xw13 ?Tw13 ?ew13 ?_ ?gw13 ?aw13 ?bw13; (case gw13 => exact rfl); (case aw13 => exact rfl); (case bw13 => exact rfl); (case Fw13 => k_asm); (case Xw13 => k_asm); (case Tw13 => k_asm); (case ew13 => k_is); k_whole)
  | (refine' cname_B ?Fw13 ?Xw13 ?Tw13 ?ew13 ?vw13 ?nw13 ?_ ?gw13 ?bbw13 ?aw13 ?bw13; (case gw13 => exact rfl); (case bbw13 => exact rfl); (case aw13 => exact rfl); (case bw13 => exact rfl); (case Fw13 => k_asm); (case Xw13 => k_asm); (case Tw13 => k_asm); (case ew13 => k_is); (case vw13 => boot_fast); (case nw13 => decide); k_whole)))))
  exact trivial
/-! P8 -/
section
variable {prog : Program} {w : World} {mg mb : Str → Option Value} {dp un : Nat} {fr : Option (List Env)} {gd : Option (List Code)} {E : Value → Shared → Prop} {s : Shared} {hB : Heap} {Q : Value → Shared → Prop}

theorem box_uids_spec {b : Bx}
    (B : Bed w mg mb hB) (st : hB.StaysIn s.heap) (hr : dp < 890) (hb : BoxAt w s.heap b)
    (h : ∀ D h' tk n (ys : List Value), s.heap.get? D = none → h'.get? D = some (listOf ys.toArray n) → IntsAre ys (uidsOf b.ls) → Ext [] s.heap h' → Q (.ref D) { s with heap := h', toks := tk }) :
    wpAny (model prog w) (AT dp un fr gd) (call (.ref 331) [.ref b.x]) Q E s := by
  have hW : ∀ p ∈ ([] : List (Addr × Obj)), s.heap.get? p.1 = some p.2 ∧ hB.get? p.1 = none := List.forall_mem_nil _
  walk_at "enter"
  replace hb : BoxAt w g b := hg ▸ hb
  have hI := hb.inst
  walk_at "go"
  refine comp_list (cl := []) (fun _ => true) (RelA fun v y => ∃ l ∈ b.ls, v = .ref l.x ∧ ∃ t, y = .int l.uid t) rfl rfl (by decide) rfl (by decide) relA_stable ?_
  walk_at "go"
  refine ⟨b.lb, b.ls.map (fun l => .ref l.x), rfl, hb.isList.at fun o e => F.keep _ o e, by have := hb.len; simp; omega, fun C v s₃ m₃ hv FC => ?_, fun D h' tk n ys hD hys hP hk => ?_⟩
  · obtain ⟨l, hl, rfl⟩ := List.mem_map.mp hv
    have hI1 := inst_keeps (hb.lets l hl).inst F.keep
    refine cassign FC (fun h2 F2 k2 => ctest0 ?_) rfl rfl
    rw [if_pos rfl]
    have X1 := X.keeps F.keep
    walk_at "go"
    exact ⟨rfl, CompStep.of F2 k2, [], ⟨rfl, l, hl, rfl, _, rfl⟩, by simp⟩
  · refine h D h' tk n ys ?_ hys ?_ ((ext_of hg F).trans (.of_keeps hk))
    · exact none_of (ext_of hg F) hD
    · rw [filt] at hP
      refine paired_ints (paired_mono (paired_map hP) fun l hl y ⟨foot, ⟨_, l', hl', e1, t, e2⟩, _⟩ => ⟨t, ?_⟩)
      rw [e2, (letter_inj (hb.lets l hl) (hb.lets l' hl') (Value.ref.inj e1)).1]
end
/-! P9 -/
section
variable {prog : Program} {w : World} {A : Around} {E : Value → Shared → Prop} {s : Shared} {g : Heap} {L : Addr} {m : Str → Option Value}
theorem dict_keeps {K : Type} [DecidableEq K] {knd : KeyKind prog w K} {h h' : Heap} {d : Addr} {kvs : List (K × Value)} (x : h.DictOf knd d kvs) (e : ∀ o, h.get? d = some o → h'.get? d = some o) : h'.DictOf knd d kvs := by
  obtain ⟨o, ho, hd⟩ := Heap.dictOf_iff.mp x
  exact Heap.dictOf_iff.mpr ⟨o, e _ ho, hd⟩
theorem item_dict {d : Addr} {kvs : List (Int × Value)} {k : Int} {t : Tok} {v : Value} {value slice : PySem.Expr} {Q : Value → Shared → Prop} (hD : g.DictOf (PySem.intKind prog w) d kvs) (F : Fr g L s.heap m) (hl : valueAt kvs k = some v) (h : Q v { s with toks := s.toks + 1 })
    (hs : subscripted slice false (.ref d) (.int k t) = operate [.ref d, .int k t] (getItem (.ref d) (.int k t)) := by with_unfolding_all rfl) :
    wpAny (model prog w) A (subscriptTail value slice (.ref d) (.int k t)) Q E s :=
  have hD' := dict_keeps hD (fun o e => F.keep d o e)
  tail_any hD'.typeIs slot_dict_getitem.lookup (wpAny_getItem_of (intKind_is _ _ _ _) hD'.mapOf hl h) hs
theorem flags_ne {a b : Addr} {i j : Nat} {Q : Value → Shared → Prop} (ha : FlagsAt g a i) (hb : FlagsAt g b j) (F : Fr g L s.heap m) (hu : A.units + 64 < cLine) (h : Q (.bool (!decide (i = j))) s) :
    wpAny (model prog w) A (compareOp .NotEq (.ref a) (.ref b)) Q E s := by
  have ha' := ha.at (h' := s.heap) fun o e => F.keep _ o e
  have hb' := hb.at (h' := s.heap) fun o e => F.keep _ o e
  exact ne_dataH ha'.reads hb'.reads (flags_shaped ha.1) (flags_shaped hb.1) hu (by rw [flags_eqv ha.1 hb.1]; exact h)
theorem cLine_is' : cLine = 9900 := rfl
end
example : True := by
  k_with "subscriptTail" => (((k_here; (with_reducible show wpAny _ _ (subscriptTail _ _ (Value.ref _) (Value.int _ _)) _ _ _); k_dflt (refine' item_dict ?k1w14 ?k2w14 ?k3w14 ?_; (case k1w14 => with_reducible assumption); (case k2w14 => k_asm); (case k3w14 => with_reducible assumption); k_whole))))
  exact trivial
example : True := by
  k_with "compareOp NotEq ref ref" => (((k_here; k_dflt (refine' flags_ne ?k1w15 ?k2w15 ?k3w15 ?k4w15 ?_; (case k1w15 => with_reducible assumption); (case k2w15 => with_reducible assumption); (case k3w15 => k_asm); (case k4w15 => rw [cLine_is']; walk_at "room"); k_whole))))
  exact trivial
/-! P10 -/
/-! tables -/
section
variable {prog : Program} {w : World}
theorem valueAt_cons {kvs : List (Int × Value)} {k u : Int} {v : Value} : valueAt ((k, v) :: kvs) u = if k = u then some v else valueAt kvs u := by
  unfold valueAt
  rw [List.find?_cons]
  by_cases h : k = u <;> simp [h]
theorem valueAt_nil {u : Int} : valueAt ([] : List (Int × Value)) u = none := rfl
theorem valueAt_append {k u : Int} {v : Value} : ∀ {kvs : List (Int × Value)}, valueAt (kvs ++ [(k, v)]) u = match valueAt kvs u with | some x => some x | none => if k = u then some v else none
  | [] => by rw [List.nil_append, valueAt_cons, valueAt_nil]
  | (k', v') :: r => by
    rw [List.cons_append, valueAt_cons, valueAt_cons, valueAt_append]
    by_cases h : k' = u <;> simp [h]
theorem valueAt_map {k u : Int} {v : Value} : ∀ {kvs : List (Int × Value)}, valueAt (kvs.map fun kv => if kv.1 = k then (kv.1, v) else kv) u = if u = k then (valueAt kvs u).map (fun _ => v) else valueAt kvs u
  | [] => by simp [valueAt_nil]
  | (k', v') :: r => by
    rw [List.map_cons]
    by_cases h : k' = k
    · rw [if_pos h, valueAt_cons, valueAt_cons, valueAt_map]
      by_cases h2 : k' = u
      · have : u = k := by omega
        simp [h2, this]
      · simp [h2]
    · rw [if_neg h, valueAt_cons, valueAt_cons, valueAt_map]
      by_cases h2 : k' = u
      · have : u ≠ k := by omega
        simp [h2, this]
      · simp [h2]
theorem valueAt_any {k : Int} : ∀ {kvs : List (Int × Value)}, (kvs.any fun kv => decide (kv.1 = k)) = (valueAt kvs k).isSome
  | [] => rfl
  | (k', v') :: r => by
    rw [List.any_cons, valueAt_cons, valueAt_any]
    by_cases h : k' = k <;> simp [h]
theorem valueAt_stored {kvs : List (Int × Value)} {k u : Int} {v : Value} : valueAt (stored kvs k v) u = if u = k then some v else valueAt kvs u := by
  unfold stored
  split
  · rename_i h
    rw [valueAt_any] at h
    rw [valueAt_map]
    by_cases e : u = k
    · subst e
      obtain ⟨x, hx⟩ := Option.isSome_iff_exists.mp h
      simp [hx]
    · simp [e]
  · rename_i h
    rw [valueAt_any] at h
    rw [valueAt_append]
    by_cases e : u = k
    · subst e
      have : valueAt kvs u = none := by simpa using h
      simp [this]
    · have e' : k ≠ u := fun q => e q.symm
      cases valueAt kvs u <;> simp [e, e']
theorem valueAt_without {k u : Int} : ∀ {kvs : List (Int × Value)}, valueAt (without kvs k) u = if u = k then none else valueAt kvs u
  | [] => by simp [without, valueAt_nil]
  | (k', v') :: r => by
    have ih := valueAt_without (k := k) (u := u) (kvs := r)
    unfold without at ih ⊢
    rw [List.filter_cons]
    by_cases h : k' = k
    · simp only [h, decide_true, Bool.not_true, Bool.false_eq_true, if_false, ne_eq, not_true_eq_false, decide_false]
      rw [ih, valueAt_cons]
      by_cases e : u = k
      · simp [e]
      · have e' : k ≠ u := fun q => e q.symm
        simp [e, e']
    · simp only [h, ne_eq, not_false_eq_true, decide_true, if_true, decide_false, Bool.not_false]
      rw [valueAt_cons, valueAt_cons, ih]
      by_cases e : u = k
      · have : k' ≠ u := by omega
        simp [e, h]
      · simp [e]
theorem mem_valueAt {k : Int} : ∀ {kvs : List (Int × Value)}, k ∈ kvs.map (·.1) → (valueAt kvs k).isSome = true
  | (k', v') :: r, h => by
    rw [valueAt_cons]
    by_cases e : k' = k
    · simp [e]
    · rw [if_neg e]
      rw [List.map_cons] at h
      rcases List.mem_cons.mp h with q | q
      · exact absurd q.symm e
      · exact mem_valueAt q
theorem nodup_sub : ∀ {xs ys : List Int}, xs.Nodup → (∀ x ∈ xs, x ∈ ys) → xs.length ≤ ys.length
  | [], _, _, _ => Nat.zero_le _
  | x :: xs, ys, hn, hs => by
    rw [List.nodup_cons] at hn
    have h1 : x ∈ ys := hs x (.head _)
    have h2 := nodup_sub (xs := xs) (ys := ys.erase x) hn.2 fun y hy => (List.mem_erase_of_ne (fun e : y = x => hn.1 (by rw [← e]; exact hy))).mpr (hs y (.tail _ hy))
    rw [List.length_erase_of_mem h1] at h2
    have : 0 < ys.length := List.length_pos_of_mem h1
    simp only [List.length_cons]; omega
theorem tab_len {h : Heap} {d : Addr} {kvs : List (Int × Value)} {us : List Int} (x : h.DictOf (PySem.intKind prog w) d kvs) (hs : ∀ u, (valueAt kvs u).isSome = true → u ∈ us) : kvs.length ≤ us.length := by
  obtain ⟨_, _, _, _, _, _, _, _, hn⟩ := x
  have := nodup_sub hn fun u hu => hs u (mem_valueAt hu)
  simpa using this

def upd {α : Type} (f : Int → Option α) (k : Int) (v : α) : Int → Option α := fun u => if u = k then some v else f u
def del {α : Type} (f : Int → Option α) (k : Int) : Int → Option α := fun u => if u = k then none else f u
def FlagKv (h : Heap) (kvs : List (Int × Value)) (f : Int → Option Nat) : Prop := ∀ u, match f u with | some k => ∃ a, valueAt kvs u = some (.ref a) ∧ FlagsAt h a k | none => valueAt kvs u = none
def MsKv (kvs : List (Int × Value)) (f : Int → Option Int) : Prop := ∀ u, match f u with | some k => ∃ t, valueAt kvs u = some (.int k t) | none => valueAt kvs u = none
theorem FlagKv.get {h : Heap} {kvs : List (Int × Value)} {f : Int → Option Nat} (x : FlagKv h kvs f) {u : Int} {k : Nat} (e : f u = some k) : ∃ a, valueAt kvs u = some (.ref a) ∧ FlagsAt h a k := by have := x u; rw [e] at this; exact this
theorem FlagKv.getNone {h : Heap} {kvs : List (Int × Value)} {f : Int → Option Nat} (x : FlagKv h kvs f) {u : Int} (e : f u = none) : valueAt kvs u = none := by have := x u; rw [e] at this; exact this
theorem MsKv.get {kvs : List (Int × Value)} {f : Int → Option Int} (x : MsKv kvs f) {u : Int} {k : Int} (e : f u = some k) : ∃ t, valueAt kvs u = some (.int k t) := by have := x u; rw [e] at this; exact this
theorem FlagKv.isSome {h : Heap} {kvs : List (Int × Value)} {f : Int → Option Nat} (x : FlagKv h kvs f) (u : Int) : (valueAt kvs u).isSome = (f u).isSome := by
  have := x u
  cases e : f u with
  | none => rw [e] at this; simp [this]
  | some k => rw [e] at this; obtain ⟨a, h1, _⟩ := this; simp [h1]
theorem MsKv.isSome {kvs : List (Int × Value)} {f : Int → Option Int} (x : MsKv kvs f) (u : Int) : (valueAt kvs u).isSome = (f u).isSome := by
  have := x u
  cases e : f u with
  | none => rw [e] at this; simp [this]
  | some k => rw [e] at this; obtain ⟨a, h1⟩ := this; simp [h1]
theorem FlagKv.upd {h : Heap} {kvs : List (Int × Value)} {f : Int → Option Nat} (x : FlagKv h kvs f) {k : Int} {a : Addr} {i : Nat} (hf : FlagsAt h a i) : FlagKv h (stored kvs k (.ref a)) (upd f k i) := by
  intro u
  unfold Mine.upd
  rw [valueAt_stored]
  by_cases e : u = k
  · simp only [e, if_true]; exact ⟨a, rfl, hf⟩
  · simp only [e, if_false]; exact x u
theorem MsKv.upd {kvs : List (Int × Value)} {f : Int → Option Int} (x : MsKv kvs f) {k : Int} {i : Int} {t : Tok} : MsKv (stored kvs k (.int i t)) (upd f k i) := by
  intro u
  unfold Mine.upd
  rw [valueAt_stored]
  by_cases e : u = k
  · simp only [e, if_true]; exact ⟨t, rfl⟩
  · simp only [e, if_false]; exact x u
theorem FlagKv.del {h : Heap} {kvs : List (Int × Value)} {f : Int → Option Nat} (x : FlagKv h kvs f) {k : Int} : FlagKv h (without kvs k) (del f k) := by
  intro u
  unfold Mine.del
  rw [valueAt_without]
  by_cases e : u = k
  · simp only [e, if_true]
  · simp only [e, if_false]; exact x u
theorem MsKv.del {kvs : List (Int × Value)} {f : Int → Option Int} (x : MsKv kvs f) {k : Int} : MsKv (without kvs k) (del f k) := by
  intro u
  unfold Mine.del
  rw [valueAt_without]
  by_cases e : u = k
  · simp only [e, if_true]
  · simp only [e, if_false]; exact x u
theorem FlagKv.keep {h h' : Heap} {kvs : List (Int × Value)} {f : Int → Option Nat} (x : FlagKv h kvs f) (e : ∀ a k, FlagsAt h a k → FlagsAt h' a k) : FlagKv h' kvs f := by
  intro u
  have := x u
  cases q : f u with
  | none => rw [q] at this; exact this
  | some k => rw [q] at this; obtain ⟨a, h1, h2⟩ := this; exact ⟨a, h1, e _ _ h2⟩
theorem flags_ext {h h' : Heap} {W : List Addr} (m : ∀ b ∈ W, Mut h b) (e : Ext W h h') : ∀ a k, FlagsAt h a k → FlagsAt h' a k := fun a k x => x.at fun o ho => e a o (fun hb => by
  obtain ⟨o', ho', hm⟩ := m a hb
  obtain ⟨_, o2, n, vs, e1, e2, _⟩ := x
  rw [e1] at ho'; cases ho'
  unfold mutK at hm; rw [e2] at hm; exact absurd hm (by simp)) ho
end
section
theorem news_add {g h : Heap} {L D : Addr} {m : Str → Option Value} {news : List (Addr × Obj)} {o : Obj} (N : News g L h news) (hD : h.get? D = some o) (hg : g.get? D = none) (hL : D ≠ L) : News g L h ((D, o) :: news) := by
  intro p hp
  rcases List.mem_cons.mp hp with rfl | hp
  · exact ⟨hD, hL, hg⟩
  · exact N p hp
noncomputable def AllNe (D : Addr) : List (Addr × Obj) → Prop
  | [] => True
  | p :: r => @Ne Nat p.1 D ∧ AllNe D r
theorem news_ne {g h : Heap} {L D : Addr} : ∀ {news : List (Addr × Obj)}, News g L h news → h.get? D = none → AllNe D news
  | [], _, _ => trivial
  | p :: r, N, e => ⟨fun (q : p.1 = D) => (by have := (N p (.head _)).1; rw [q, e] at this; cases this), news_ne (fun x hx => N x (.tail _ hx)) e⟩
theorem fr_ne {g h : Heap} {L D : Addr} {m : Str → Option Value} (F : Fr g L h m) (e : h.get? D = none) : @Ne Nat D L := by
  obtain ⟨o, _, _, ho, _⟩ := F.ns
  intro q; rw [← q, e] at ho; cases ho
theorem fr_none {g h : Heap} {L D : Addr} {m : Str → Option Value} (F : Fr g L h m) (e : h.get? D = none) : g.get? D = none := none_keeps F.keep e
theorem view_off {w : World} {h : Heap} {v : Vw} {a : Addr} (I : InstAt h v.x (instObj 124 v.dx) 124 (some (dictOf (viewEs w v) 7))) (m : Mut h a) : a ≠ v.x := by
  rintro rfl
  obtain ⟨o, ho, hm⟩ := m
  rw [I.at_] at ho; cases ho; exact absurd (show false = true from hm) (by decide)
theorem view_off2 {prog : Program} {w : World} {h : Heap} {v : Vw} {a : Addr} {kvs : List (Int × Value)} (I : InstAt h v.x (instObj 124 v.dx) 124 (some (dictOf (viewEs w v) 7))) (d : h.DictOf (PySem.intKind prog w) a kvs) : a ≠ v.dx := by
  rintro rfl
  obtain ⟨o, ho, hd⟩ := Heap.dictOf_iff.mp d
  have e : h.get? v.dx = some (dictOf (viewEs w v) 7) := I.dict
  rw [e] at ho; cases ho
  have := dict_int_head hd "box" _ _ rfl _ rfl
  exact absurd this (by show ¬ ((("box" : Str) == "box") = false); decide)
end
example : True := by
  k_with "afterD" => (((have ne' := news_ne (by k_asm) hD'; (simp only [AllNe, and_true] at ne'); (repeat (obtain ⟨n9, ne'⟩ := ne')); have neL' := fr_ne (by k_asm) hD'; have gD' := fr_none (by k_asm) hD'; have F' := Ext.fr he' (by k_asm) (List.forall_mem_nil _) List.not_mem_nil; have N0' := Ext.news he' (by k_asm) (fun _ _ => List.not_mem_nil); have N' := news_add (m := fun _ => none) N0' hO' gD' neL'; clear N0' he')))
  exact trivial
example : True := by
  k_with "setItem ref int" => (((k_here; k_dflt (refine' kda_set (knd := PySem.intKind _ _) ?Fw17 ?Nw17 ?Uw17 ?dw17 (intKind_is _ _ _ _) ?zw17 ?_; (case Fw17 => k_asm); (case Nw17 => k_asm); (case Uw17 => k_updF); (case dw17 => with_reducible assumption); (case zw17 => rw [sizeLine_eq]; omega)); (intro h' o' F' N' hd'; (try dsimp only at N')))))
  exact trivial
/-! P11 -/
section
variable {prog : Program} {w : World} {A : Around} {E : Value → Shared → Prop} {s : Shared}
/-- a list of one item is sorted as it lies -/
theorem sort_one_tree {a : Addr} {v : Value} {n : Nat} {P : Fin → Shared → Prop} (ho : s.heap.get? a = some (seqObj "list" [v].toArray n))
    (h : P (.done (.ret .none)) { s with heap := sortedHeap s.heap a [v] #[v] }) : wpAny (model prog w) A (Builtin.«list.sort» ⟨[.ref a], []⟩) P E s := by
  rw [list_sort_plain]
  have ha : a < s.heap.objs.size := Heap.lt_size ho
  refine wpAny_bind (listItems_at ho rfl ?_)
  refine wpAny_bind (listUpdate_at ho rfl ?_)
  obtain ⟨e1, ho1⟩ : ∃ e1, (s.heap.update a (Obj.mapSeq fun _ => #[])).get? a = some (seqObj "list" #[] e1) := ⟨_, get?_update_seq ho (fun _ => #[])⟩
  refine wpAny_bind (seqEpoch_at ho1 rfl ?_)
  refine wpAny_bind (wpAny_newTuple ?_)
  refine wpAny_bind (wpAny_newList ?_)
  refine wpAny_holding ?_
  have ho6 : (((s.heap.update a (Obj.mapSeq fun _ => #[])).push (seqObj "tuple" [v].toArray 0)).push (seqObj "list" #[] 0)).get? a = some (seqObj "list" #[] e1) := by
    rw [Heap.get?_push_ne _ _ _ (by rw [size_push', Heap.size_update]; exact Nat.ne_of_lt (Nat.lt_succ_of_lt ha)), Heap.get?_push_ne _ _ _ (by rw [Heap.size_update]; exact Nat.ne_of_lt ha)]
    exact ho1
  show wpAny (model prog w) A _ P E { s with heap := ((s.heap.update a (Obj.mapSeq fun _ => #[])).push (seqObj "tuple" [v].toArray 0)).push (seqObj "list" #[] 0) }
  dsimp only
  have h2 : [v].toArray.size < 2 := by simp
  have hz : ((arrOf (SortSt.mk' general' ([v].toArray.zip [v].toArray) #[] 7 none)).map (·.2)) = #[v] := by
    show (([v].toArray.zip [v].toArray).map (·.2)) = #[v]
    simp
  rw [if_pos h2, if_pos h2]
  refine wpAny_bind (wpAny_pure ?_)
  rw [StateT.run_pure]
  refine wpAny_bind (wpAny_pure ?_)
  dsimp only
  refine wpAny_bind (seqEpoch_at ho6 rfl ?_)
  refine wpAny_bind (listUpdate_at ho6 rfl ?_ (hsz2 := by rw [hz, sizeLine_eq]; simp))
  simp only [bne_self_eq_false, Bool.false_eq_true, if_false]
  refine wpAny_pure ?_
  rw [hz]
  exact h
theorem sort_one {g : Heap} {L D : Addr} {m : Str → Option Value} {news news' : List (Addr × Obj)} {v : Value} {n : Nat} {Q : Value → Shared → Prop} (F : Fr g L s.heap m) (N : News g L s.heap news) (U : Upd D (listOf #[v] n) (listOf #[v] (n + 2)) news news')
    (h : ∀ h', Fr g L h' m → News g L h' news' → Q .none { s with heap := h' }) : wpAny (model prog w) A (call (.builtin "list.sort") [.ref D]) Q E s := by
  obtain ⟨pre, post, e1, e2, a, b⟩ := U.split
  rw [e1] at N
  have z := N (D, listOf #[v] n) (List.mem_append.mpr (.inr (.head _)))
  refine wpAny_call_entry PyProof.Rows.slot_list_sort ⟨_, z.1, rfl⟩ PyProof.Rows.entry_list_sort (sort_one_tree (n := n) (v := v) z.1 ⟨.none, rfl, ?_⟩) (PyProof.Rows.args_list_sort _)
  have F1 : Fr g L (s.heap.update D (Obj.mapSeq fun _ => (#[] : Array Value))) m := F.change (Heap.SameBut.update ..) z.2.1 z.2.2
  have N1 := ki_turn (fun _ => (#[] : Array Value)) (its' := #[]) (n' := n + 1) N a b rfl (by simp)
  have N2 := News.grown N1 fun _ _ e => Heap.get?_push_of_some (seqObj "tuple" [v].toArray 0) e
  have N3 := News.grown N2 fun _ _ e => Heap.get?_push_of_some (seqObj "list" #[] 0) e
  have N4 := ki_turn (fun _ => #[v]) (its' := #[v]) (n' := n + 2) N3 a b rfl (by simp)
  have F4 : Fr g L ((((s.heap.update D (Obj.mapSeq fun _ => (#[] : Array Value))).push (seqObj "tuple" [v].toArray 0)).push (seqObj "list" #[] 0)).update D (Obj.mapSeq fun _ => #[v])) m :=
    ((F1.push (seqObj "tuple" [v].toArray 0)).push (seqObj "list" #[] 0)).change (Heap.SameBut.update ..) z.2.1 z.2.2
  refine h _ F4 ?_
  rw [e2]
  exact N4
end

section
variable {w : World}
theorem Ext.drop {W : List Addr} {h h' : Heap} {a : Addr} {o : Obj} (e : Ext (a :: W) h h') (h1 : h.get? a = some o) (h2 : h'.get? a = some o) : Ext W h h' := fun b o' hb ho => by
  by_cases q : b = a
  · subst q; rw [h1] at ho; cases ho; exact h2
  · exact e b o' (by simp [q, hb]) ho
theorem BoxAt.apart {h : Heap} {b : Bx} (x : BoxAt w h b) : b.x ≠ b.dx ∧ b.lb ≠ b.dx ∧ b.lb ≠ b.x ∧ b.gb ≠ b.dx ∧ b.gb ≠ b.x := by
  have i := x.inst.at_
  have d : h.get? b.dx = some (dictOf (boxEs w b) 7) := x.inst.dict
  have l := x.list
  have g := x.gone
  refine ⟨?_, ?_, ?_, ?_, ?_⟩ <;> intro e
  · rw [e, d] at i; injection i with i; injection i with i; cases i
  · rw [e, d] at l; injection l with l; injection l with l; injection l with l; exact absurd l (by decide)
  · rw [e, i] at l; injection l with l; injection l with l; cases l
  · rw [e, d] at g; injection g with l; injection l with l; injection l with l; exact absurd l (by decide)
  · rw [e, i] at g; injection g with l; injection l with l; cases l

end
example : True := by
  k_with "call builtin:list.sort" => (((k_here; (with_reducible show wpAny _ _ (call (Value.builtin _) [Value.ref _]) _ _ _); k_dflt (refine' sort_one ?Fw18 ?Nw18 ?Uw18 ?_; (case Fw18 => k_asm); (case Nw18 => k_asm); (case Uw18 => k_upd)); (intro h' F' N'))))
  exact trivial
/-! Q1 -/
section
variable {prog : Program} {w : World} {mg mb : Str → Option Value} {dp un : Nat} {fr : Option (List Env)} {gd : Option (List Code)} {E : Value → Shared → Prop} {s : Shared} {hB : Heap} {Q : Value → Shared → Prop}

def boxE (w : World) (b : Bx) (nxt : Int) (tn : Tok) (top : Int) (tt : Tok) (lb gb : Addr) : List DictEntry :=
  [⟨PyData.keyHash w.params "name", .str "name" b.k0, b.vname⟩, ⟨PyData.keyHash w.params "validity", .str "validity" b.k1, b.vval⟩, ⟨PyData.keyHash w.params "next_uid", .str "next_uid" b.k2, .int nxt tn⟩,
   ⟨PyData.keyHash w.params "top", .str "top" b.k3, .int top tt⟩, ⟨PyData.keyHash w.params "floor", .str "floor" b.k4, b.vfl⟩, ⟨PyData.keyHash w.params "letters", .str "letters" b.k5, .ref lb⟩, ⟨PyData.keyHash w.params "gone", .str "gone" b.k6, .ref gb⟩]
theorem raised_spec {b : Bx}
    (B : Bed w mg mb hB) (st : hB.StaysIn s.heap) (hr : dp < 890) (hI : InstAt s.heap b.x (instObj 339 b.dx) 339 (some (dictOf (boxEs w b) 7))) (hne : b.x ≠ b.dx) (o1 : hB.get? b.x = none) (o2 : hB.get? b.dx = none)
    (h : ∀ t t' h' tk, Ext [b.dx] s.heap h' → InstAt h' b.x (instObj 339 b.dx) 339 (some (dictOf (boxE w b b.nxt b.tn (b.top + 1) t b.lb b.gb) 7)) → Q (.int (b.top + 1) t') { s with heap := h', toks := tk }) :
    wpAny (model prog w) (AT dp un fr gd) (call (.ref 357) [.ref b.x]) Q E s := by
  have hW : ∀ p ∈ [(b.x, instObj 339 b.dx), (b.dx, dictOf (boxEs w b) 7)], s.heap.get? p.1 = some p.2 ∧ hB.get? p.1 = none := by simpa using ⟨⟨hI.at_, o1⟩, hI.dict, o2⟩
  walk_at "enter"
  walk_at "go"
  rename Fr _ _ _ _ => F3
  rename News _ _ _ _ => N3
  have e5 := ext_of hg F3
  refine h _ _ _ _ (e5.drop hI.at_ (N3 _ (.head _)).1) ⟨(N3 _ (.head _)).1, rfl, rfl, (N3 _ (.tail _ (.head _))).1⟩
end
/-! Q2 -/
section
variable {prog : Program} {w : World} {mg mb : Str → Option Value} {dp un : Nat} {fr : Option (List Env)} {gd : Option (List Code)} {E : Value → Shared → Prop} {s : Shared} {hB : Heap} {Q : Value → Shared → Prop}

example : True := by
  k_with "call ref" => ((fail_if_success (have := @off3)); ((k_here; (with_reducible show wpAny _ _ (call (Value.ref 135) _) _ _ _); k_dflt (refine' place_among_spec ?Bw19 ?stw19 ?hrw19 ?hlw19 ?hvw19 ?lenw19 ?hsw19 ?_; (case Bw19 => assumption); (case stw19 => exact Fr.keep (by k_asm)); (case hrw19 => walk_at "room"); (case hlw19 => exact Heap.IsList.at hl' fun o e => Fr.keep (by k_asm) _ o e); (case hvw19 => assumption); (case lenw19 => omega); (case hsw19 => assumption); (intro r' t' h' tk' hc' he'; walk_at "after0"; clear he')))))
  exact trivial

theorem number_of_spec {v : Vw} {u : Int} {tu : Tok} {ul : Addr} {uvs : List Value} {us : List Int} {n : Nat} {fv mv : Addr}
    (B : Bed w mg mb hB) (st : hB.StaysIn s.heap) (hr : dp < 890) (hI : InstAt s.heap v.x (instObj 124 v.dx) 124 (some (dictOf (viewEs w v) 7))) (hl' : s.heap.IsList v.ul uvs.toArray) (hv : IntsAre uvs us) (hs : Sorted us) (hlen : us.length ≤ 100)
    (h : ∀ (r : Int) t' h' tk, ((∃ i : Nat, us[i]? = some u ∧ r = (i : Int) + 1) ∨ (r = 0 ∧ u ∉ us)) → Ext [] s.heap h' → Q (.int r t') { s with heap := h', toks := tk }) :
    wpAny (model prog w) (AT dp un fr gd) (call (.ref 97) [.ref v.x, .int u tu]) Q E s := by
  have hW : ∀ p ∈ ([] : List (Addr × Obj)), s.heap.get? p.1 = some p.2 ∧ hB.get? p.1 = none := List.forall_mem_nil _
  walk_at "enter"
  replace hI : InstAt g v.x (instObj 124 v.dx) 124 (some (dictOf (viewEs w v) 7)) := hg ▸ hI
  replace hl' : g.IsList v.ul uvs.toArray := hg ▸ hl'
  walk_at "go"
  refine h _ _ _ _ ?_ (ext_of hg F')
  rcases hc' with ⟨i, hi, rfl⟩ | ⟨rfl, hn⟩
  · exact .inl ⟨i, hi, rfl⟩
  · exact .inr ⟨rfl, hn⟩
theorem off3 : True := trivial
end
/-! Q3 -/
section
variable {prog : Program} {w : World} {mg mb : Str → Option Value} {dp un : Nat} {fr : Option (List Env)} {gd : Option (List Code)} {E : Value → Shared → Prop} {s : Shared} {hB : Heap} {Q : Value → Shared → Prop}

theorem is_stale_spec {v : Vw} {l : Lt} {k : Nat} {m : Int}
    (B : Bed w mg mb hB) (st : hB.StaysIn s.heap) (hr : dp < 890) (hu : un < 8000) (hv : ViewAt prog w s.heap v) (hl : LetterAt w s.heap l) (hk : v.fl l.uid = some k) (hm : v.ms l.uid = some m)
    (h : ∀ h' tk, Ext [] s.heap h' → Q (.bool (decide (k ≠ l.srt) || (v.uses && decide (m ≠ l.ms)))) { s with heap := h', toks := tk }) :
    wpAny (model prog w) (AT dp un fr gd) (call (.ref 149) [.ref v.x, .ref l.x]) Q E s := by
  have hW : ∀ p ∈ ([] : List (Addr × Obj)), s.heap.get? p.1 = some p.2 ∧ hB.get? p.1 = none := List.forall_mem_nil _
  walk_at "enter"
  replace hv : ViewAt prog w g v := hg ▸ hv
  replace hl : LetterAt w g l := hg ▸ hl
  have hI := hv.inst
  have hI2 := hl.inst
  have hfl2 := hl.fl
  obtain ⟨kvF, hF, hF2⟩ := hv.flags
  obtain ⟨kvM, hM, hM2⟩ := hv.mods
  have hF3 := hF2 l.uid
  rw [hk] at hF3
  obtain ⟨fa, hfa, hfl⟩ := hF3
  have hM3 := hM2 l.uid
  rw [hm] at hM3
  obtain ⟨mt, hmt⟩ := hM3
  walk_at "go"
  all_goals (have e5 := ext_of hg (by assumption : Fr _ _ _ _))
  all_goals (refine (congrArg (fun b => Q (.bool b) _) ?_).mp (h _ _ e5))
  all_goals first | (simp_all [bne]; done) | (clear h; by_cases hq : m = l.ms <;> simp_all [bne])
end
/-! Q4 -/
section
variable {prog : Program} {w : World} {mg mb : Str → Option Value} {dp un : Nat} {fr : Option (List Env)} {gd : Option (List Code)} {E : Value → Shared → Prop} {s : Shared} {hB : Heap} {Q : Value → Shared → Prop}

theorem note_spec {v : Vw} {l : Lt} {kvF kvM : List (Int × Value)}
    (B : Bed w mg mb hB) (st : hB.StaysIn s.heap) (hr : dp < 890) (hI : InstAt s.heap v.x (instObj 124 v.dx) 124 (some (dictOf (viewEs w v) 7))) (hl : LetterAt w s.heap l)
    (hF : s.heap.DictOf (PySem.intKind prog w) v.fv kvF) (hM : s.heap.DictOf (PySem.intKind prog w) v.mv kvM) (hne : v.fv ≠ v.mv) (b1 : hB.get? v.fv = none) (b2 : hB.get? v.mv = none) (l1 : kvF.length ≤ 1000) (l2 : kvM.length ≤ 1000)
    (h : ∀ h' tk, Ext [v.fv, v.mv] s.heap h' → h'.DictOf (PySem.intKind prog w) v.fv (stored kvF l.uid (.ref l.ft)) → h'.DictOf (PySem.intKind prog w) v.mv (stored kvM l.uid (.int l.ms l.tm)) → Q .none { s with heap := h', toks := tk }) :
    wpAny (model prog w) (AT dp un fr gd) (call (.ref 142) [.ref v.x, .ref l.x]) Q E s := by
  have m1 := mut_dict hF
  have m2 := mut_dict hM
  have vx := view_off hI m1
  have vx2 := view_off hI m2
  replace hne := neN hne
  have vd := view_off2 hI hF
  have vd2 := view_off2 hI hM
  obtain ⟨oF, hoF, dF⟩ := Heap.dictOf_iff.mp hF
  obtain ⟨oM, hoM, dM⟩ := Heap.dictOf_iff.mp hM
  have hW : ∀ p ∈ [(v.fv, oF), (v.mv, oM)], s.heap.get? p.1 = some p.2 ∧ hB.get? p.1 = none := by simpa using ⟨⟨hoF, b1⟩, hoM, b2⟩
  walk_at "enter"
  have eg : Ext [v.fv, v.mv] s.heap g := hg ▸ ext_hide
  have hI1 := inst_at hI (h' := g) (fun o => eg _ o (by simp [vx.symm, vx2.symm])) (fun o => eg _ o (by simp [vd.symm, vd2.symm]))
  have hI2 := (hl.ext (by simpa using ⟨m1, m2⟩) eg).inst
  walk_at "go"
  rename Fr _ _ _ _ => F3
  rename News _ _ _ _ => N3
  exact h _ _ (ext_of hg F3) (Heap.dictOf_iff.mpr ⟨_, (N3 _ (.head _)).1, by assumption⟩) (Heap.dictOf_iff.mpr ⟨_, (N3 _ (.tail _ (.head _))).1, by assumption⟩)
end
/-! Q5 -/
section
variable {prog : Program} {w : World} {mg mb : Str → Option Value} {dp un : Nat} {fr : Option (List Env)} {gd : Option (List Code)} {E : Value → Shared → Prop} {s : Shared} {hB : Heap} {Q : Value → Shared → Prop}

theorem system_flags_spec
    (B : Bed w mg mb hB) (st : hB.StaysIn s.heap) (hr : dp < 890)
    (h : ∀ D h' tk n t0 t1 t2 t3 t4, s.heap.get? D = none → h'.get? D = some (listOf #[.str "\\Seen" t0, .str "\\Answered" t1, .str "\\Flagged" t2, .str "\\Deleted" t3, .str "\\Draft" t4] n) → Ext [] s.heap h' → Q (.ref D) { s with heap := h', toks := tk }) :
    wpAny (model prog w) (AT dp un fr gd) (call (.ref 249) []) Q E s := by
  have hW : ∀ p ∈ ([] : List (Addr × Obj)), s.heap.get? p.1 = some p.2 ∧ hB.get? p.1 = none := List.forall_mem_nil _
  walk_at "enter"
  walk_at "goall"
  rename Fr _ _ _ _ => F3
  rename News _ _ _ _ => N3
  exact h _ _ _ _ _ _ _ _ _ (by have := (N3 _ (.head _)).2.2; rw [hg] at this; exact this) (N3 _ (.head _)).1 (ext_of hg F3)
example : True := by
  k_with "call ref" => ((fail_if_success (have := @off4)); ((k_here; (with_reducible show wpAny _ _ (call (Value.ref 249) _) _ _ _); k_dflt (refine' system_flags_spec ?Bw20 ?stw20 ?hrw20 ?_; (case Bw20 => assumption); (case stw20 => exact Fr.keep (by k_asm)); (case hrw20 => walk_at "room"); (intro D' h' tk' n' t0' t1' t2' t3' t4' hD' hO' he'; walk_at "afterD")))))
  exact trivial
example : True := by
  k_with "pyIter str" => ((fail_if_success (have := @off4)); (((with_reducible show wpAny _ _ (pyIter (Value.str _ _)) (fun it s₂ => LoopAtV _ _ _ _ _ _ _ _ _ it s₂) _ _); k_here; k_strUnr)))
  exact trivial
example : True := by
  k_with "exec For Name Name cons nil" => ((fail_if_success (have := @off4)); ((k_here; (rename Fr _ _ _ _ => lF'); (with_unfolding_all refine' For_invVF lF' ?k1w22 ?k2w22 ?_; (case k1w22 => exact rfl); (case k2w22 => exact rfl); k_whole))))
  exact trivial
theorem is_keyword_k {t : Tok}
    (B : Bed w mg mb hB) (st : hB.StaysIn s.heap) (hr : dp < 890)
    (h : ∀ h' tk, Ext [] s.heap h' → Q (.bool true) { s with heap := h', toks := tk }) :
    wpAny (model prog w) (AT dp un fr gd) (call (.ref 256) [.str "k" t]) Q E s := by
  have hW : ∀ p ∈ ([] : List (Addr × Obj)), s.heap.get? p.1 = some p.2 ∧ hB.get? p.1 = none := List.forall_mem_nil _
  walk_at "enter"
  walk_at "goall"
  · rename Fr _ _ _ _ => F3
    exact h _ _ (ext_of hg F3)
  · exfalso
    rename (_ = false) => hbad
    revert hbad; decide +kernel
example : True := by
  k_with "call ref" => ((fail_if_success (have := @off4)); ((k_here; (with_reducible show wpAny _ _ (call (Value.ref 256) _) _ _ _); k_dflt (refine' is_keyword_k ?Bw23 ?stw23 ?hrw23 ?_; (case Bw23 => assumption); (case stw23 => exact Fr.keep (by k_asm)); (case hrw23 => walk_at "room"); (intro h' tk' he'; walk_at "after0"; clear he')))))
  exact trivial
theorem flag_name_seen {t : Tok}
    (B : Bed w mg mb hB) (st : hB.StaysIn s.heap) (hr : dp < 880)
    (h : ∀ t' h' tk, Ext [] s.heap h' → Q (.str "\\Seen" t') { s with heap := h', toks := tk }) :
    wpAny (model prog w) (AT dp un fr gd) (call (.ref 263) [.str "\\Seen" t]) Q E s := by
  have hW : ∀ p ∈ ([] : List (Addr × Obj)), s.heap.get? p.1 = some p.2 ∧ hB.get? p.1 = none := List.forall_mem_nil _
  walk_at "enter"
  walk_at "goall"
  rename Fr _ _ _ _ => F3
  exact h _ _ _ (ext_of hg F3)
theorem flag_name_flagged {t : Tok}
    (B : Bed w mg mb hB) (st : hB.StaysIn s.heap) (hr : dp < 880)
    (h : ∀ t' h' tk, Ext [] s.heap h' → Q (.str "\\Flagged" t') { s with heap := h', toks := tk }) :
    wpAny (model prog w) (AT dp un fr gd) (call (.ref 263) [.str "\\Flagged" t]) Q E s := by
  have hW : ∀ p ∈ ([] : List (Addr × Obj)), s.heap.get? p.1 = some p.2 ∧ hB.get? p.1 = none := List.forall_mem_nil _
  walk_at "enter"
  walk_at "goall"
  rename Fr _ _ _ _ => F3
  exact h _ _ _ (ext_of hg F3)
theorem flag_name_k {t : Tok}
    (B : Bed w mg mb hB) (st : hB.StaysIn s.heap) (hr : dp < 880)
    (h : ∀ t' h' tk, Ext [] s.heap h' → Q (.str "k" t') { s with heap := h', toks := tk }) :
    wpAny (model prog w) (AT dp un fr gd) (call (.ref 263) [.str "k" t]) Q E s := by
  have hW : ∀ p ∈ ([] : List (Addr × Obj)), s.heap.get? p.1 = some p.2 ∧ hB.get? p.1 = none := List.forall_mem_nil _
  walk_at "enter"
  walk_at "goall"
  rename Fr _ _ _ _ => F3
  exact h _ _ _ (ext_of hg F3)
theorem off4 : True := trivial
end
/-! Q6 -/
section
variable {prog : Program} {w : World} {mg mb : Str → Option Value} {dp un : Nat} {fr : Option (List Env)} {gd : Option (List Code)} {E : Value → Shared → Prop} {s : Shared} {hB : Heap} {Q : Value → Shared → Prop}

theorem ends_of_spec {a : Addr} {t1 t2 t3 : Tok} {n : Int}
    (B : Bed w mg mb hB) (st : hB.StaysIn s.heap) (hr : dp < 890) (hn : 1 ≤ n) (ha : IsTup s.heap a #[.int 1 t1, .int 0 t2])
    (h : ∀ a' t t' h' tk, s.heap.get? a' = none → h'.get? a' = some (tupObj [.int 1 t, .int n t']) → Ext [] s.heap h' → Q (.ref a') { s with heap := h', toks := tk }) :
    wpAny (model prog w) (AT dp un fr gd) (call (.ref 28) [.ref a, .int n t3]) Q E s := by
  have hW : ∀ p ∈ ([] : List (Addr × Obj)), s.heap.get? p.1 = some p.2 ∧ hB.get? p.1 = none := List.forall_mem_nil _
  walk_at "enter"
  replace ha : IsTup g a #[.int 1 t1, .int 0 t2] := hg ▸ ha
  walk_at "go"
  · exfalso; omega
  · rename Fr _ _ _ _ => F3
    rename News _ _ _ _ => N3
    have hD := N3 _ (.head _)
    refine h _ (if n < 1 then t3 else t1) (if n > 1 then t3 else t1) _ _ (by have := hD.2.2; rw [hg] at this; exact this) ?_ (ext_of hg F3)
    have h1 := hD.1
    dsimp only at h1
    rw [if_neg (by omega)] at h1
    have e2 : (if n > 1 then n else 1) = n := by split <;> omega
    rw [e2] at h1
    exact h1


example : True := by
  k_with "call ref" => ((fail_if_success (have := @off5)); ((k_here; (with_reducible show wpAny _ _ (call (Value.ref 28) _) _ _ _); k_dflt (refine' ends_of_spec ?Bw24 ?stw24 ?hrw24 ?hnw24 ?haw24 ?_; (case Bw24 => assumption); (case stw24 => exact Fr.keep (by k_asm)); (case hrw24 => walk_at "room"); (case hnw24 => assumption); (case haw24 => exact News.isTup (by k_asm) (by k_mem)); (intro D' t' t2' h' tk' hD' hO' he'; walk_at "afterD")))))
  exact trivial
theorem plain_set_spec {a b : Addr} {t1 t2 t3 : Tok} {n : Int}
    (B : Bed w mg mb hB) (st : hB.StaysIn s.heap) (hr : dp < 880) (hn : 1 ≤ n) (ha : s.heap.get? a = some (tupObj [.int 1 t1, .int 0 t2])) (hb : s.heap.get? b = some (tupObj [.ref a])) (b1 : hB.get? a = none) (b2 : hB.get? b = none)
    (h : ∀ a' b' t t' h' tk, s.heap.get? a' = none → s.heap.get? b' = none → h'.get? b' = some (tupObj [.ref a']) → h'.get? a' = some (tupObj [.int 1 t, .int n t']) → Ext [] s.heap h' → Q (.ref b') { s with heap := h', toks := tk }) :
    wpAny (model prog w) (AT dp un fr gd) (call (.ref 35) [.ref b, .int n t3]) Q E s := by
  have hW : ∀ p ∈ [(a, tupObj [.int 1 t1, .int 0 t2]), (b, tupObj [.ref a])], s.heap.get? p.1 = some p.2 ∧ hB.get? p.1 = none := by simpa using ⟨⟨ha, b1⟩, hb, b2⟩
  walk_at "enter"
  walk_at "goall"
  rename Fr _ _ _ _ => F3
  rename News _ _ _ _ => N3
  have e5 : Ext [a, b] s.heap _ := ext_of hg F3
  have fa := (N3 _ (.tail _ (.tail _ (.tail _ (.tail _ (.tail _ (.head _))))))).1
  have fb := (N3 _ (.tail _ (.tail _ (.tail _ (.tail _ (.tail _ (.tail _ (.head _)))))))).1
  have za := N3 _ (.tail _ (.head _))
  have zb := N3 _ (.head _)
  have two : ∀ {h' : Heap} {x y : Addr} {xs ys : List Value}, h'.get? x = some (tupObj xs) → h'.get? y = some (tupObj ys) → xs ≠ ys → x ≠ y := fun e1 e2 hne e => by
    rw [e, e2] at e1
    injection e1 with e1; injection e1 with _ _ e1; injection e1 with e1
    exact hne (by simpa using e1.symm)
  have hide2 : ∀ {D : Addr}, g.get? D = none → D ≠ a → D ≠ b → s.heap.get? D = none := fun {D} hD h1 h2 => by
    cases q : s.heap.get? D with
    | none => rfl
    | some o =>
      rw [hg, hideAll_get _ q (by simp [h1, h2])] at hD; cases hD
  have aa := two za.1 fa (by simp; omega)
  have ba := two zb.1 fb (by simp; exact aa)
  exact h _ _ _ _ _ _ (hide2 za.2.2 aa (two za.1 fb (by simp))) (hide2 zb.2.2 (two zb.1 fa (by simp)) ba) (N3 _ (.head _)).1 (N3 _ (.tail _ (.head _))).1 ((e5.drop ha fa).drop hb fb)
theorem off5 : True := trivial
end
/-! R3 -/
section
variable {prog : Program} {w : World} {mg mb : Str → Option Value} {A : Around} {s : Shared} {hB : Heap} {news : List (Addr × Obj)}
  {R : Result → Shared → Prop} {name qual : Str} {params : Arguments} {body : List Stmt} {scope : Scope} {dV kV doc pm cdv ct oc : Value} {an od : Option Addr} {osl : Array (Option Value)} {f : Addr} {args : Args} {binds : List (Str × Value)}
theorem enterY {vals : List Value} (B : Bed w mg mb hB) (st : hB.StaysIn s.heap) (hW : ∀ p ∈ news, s.heap.get? p.1 = some p.2 ∧ hB.get? p.1 = none)
    (ho : (hd.heap_39 w.params).lookup f = some ⟨oc, od, .func (fnOf name qual params body scope dV kV doc pm an cdv ct), osl⟩) (hcd : codeIn (hd.heap_39 w.params) cdv qual = true) (hroom : A.depth < recursionLimit)
    (hbind : BindsTo s (fnOf name qual params body scope dV kV doc pm an cdv ct) ⟨vals, []⟩ ((params.args.map (·.arg)).zip vals)) (hloc : ∀ y ∈ (params.args.map (·.arg)).zip vals, scope.names.lookup y.1 = some .local)
    (h : ∀ g L h₁ tk, g = hideAll s.heap (news.map (·.1)) → Fr g L h₁ (fun y => ((params.args.map (·.arg)).zip vals).reverse.lookup y) → News g L h₁ news → Bed w mg mb g → (∀ p ∈ news, p.1 < L) →
      wpAny (model prog w) (A.deeper (envOf qual scope L f cdv)) (execs body (envOf qual scope L f cdv))
        (fun fl s' => R (.ok (.ret (match fl with | .ret v => v | _ => .none))) s') (fun _ _ => False)
        { s with heap := h₁, toks := tk })
    (hco : scope.isCoroutine = false := by rfl) (hgen : scope.isGenerator = false := by rfl) (hk : scope.kind = .function := by rfl)
    (hcell : ∀ x ∈ scope.names, x.2 ≠ .cell := by decide) : codeAny (model prog w) A (.call (.ref f) ⟨vals, []⟩) R s :=
  enter B st hW ho hcd hroom hbind hloc h hco hgen hk hcell
end
section
variable {prog : Program} {w : World} {mg mb : Str → Option Value} {dp un : Nat} {fr : Option (List Env)} {gd : Option (List Code)} {E : Value → Shared → Prop} {s : Shared} {hB : Heap} {Q : Value → Shared → Prop}
theorem make_weight (C : Addr) (pos : List Value) : (Code.builtin "type.__call__" ⟨.ref C :: pos, []⟩).weight = 1 := by kernel_rfl
theorem make_units (C : Addr) (pos : List Value) : (Code.builtin "type.__call__" ⟨.ref C :: pos, []⟩).cUnits = 1 := by kernel_rfl
theorem make_at {C fI : Addr} {pos : List Value} (X : (hd.heap_39 w.params).In s.heap) (hm : makesIn (hd.heap_39 w.params) C = true) (hi : findIn (hd.heap_39 w.params) (.ref C) "__init__" = some (some (.ref fI))) (hf : isFn (hd.heap_39 w.params) (.ref fI) = true)
    (h : ∀ x dx h' fr' gd', s.heap.get? x = none → s.heap.get? dx = none → h'.get? x = some (instObj C dx) → h'.get? dx = some (dictOf [] 0) → x ≠ dx → Ext [] s.heap h' →
      codeAny (model prog w) (AT (dp + 1) (un + 1) fr' gd') (.call (.ref fI) ⟨.ref x :: pos, []⟩) (InitBack x fun r s' => match r with | .ok (.ret v) => Q v s' | .ok _ => False | .error e => E e s') { s with heap := h' }) :
    wpAny (model prog w) (AT dp un fr gd) (call (.ref C) pos []) Q E s := by
  obtain ⟨hh, g, d, t, os⟩ := s
  have fresh : ∀ a, hh.objs.size ≤ a → hh.get? a = none := fun a ha => by
    cases e : hh.get? a with
    | none => rfl
    | some o' => exact absurd (Heap.lt_size e) (Nat.not_lt.mpr ha)
  refine wpAny_call (make_core (makes_of X hm) (looks_findIn X hi) (fun self => bind_fn X self (beq_iff_eq.mp hf)) (.inl rfl) ?_)
  unfold Around.under
  rw [make_weight, make_units]
  exact h (hh.objs.size + 1) hh.objs.size _ _ _ (fresh _ (Nat.le_succ _)) (fresh _ (Nat.le_refl _)) (by heap_get) (by heap_get) (Nat.ne_of_gt (Nat.lt_succ_self _)) (fun b o _ e => Heap.get?_push_of_some _ (Heap.get?_push_of_some _ e))
theorem FlagsAt.tup {h : Heap} {a : Addr} {k : Nat} (x : FlagsAt h a k) : ∃ its, IsTup h a its := let ⟨_, o, n, vs, a1, a2, a3, _⟩ := x; ⟨_, o, a1, a2, n, a3⟩
example : True := by
  k_with "call type:tuple" => ((fail_if_success (have := @off6)); ((k_here; (with_reducible show wpAny _ _ (call (Value.type _) [Value.ref _]) _ _ _); refine call_tuple_tup (IsTup.at (by with_reducible assumption) fun o e => Fr.keep (by k_asm) _ o e) ?_)))
  exact trivial
theorem keep_make {h h0 : Heap} {x dx : Addr} (e3 : Ext [] h h0) (n1 : h.get? x = none) (n2 : h.get? dx = none) : ∀ b o, h.get? b = some o → (hideAll h0 [x, dx]).get? b = some o := fun b o e =>
  hideAll_get _ (e3.nil b o e) (by
    simp only [List.mem_cons, List.not_mem_nil, or_false, not_or]
    constructor <;> (rintro rfl; simp_all))
theorem ext_hide2 {h h0 h' : Heap} {x dx : Addr} (e3 : Ext [] h h0) (n1 : h.get? x = none) (n2 : h.get? dx = none) (e : ∀ b o, (hideAll h0 [x, dx]).get? b = some o → h'.get? b = some o) : Ext [] h h' := fun b o _ q => e b o (keep_make e3 n1 n2 b o q)
theorem letter_make {ft : Addr} {k : Nat} {u ms : Int} {tu tm : Tok} {o i : Value}
    (B : Bed w mg mb hB) (st : hB.StaysIn s.heap) (hr : dp < 870) (hf : FlagsAt s.heap ft k) (ho : handedIn o = true) (hi : handedIn i = true)
    (h : ∀ l h' tk, s.heap.get? l.x = none → s.heap.get? l.dx = none → l.uid = u → l.ms = ms → l.srt = k → l.ft = ft → LetterAt w h' l → Ext [] s.heap h' → Q (.ref l.x) { s with heap := h', toks := tk }) :
    wpAny (model prog w) (AT dp un fr gd) (call (.ref 301) [.int u tu, o, .ref ft, i, .int ms tm]) Q E s := by
  have hFill := fill_row
  revert hFill; k_fill; intro hFill
  refine make_at (fI := 284) (B.x.keeps st) (by k_is) (by k_is) (by k_is) fun x dx h0 fr' gd' n1 n2 e1 e2 hne e3 => ?_
  have hW : ∀ p ∈ [(x, instObj 301 dx), (dx, dictOf [] 0)], h0.get? p.1 = some p.2 ∧ hB.get? p.1 = none := by simpa using ⟨⟨e1, none_keeps st n1⟩, e2, none_keeps st n2⟩
  replace st : hB.StaysIn h0 := fun b o e => e3.nil b o (st b o e)
  have hne' := neN hne
  walk_at "enterI"
  have kg := keep_make e3 n1 n2
  rw [← hg] at kg
  obtain ⟨fts, hft⟩ := (hf.at (h' := g) (kg _)).tup
  walk_at "goall"
  rename Fr _ _ _ _ => F3
  rename News _ _ _ _ => N3
  refine ⟨rfl, h ⟨x, dx, ft, u, ms, k, o, i, _, _, _, _, _, tu, tm⟩ _ _ n1 n2 rfl rfl rfl rfl ⟨⟨(N3 _ (.head _)).1, rfl, rfl, (N3 _ (.tail _ (.head _))).1⟩, hf.at fun o e => F3.keep _ o (kg _ _ e), ho, hi⟩ fun b o _ e => F3.keep b o (kg b o e)⟩
theorem box_make {t : Tok}
    (B : Bed w mg mb hB) (st : hB.StaysIn s.heap) (hr : dp < 870)
    (h : ∀ b h' tk, s.heap.get? b.x = none → s.heap.get? b.dx = none → s.heap.get? b.lb = none → s.heap.get? b.gb = none → b.lb ≠ b.gb → b.nxt = 1 → b.top = 1 → b.ls = [] → b.gs = [] → BoxAt w h' b → Ext [] s.heap h' → Q (.ref b.x) { s with heap := h', toks := tk }) :
    wpAny (model prog w) (AT dp un fr gd) (call (.ref 339) [.str "b" t1, .int 2 t]) Q E s := by
  have hFill := fill_row
  revert hFill; k_fill; intro hFill
  refine make_at (fI := 319) (B.x.keeps st) (by k_is) (by k_is) (by k_is) fun x dx h0 fr' gd' n1 n2 e1 e2 hne e3 => ?_
  have hW : ∀ p ∈ [(x, instObj 339 dx), (dx, dictOf [] 0)], h0.get? p.1 = some p.2 ∧ hB.get? p.1 = none := by simpa using ⟨⟨e1, none_keeps st n1⟩, e2, none_keeps st n2⟩
  replace st : hB.StaysIn h0 := fun b o e => e3.nil b o (st b o e)
  have hne' := neN hne
  walk_at "enterI"
  have kg := keep_make e3 n1 n2
  rw [← hg] at kg
  walk_at "goall"
  rename Fr _ _ _ _ => F3
  rename News _ _ _ _ => N3
  have z1 := N3 _ (.head _)
  have z2 := N3 _ (.tail _ (.head _))
  have up : ∀ a, g.get? a = none → s.heap.get? a = none := fun a ha => by
    cases q : s.heap.get? a with
    | none => rfl
    | some o => rw [kg a o q] at ha; cases ha
  refine ⟨rfl, h ⟨x, dx, _, _, _, _, 1, 1, [], [], _, _, _, _, _, _, _, _, _, _, _, _⟩ _ _ n1 n2 (up _ z2.2.2) (up _ z1.2.2) (by dsimp only; (show @Ne Nat _ _); omega) rfl rfl rfl rfl ⟨⟨(N3 _ (.tail _ (.tail _ (.head _)))).1, rfl, rfl, (N3 _ (.tail _ (.tail _ (.tail _ (.head _))))).1⟩, z2.1, z1.1, (by intro l hl; cases hl), List.Pairwise.nil, (by intro l hl; cases hl), (by simp), (by simp)⟩ fun b o _ e => F3.keep b o (kg b o e)⟩
theorem off6 : True := trivial
end
/-! R1 -/
section
variable {prog : Program} {w : World} {mg mb : Str → Option Value} {dp un : Nat} {fr : Option (List Env)} {gd : Option (List Code)} {E : Value → Shared → Prop} {s : Shared} {hB : Heap} {Q : Value → Shared → Prop}

theorem sorted_one {h₀ : Heap} {L D : Addr} {m : Str → Option Value} {A : Around} {news : List (Addr × Obj)} {x : Str} {t : Tok} {n : Nat}
    (F : Fr h₀ L s.heap m) (N : News h₀ L s.heap news) (hm : (D, listOf #[.str x t] n) ∈ news)
    (h : ∀ h' D' (t' : Tok) (e : Nat), Fr h₀ L h' m → News h₀ L h' ((D', listOf #[.str x t'] e) :: news) → Q (.ref D') { s with heap := h' }) :
    wpAny (model prog w) A (call (.builtin "sorted") [.ref D]) Q E s := by
  refine sorted_N_str (vs := [.str x t]) (ss := [x]) F N ⟨_, (N _ hm).1, rfl, _, rfl⟩ (.cons _ _ .nil) (by simp) fun h' vs' ss' e F' N' hS hp _ => ?_
  have : ss' = [x] := List.perm_singleton.mp hp
  subst this
  cases hS with
  | cons _ t' r => cases r; exact h h' _ t' e F' N'
example : True := by
  k_with "call builtin:sorted" => ((fail_if_success (have := @off7)); ((k_here; (with_reducible show wpAny _ _ (call (Value.builtin _) [Value.ref _]) _ _ _); k_dflt (refine' sorted_one ?Fw26 ?Nw26 ?Uw26 ?_; (case Fw26 => k_asm); (case Nw26 => k_asm); (case Uw26 => k_mem); (intro h' D' t' e' F' N')))))
  exact trivial
example : True := by
  k_with "call ref" => ((fail_if_success (have := @off7)); ((k_here; (with_reducible show wpAny _ _ (call (Value.ref 263) _) _ _ _); k_dflt (first | (refine' flag_name_seen ?Bw27 ?stw27 ?hrw27 ?_; (case Bw27 => assumption); (case stw27 => exact Fr.keep (by k_asm)); (case hrw27 => walk_at "room"); (intro t' h' tk' he'; walk_at "after0"; clear he')) | (refine' flag_name_flagged ?Bw27 ?stw27 ?hrw27 ?_; (case Bw27 => assumption); (case stw27 => exact Fr.keep (by k_asm)); (case hrw27 => walk_at "room"); (intro t' h' tk' he'; walk_at "after0"; clear he')) | (refine' flag_name_k ?Bw27 ?stw27 ?hrw27 ?_; (case Bw27 => assumption); (case stw27 => exact Fr.keep (by k_asm)); (case hrw27 => walk_at "room"); (intro t' h' tk' he'; walk_at "after0"; clear he'))))))
  exact trivial
theorem hide_one {h g hB : Heap} {a D : Addr} (hg : g = hideAll h [a]) (e : g.get? D = none) (st : hB.StaysIn h) (b1 : hB.get? a = none) : hB.get? D = none := by
  cases q : hB.get? D with
  | none => rfl
  | some o =>
    have : D ∉ [a] := by
      intro m
      rw [List.mem_singleton] at m; rw [m, b1] at q; cases q
    rw [hg, hideAll_get _ (st _ _ q) this] at e; cases e
theorem flag_tuple_0 {a : Addr} 
    (B : Bed w mg mb hB) (st : hB.StaysIn s.heap) (hr : dp < 870) (ha : s.heap.get? a = some (tupObj [])) (b1 : hB.get? a = none)
    (h : ∀ D h' tk, hB.get? D = none → FlagsAt h' D 0 → Ext [] s.heap h' → Q (.ref D) { s with heap := h', toks := tk }) :
    wpAny (model prog w) (AT dp un fr gd) (call (.ref 270) [.ref a]) Q E s := by
  have hW : ∀ p ∈ [(a, tupObj [])], s.heap.get? p.1 = some p.2 ∧ hB.get? p.1 = none := by simpa using ⟨ha, b1⟩
  walk_at "enter"
  walk_at "goall"
  have hn := List.perm_nil.mp (by assumption : List.Perm _ [])
  subst hn
  rename IntsAre _ _ => hi
  cases hi
  rename Fr _ _ _ _ => F3
  rename News _ _ _ _ => N3
  have fa := (N3 (a, tupObj []) (by k_mem)).1
  exact h _ _ _ (hide_one hg (N3 _ (.head _)).2.2 st b1) ⟨by decide, _, _, _, (N3 _ (.head _)).1, rfl, rfl, .nil⟩ ((ext_of hg F3).drop ha fa)
theorem flag_tuple_1 {a : Addr} {t : Tok} 
    (B : Bed w mg mb hB) (st : hB.StaysIn s.heap) (hr : dp < 870) (ha : s.heap.get? a = some (tupObj [.str "\\Seen" t])) (b1 : hB.get? a = none)
    (h : ∀ D h' tk, hB.get? D = none → FlagsAt h' D 1 → Ext [] s.heap h' → Q (.ref D) { s with heap := h', toks := tk }) :
    wpAny (model prog w) (AT dp un fr gd) (call (.ref 270) [.ref a]) Q E s := by
  have hW : ∀ p ∈ [(a, tupObj [.str "\\Seen" t])], s.heap.get? p.1 = some p.2 ∧ hB.get? p.1 = none := by simpa using ⟨ha, b1⟩
  walk_at "enter"
  walk_at "goall"
  rename Fr _ _ _ _ => F3
  rename News _ _ _ _ => N3
  have fa := (N3 (a, tupObj [.str "\\Seen" t]) (by k_mem)).1
  exact h _ _ _ (hide_one hg (N3 _ (.head _)).2.2 st b1) ⟨by decide, _, _, _, (N3 _ (.head _)).1, rfl, rfl, (.cons _ _ .nil)⟩ ((ext_of hg F3).drop ha fa)
theorem flag_tuple_2 {a : Addr} {t : Tok} 
    (B : Bed w mg mb hB) (st : hB.StaysIn s.heap) (hr : dp < 870) (ha : s.heap.get? a = some (tupObj [.str "k" t])) (b1 : hB.get? a = none)
    (h : ∀ D h' tk, hB.get? D = none → FlagsAt h' D 2 → Ext [] s.heap h' → Q (.ref D) { s with heap := h', toks := tk }) :
    wpAny (model prog w) (AT dp un fr gd) (call (.ref 270) [.ref a]) Q E s := by
  have hW : ∀ p ∈ [(a, tupObj [.str "k" t])], s.heap.get? p.1 = some p.2 ∧ hB.get? p.1 = none := by simpa using ⟨ha, b1⟩
  walk_at "enter"
  walk_at "goall"
  rename Fr _ _ _ _ => F3
  rename News _ _ _ _ => N3
  have fa := (N3 (a, tupObj [.str "k" t]) (by k_mem)).1
  exact h _ _ _ (hide_one hg (N3 _ (.head _)).2.2 st b1) ⟨by decide, _, _, _, (N3 _ (.head _)).1, rfl, rfl, (.cons _ _ .nil)⟩ ((ext_of hg F3).drop ha fa)
theorem flag_tuple_3 {a : Addr} {t t2 : Tok} 
    (B : Bed w mg mb hB) (st : hB.StaysIn s.heap) (hr : dp < 870) (ha : s.heap.get? a = some (tupObj [.str "\\Flagged" t, .str "k" t2])) (b1 : hB.get? a = none)
    (h : ∀ D h' tk, hB.get? D = none → FlagsAt h' D 3 → Ext [] s.heap h' → Q (.ref D) { s with heap := h', toks := tk }) :
    wpAny (model prog w) (AT dp un fr gd) (call (.ref 270) [.ref a]) Q E s := by
  have hW : ∀ p ∈ [(a, tupObj [.str "\\Flagged" t, .str "k" t2])], s.heap.get? p.1 = some p.2 ∧ hB.get? p.1 = none := by simpa using ⟨ha, b1⟩
  walk_at "enter"
  walk_at "goall"
  rename Fr _ _ _ _ => F3
  rename News _ _ _ _ => N3
  have fa := (N3 (a, tupObj [.str "\\Flagged" t, .str "k" t2]) (by k_mem)).1
  exact h _ _ _ (hide_one hg (N3 _ (.head _)).2.2 st b1) ⟨by decide, _, _, _, (N3 _ (.head _)).1, rfl, rfl, (.cons _ _ (.cons _ _ .nil))⟩ ((ext_of hg F3).drop ha fa)
def sortVs : Nat → Tok → Tok → List Value
  | 0, _, _ => []
  | 1, t, _ => [.str "\\Seen" t]
  | 2, t, _ => [.str "k" t]
  | _, t, t2 => [.str "\\Flagged" t, .str "k" t2]
theorem flag_tuple_spec {a : Addr} {k : Nat} {t t2 : Tok}
    (B : Bed w mg mb hB) (st : hB.StaysIn s.heap) (hr : dp < 870) (hk : k < 4) (ha : s.heap.get? a = some (tupObj (sortVs k t t2))) (b1 : hB.get? a = none)
    (h : ∀ D h' tk, hB.get? D = none → FlagsAt h' D k → Ext [] s.heap h' → Q (.ref D) { s with heap := h', toks := tk }) :
    wpAny (model prog w) (AT dp un fr gd) (call (.ref 270) [.ref a]) Q E s := by
  match k, hk with
  | 0, _ => exact flag_tuple_0 B st hr ha b1 h
  | 1, _ => exact flag_tuple_1 B st hr ha b1 h
  | 2, _ => exact flag_tuple_2 B st hr ha b1 h
  | 3, _ => exact flag_tuple_3 B st hr ha b1 h
theorem off7 : True := trivial
end
example : True := by
  k_with "enterD" => (((
  (have hFill := fill_row); revert hFill; k_fill; intro hFill; clear hFill;
  refine' enterY ?Bw28 ?stw28 ?hWw28 ?how28 ?hcdw28 ?roomw28 ?bindw28 ?locw28 ?_ ?c1w28 ?c2w28 ?c3w28 ?c4w28; (case Bw28 => assumption); (case stw28 => assumption); (case hWw28 => first | assumption | exact List.forall_mem_nil _); (case how28 => k_dflt k_is); (case c1w28 => exact rfl); (case c2w28 => exact rfl); (case c3w28 => exact rfl); (case hcdw28 => k_is); (case bindw28 => exact binds_K (B.x.keeps st) rfl (by k_is) rfl rfl rfl); (case locw28 => exact locs rfl); (case c4w28 => decide); (case roomw28 => ((try dsimp only [AT, Around.deeper, Around.in1, Around.under]); simp only [recursionLimit]; omega));
  (intro g L h₁ tk₁ hg F N Bg lW; have X := Bg.x; have T := Bg.t; (try dsimp only); (try simp only [List.map_cons, List.map_nil] at hg); (simp only [List.map_cons, List.map_nil, List.zip_cons_cons, List.zip_nil_left, List.zip_nil_right, List.reverse_cons, List.reverse_nil, List.nil_append, List.cons_append] at F); (try k_lt lW)))))
  exact trivial
/-! R5 -/
section
variable {prog : Program} {w : World} {A : Around} {E : Value → Shared → Prop} {s : Shared}
theorem miss_list {a : Addr} {o : Obj} {xs : Array Value} {k : Nat} {name : Str} {Q : Option Value → Shared → Prop}
    (hx : s.heap.get? a = some o) (hc : o.cls = .type "list") (hdat : o.data = .seq xs k) (hd : o.dict = none) (hmiss : typeLookup (.type "list") name = pure none) (hname : (["__module__", "__name__", "__qualname__", "__doc__", "__annotations__"] : List Str).contains name = false) (hA : A.handled = none)
    (h : ∀ h' tk, (∀ b ob, s.heap.get? b = some ob → h'.get? b = some ob) → Q none { s with heap := h', toks := tk }) (hsz : name.length + 100 ≤ sizeLine := by size_fits) :
    wpAny (model prog w) A (getAttr? (.ref a) name) Q E s := by
  obtain ⟨c, dct, dat, sl⟩ := o
  simp only at hc hdat hd
  subst hc hdat hd
  obtain ⟨hp, g, d, tk, os⟩ := s
  have hT : ∀ tk', (⟨hp, g, d, tk', os⟩ : Shared).TypeIs (.ref a) "list" := fun _ => ⟨_, hx, rfl⟩
  have f1 := sub_AttributeError
  have f3 := F.slot_list_getattribute.lookup
  have f4 := F.slot_list_getattribute.bind (.ref a)
  have f5 := am_list_getattr_none
  unfold getAttr? getAttrBy? getAttrBy
  repeat (any_goals (first | assumption | exact hT _ | refine wpAny_attempt ?_ | ((with_reducible show wpAny _ _ (call (Value.builtin "list.__getattribute__") _ _) _ _ _); refine call_meets F.slot_list_getattribute (hT _) am_entry_list_getattribute (F.args_list_getattribute_2 _ _) (meets_getattribute_miss_list a xs k sl name _ hmiss hname hsz) ⟨hx, hA, fun h' tk' e hx' => ?_⟩) | wp_step))
  obtain ⟨t', u', he⟩ := hx'.there
  show wpAny _ _ (getattributeRaised _ _ _ _ _ _ _) _ _ _
  unfold getattributeRaised
  have hT2 : ∀ tk'', (⟨h', g, d, tk'', os⟩ : Shared).TypeIs (.ref e) "AttributeError" := fun _ => ⟨_, he, rfl⟩
  repeat (any_goals (first | assumption | exact hT2 _ | wp_step))
  exact h _ _ hx'.keeps

theorem entry_dict_loop : entryFor table "dict.update.loop" = some Builtin.«dict.update.loop» := entryFor_of_tree (by kernel_rfl)
theorem plain_dict_loop : plainId "dict.update.loop" = true := by decide +kernel
theorem typ_ne (a b : String) (h : a ≠ b) : (Value.type a == Value.type b) = false := by
  rw [beq_eq_false_iff_ne]; intro e; injection e with e; exact h e
def PairIn (h : Heap) (D I : Addr) (v : Value) (kv : Int × Value) : Prop := ∃ T t, v = .ref T ∧ T ≠ D ∧ T ≠ I ∧ h.get? T = some (tupObj [.int kv.1 t, kv.2])
theorem stored_new {kvs : List (Int × Value)} {k : Int} {v : Value} (h : k ∉ kvs.map (·.1)) : stored kvs k v = kvs ++ [(k, v)] := by
  unfold stored
  rw [if_neg]
  intro hc
  rw [List.any_eq_true] at hc
  obtain ⟨x, hx, e⟩ := hc
  exact h (List.mem_map.mpr ⟨x, hx, of_decide_eq_true e⟩)
theorem paired_get {α β : Type} {F : α → β → Prop} : ∀ {xs : List α} {ys : List β} {i : Nat} {x : α} {y : β}, Paired F xs ys → xs[i]? = some x → ys[i]? = some y → F x y
  | _, _, 0, _, _, .cons a _, h1, h2 => by cases h1; cases h2; exact a
  | _, _, i + 1, _, _, .cons _ r, h1, h2 => paired_get r h1 h2
theorem dict_loop {R : Result → Shared → Prop} {I l D : Addr} {its : List Value} {kvs : List (Int × Value)} {result : Value} (hh : A.handled = none) (hne : l ≠ I) (hDI : D ≠ I) (hDl : D ≠ l) (hnd : (kvs.map (·.1)).Nodup) (hlen : its.length ≤ 1000) :
    ∀ (k i : Nat) (t : Tok) (s : Shared), its.length - i = k → i ≤ its.length → s.heap.IsListIter I l i → s.heap.IsList l its.toArray → s.heap.DictOf (PySem.intKind prog w) D (kvs.take i) → Paired (PairIn s.heap D I) its kvs →
      (∀ h' tk, h'.DictOf (PySem.intKind prog w) D kvs → (∀ b o, b ≠ D → b ≠ I → s.heap.get? b = some o → h'.get? b = some o) → R (.ok (.ret result)) { s with heap := h', toks := tk }) →
      codeAny (model prog w) A (.builtin "dict.update.loop" ⟨[.ref D, .ref I, .int i t, result], []⟩) R s := by
  have W := Walks.list (prog := prog) (w := w) (A := A.in1) hh I l hne its.toArray
  simp only [List.size_toArray, List.getElem?_toArray] at W
  intro k
  induction k with
  | zero =>
    intro i t s hk hi hI hL hD hP hR
    have hin : i = its.length := by omega
    subst hin
    refine codeAny_builtin entry_dict_loop ?_
    rw [Around.under_plainId plain_dict_loop _]
    show wpAny _ A.in1 (pyNext (.ref I) >>= _) _ _ s
    refine wpAny_bind (W.done s _ _ ⟨hI, hL⟩ fun h' tk hk' => ?_)
    have e1 : kvs.take its.length = kvs := List.take_of_length_le (by rw [hP.length]; exact Nat.le_refl _)
    rw [e1] at hD
    show wpAny _ _ (Builtin.Dict.addKeywords D [] >>= _) _ _ _
    exact wpAny_bind (wpAny_pure (wpAny_pure (hR h' tk (dict_keeps hD fun o e => hk' D o (by simpa using hDI) e) fun b o h1 h2 e => hk' b o (by simpa using h2) e)))
  | succ k ih =>
    intro i t s hk hi hI hL hD hP hR
    have hlt : i < its.length := by omega
    refine codeAny_builtin entry_dict_loop ?_
    rw [Around.under_plainId plain_dict_loop _]
    show wpAny _ A.in1 (pyNext (.ref I) >>= _) _ _ s
    refine wpAny_bind (W.item i s _ _ hlt ⟨hI, hL⟩ fun v h' tk hv hst hk' => ?_)
    have hlt2 : i < kvs.length := by rw [← hP.length]; exact hlt
    have hkv : kvs[i]? = some kvs[i] := List.getElem?_eq_getElem hlt2
    obtain ⟨T, u, rfl, n1, n2, hT⟩ : PairIn s.heap D I v kvs[i] := paired_get hP hv hkv
    have hT' : h'.get? T = some (tupObj [.int kvs[i].1 u, kvs[i].2]) := hk' T _ (by simpa using n2) hT
    have hD' := dict_keeps hD fun o e => hk' D o (by simpa using hDI) e
    refine wpAny_bind (wpAny_holding ?_)
    refine wpAny_bind (wpAny_tryCatch ?_)
    unfold Builtin.Dict.pairItems
    refine wpAny_bind (wpAny_typeOf (T := "tuple") ⟨_, hT', rfl⟩ ?_)
    rw [if_pos (by decide)]
    refine wpAny_bind (wpAny_seqItems hT' rfl ?_)
    refine wpAny_pure ?_
    show wpAny _ _ (holding _ (dictSet D _ _)) _ _ _
    refine wpAny_holding (wpAny_dictSet_pairs (intKind_is _ _ _ _) hD' (fun h'' hd hs => ?_) (by rw [sizeLine_eq]; have := List.length_take_le i kvs; omega))
    have e2 : stored (kvs.take i) kvs[i].1 kvs[i].2 = kvs.take (i + 1) := by
      rw [stored_new, List.take_add_one, hkv]
      · rfl
      · intro hm
        obtain ⟨x, hx, e⟩ := List.mem_map.mp hm
        obtain ⟨j, hj, rfl⟩ := List.getElem_of_mem hx
        rw [List.getElem_take] at e
        have hj' : j < i := by simp at hj; omega
        have := (List.nodup_iff_pairwise_ne.mp hnd)
        rw [List.pairwise_map] at this
        exact List.pairwise_iff_getElem.mp this j i (by omega) hlt2 hj' e
    rw [e2] at hd
    have k2 : ∀ b o, b ≠ D → b ≠ I → s.heap.get? b = some o → h''.get? b = some o := fun b o h1 h2 e => hs.extBut b o h1 (hk' b o (by simpa using h2) e)
    refine wpAny_pure ⟨plainId_quiet plain_dict_loop _, ih (i + 1) 0 _ (by omega) hlt (hst.1.at fun o e => hs.extBut I o hDI.symm e) (hst.2.at fun o e => hs.extBut l o hDl.symm e) hd ?_ fun h3 tk3 hd3 hk3 => ?_⟩
    · exact hP.mono fun _ _ ⟨T, t, e, a, b, c⟩ => ⟨T, t, e, a, b, k2 _ _ a b c⟩
    · exact hR h3 tk3 hd3 fun b o h1 h2 e => hk3 b o h1 h2 (k2 b o h1 h2 e)

theorem dict_pairs {l : Addr} {n : Nat} {its : List Value} {kvs : List (Int × Value)} {Q : Value → Shared → Prop} (hh : A.handled = none) (hbig : s.heap.NoLimit) (hl : s.heap.get? l = some (listOf its.toArray n)) (hnd : (kvs.map (·.1)).Nodup) (hlen : its.length ≤ 1000)
    (hP : Paired (fun v kv => ∃ T t, v = .ref T ∧ s.heap.get? T = some (tupObj [.int kv.1 t, kv.2])) its kvs)
    (h : ∀ D h' tk, s.heap.get? D = none → (D == sysModules) = false → h'.DictOf (PySem.intKind prog w) D kvs → Ext [] s.heap h' → Q (.ref D) { s with heap := h', toks := tk }) :
    wpAny (model prog w) A (call (.type "dict") [.ref l]) Q E s := by
  have fresh : s.heap.get? s.heap.objs.size = none := by
    cases e : s.heap.get? s.heap.objs.size with
    | none => rfl
    | some o' => exact absurd (Heap.lt_size e) (Nat.lt_irrefl _)
  refine callType_codes (Q₁ := fun obj s₁ => obj = .ref s.heap.objs.size ∧ s₁ = { s with heap := s.heap.push { cls := .type "dict", data := .dict #[] } }) F.kt_called_dict (F.kt_typeCall_dict_1 _) F.entry_dict_init (kt_code_dict_new _ ⟨rfl, rfl⟩) ?_
  rintro obj s₁ ⟨rfl, rfl⟩
  have hnew : (s.heap.push { cls := .type "dict", data := .dict #[] }).DictOf (PySem.intKind prog w) s.heap.objs.size [] := Heap.DictOf.new s.heap
  generalize hH : s.heap.push { cls := .type "dict", data := .dict #[] } = H at hnew
  have up : ∀ b o, s.heap.get? b = some o → H.get? b = some o := fun b o e => hH ▸ Heap.get?_push_of_some _ e
  have hlH := up _ _ hl
  refine ⟨hnew.typeIs, F.args_dict_init_2 _ _, ?_⟩
  unfold Builtin.«dict.__init__»
  refine wpAny_bind ?_
  unfold Builtin.Dict.selfAndRest
  refine wpAny_bind (wpAny_notOrdered_dict hnew.typeIs ?_)
  show wpAny _ _ (pure (s.heap.objs.size, [Value.ref l])) _ _ _
  refine wpAny_pure ?_
  show wpAny _ _ (Builtin.Dict.updateFrom "dict.__init__" s.heap.objs.size (.ref l) [] .none) _ _ _
  unfold Builtin.Dict.updateFrom
  refine wpAny_bind (wpAny_typeOf (T := "list") ⟨_, hlH, rfl⟩ ?_)
  rw [if_pos (by decide)]
  refine wpAny_bind (miss_list hlH rfl rfl rfl (am_miss_of_fast (by kernel_rfl)) (by decide) hh fun h2 tk2 k2 => ?_)
  simp only [Option.isNone_none, if_true]
  refine wpAny_bind (wpAny_rule ?_)
  have hl2 := k2 _ _ hlH
  refine wpAny_bind (wpAny_pyIter_list (l := l) (items := its.toArray) ⟨_, hl2, rfl, _, rfl⟩ ?_)
  have hlt : s.heap.objs.size < h2.objs.size := by
    obtain ⟨o, ho, _⟩ := Heap.dictOf_iff.mp hnew
    exact Heap.lt_size (k2 _ _ ho)
  have hlt2 : l < h2.objs.size := Heap.lt_size hl2
  have nl : s.heap.objs.size ≠ l := fun e => by rw [← e, fresh] at hl; cases hl
  have nT : ∀ T o, s.heap.get? T = some o → T ≠ s.heap.objs.size ∧ T ≠ h2.objs.size := by
    intro T o e
    constructor
    · intro q
      rw [q, fresh] at e; cases e
    · exact Nat.ne_of_lt (Heap.lt_size (k2 _ _ (up _ _ e)))
  refine wpAny_pure ⟨plainId_quiet plain_dict_loop _, ?_⟩
  refine dict_loop (A := A.in1) (I := h2.objs.size) (l := l) (its := its) (kvs := kvs) hh (Nat.ne_of_lt hlt2) (Nat.ne_of_lt hlt) nl hnd hlen its.length 0 0 _ rfl (Nat.zero_le _) ?_ ?_ ?_ ?_ fun h3 tk3 hd3 k3 => ?_
  · exact ⟨_, Heap.get?_push_size _ rfl, rfl, rfl⟩
  · exact ⟨listOf its.toArray n, Heap.get?_push_of_some _ hl2, rfl, _, rfl⟩
  · exact dict_keeps hnew fun o e => Heap.get?_push_of_some _ (k2 _ _ e)
  · exact hP.mono fun _ _ ⟨T, t, e, x⟩ => ⟨T, t, e, (nT _ _ x).1, (nT _ _ x).2, Heap.get?_push_of_some _ (k2 _ _ (up _ _ x))⟩
  · refine ⟨rfl, h _ h3 tk3 fresh (by have := modules_low hbig; rw [beq_eq_false_iff_ne]; exact Nat.ne_of_gt this) hd3 fun b o _ e => ?_⟩
    exact k3 b o (nT _ _ e).1 (nT _ _ e).2 (Heap.get?_push_of_some _ (k2 _ _ (up _ _ e)))
end
/-! R2 -/
section
variable {prog : Program} {w : World} {mg mb : Str → Option Value} {dp un : Nat} {fr : Option (List Env)} {gd : Option (List Code)} {E : Value → Shared → Prop} {s : Shared} {hB : Heap} {Q : Value → Shared → Prop}
def SortsAt (h₀ h : Heap) (D : Addr) : Prop := h₀.get? D = none ∧ ∃ its n, h.get? D = some (listOf its n) ∧ its.size = 4 ∧ ∀ k, k < 4 → ∃ a t t2, its[k]? = some (.ref a) ∧ h.get? a = some (tupObj (sortVs k t t2)) ∧ h₀.get? a = none
theorem law_sorts_spec
    (B : Bed w mg mb hB) (st : hB.StaysIn s.heap) (hr : dp < 890)
    (h : ∀ D h' tk, SortsAt s.heap h' D → Ext [] s.heap h' → Q (.ref D) { s with heap := h', toks := tk }) :
    wpAny (model prog w) (AT dp un fr gd) (call (.ref 395) []) Q E s := by
  have hW : ∀ p ∈ ([] : List (Addr × Obj)), s.heap.get? p.1 = some p.2 ∧ hB.get? p.1 = none := List.forall_mem_nil _
  walk_at "enter"
  walk_at "goall"
  rename Fr _ _ _ _ => F3
  rename News _ _ _ _ => N3
  have e5 := ext_of hg F3
  have z0 := N3 _ (.head _)
  have z1 := N3 _ (.tail _ (.head _))
  have z2 := N3 _ (.tail _ (.tail _ (.head _)))
  have z3 := N3 _ (.tail _ (.tail _ (.tail _ (.head _))))
  have z4 := N3 _ (.tail _ (.tail _ (.tail _ (.tail _ (.head _)))))
  have up : ∀ a, g.get? a = none → s.heap.get? a = none := fun a ha => by rw [hg] at ha; exact ha
  refine h _ _ _ ⟨up _ z0.2.2, _, _, z0.1, rfl, fun k hk => ?_⟩ e5
  match k, hk with
  | 0, _ => exact ⟨_, 0, 0, rfl, z4.1, up _ z4.2.2⟩
  | 1, _ => exact ⟨_, _, 0, rfl, z3.1, up _ z3.2.2⟩
  | 2, _ => exact ⟨_, _, 0, rfl, z2.1, up _ z2.2.2⟩
  | 3, _ => exact ⟨_, _, _, rfl, z1.1, up _ z1.2.2⟩
end
/-! R4 -/
section
variable {prog : Program} {w : World} {mg mb : Str → Option Value} {dp un : Nat} {fr : Option (List Env)} {gd : Option (List Code)} {E : Value → Shared → Prop} {s : Shared} {hB : Heap} {Q : Value → Shared → Prop}
theorem fresh_size {h : Heap} : h.get? h.objs.size = none := by
  cases e : h.get? h.objs.size with
  | none => rfl
  | some o' => exact absurd (Heap.lt_size e) (Nat.lt_irrefl _)
theorem new_tup {A : Around} {g : Heap} {L : Addr} {m : Str → Option Value} {its : List Value} (F : Fr g L s.heap m) (hz : its.length ≤ 1000)
    (h : ∀ D h', s.heap.get? D = none → (∀ b o, s.heap.get? b = some o → h'.get? b = some o) → h'.get? D = some (tupObj its) → Fr g L h' m → Q (.ref D) { s with heap := h' }) :
    wpAny (model prog w) A (newTuple its) Q E s :=
  wpAny_newTuple (h _ _ fresh_size (fun _ _ e => Heap.get?_push_of_some _ e) (Heap.get?_push_size _ rfl) (F.push _)) (by rw [sizeLine_eq]; first | omega | (simp; omega))
theorem NoLimit_of {w : World} {mg mb : Str → Option Value} {g h : Heap} {L : Addr} {m : Str → Option Value} (Bg : Bed w mg mb g) (F : Fr g L h m) : h.NoLimit := Bg.t.nolimit.keeps F.keep
theorem pairs_of {h1 : Heap} {ls : List Lt} {f : Lt → Value} {ys : List Value} {P : Addr → Prop} (hinj : ∀ l ∈ ls, ∀ l' ∈ ls, l.x = l'.x → l.uid = l'.uid ∧ f l = f l')
    (hP : Paired (fun v y => ∃ foot, RelB (fun v its => ∃ l ∈ ls, v = .ref l.x ∧ ∃ t, its = [.int l.uid t, f l]) h1 v y foot ∧ ∀ b ∈ foot, P b) ((ls.map fun l => Value.ref l.x).filter fun _ => true) ys) :
    Paired (fun y (kv : Int × Value) => ∃ T t, y = .ref T ∧ h1.get? T = some (tupObj [.int kv.1 t, kv.2])) ys (ls.map fun l => (l.uid, f l)) := by
  rw [filt] at hP
  have h2 := paired_mono (paired_map hP) (G := fun l y => ∃ T t, y = .ref T ∧ h1.get? T = some (tupObj [.int l.uid t, f l])) fun l hl y ⟨foot, ⟨T, its, e1, _, e2, l', hl', e3, t, e4⟩, _⟩ => by
    obtain ⟨q1, q2⟩ := hinj l hl l' hl' (Value.ref.inj e3)
    refine ⟨T, t, e1, ?_⟩
    rw [e2, e4, q1, q2]
  clear hP hinj
  generalize ls = ls' at h2
  induction h2 with
  | nil => exact .nil
  | cons a _ ih => exact .cons a ih
def flOf (ls : List Lt) : Int → Option Nat := fun u => (ls.find? fun l => decide (l.uid = u)).map (·.srt)
def msOf (ls : List Lt) : Int → Option Int := fun u => (ls.find? fun l => decide (l.uid = u)).map (·.ms)
theorem flOf_kv {h : Heap} : ∀ {ls : List Lt}, (∀ l ∈ ls, FlagsAt h l.ft l.srt) → FlagKv h (ls.map fun l => (l.uid, Value.ref l.ft)) (flOf ls)
  | [], _ => fun u => rfl
  | l :: r, hl => fun u => by
    have ih := flOf_kv (ls := r) (fun l m => hl l (.tail _ m)) u
    rw [List.map_cons, valueAt_cons]
    unfold flOf at ih ⊢
    rw [List.find?_cons]
    by_cases e : l.uid = u
    · simp only [e, decide_true, if_true, Option.map_some]
      exact ⟨_, rfl, hl l (.head _)⟩
    · simp only [e, decide_false, if_false]
      exact ih
theorem msOf_kv : ∀ {ls : List Lt}, MsKv (ls.map fun l => (l.uid, Value.int l.ms l.tm)) (msOf ls)
  | [] => fun u => rfl
  | l :: r => fun u => by
    have ih := msOf_kv (ls := r) u
    rw [List.map_cons, valueAt_cons]
    unfold msOf at ih ⊢
    rw [List.find?_cons]
    by_cases e : l.uid = u
    · simp only [e, decide_true, if_true, Option.map_some]
      exact ⟨_, rfl⟩
    · simp only [e, decide_false, if_false]
      exact ih
theorem find_dom {α : Type} {ls : List Lt} {f : Lt → α} {u : Int} : ((ls.find? fun l => decide (l.uid = u)).map f).isSome = true ↔ u ∈ uidsOf ls := by
  rw [Option.isSome_map, List.find?_isSome]
  simp [uidsOf]
theorem sorted_nodup {us : List Int} (h : Sorted us) : us.Nodup := List.Pairwise.imp (fun h => Int.ne_of_lt h) h
example : True := by
  k_with "call ref" => ((fail_if_success (have := @off8)); ((k_here; (with_reducible show wpAny _ _ (call (Value.ref 331) _) _ _ _); k_dflt (refine' box_uids_spec ?Bw29 ?stw29 ?hrw29 ?hbw29 ?_; (case Bw29 => assumption); (case stw29 => exact Fr.keep (by k_asm)); (case hrw29 => walk_at "room"); (case hbw29 => exact BoxAt.keeps (by with_reducible assumption) (Fr.keep (by k_asm))); (intro D' h' tk' n' ys' hD' hO' hI' he'; walk_at "afterD")))))
  exact trivial
example : True := by
  k_with "newTuple" => ((fail_if_success (have := @off8)); ((k_here; k_dflt (refine' new_tup ?Fw30 ?zw30 ?_; (case Fw30 => k_asm); (case zw30 => simp)); (intro D' h' hD' hk' hO' F'))))
  exact trivial
example : True := by
  k_with "call type:dict" => ((fail_if_success (have := @off8)); ((k_here; (with_reducible show wpAny _ _ (call (Value.type "dict") [Value.ref D1]) _ _ _); k_dflt (refine' dict_pairs rfl (NoLimit_of Bg (by k_asm)) hys1 ?ndw31 ?lnw31 hPP ?_; (case ndw31 => exact hnd); (case lnw31 => rw [hPP.length]; exact hlen1)); (intro D' h' tk' hD' lo' hO2 he'; (obtain ⟨oD', hO', hDo'⟩ := Heap.dictOf_iff.mp hO2); walk_at "afterD"))))
  exact trivial
theorem foot_new {h₀ h2 : Heap} {C D' : Addr} {s₃ : Shared} {m : Str → Option Value} (F2 : Fr h₀ C h2 m) (k2 : ∀ b o, b ≠ C → s₃.heap.get? b = some o → h2.get? b = some o) (hD' : h2.get? D' = none) : ∀ b ∈ [D'], s₃.heap.get? b = none := by
  intro b hb
  rw [List.mem_singleton] at hb; subst hb
  cases q : s₃.heap.get? b with
  | none => rfl
  | some o =>
    have hne : b ≠ C := by
      rintro rfl
      obtain ⟨o', _, _, ho', _⟩ := F2.ns
      rw [ho'] at hD'; cases hD'
    rw [k2 b o hne q] at hD'; cases hD'
theorem view_make {b : Bx} {u va : Bool}
    (B : Bed w mg mb hB) (st : hB.StaysIn s.heap) (hr : dp < 870) (hb : BoxAt w s.heap b)
    (h : ∀ (v : Vw) h' tk, (∀ a ∈ [v.x, v.dx, v.ul, v.fv, v.mv], s.heap.get? a = none) → v.bx = b.x → v.uses = u → v.van = va → v.us = uidsOf b.ls → v.fl = flOf b.ls → v.ms = msOf b.ls → ViewAt prog w h' v → Ext [] s.heap h' → Q (.ref v.x) { s with heap := h', toks := tk }) :
    wpAny (model prog w) (AT dp un fr gd) (call (.ref 124) [.ref b.x, .bool false, .bool u, .bool va]) Q E s := by
  have hFill := fill_row
  revert hFill; k_fill; intro hFill
  refine make_at (fI := 90) (B.x.keeps st) (by k_is) (by k_is) (by k_is) fun x dx h0 fr' gd' n1 n2 e1 e2 hne e3 => ?_
  have hW : ∀ p ∈ [(x, instObj 124 dx), (dx, dictOf [] 0)], h0.get? p.1 = some p.2 ∧ hB.get? p.1 = none := by simpa using ⟨⟨e1, none_keeps st n1⟩, e2, none_keeps st n2⟩
  replace st : hB.StaysIn h0 := fun b o e => e3.nil b o (st b o e)
  have hne' := neN hne
  walk_at "enterD"
  have kg := keep_make e3 n1 n2
  rw [← hg] at kg
  replace hb : BoxAt w g b := hb.keeps kg
  have hI := hb.inst
  walk_at "go"
  refine comp_list (cl := []) (fun _ => true) (RelB fun v its => ∃ l ∈ b.ls, v = .ref l.x ∧ ∃ t, its = [.int l.uid t, .ref l.ft]) rfl rfl (by decide) rfl (by decide) relB_stable ?_
  walk_at "go"
  refine ⟨b.lb, b.ls.map (fun l => .ref l.x), rfl, hb.isList.at fun o e => Fr.keep (by assumption) _ o e, by have := hb.len; simp; omega, fun C v s₃ m₃ hv FC => ?_, fun D1 h1 tk1 n1 ys1 hD1 hys1 hP1 hk1 => ?_⟩
  · obtain ⟨l, hl, rfl⟩ := List.mem_map.mp hv
    rename Fr g _ _ _ => F1
    have hI1 := inst_keeps (hb.lets l hl).inst F1.keep
    refine cassign FC (fun h2 F2 k2 => ctest0 ?_) rfl rfl
    rw [if_pos rfl]
    have X1 := X.keeps F1.keep
    walk_at "go"
    refine ⟨rfl, CompStep.of F' fun b o h1 e => hk' b o (k2 b o h1 e), [D'], ⟨D', _, rfl, rfl, hO', l, hl, rfl, _, rfl⟩, ?_⟩
    exact foot_new F2 k2 hD'
  have hPP := pairs_of (f := fun l => Value.ref l.ft) (fun l hl l' hl' e => (by
    obtain ⟨z1, z2, z3, z4, _⟩ := letter_inj (hb.lets l hl) (hb.lets l' hl') e
    exact ⟨z1, by rw [z3]⟩)) hP1
  rename Fr _ _ _ _ => F0
  rename News _ _ _ _ => N0
  have F1 := Ext.fr (.of_keeps hk1) F0 (List.forall_mem_nil _) List.not_mem_nil
  have N1 := Ext.news (.of_keeps hk1) N0 (fun _ _ => List.not_mem_nil)
  clear F0 N0
  dsimp only
  have hnd : ((b.ls.map fun l => (l.uid, Value.ref l.ft)).map (·.1)).Nodup := by
    rw [List.map_map]; exact sorted_nodup hb.sorted
  have hlen1 : (b.ls.map fun l => (l.uid, Value.ref l.ft)).length ≤ 1000 := by rw [List.length_map]; have := hb.len; omega
  walk_at "go"
  refine comp_list (cl := []) (fun _ => true) (RelB fun v its => ∃ l ∈ b.ls, v = .ref l.x ∧ ∃ t, its = [.int l.uid t, .int l.ms l.tm]) rfl rfl (by decide) rfl (by decide) relB_stable ?_
  walk_at "go"
  refine ⟨b.lb, b.ls.map (fun l => .ref l.x), rfl, hb.isList.at fun o e => Fr.keep (by assumption) _ o e, by have := hb.len; simp; omega, fun C v s₃ m₃ hv FC => ?_, fun D1 h1 tk1 n1 ys1 hD1 hys1 hP1 hk1 => ?_⟩
  · obtain ⟨l, hl, rfl⟩ := List.mem_map.mp hv
    rename Fr g _ _ _ => F1
    have hI1 := inst_keeps (hb.lets l hl).inst F1.keep
    refine cassign FC (fun h2 F2 k2 => ctest0 ?_) rfl rfl
    rw [if_pos rfl]
    have X1 := X.keeps F1.keep
    walk_at "go"
    refine ⟨rfl, CompStep.of F' fun b o h1 e => hk' b o (k2 b o h1 e), [D'], ⟨D', _, rfl, rfl, hO', l, hl, rfl, _, rfl⟩, ?_⟩
    exact foot_new F2 k2 hD'
  have hPP := pairs_of (f := fun l => Value.int l.ms l.tm) (fun l hl l' hl' e => (by
    obtain ⟨z1, z2, z3, z4, _⟩ := letter_inj (hb.lets l hl) (hb.lets l' hl') e
    exact ⟨z1, by rw [z2, z4]⟩)) hP1
  rename Fr _ _ _ _ => F0
  rename News _ _ _ _ => N0
  have F1 := Ext.fr (.of_keeps hk1) F0 (List.forall_mem_nil _) List.not_mem_nil
  have N1 := Ext.news (.of_keeps hk1) N0 (fun _ _ => List.not_mem_nil)
  clear F0 N0
  dsimp only
  have hnd : ((b.ls.map fun l => (l.uid, Value.int l.ms l.tm)).map (·.1)).Nodup := by
    rw [List.map_map]; exact sorted_nodup hb.sorted
  have hlen1 : (b.ls.map fun l => (l.uid, Value.int l.ms l.tm)).length ≤ 1000 := by rw [List.length_map]; have := hb.len; omega
  walk_at "go"
  rename Obj.IsDictOf _ _ _ => dM
  revert dM
  rename Obj.IsDictOf _ _ _ => dF
  intro dM
  rename Fr _ _ _ _ => F3
  rename News _ _ _ _ => N3
  have z1 := N3 _ (.head _)
  have z2 := N3 _ (.tail _ (.head _))
  have z3 := N3 _ (.tail _ (.tail _ (.head _)))
  have up : ∀ a, g.get? a = none → s.heap.get? a = none := fun a ha => none_keeps kg ha
  rename (_ == sysModules) = false => loM
  revert loM
  rename (_ == sysModules) = false => loF
  intro loM
  have kl : ∀ l ∈ b.ls, FlagsAt _ l.ft l.srt := fun l hl => ((hb.lets l hl).keeps F3.keep).fl
  refine ⟨rfl, h ⟨x, dx, _, _, _, b.x, _, u, va, uidsOf b.ls, _, flOf b.ls, msOf b.ls, _, _, _, _, _, _, _⟩ _ _ ?_ rfl rfl rfl rfl rfl rfl ⟨⟨(N3 _ (.tail _ (.tail _ (.tail _ (.head _))))).1, rfl, rfl, (N3 _ (.tail _ (.tail _ (.tail _ (.tail _ (.head _)))))).1⟩, z3.1, hI', ⟨_, Heap.dictOf_iff.mpr ⟨_, z2.1, dF⟩, flOf_kv kl⟩, ⟨_, Heap.dictOf_iff.mpr ⟨_, z1.1, dM⟩, msOf_kv⟩, fun u => find_dom, fun u => find_dom, hb.sorted, ?_, ?_, ?_, loF⟩ fun b o _ e => F3.keep b o (kg b o e)⟩
  · intro a ha
    simp only [List.mem_cons, List.not_mem_nil, or_false] at ha
    rcases ha with rfl | rfl | rfl | rfl | rfl
    · exact n1
    · exact n2
    · exact up _ z3.2.2
    · exact up _ z2.2.2
    · exact up _ z1.2.2
  · intro u hu
    obtain ⟨l, hl, rfl⟩ := List.mem_map.mp hu
    exact (hb.pos l hl).1
  · rw [uids_len]; exact hb.len
  · dsimp only; (show @Ne Nat _ _); omega
theorem off8 : True := trivial
end
/-! R6 -/
section
theorem news_turn {g h h' : Heap} {L D : Addr} {o o' : Obj} {news : List (Addr × Obj)} {ng : Obj → List (Addr × Obj)} (N : News g L h news) (U : UpdF D o news ng) (e : Ext [D] h h') (ho : h'.get? D = some o') : News g L h' (ng o') := by
  obtain ⟨pre, post, e1, e2, a, b⟩ := U.split
  rw [e1] at N
  rw [e2]
  have z := N (D, o) (List.mem_append.mpr (.inr (.head _)))
  intro p hp
  rcases List.mem_append.mp hp with hp | hp
  · have := N p (List.mem_append_left _ hp)
    exact ⟨e _ _ (by simpa using a p hp) this.1, this.2⟩
  · rcases List.mem_cons.mp hp with rfl | hp
    · exact ⟨ho, z.2⟩
    · have := N p (List.mem_append.mpr (.inr (.tail _ hp)))
      exact ⟨e _ _ (by simpa using b p hp) this.1, this.2⟩
theorem fr_turn {g h h' : Heap} {L D : Addr} {m : Str → Option Value} {o : Obj} {news : List (Addr × Obj)} {ng : Obj → List (Addr × Obj)} (F : Fr g L h m) (N : News g L h news) (U : UpdF D o news ng) (e : Ext [D] h h') : Fr g L h' m := by
  obtain ⟨pre, post, e1, e2, a, b⟩ := U.split
  rw [e1] at N
  have z := N (D, o) (List.mem_append.mpr (.inr (.head _)))
  exact e.fr F (by simpa using z.2.2) (by simpa using z.2.1.symm)
theorem flags_neL {g h : Heap} {L D : Addr} {m : Str → Option Value} {k : Nat} (F : Fr g L h m) (x : FlagsAt h D k) : D ≠ L := by
  rintro rfl
  obtain ⟨_, o, n, vs, e1, e2, e3, _⟩ := x
  obtain ⟨o', es, ep, ho', hd, _⟩ := F.ns
  rw [e1] at ho'; cases ho'
  rw [hd] at e3; cases e3
theorem hide_new {h g : Heap} {D : Addr} {W : List Addr} (hg : g = hideAll h W) (e : g.get? D = none) (n : D ∉ W) : h.get? D = none := by
  subst hg
  cases q : h.get? D with
  | none => rfl
  | some o => rw [hideAll_get _ q n] at e; cases e
theorem fl_new' {h h' : Heap} {D : Addr} {o : Obj} {k : Nat} (x : FlagsAt h D k) (e : h.get? D = some o) (e' : h'.get? D = some o) : FlagsAt h' D k := x.at fun o2 e2 => by rw [e] at e2; cases e2; exact e'
theorem flags_off {h : Heap} {D a : Addr} {k : Nat} {o : Obj} (x : FlagsAt h D k) (e : h.get? a = some o) (hc : o.cls ≠ .type "tuple") : @Ne Nat D a := by
  rintro rfl
  obtain ⟨_, o', n, vs, e1, e2, e3, _⟩ := x
  rw [e1] at e; cases e; exact hc e2
theorem flags_new {h h' : Heap} {D : Addr} {o : Obj} {k : Nat} (x : FlagsAt h D k) (e : h.get? D = some o) (e' : h'.get? D = some o) : FlagsAt h' D k := x.at fun o2 e2 => by rw [e] at e2; cases e2; exact e'
end
section
variable {prog : Program} {w : World} {mg mb : Str → Option Value} {dp un : Nat} {fr : Option (List Env)} {gd : Option (List Code)} {E : Value → Shared → Prop} {s : Shared} {hB : Heap} {Q : Value → Shared → Prop}
example : True := by
  k_with "call ref" => ((fail_if_success (have := @off9)); ((k_here; (with_reducible show wpAny _ _ (call (Value.ref 270) _) _ _ _); k_dflt (refine' flag_tuple_spec ?Bw32 ?stw32 ?hrw32 ?hkw32 ?haw32 ?b1w32 ?_; (case Bw32 => assumption); (case stw32 => exact Fr.keep (by k_asm)); (case hrw32 => walk_at "room"); (case hkw32 => assumption); (case haw32 => exact (News.get (by k_asm) (by k_mem))); (case b1w32 => exact gA); (intro D' h' tk' gD' hfl' he'; (obtain ⟨oft, hO'⟩ : ∃ o, h'.get? D' = some o := let ⟨_, o, _, _, z, _⟩ := hfl'; ⟨o, z⟩); have F' := Ext.fr he' (by k_asm) (List.forall_mem_nil _) List.not_mem_nil; have neL' := flags_neL F' hfl'; have N0' := Ext.news he' (by k_asm) (fun _ _ => List.not_mem_nil); have neA' := flags_off hfl' (N0' (b.x, instObj 339 b.dx) (by k_mem)).1 (by simp); have neB' := flags_off hfl' (N0' (b.dx, dictOf (boxEs w b) 7) (by k_mem)).1 (by simp); have neC' := flags_off hfl' (N0' (b.lb, listOf (refsOf b.ls) b.ln) (by k_mem)).1 (by simp); have N' := news_add (m := fun _ => none) N0' hO' gD' neL'; clear N0' he')))))
  exact trivial
theorem raised_in {b : Bx} {g : Heap} {L : Addr} {m : Str → Option Value} {news : List (Addr × Obj)} {ng : Obj → List (Addr × Obj)} (Bg : Bed w mg mb g) (F : Fr g L s.heap m) (N : News g L s.heap news) (U : UpdF b.dx (dictOf (boxEs w b) 7) news ng) (hr : dp < 890) (hx : (b.x, instObj 339 b.dx) ∈ news) (hd : (b.dx, dictOf (boxEs w b) 7) ∈ news) (hne : b.x ≠ b.dx)
    (h : ∀ t t' h' tk, Fr g L h' m → News g L h' (ng (dictOf (boxE w b b.nxt b.tn (b.top + 1) t b.lb b.gb) 7)) → Q (.int (b.top + 1) t') { s with heap := h', toks := tk }) :
    wpAny (model prog w) (AT dp un fr gd) (call (.ref 357) [.ref b.x]) Q E s := by
  have zx := N _ hx
  have zd := N _ hd
  exact raised_spec (b := b) Bg F.keep hr ⟨zx.1, rfl, rfl, zd.1⟩ hne zx.2.2 zd.2.2 fun t t' h' tk he hI => h t t' h' tk (fr_turn F N U he) (news_turn N U he hI.dict)
example : True := by
  k_with "call ref" => ((fail_if_success (have := @off9)); ((k_here; (with_reducible show wpAny _ _ (call (Value.ref 357) _) _ _ _); k_dflt (refine' raised_in (b := b) ?Bw33 ?Fw33 ?Nw33 ?Uw33 ?hrw33 ?hxw33 ?hdw33 ?hnew33 ?_; (case Bw33 => assumption); (case Fw33 => k_asm); (case Nw33 => k_asm); (case Uw33 => k_updF); (case hrw33 => walk_at "room"); (case hxw33 => k_mem); (case hdw33 => k_mem); (case hnew33 => assumption); (intro tt' t' h' tk' F' N'; (try dsimp only at N'))))))
  exact trivial
theorem letter_in {g : Heap} {L : Addr} {m : Str → Option Value} {news : List (Addr × Obj)} {ft : Addr} {k : Nat} {u ms : Int} {tu tm : Tok} {o i : Value} {oft : Obj} {h0 : Heap} (Bg : Bed w mg mb g) (F : Fr g L s.heap m) (N : News g L s.heap news) (hr : dp < 870) (hf0 : FlagsAt h0 ft k) (hO : h0.get? ft = some oft) (hm : (ft, oft) ∈ news) (ho : handedIn o = true) (hi : handedIn i = true)
    (h : ∀ (l : Lt) h' tk, s.heap.get? l.x = none → s.heap.get? l.dx = none → l.uid = u → l.ms = ms → l.srt = k → l.ft = ft → @Ne Nat l.x l.dx → AllNe l.x news → AllNe l.dx news → handedIn l.oct = true ∧ handedIn l.inst = true → Fr g L h' m → News g L h' ((l.x, instObj 301 l.dx) :: (l.dx, dictOf (letterEs w l) 5) :: news) → Q (.ref l.x) { s with heap := h', toks := tk }) :
    wpAny (model prog w) (AT dp un fr gd) (call (.ref 301) [.int u tu, o, .ref ft, i, .int ms tm]) Q E s :=
  letter_make Bg F.keep hr (flags_new hf0 hO (N _ hm).1) ho hi fun l h' tk n1 n2 e1 e2 e3 e4 hL he => by
    have F' := Ext.fr he F (List.forall_mem_nil _) List.not_mem_nil
    have N' := Ext.news he N (fun _ _ => List.not_mem_nil)
    have hne : @Ne Nat l.x l.dx := by
      intro e
      have e' : l.x = l.dx := e
      have i1 := hL.inst.at_
      have i2 : h'.get? l.dx = some (dictOf (letterEs w l) 5) := hL.inst.dict
      rw [e', i2] at i1; injection i1 with i1; injection i1 with i1; cases i1
    exact h l h' tk n1 n2 e1 e2 e3 e4 hne (news_ne N n1) (news_ne N n2) hL.hh F' (news_add (m := fun _ => none) (news_add (m := fun _ => none) N' hL.inst.dict (fr_none F n2) (fr_ne F n2)) hL.inst.at_ (fr_none F n1) (fr_ne F n1))
example : True := by
  k_with "ne" => ((fail_if_success (have := @off9)); (first | exact ax'.1 | exact Ne.symm ax'.1 | exact ax'.2.1 | exact Ne.symm ax'.2.1 | exact ax'.2.2.1 | exact Ne.symm ax'.2.2.1 | exact ax'.2.2.2.1 | exact Ne.symm ax'.2.2.2.1 | exact ax'.2.2.2.2 | exact Ne.symm ax'.2.2.2.2 | exact ad'.1 | exact Ne.symm ad'.1 | exact ad'.2.1 | exact Ne.symm ad'.2.1 | exact ad'.2.2.1 | exact Ne.symm ad'.2.2.1 | exact ad'.2.2.2.1 | exact Ne.symm ad'.2.2.2.1 | exact ad'.2.2.2.2 | exact Ne.symm ad'.2.2.2.2))
  exact trivial
example : True := by
  k_with "call ref" => ((fail_if_success (have := @off9)); ((k_here; (with_reducible show wpAny _ _ (call (Value.ref 301) _) _ _ _); k_dflt (refine' letter_in ?Bw35 ?Fw35 ?Nw35 ?hrw35 hfl' hO' ?hmw35 ?how35 ?hiw35 ?_; (case Bw35 => assumption); (case Fw35 => k_asm); (case Nw35 => k_asm); (case hrw35 => walk_at "room"); (case hmw35 => k_mem); (case how35 => first | (with_reducible assumption) | k_handed); (case hiw35 => first | (with_reducible assumption) | k_handed); (intro l' h' tk' nx' nd' hu' hms' hs' hft' hxd' ax' ad' hh' F' N'; (simp only [AllNe, and_true] at ax' ad'))))))
  exact trivial
example : True := by
  k_with "call builtin:list.append" => ((fail_if_success (have := @off9)); ((k_here; (with_reducible show wpAny _ _ (call (Value.builtin _) [Value.ref _, _]) _ _ _); k_dflt (refine' append_K ?k1w36 ?k2w36 ?k3w36 ?_ ?zw36; (case k1w36 => k_asm); (case k2w36 => k_asm); (case k3w36 => k_upd); (case zw36 => (rw [sizeLine_eq]; (try simp only [List.size_toArray, List.length_map]); omega)); k_whole); intro h' F' N')))
  exact trivial
theorem add_letter_spec {b : Bx} {a : Addr} {k : Nat} {t t2 : Tok} {oc ins : Value}
    (B : Bed w mg mb hB) (st : hB.StaysIn s.heap) (hr : dp < 850) (hb : BoxAt w s.heap b) (o1 : hB.get? b.x = none) (o2 : hB.get? b.dx = none) (o3 : hB.get? b.lb = none) (hk : k < 4) (ha : s.heap.get? a = some (tupObj (sortVs k t t2))) (o4 : hB.get? a = none) (hoc : handedIn oc = true) (hoi : handedIn ins = true)
    (h : ∀ (l : Lt) ln tn tt h' tk, l.uid = b.nxt → l.ms = b.top + 1 → l.srt = k → s.heap.get? l.x = none → s.heap.get? l.dx = none → LetterAt w h' l → Ext [b.dx, b.lb] s.heap h' →
      InstAt h' b.x (instObj 339 b.dx) 339 (some (dictOf (boxE w b (b.nxt + 1) tn (b.top + 1) tt b.lb b.gb) 7)) → h'.get? b.lb = some (listOf (refsOf (b.ls ++ [l])) ln) → Q (.ref l.x) { s with heap := h', toks := tk }) :
    wpAny (model prog w) (AT dp un fr gd) (call (.ref 364) [.ref b.x, oc, .ref a, ins]) Q E s := by
  obtain ⟨a1, a2, a3, _, _⟩ := hb.apart
  have p1 : a ≠ b.x := by rintro rfl; rw [hb.inst.at_] at ha; cases ha
  have p2 : a ≠ b.dx := by
    rintro rfl
    have e : s.heap.get? b.dx = some (dictOf (boxEs w b) 7) := hb.inst.dict
    rw [e] at ha; injection ha with ha; injection ha with ha; injection ha with ha; exact absurd ha (by decide)
  have p3 : a ≠ b.lb := by
    rintro rfl
    rw [hb.list] at ha; injection ha with ha; injection ha with ha; injection ha with ha; exact absurd ha (by decide)
  have q1 := neN a1
  have q2 := neN a2
  have q3 := neN a3
  have q4 := neN p1
  have q5 := neN p2
  have q6 := neN p3
  have hW : ∀ p ∈ [(b.x, instObj 339 b.dx), (b.dx, dictOf (boxEs w b) 7), (b.lb, listOf (refsOf b.ls) b.ln), (a, tupObj (sortVs k t t2))], s.heap.get? p.1 = some p.2 ∧ hB.get? p.1 = none := by
    simpa using ⟨⟨hb.inst.at_, o1⟩, ⟨hb.inst.dict, o2⟩, ⟨hb.list, o3⟩, ha, o4⟩
  have hlen := hb.len
  walk_at "enter"
  have g1 : g.get? b.x = none := (N _ (.head _)).2.2
  have g2 : g.get? b.dx = none := (N _ (.tail _ (.head _))).2.2
  have gA : g.get? a = none := (N _ (.tail _ (.tail _ (.tail _ (.head _))))).2.2
  walk_at "go"
  rename Fr _ _ _ _ => F3
  rename News _ _ _ _ => N3
  have e5 := ext_of hg F3
  have zl := N3 (b.lb, _) (by k_mem)
  have zx := N3 (b.x, instObj 339 b.dx) (by k_mem)
  have za := N3 (a, _) (by k_mem)
  have zf := N3 (D', oft) (by k_mem)
  have zlx := N3 (l'.x, _) (by k_mem)
  have zld := N3 (l'.dx, _) (by k_mem)
  have zd := (N3 _ (.tail _ (.tail _ (.tail _ (.tail _ (.head _)))))).1
  obtain ⟨u1, u2, u3, u4, u5⟩ := ax'
  obtain ⟨v1, v2, v3, v4, v5⟩ := ad'
  have e6 := fl_new' hfl' hO' zf.1
  refine h l' (b.ln + 1) _ _ _ _ hu' hms' hs' (hide_new hg zlx.2.2 (by simpa using ⟨Ne.symm u2, Ne.symm u3, Ne.symm u4, Ne.symm u5⟩)) (hide_new hg zld.2.2 (by simpa using ⟨Ne.symm v2, Ne.symm v3, Ne.symm v4, Ne.symm v5⟩)) ⟨⟨zlx.1, rfl, rfl, zld.1⟩, by rw [hft', hs']; exact e6, hh'⟩ ?_ ⟨zx.1, rfl, rfl, zd⟩ ?_
  · exact (((e5.mono (W' := [b.x, a, b.dx, b.lb]) (by simp)).drop hb.inst.at_ zx.1).drop ha za.1)
  · rw [zl.1]; simp [refsOf]
theorem off9 : True := trivial
end
/-! R7 -/
section
variable {prog : Program} {w : World} {mg mb : Str → Option Value} {dp un : Nat} {fr : Option (List Env)} {gd : Option (List Code)} {E : Value → Shared → Prop} {s : Shared} {hB : Heap} {Q : Value → Shared → Prop}
theorem refs_set {g : Heap} {L D : Addr} {m : Str → Option Value} {news news' : List (Addr × Obj)} {A : Around} {its : Array Value} {n : Nat} {k : Int} {t : Tok} {v : Value} {Q : Unit → Shared → Prop} (F : Fr g L s.heap m) (N : News g L s.heap news)
    (U : Upd D (listOf its n) (listOf (its.setIfInBounds k.toNat v) n) news news') (h0 : 0 ≤ k) (h1 : k < its.size) (hfit : its.size ≤ 1000)
    (h : ∀ h', Fr g L h' m → News g L h' news' → Q () { s with heap := h' }) : wpAny (model prog w) A (setItem (.ref D) (.int k t) v) Q E s := by
  obtain ⟨pre, post, rfl, rfl, a, b'⟩ := U.split
  have z := N (D, listOf its n) (List.mem_append.mpr (.inr (.head _)))
  refine ki_setAt z.1 h0 (by omega) h1 (h _ (F.change (Heap.SameBut.update ..) z.2.1 z.2.2) (ki_turn _ N a b' ?_ ?_))
  · rfl
  · simp
theorem item_refsN {g : Heap} {L lb : Addr} {news : List (Addr × Obj)} {n : Nat} {A : Around} {value slice : PySem.Expr} {ls : List Lt} {k : Int} {u : Tok} (N : News g L s.heap news) (hm : (lb, listOf (refsOf ls) n) ∈ news) (h0 : 0 ≤ k) (h1 : k < ls.length) (h63 : ls.length ≤ 1000)
    (h : ∀ l, ls[k.toNat]? = some l → Q (.ref l.x) s)
    (hs : subscripted slice false (.ref lb) (.int k u) = operate [.ref lb, .int k u] (getItem (.ref lb) (.int k u)) := by with_unfolding_all rfl) :
    wpAny (model prog w) A (subscriptTail value slice (.ref lb) (.int k u)) Q E s := by
  have hL : s.heap.IsList lb (refsOf ls) := ⟨_, (N _ hm).1, rfl, _, rfl⟩
  have hk : k.toNat < ls.length := by omega
  exact tail_any hL.typeIs slot_list_getitem.lookup (wpAny_getItem_list hL h0 (by omega) (x := .ref (ls[k.toNat]'hk).x) (by simp [refsOf, hk]) (h _ (List.getElem?_eq_getElem hk))) hs
theorem flags_eqH {A : Around} {a b : Addr} {i j : Nat} (ha : FlagsAt s.heap a i) (hb : FlagsAt s.heap b j) (hu : A.units + 64 < cLine) (h : Q (.bool (decide (i = j))) s) :
    wpAny (model prog w) A (compareOp .Eq (.ref a) (.ref b)) Q E s :=
  eq_dataH ha.reads hb.reads (flags_shaped ha.1) (flags_shaped hb.1) hu (by rw [flags_eqv ha.1 hb.1]; exact h)
example : True := by
  k_with "call ref" => ((fail_if_success (have := @off10)); ((k_here; (with_reducible show wpAny _ _ (call (Value.ref 270) _) _ _ _); k_dflt (refine' flag_tuple_spec ?Bw37 ?stw37 ?hrw37 ?hkw37 ?haw37 ?b1w37 ?_; (case Bw37 => assumption); (case stw37 => exact Fr.keep (by k_asm)); (case hrw37 => walk_at "room"); (case hkw37 => assumption); (case haw37 => exact (News.get (by k_asm) (by k_mem))); (case b1w37 => exact gA); (intro D' h' tk' gD' hfl' he'; (obtain ⟨oft, hO'⟩ : ∃ o, h'.get? D' = some o := let ⟨_, o, _, _, z, _⟩ := hfl'; ⟨o, z⟩); have F' := Ext.fr he' (by k_asm) (List.forall_mem_nil _) List.not_mem_nil; have neL' := flags_neL F' hfl'; have N0' := Ext.news he' (by k_asm) (fun _ _ => List.not_mem_nil); have neA' := flags_off hfl' (N0' (b.x, instObj 339 b.dx) (by k_mem)).1 (by simp); have neB' := flags_off hfl' (N0' (b.dx, dictOf (boxEs w b) 7) (by k_mem)).1 (by simp); have neC' := flags_off hfl' (N0' (b.lb, listOf (refsOf b.ls) b.ln) (by k_mem)).1 (by simp); have N' := news_add (m := fun _ => none) N0' hO' gD' neL'; clear N0' he')))))
  exact trivial
example : True := by
  k_with "call ref" => ((fail_if_success (have := @off10)); ((k_here; (with_reducible show wpAny _ _ (call (Value.ref 357) _) _ _ _); k_dflt (refine' raised_in (b := b) ?Bw38 ?Fw38 ?Nw38 ?Uw38 ?hrw38 ?hxw38 ?hdw38 ?hnew38 ?_; (case Bw38 => assumption); (case Fw38 => k_asm); (case Nw38 => k_asm); (case Uw38 => k_updF); (case hrw38 => walk_at "room"); (case hxw38 => k_mem); (case hdw38 => k_mem); (case hnew38 => assumption); (intro tt' t' h' tk' F' N'; (try dsimp only at N'))))))
  exact trivial
example : True := by
  k_with "ne" => ((fail_if_success (have := @off10)); (first | exact ax'.1 | exact Ne.symm ax'.1 | exact ax'.2.1 | exact Ne.symm ax'.2.1 | exact ax'.2.2.1 | exact Ne.symm ax'.2.2.1 | exact ax'.2.2.2.1 | exact Ne.symm ax'.2.2.2.1 | exact ax'.2.2.2.2 | exact Ne.symm ax'.2.2.2.2 | exact ad'.1 | exact Ne.symm ad'.1 | exact ad'.2.1 | exact Ne.symm ad'.2.1 | exact ad'.2.2.1 | exact Ne.symm ad'.2.2.1 | exact ad'.2.2.2.1 | exact Ne.symm ad'.2.2.2.1 | exact ad'.2.2.2.2 | exact Ne.symm ad'.2.2.2.2))
  exact trivial
example : True := by
  k_with "call ref" => ((fail_if_success (have := @off10)); ((k_here; (with_reducible show wpAny _ _ (call (Value.ref 301) _) _ _ _); k_dflt (refine' letter_in ?Bw40 ?Fw40 ?Nw40 ?hrw40 hfl' hO' ?hmw40 ?how40 ?hiw40 ?_; (case Bw40 => assumption); (case Fw40 => k_asm); (case Nw40 => k_asm); (case hrw40 => walk_at "room"); (case hmw40 => k_mem); (case how40 => first | (with_reducible assumption) | k_handed); (case hiw40 => first | (with_reducible assumption) | k_handed); (intro l2' h' tk' nx' nd' hu' hms' hs' hft' hxd' ax' ad' hh' F' N'; (simp only [AllNe, and_true] at ax' ad'))))))
  exact trivial
local macro_rules | `(tactic| k_handed) => `(tactic| with_reducible assumption)
example : True := by
  k_with "call ref" => ((fail_if_success (have := @off10)); ((k_here; (with_reducible show wpAny _ _ (call (Value.ref 350) _) _ _ _); k_dflt (refine' place_of_spec2 (ls := b.ls) ?Bw41 ?stw41 ?hrw41 ?hlw41 ?hLsw41 ?lenw41 ?hsw41 ?_ ?_; (case Bw41 => assumption); (case stw41 => exact Fr.keep (by k_asm)); (case hrw41 => walk_at "room"); (case hlw41 => exact ⟨listOf (refsOf b.ls) b.ln, News.get (by k_asm) (by k_mem), rfl, _, rfl⟩); (case hLsw41 => exact fun l m => (hLs l m).keeps (Fr.keep (by k_asm))); (case lenw41 => omega); (case hsw41 => assumption); (all_goals (first | (intro i' l' t' h' tk' hi' hu' hi2' he'; walk_at "after0"; clear he') | (intro hno'; exact absurd hno' hin)))))))
  exact trivial
example : True := by
  k_with "subscriptTail" => ((fail_if_success (have := @off10)); ((k_here; (with_reducible show wpAny _ _ (subscriptTail _ _ (Value.ref _) (Value.int _ _)) _ _ _); k_dflt (refine' item_refsN (ls := b.ls) ?Nw42 ?hmw42 ?k3w42 ?k4w42 ?k5w42 ?_; (case Nw42 => k_asm); (case hmw42 => k_mem); (case k3w42 => omega); (case k4w42 => omega); (case k5w42 => omega); intro lt' hlt'; have hI' := (hLs _ (List.mem_of_getElem? hlt')).inst; (obtain ⟨hho', hhi'⟩ := (hLs _ (List.mem_of_getElem? hlt')).hh)))))
  exact trivial
example : True := by
  k_with "compareOp Eq ref ref" => ((fail_if_success (have := @off10)); ((k_here; k_dflt (refine' flags_eqH (i := lt'.srt) (j := k) ?k1w43 ?k2w43 ?k4w43 ?_; (case k1w43 => exact ((hLs _ (List.mem_of_getElem? hlt')).keeps (Fr.keep (by k_asm))).fl); (case k2w43 => exact fl_new' hfl' hO' (News.get (by k_asm) (by k_mem))); (case k4w43 => rw [cLine_is']; walk_at "room"); k_whole))))
  exact trivial
example : True := by
  k_with "setItem ref int" => ((fail_if_success (have := @off10)); ((k_here; k_dflt (refine' refs_set ?Fw44 ?Nw44 ?Uw44 ?h0w44 ?h1w44 ?hfw44 ?_; (case Fw44 => k_asm); (case Nw44 => k_asm); (case Uw44 => k_upd); (case h0w44 => omega); (case h1w44 => (simp only [List.size_toArray, List.length_map]; omega)); (case hfw44 => (simp only [List.size_toArray, List.length_map]; omega)); (intro h' F' N')))))
  exact trivial
theorem LetterAt.off2 {h : Heap} {l : Lt} {b : Bx} {a : Addr} {its : List Value} (x : LetterAt w h l) (hx : h.get? b.x = some (instObj 339 b.dx)) (ha : h.get? a = some (tupObj its)) (hn : l.ft ≠ a) : ∀ y ∈ [l.x, l.dx, l.ft], y ≠ b.x ∧ y ≠ a := by
  have i1 := x.inst.at_
  have i2 : h.get? l.dx = some (dictOf (letterEs w l) 5) := x.inst.dict
  obtain ⟨_, o', n, vs, f1, f2, f3, _⟩ := x.fl
  intro y hy
  simp only [List.mem_cons, List.not_mem_nil, or_false] at hy
  rcases hy with rfl | rfl | rfl
  · constructor <;> intro e
    · rw [e, hx] at i1; injection i1 with i1; injection i1 with i1; injection i1 with i1; exact absurd i1 (by decide)
    · rw [e, ha] at i1; cases i1
  · constructor <;> intro e
    · rw [e, hx] at i2; cases i2
    · rw [e, ha] at i2; injection i2 with i1; injection i1 with i1; injection i1 with i1; exact absurd i1 (by decide)
  · constructor <;> intro e
    · rw [e, hx] at f1; cases f1; cases f2
    · exact hn e
theorem LetterAt.hide4 {h g : Heap} {l : Lt} {b : Bx} {a : Addr} {its : List Value} (hg : g = hideAll h [b.x, b.dx, b.lb, a]) (x : LetterAt w h l) (hx : h.get? b.x = some (instObj 339 b.dx)) (ha : h.get? a = some (tupObj its)) (hn : l.ft ≠ a) (m1 : Mut h b.dx) (m2 : Mut h b.lb) : LetterAt w g l := by
  subst hg
  refine x.at fun y hy o ho => hideAll_get _ ho ?_
  have := x.off2 hx ha hn y hy
  simp only [List.mem_cons, List.not_mem_nil, or_false, not_or]
  exact ⟨this.1, fun e => x.off m1 (e ▸ hy), fun e => x.off m2 (e ▸ hy), this.2⟩
theorem set_flags_spec {b : Bx} {a : Addr} {k : Nat} {u : Int} {t t2 tu : Tok}
    (B : Bed w mg mb hB) (st : hB.StaysIn s.heap) (hr : dp < 850) (hun : un < 8000) (hb : BoxAt w s.heap b) (o1 : hB.get? b.x = none) (o2 : hB.get? b.dx = none) (o3 : hB.get? b.lb = none) (hk : k < 4) (ha : s.heap.get? a = some (tupObj (sortVs k t t2))) (o4 : hB.get? a = none) (hin0 : ∃ l ∈ b.ls, l.uid = u) (hna : ∀ l ∈ b.ls, l.ft ≠ a)
    (h1 : ∀ h' tk, Ext [] s.heap h' → Q (.bool false) { s with heap := h', toks := tk })
    (h2 : ∀ (i : Nat) (l0 l : Lt) ln tt h' tk, b.ls[i]? = some l0 → l0.uid = u → l.uid = u → l.ms = b.top + 1 → l.srt = k → s.heap.get? l.x = none → s.heap.get? l.dx = none → LetterAt w h' l → Ext [b.dx, b.lb] s.heap h' →
      InstAt h' b.x (instObj 339 b.dx) 339 (some (dictOf (boxE w b b.nxt b.tn (b.top + 1) tt b.lb b.gb) 7)) → h'.get? b.lb = some (listOf (refsOf (b.ls.set i l)) ln) → Q (.bool true) { s with heap := h', toks := tk }) :
    wpAny (model prog w) (AT dp un fr gd) (call (.ref 371) [.ref b.x, .int u tu, .ref a]) Q E s := by
  obtain ⟨a1, a2, a3, _, _⟩ := hb.apart
  have p1 : a ≠ b.x := by rintro rfl; rw [hb.inst.at_] at ha; cases ha
  have p2 : a ≠ b.dx := by
    rintro rfl
    have e : s.heap.get? b.dx = some (dictOf (boxEs w b) 7) := hb.inst.dict
    rw [e] at ha; injection ha with ha; injection ha with ha; injection ha with ha; exact absurd ha (by decide)
  have p3 : a ≠ b.lb := by
    rintro rfl
    rw [hb.list] at ha; injection ha with ha; injection ha with ha; injection ha with ha; exact absurd ha (by decide)
  have q1 := neN a1
  have q2 := neN a2
  have q3 := neN a3
  have q4 := neN p1
  have q5 := neN p2
  have q6 := neN p3
  have hW : ∀ p ∈ [(b.x, instObj 339 b.dx), (b.dx, dictOf (boxEs w b) 7), (b.lb, listOf (refsOf b.ls) b.ln), (a, tupObj (sortVs k t t2))], s.heap.get? p.1 = some p.2 ∧ hB.get? p.1 = none := by
    simpa using ⟨⟨hb.inst.at_, o1⟩, ⟨hb.inst.dict, o2⟩, ⟨hb.list, o3⟩, ha, o4⟩
  have hlen := hb.len
  have hin : ¬ ∀ l ∈ b.ls, l.uid ≠ u := fun z => let ⟨l, hl, e⟩ := hin0; z l hl e
  have hs := hb.sorted
  walk_at "enter"
  have g1 : g.get? b.x = none := (N _ (.head _)).2.2
  have g2 : g.get? b.dx = none := (N _ (.tail _ (.head _))).2.2
  have gA : g.get? a = none := (N _ (.tail _ (.tail _ (.tail _ (.head _))))).2.2
  have hLs : ∀ l ∈ b.ls, LetterAt w g l := fun l hl => (hb.lets l hl).hide4 hg hb.inst.at_ ha (hna l hl) hb.mut.2.2 hb.mut.1
  walk_at "go"
  · rename Fr _ _ _ _ => F3
    rename News _ _ _ _ => N3
    have e5 := ext_of hg F3
    have zx := (N3 (b.x, instObj 339 b.dx) (by k_mem)).1
    have zd := (N3 (b.dx, dictOf (boxEs w b) 7) (by k_mem)).1
    have zl := (N3 (b.lb, listOf (refsOf b.ls) b.ln) (by k_mem)).1
    have za := (N3 (a, tupObj (sortVs k t t2)) (by k_mem)).1
    exact h1 _ _ ((((e5.drop hb.inst.at_ zx).drop hb.inst.dict zd).drop hb.list zl).drop ha za)
  · rename Fr _ _ _ _ => F3
    rename News _ _ _ _ => N3
    have e5 := ext_of hg F3
    have zlx := N3 _ (.head _)
    have zld := N3 _ (.tail _ (.head _))
    have zf := (N3 _ (.tail _ (.tail _ (.head _)))).1
    have zx := (N3 _ (.tail _ (.tail _ (.tail _ (.head _))))).1
    have zd := (N3 _ (.tail _ (.tail _ (.tail _ (.tail _ (.head _)))))).1
    have zl := (N3 _ (.tail _ (.tail _ (.tail _ (.tail _ (.tail _ (.head _))))))).1
    have za := (N3 _ (.tail _ (.tail _ (.tail _ (.tail _ (.tail _ (.tail _ (.head _)))))))).1
    obtain ⟨u1, u2, u3, u4, u5⟩ := ax'
    obtain ⟨v1, v2, v3, v4, v5⟩ := ad'
    have e6 := fl_new' hfl' hO' zf
    refine h2 i' l' l2' b.ln _ _ _ hi' ‹l'.uid = u› hu' hms' hs' (hide_new hg zlx.2.2 (by simpa using ⟨Ne.symm u2, Ne.symm u3, Ne.symm u4, Ne.symm u5⟩)) (hide_new hg zld.2.2 (by simpa using ⟨Ne.symm v2, Ne.symm v3, Ne.symm v4, Ne.symm v5⟩)) ⟨⟨zlx.1, rfl, rfl, zld.1⟩, by rw [hft', hs']; exact e6, hh'⟩ ?_ ⟨zx, rfl, rfl, zd⟩ ?_
    · exact (((e5.mono (W' := [b.x, a, b.dx, b.lb]) (by simp)).drop hb.inst.at_ zx).drop ha za)
    · rw [zl]; simp [refsOf, List.map_set]
theorem off10 : True := trivial
end
example : True := by
  k_with "enterC" => (((
  refine wpAny_call ?_; (have hFill := fill_row); revert hFill; k_fill; intro hFill; clear hFill;
  refine' enterC ?Bw45 ?stw45 ?hWw45 ?how45 ?hcdw45 ?roomw45 ?bindw45 ?kindw45 ?ndw45 ?_ ?c1w45 ?c2w45 ?c3w45; (case Bw45 => assumption); (case stw45 => assumption); (case hWw45 => first | assumption | exact List.forall_mem_nil _); (case how45 => k_dflt k_is); (case c1w45 => exact rfl); (case c2w45 => exact rfl); (case c3w45 => exact rfl); (case hcdw45 => k_is); (case bindw45 => exact rfl); (case kindw45 => exact rfl); (case ndw45 => decide +kernel); (case roomw45 => ((try dsimp only [AT, Around.deeper, Around.in1, Around.under]); simp only [recursionLimit]; omega));
  (intro g L h₁ tk₁ cells hg F N Y Bg lW; have X := Bg.x; have T := Bg.t; (try dsimp only); (try simp only [List.map_cons, List.map_nil] at hg); k_cells Y; (try simp only [List.cons_append, List.nil_append] at N); (try k_lt lW)))))
  exact trivial
example : True := by
  k_with "stopL" => ((first
  | (with_reducible show wpAny _ _ (execs (Stmt.While _ _ _ _ :: _) _) _ _ _)
  | (with_reducible show wpAny _ _ (execs (Stmt.Assign _ (Expr.ListComp _ _ _ _) _ :: _) _) _ _ _)
  | (with_reducible show wpAny _ _ (eval (Expr.ListComp _ _ _ _) _) _ _ _)))
  exact trivial
example : True := by
  k_with "goL" => ((((try dsimp only); (repeat' ((fail_if_success walk_at "stopL"); (first | (walk1; (try dsimp only)) | (dsimp only; walk1; (try dsimp only))))); (all_goals (try dsimp only)))))
  exact trivial
example : True := by
  k_with "goI" => ((((try dsimp only); (repeat' ((fail_if_success (with_reducible show wpAny _ _ (pyIter _) _ _ _)); (first | (walk1; (try dsimp only)) | (dsimp only; walk1; (try dsimp only))))); (all_goals (try dsimp only)))))
  exact trivial
/-! S1 -/
section
theorem ints_filter {h' : Heap} {p : Value → Bool} {q : Int → Bool} (hpq : ∀ i t, p (.int i t) = q i) {P : Addr → Prop} : ∀ {its : List Value} {us : List Int} {ys : List Value}, IntsAre its us → Paired (fun v y => ∃ foot, RelA (fun v y => y = v) h' v y foot ∧ ∀ b ∈ foot, P b) (its.filter p) ys → IntsAre ys (us.filter q)
  | _, _, _, .nil, h => by cases h; exact .nil
  | _, _, _, .cons i t r, h => by
    rw [List.filter_cons, hpq] at h
    rw [List.filter_cons]
    by_cases e : q i = true
    · rw [if_pos e] at h ⊢
      cases h with
      | cons a h =>
        obtain ⟨_, ⟨_, rfl⟩, _⟩ := a
        exact .cons i t (ints_filter hpq r h)
    · rw [if_neg e] at h ⊢
      exact ints_filter hpq r h
theorem ints_mem : ∀ {vs : List Value} {us : List Int}, IntsAre vs us → ∀ v ∈ vs, ∃ i t, v = .int i t ∧ i ∈ us
  | _, _, .cons i t r, v, hv => by
    rcases List.mem_cons.mp hv with rfl | hv
    · exact ⟨i, t, rfl, .head _⟩
    · obtain ⟨i, t, e, m⟩ := ints_mem r v hv
      exact ⟨i, t, e, .tail _ m⟩
theorem ints_length {vs : List Value} {us : List Int} (h : IntsAre vs us) : vs.length = us.length := h.length
end
section
variable {prog : Program} {w : World} {mg mb : Str → Option Value} {dp un : Nat} {fr : Option (List Env)} {gd : Option (List Code)} {E : Value → Shared → Prop} {s : Shared} {hB : Heap} {Q : Value → Shared → Prop}
theorem notin_dict {A : Around} {g : Heap} {C d : Addr} {m : Str → Option Value} {kvs : List (Int × Value)} {k : Int} {t : Tok} (hD : g.DictOf (PySem.intKind prog w) d kvs) (F : Fr g C s.heap m) (lo : (d == sysModules) = false) (h : Q (.bool (!(valueAt kvs k).isSome)) { s with toks := s.toks + 1 }) :
    wpAny (model prog w) A (compareOp .NotIn (.int k t) (.ref d)) Q E s :=
  wpAny_notIn_of (intKind_is _ _ _ _) lo (dict_keeps hD fun o e => F.keep _ o e).mapOf h
theorem in_dict {A : Around} {g : Heap} {C d : Addr} {m : Str → Option Value} {kvs : List (Int × Value)} {k : Int} {t : Tok} (hD : g.DictOf (PySem.intKind prog w) d kvs) (F : Fr g C s.heap m) (lo : (d == sysModules) = false) (h : Q (.bool (valueAt kvs k).isSome) { s with toks := s.toks + 1 }) :
    wpAny (model prog w) A (compareOp .In (.int k t) (.ref d)) Q E s :=
  wpAny_in_of (intKind_is _ _ _ _) lo (dict_keeps hD fun o e => F.keep _ o e).mapOf h
theorem val_dom {ls : List Lt} {f : Lt → Value} {u : Int} : (valueAt (ls.map fun l => (l.uid, f l)) u).isSome = (uidsOf ls).contains u := by
  induction ls with
  | nil => rfl
  | cons l r ih =>
    rw [List.map_cons, valueAt_cons]
    show _ = (l.uid :: uidsOf r).contains u
    rw [List.contains_cons]
    by_cases e : l.uid = u
    · simp [e]
    · have e' : u ≠ l.uid := fun q => e q.symm
      rw [if_neg e, ih]; simp [e']
example : True := by
  k_with "compareOp NotIn int ref" => ((fail_if_success (have := @off11)); ((k_here; k_dflt (refine' notin_dict ?Dw49 ?Fw49 ?low49 ?_; (case Dw49 => with_reducible assumption); (case Fw49 => k_asm); (case low49 => assumption); k_whole))))
  exact trivial
example : True := by
  k_with "compareOp In int ref" => ((fail_if_success (have := @off11)); ((k_here; k_dflt (refine' in_dict ?Dw50 ?Fw50 ?low50 ?_; (case Dw50 => with_reducible assumption); (case Fw50 => k_asm); (case low50 => assumption); k_whole))))
  exact trivial
example : True := by
  k_with "newTuple" => ((fail_if_success (have := @off11)); ((k_here; k_dflt (refine' new_tup ?Fw51 ?zw51 ?_; (case Fw51 => k_asm); (case zw51 => simp)); (intro D' h' hD' hk' hO' F'))))
  exact trivial
example : True := by
  k_with "call type:dict" => ((fail_if_success (have := @off11)); ((k_here; (with_reducible show wpAny _ _ (call (Value.type "dict") [Value.ref D1]) _ _ _); k_dflt (refine' dict_pairs rfl (NoLimit_of Bg (by k_asm)) hys1 ?ndw52 ?lnw52 hPP ?_; (case ndw52 => exact hnd); (case lnw52 => rw [hPP.length]; exact hlen1)); (intro D' h' tk' hD' lo' hO2 he'; (obtain ⟨oD', hO', hDo'⟩ := Heap.dictOf_iff.mp hO2); walk_at "afterD"))))
  exact trivial
theorem gone_uids_spec {v : Vw} {b : Bx}
    (B : Bed w mg mb hB) (st : hB.StaysIn s.heap) (hr : dp < 870) (hun : un < 8000) (hv : ViewAt prog w s.heap v) (hb : BoxAt w s.heap b) (hvb : v.bx = b.x)
    (h : ∀ D h' tk n ys, s.heap.get? D = none → h'.get? D = some (listOf (List.toArray ys) n) → IntsAre ys (v.us.filter fun u => !(uidsOf b.ls).contains u) → Ext [] s.heap h' → Q (.ref D) { s with heap := h', toks := tk }) :
    wpAny (model prog w) (AT dp un fr gd) (call (.ref 154) [.ref v.x]) Q E s := by
  have hW : ∀ p ∈ ([] : List (Addr × Obj)), s.heap.get? p.1 = some p.2 ∧ hB.get? p.1 = none := List.forall_mem_nil _
  walk_at "enterC"
  replace hv : ViewAt prog w g v := hg ▸ hv
  replace hb : BoxAt w g b := hg ▸ hb
  have hI := hv.inst
  have hIb : InstAt g v.bx (instObj 339 b.dx) 339 (some (dictOf (boxEs w b) 7)) := hvb ▸ hb.inst
  walk_at "go"
  refine comp_list (cl := []) (fun _ => true) (RelB fun v its => ∃ l ∈ b.ls, v = .ref l.x ∧ ∃ t, its = [.int l.uid t, .bool true]) rfl rfl (by decide) rfl (by decide) relB_stable ?_
  walk_at "go"
  refine ⟨b.lb, b.ls.map (fun l => .ref l.x), rfl, hb.isList.at fun o e => Fr.keep (by assumption) _ o e, by have := hb.len; simp; omega, fun C v s₃ m₃ hv FC => ?_, fun D1 h1 tk1 n1 ys1 hD1 hys1 hP1 hk1 => ?_⟩
  · obtain ⟨l, hl, rfl⟩ := List.mem_map.mp hv
    rename Fr g _ _ _ => F1
    have hI1 := inst_keeps (hb.lets l hl).inst F1.keep
    refine cassign FC (fun h2 F2 k2 => ctest0 ?_) rfl rfl
    rw [if_pos rfl]
    have X1 := X.keeps F1.keep
    walk_at "go"
    refine ⟨rfl, CompStep.of F' fun b o h1 e => hk' b o (k2 b o h1 e), [D'], ⟨D', _, rfl, rfl, hO', l, hl, rfl, _, rfl⟩, ?_⟩
    exact foot_new F2 k2 hD'
  have hPP := pairs_of (f := fun l => Value.bool true) (fun l hl l' hl' e => ⟨(letter_inj (hb.lets l hl) (hb.lets l' hl') e).1, rfl⟩) hP1
  rename Fr _ _ _ _ => F0
  rename News _ _ _ _ => N0
  have F1 := Ext.fr (.of_keeps hk1) F0 (List.forall_mem_nil _) List.not_mem_nil
  have N1 := Ext.news (.of_keeps hk1) N0 (fun _ _ => List.not_mem_nil)
  clear F0 N0
  dsimp only
  have hnd : ((b.ls.map fun l => (l.uid, Value.bool true)).map (·.1)).Nodup := by
    rw [List.map_map]; exact sorted_nodup hb.sorted
  have hlen1 : (b.ls.map fun l => (l.uid, Value.bool true)).length ≤ 1000 := by rw [List.length_map]; have := hb.len; omega
  walk_at "go"
  refine comp_list (cl := _) (fun x => match x with | .int i _ => !(uidsOf b.ls).contains i | _ => false) (RelA fun v y => y = v) rfl rfl (by decide) rfl (by decide) relA_stable ?_
  walk_at "go"
  refine ⟨v.ul, v.uvs, rfl, ⟨_, Fr.keep (by assumption) _ _ hv.list, rfl, _, rfl⟩, by have := ints_length hv.ivs; have := hv.len; omega, fun C x s₃ m₃ hx FC => ?_, fun D2 h2 tk2 n2 ys2 hD2 hys2 hP2 hk2 => ?_⟩
  · obtain ⟨i, t, rfl, hi⟩ := ints_mem hv.ivs x hx
    rename Fr g _ _ _ => F1
    refine cassign FC (fun h2 F2 k2 => ctest1 ?_) rfl rfl
    have X1 := X.keeps F1.keep
    rename News g _ _ _ => N1
    have hcell := (N1 _ (.tail _ (.head _))).1
    have hDd : (_ : Heap).DictOf (PySem.intKind prog w) D' _ := Heap.dictOf_iff.mpr ⟨_, (N1 _ (.head _)).1, hDo'⟩
    walk_at "go"
    · rename (valueAt _ _).isSome = _ => hq
      rw [val_dom] at hq
      refine ⟨?_, ⟨_, _, _, rfl, F2.ns, k2⟩⟩
      simpa using hq
    · rename (valueAt _ _).isSome = _ => hq
      rw [val_dom] at hq
      refine ⟨?_, ⟨_, _, _, rfl, F2.ns, k2⟩, [], ⟨rfl, rfl⟩, by simp⟩
      simpa using hq
  · refine h _ _ _ _ _ ?_ hys2 (ints_filter (q := fun u => !(uidsOf b.ls).contains u) (fun _ _ => rfl) hv.ivs hP2) ?_
    · rename Fr g _ _ _ => F1
      exact none_of (ext_of hg F1) hD2
    · rename Fr g _ _ _ => F1
      exact (ext_of hg F1).trans (.of_keeps hk2)
theorem off11 : True := trivial
end
/-! S2 -/
section
variable {prog : Program} {w : World} {A : Around} {E : Value → Shared → Prop} {env : Env}
theorem comp_all_assign {s : Shared} {elt target iter : PySem.Expr} {ifs : List PySem.Expr} {scope : Scope} {cl : List (Str × Addr)} {pos spos py : Pos} {y : Str} {Q : Flow → Shared → Prop} (p : Value → Bool) (R : Heap → Value → Value → List Addr → Prop)
    (hsw : swapsWith (.ListComp elt [⟨target, iter, ifs, 0⟩] scope pos) (some (.Name y py)) spos.line env = pure true)
    (hclos : closureFor scope env = pure cl) (hcell : ∀ y ∈ scope.names, y.2 ≠ .cell) (hkind : scope.kind = .function)
    (hnames : ∀ y ∈ scope.names, y.2 = .local → scope.names.lookup y.1 = some .local)
    (hy : env.kindOf y = some .local) (hp : (env.scope.kind == .class || (env.scope.kind == .module && env.locals != env.globals)) = false)
    (hR : ∀ h h' v y foot, R h v y foot → (∀ b ∈ foot, ∀ o, h.get? b = some o → h'.get? b = some o) → R h' v y foot)
    (h : wpAny (model prog w) A (eval iter env) (fun xv s₁ => wpAny (model prog w) A (pyIter xv) (fun it s₂ => ∃ I fp n P St m, it = .ref I ∧ Walks prog w A I fp [I] n P St ∧ n ≤ 1000 ∧ (∀ i h, St i h → ∃ o, h.get? I = some o) ∧ St 0 s₂.heap ∧ (∀ b ∈ fp, b < s₂.heap.objs.size) ∧ s₂.heap.Ns env.locals m ∧ env.locals ≠ I ∧
      (∀ C i v s₃ m₃, s₂.heap.objs.size ≤ C → P i v → i < n → s₃.heap.Ns C m₃ → (∀ b o, b ≠ I → s₂.heap.get? b = some o → s₃.heap.get? b = some o) → CompTurn prog w A target elt ifs p R C (compEnvC scope cl C env) v s₃) ∧
      (∀ D h' tk ys (vs : List Value), s₂.heap.get? D = none → h'.PlainList D ys → vs.length = n → (∀ j v, vs[j]? = some v → P j v) → Paired (fun v y => ∃ foot, R h' v y foot ∧ ∀ b ∈ foot, b ≠ D ∧ s₂.heap.get? b = none) (vs.filter p) ys.toList →
        h'.Ns env.locals (fun z => if z = y then some (.ref D) else m z) → (∀ b o, b ≠ env.locals → b ≠ I → s₂.heap.get? b = some o → h'.get? b = some o) → Q .next { s₂ with heap := h', toks := tk })) E s₁) E s)
    (hs : ∀ x, foldedSetIterable iter env x = pure x := by intro _; rfl) (ht : ∀ I v, letOwnedTupleGo target (.ref I) v = pure () := by intro _ _; rfl) :
    wpAny (model prog w) A (exec (.Assign [.Name y py] (.ListComp elt [⟨target, iter, ifs, 0⟩] scope pos) spos) env) Q E s := by
  rw [exec_Assign_Name_used _ _ _ _ hsw]
  refine wpAny_bind (wpAny_standAt (wpAny_bind ?_))
  show wpAny _ A (do let _ ← comprehension (.ListComp elt [⟨target, iter, ifs, 0⟩] scope pos) scope env _ (newList []) false (eval iter env) (some (assign (.Name y py) env))) _ _ s
  refine wpAny_bind (wpAny_mono (wpAny_comprehension_free (use := some (assign (.Name y py) env)) (Q := fun _ s' => Q .next s') rfl hs hclos hkind hnames
    (wpAny_mono h (fun xv s₁ h₁ => wpAny_mono h₁ (fun it s₂ h₂ => ?_) fun _ _ e => e) fun _ _ e => e)) (fun _ s' hq => wpAny_pure (wpAny_pure hq)) fun _ _ e => e)
  obtain ⟨I, fp, n, P, St, m, rfl, W, hsz, hlive, hst, hfp, hnL, hLI, turn, hQ⟩ := h₂
  refine wpAny_newObj_type (wpAny_newFunctionEnv hcell (by intro y hy; simp at hy) (fun h₁ hns₁ hsb₁ => ?_) hkind)
  dsimp only at hns₁ hsb₁ ⊢
  generalize hH2 : s₂.heap.push { cls := .type "list", dict := none, data := .seq ([] : List Value).toArray } = H2 at hns₁ hsb₁ ⊢
  have hC : H2.objs.size = s₂.heap.objs.size + 1 := by rw [← hH2, Heap.size_push]
  have hDC : s₂.heap.objs.size ≠ H2.objs.size := by rw [hC]; exact Nat.ne_of_lt (Nat.lt_succ_self _)
  have below : ∀ b, b < s₂.heap.objs.size → b ≠ H2.objs.size ∧ b ≠ s₂.heap.objs.size := fun b hb => ⟨by rw [hC]; exact Nat.ne_of_lt (Nat.lt_succ_of_lt hb), Nat.ne_of_lt hb⟩
  have hDf : s₂.heap.objs.size ∉ fp := fun hm => Nat.lt_irrefl _ (hfp _ hm)
  have hCf : H2.objs.size ∉ fp := fun hm => by have := hfp _ hm; rw [hC] at this; exact Nat.lt_irrefl _ (Nat.lt_of_succ_lt this)
  have old : ∀ b o, s₂.heap.get? b = some o → h₁.get? b = some o := fun b o e => hsb₁.extBut b o (below b (Heap.lt_size e)).1 (Heap.get?_push_of_some _ (hH2 ▸ Heap.get?_push_of_some _ e))
  have hacc : h₁.PlainList s₂.heap.objs.size #[] := ⟨_, hsb₁.extBut _ _ hDC (Heap.get?_push_of_some _ (hH2 ▸ Heap.get?_push_size _ rfl))⟩
  have hst₁ : St 0 h₁ := W.frame _ _ _ hst fun b _ o e => old b o e
  have fresh : ∀ a, s₂.heap.objs.size ≤ a → s₂.heap.get? a = none := fun a ha => by
    cases e : s₂.heap.get? a with
    | none => rfl
    | some o' => exact absurd (Heap.lt_size e) (Nat.not_lt.mpr ha)
  have hL2 := hnL.lt
  have hLC : env.locals ≠ H2.objs.size := (below _ hL2).1
  have hLD : env.locals ≠ s₂.heap.objs.size := (below _ hL2).2
  have loop : ∀ s₃ : Shared, s₃ = { s₂ with heap := h₁, toks := s₂.toks + ([] : List (Str × Value)).length } →
      codeAny (model prog w) A (.compLoop (.ListComp elt [⟨target, iter, ifs, 0⟩] scope pos) 0 (.ref I) (.ref s₂.heap.objs.size) (compEnvC scope cl H2.objs.size env))
        (compPost (model prog w) A E (some (assign (.Name y py) env)) (fun _ s' => Q .next s') (.ref s₂.heap.objs.size) H2.objs.size) s₃ := by
    rintro s₃ rfl
    refine comp_loop (cenv := compEnvC scope cl H2.objs.size env) W p R hR hlive hDC hDf hCf (fun b hb => (below b (hfp b hb)).1) hst₁ hacc hns₁
      (fun i v s₃ m₃ hv hi hn hk => turn _ i v s₃ m₃ (by rw [hC]; exact Nat.le_succ _) hv hi hn fun b o hb e => hk b o (below b (Heap.lt_size e)).1 hb (below b (Heap.lt_size e)).2 (old b o e)) (fun h' tk m' ys vs hn hpl hlen hP hF hk => ?_) hsz (ht I)
    have hnL' : h'.Ns env.locals m := hnL.at' fun o e => hk _ o hLC hLI hLD (old _ _ e)
    show wpAny _ A (assign (.Name y py) env (.ref s₂.heap.objs.size)) _ _ _
    refine wpAny_assign_Name (wpAny_storeName_local hy hnL' (fun h₂ hn₂ hs₂ => ?_) hp)
    refine ⟨m', hn.sameBut hs₂ (Ne.symm hLC), fun h₃ hs₃ => ?_⟩
    refine hQ _ h₃ _ ys vs (fresh _ (Nat.le_refl _)) (hpl.at fun o e => hs₃.extBut _ o hDC (hs₂.extBut _ o (Ne.symm hLD) e)) hlen hP (hF.mono fun _ _ ⟨foot, r, hf⟩ => ⟨foot, hR _ _ _ _ _ r fun b hb o e => ?a, fun b hb => ⟨(hf b hb).2.1, ?b⟩⟩) (hn₂.sameBut hs₃ hLC) fun b o hbL hb e => ?c
    case a =>
      have hne : b ≠ env.locals := by
        rintro rfl
        obtain ⟨o', _, _, ho', _⟩ := hnL
        have := (hf _ hb).2.2.2
        rw [old _ _ ho'] at this; cases this
      exact hs₃.extBut b o (hf b hb).1 (hs₂.extBut b o hne e)
    case b =>
      cases q : s₂.heap.get? b with
      | none => rfl
      | some o => have := (hf b hb).2.2.2; rw [old b o q] at this; cases this
    case c => exact hs₃.extBut b o (below b (Heap.lt_size e)).1 (hs₂.extBut b o hbL (hk b o (below b (Heap.lt_size e)).1 hb (below b (Heap.lt_size e)).2 (old b o e)))
  exact codeAny_compStart_list (loop _ rfl) (W.self 0 _ _ _ hst₁ (loop _ rfl))

inductive CompFromA (prog : Program) (w : World) (A : Around) (env : Env) (y : Str) (target elt : PySem.Expr) (ifs : List PySem.Expr) (scope : Scope) (cl : List (Str × Addr)) (p : Value → Bool) (R : Heap → Value → Value → List Addr → Prop) (Q : Flow → Shared → Prop) (xv : Value) (s₁ : Shared) : Prop
  | mk (l : _) (its : _) (g : _) (m : _) (z1 : xv = .ref l) (z2 : Fr g env.locals s₁.heap m) (z3 : s₁.heap.IsList l (List.toArray its)) (z4 : its.length ≤ 1000) (z5 : (∀ C (v : Value) s₃ m₃, v ∈ its → Fr s₁.heap C s₃.heap m₃ → CompTurn prog w A target elt ifs p R C (compEnvC scope cl C env) v s₃)) (z6 : (∀ D h' tk n ys, s₁.heap.get? D = none → h'.get? D = some (listOf (List.toArray ys) n) → Paired (fun v y => ∃ foot, R h' v y foot ∧ ∀ b ∈ foot, b ≠ D ∧ s₁.heap.get? b = none) (its.filter p) ys → Fr g env.locals h' (fun z => if z = y then some (.ref D) else m z) → (∀ b o, b ≠ env.locals → s₁.heap.get? b = some o → h'.get? b = some o) → Q .next { s₁ with heap := h', toks := tk })) : CompFromA prog w A env y target elt ifs scope cl p R Q xv s₁
theorem comp_assign {s : Shared} {elt target iter : PySem.Expr} {ifs : List PySem.Expr} {scope : Scope} {cl : List (Str × Addr)} {pos spos py : Pos} {y : Str} {Q : Flow → Shared → Prop} (p : Value → Bool) (R : Heap → Value → Value → List Addr → Prop)
    (hh : A.handled = none) (hsw : swapsWith (.ListComp elt [⟨target, iter, ifs, 0⟩] scope pos) (some (.Name y py)) spos.line env = pure true) (hclos : closureFor scope env = pure cl) (hcell : ∀ y ∈ scope.names, y.2 ≠ .cell) (hkind : scope.kind = .function)
    (hnames : ∀ y ∈ scope.names, y.2 = .local → scope.names.lookup y.1 = some .local)
    (hy : env.kindOf y = some .local) (hp : (env.scope.kind == .class || (env.scope.kind == .module && env.locals != env.globals)) = false)
    (hR : ∀ h h' v y foot, R h v y foot → (∀ b ∈ foot, ∀ o, h.get? b = some o → h'.get? b = some o) → R h' v y foot)
    (h : wpAny (model prog w) A (eval iter env) (CompFromA prog w A env y target elt ifs scope cl p R Q) E s)
    (hs : ∀ x, foldedSetIterable iter env x = pure x := by intro _; rfl) (ht : ∀ I v, letOwnedTupleGo target (.ref I) v = pure () := by intro _ _; rfl) :
    wpAny (model prog w) A (exec (.Assign [.Name y py] (.ListComp elt [⟨target, iter, ifs, 0⟩] scope pos) spos) env) Q E s := by
  refine comp_all_assign p R hsw hclos hcell hkind hnames hy hp hR (wpAny_mono h (fun xv s₁ h₁ => ?_) fun _ _ x => x) hs ht
  obtain ⟨l, its, g, m, rfl, F, hl, hlen, turn, hQ⟩ := h₁
  refine pyIter_list_walk hh hl fun I s₂ es hI hle hk W hlive hst hfp => ?_
  have up : ∀ b, s₂.heap.get? b = none → s₁.heap.get? b = none := fun b e => by
    cases q : s₁.heap.get? b with
    | none => rfl
    | some o => rw [hk b o q] at e; cases e
  have neI : ∀ b o, s₁.heap.get? b = some o → b ≠ I := by
    rintro b o e rfl; rw [hI] at e; cases e
  have hLs : ∃ o, s₁.heap.get? env.locals = some o := let ⟨o, _, _, ho, _⟩ := F.ns; ⟨o, ho⟩
  obtain ⟨oL, hoL⟩ := hLs
  refine ⟨I, _, _, _, _, m, rfl, W, hlen, hlive, hst, hfp, F.ns.at' fun o e => hk _ o e, neI _ _ hoL, fun C i v s₃ m₃ hC hv _ hn hk' => turn C v s₃ m₃ (List.mem_of_getElem? hv) ⟨hn, fun b o e => hk' b o (neI b o e) (hk b o e), Nat.le_trans hle hC⟩, fun D h' tk ys vs hD hpl hlen' hP hF hnL hk' => ?_⟩
  obtain ⟨n, hn⟩ := hpl
  have e : vs = its := List.ext_getElem? fun j => by
    cases q : vs[j]? with
    | some v => exact (hP j v q).symm
    | none =>
      have : its.length ≤ j := by rw [← hlen']; exact List.getElem?_eq_none_iff.mp q
      exact (List.getElem?_eq_none this).symm
  subst e
  have hF' : Paired (fun v y => ∃ foot, R h' v y foot ∧ ∀ b ∈ foot, b ≠ D ∧ s₁.heap.get? b = none) (vs.filter p) ys.toList := hF.mono fun _ _ ⟨foot, r, hf⟩ => ⟨foot, r, fun b hb => ⟨(hf b hb).1, up b (hf b hb).2⟩⟩
  have kk : ∀ b o, b ≠ env.locals → s₁.heap.get? b = some o → h'.get? b = some o := fun b o hb e => hk' b o hb (neI b o e) (hk b o e)
  have F' : Fr g env.locals h' (fun z => if z = y then some (.ref D) else m z) := ⟨hnL, fun b o e => kk b o (by
    rintro rfl
    exact absurd (Heap.lt_size e) (Nat.not_lt.mpr F.above)) (F.keep b o e), F.above⟩
  have := hQ D h' tk n ys.toList (up D hD) (by simpa using hn) hF' F' kk
  rw [es]
  exact this
end
/-! S8 -/
section
variable {prog : Program} {w : World} {mg mb : Str → Option Value} {dp un : Nat} {fr : Option (List Env)} {gd : Option (List Code)} {E : Value → Shared → Prop} {s : Shared} {hB : Heap} {Q : Value → Shared → Prop}
example : True := by
  k_with "compareOp NotIn int ref" => ((fail_if_success (have := @off12)); ((k_here; k_dflt (refine' notin_dict ?Dw53 ?Fw53 ?low53 ?_; (case Dw53 => with_reducible assumption); (case Fw53 => k_asm); (case low53 => assumption); k_whole))))
  exact trivial
example : True := by
  k_with "compareOp In int ref" => ((fail_if_success (have := @off12)); ((k_here; k_dflt (refine' in_dict ?Dw54 ?Fw54 ?low54 ?_; (case Dw54 => with_reducible assumption); (case Fw54 => k_asm); (case low54 => assumption); k_whole))))
  exact trivial
example : True := by
  k_with "newTuple" => ((fail_if_success (have := @off12)); ((k_here; (with_reducible show wpAny _ _ (newTuple [Value.int _ _, Value.int _ _]) _ _ _); k_dflt (refine' new_tup ?Fw55 ?zw55 ?_; (case Fw55 => k_asm); (case zw55 => simp)); (intro D' h' hD' hk' hO' F'))))
  exact trivial
example : True := by
  k_with "call ref" => ((fail_if_success (have := @off12)); ((k_here; (with_reducible show wpAny _ _ (call (Value.ref 331) _) _ _ _); k_dflt (refine' box_uids_spec ?Bw56 ?stw56 ?hrw56 (b := b) ?hbw56 ?_; (case Bw56 => assumption); (case stw56 => exact Fr.keep (by k_asm)); (case hrw56 => walk_at "room"); (case hbw56 => exact hbNow (by k_asm) (by k_asm) (by k_mem) (by k_mem)); (intro D' h' tk' n' ys' hD' hO' hI' he'; walk_at "afterD")))))
  exact trivial
example : True := by
  k_with "call ref" => ((fail_if_success (have := @off12)); ((k_here; (with_reducible show wpAny _ _ (call (Value.ref 357) _) _ _ _); k_dflt (refine' raised_in (b := b) ?Bw57 ?Fw57 ?Nw57 ?Uw57 ?hrw57 ?hxw57 ?hdw57 ?hnew57 ?_; (case Bw57 => assumption); (case Fw57 => k_asm); (case Nw57 => k_asm); (case Uw57 => k_updF); (case hrw57 => walk_at "room"); (case hxw57 => k_mem); (case hdw57 => k_mem); (case hnew57 => assumption); (intro tt' t' h' tk' F' N'; (try dsimp only at N'))))))
  exact trivial
theorem cat_lists {A : Around} {h₀ : Heap} {L : Addr} {m : Str → Option Value} {news : List (Addr × Obj)} {l b : Addr} {vs ws : List Value} (F : Fr h₀ L s.heap m) (N : News h₀ L s.heap news) (hl : s.heap.IsList l vs.toArray) (hb : s.heap.IsList b ws.toArray) (hsz : vs.length + ws.length ≤ 2000)
    (h : ∀ D h', s.heap.get? D = none → AllNe D news → (∀ b o, s.heap.get? b = some o → h'.get? b = some o) → Fr h₀ L h' m → News h₀ L h' ((D, listOf (vs ++ ws).toArray 0) :: news) → Q (.ref D) { s with heap := h' }) :
    wpAny (model prog w) A (binaryOp .Add (.ref l) (.ref b)) Q E s := by
  obtain ⟨⟨cls, dd, data, sl⟩, ho, hc, n, hd⟩ := id hl
  obtain ⟨⟨cls2, dd2, data2, sl2⟩, ho2, hc2, n2, hd2⟩ := id hb
  simp only at hc hd hc2 hd2
  subst hc hd hc2 hd2
  have e : vs.toArray ++ ws.toArray = (vs ++ ws).toArray := by simp
  refine concat_meets ⟨_, ho, rfl⟩ ⟨_, ho2, rfl⟩ noFill_list_add seq_list_add PySem.F.slot_list_add PySem.F.entry_list_add (PySem.F.args_list_add_2 _ _) (list_addW l b vs.toArray ws.toArray n n2 dd dd2 sl sl2 (by rw [sizeLine_eq]; simp; omega)) ⟨ho, ho2, ?_⟩
  rw [e]
  exact h _ _ fresh_size (news_ne N fresh_size) (fun b o e => Heap.get?_push_of_some _ e) (F.push _) (News.push F N _)
theorem news_cons {g h : Heap} {L : Addr} {p : Addr × Obj} {l : List (Addr × Obj)} (z : h.get? p.1 = some p.2 ∧ p.1 ≠ L ∧ g.get? p.1 = none) (N : News g L h l) : News g L h (p :: l) := by
  intro q hq
  rcases List.mem_cons.mp hq with rfl | hq
  · exact z
  · exact N q hq
theorem ne_new {g h : Heap} {L D : Addr} {news : List (Addr × Obj)} (N : News g L h news) (e : h.get? D = none) {p : Addr × Obj} (hp : p ∈ news) : @Ne Nat p.1 D := fun q => by
  have q' : p.1 = D := q
  have := (N p hp).1
  rw [q', e] at this; cases this
def inW (u u2 : Int) (i : Int) : Bool := i == u || i == u2
theorem inW_val {u u2 i : Int} : (valueAt (stored (stored [] u (Value.bool true)) u2 (Value.bool true)) i).isSome = inW u u2 i := by
  rw [valueAt_stored, valueAt_stored, valueAt_nil]
  unfold inW
  by_cases e : i = u2 <;> by_cases e2 : i = u <;> simp [e, e2]
theorem refs_filter {h' : Heap} {p : Value → Bool} {q : Lt → Bool} {P : Addr → Prop} : ∀ {ls : List Lt} {ys : List Value}, (∀ l ∈ ls, p (.ref l.x) = q l) → Paired (fun v y => ∃ foot, RelA (fun v y => y = v) h' v y foot ∧ ∀ b ∈ foot, P b) ((ls.map fun l => Value.ref l.x).filter p) ys → ys = (ls.filter q).map fun l => Value.ref l.x
  | [], _, _, h => by cases h; rfl
  | l :: r, ys, hpq, h => by
    rw [List.map_cons, List.filter_cons, hpq l (.head _)] at h
    rw [List.filter_cons]
    by_cases e : q l = true
    · rw [if_pos e] at h ⊢
      cases h with
      | cons a h =>
        obtain ⟨_, ⟨_, rfl⟩, _⟩ := a
        rw [List.map_cons, ← refs_filter (fun l m => hpq l (.tail _ m)) h]
    · rw [if_neg e] at h ⊢
      exact refs_filter (fun l m => hpq l (.tail _ m)) h
def notW (u u2 : Int) (ls : List Lt) (x : Value) : Bool := match x with | .ref x => !((ls.filter fun l => inW u u2 l.uid).any fun l => l.x == x) | _ => false
theorem notW_at {h : Heap} {u u2 : Int} {ls : List Lt} (hls : ∀ l ∈ ls, LetterAt w h l) : ∀ l ∈ ls, notW u u2 ls (.ref l.x) = !inW u u2 l.uid := by
  intro l hl
  show (!((ls.filter fun l => inW u u2 l.uid).any fun l' => l'.x == l.x)) = _
  congr 1
  by_cases e : inW u u2 l.uid = true
  · rw [e, List.any_eq_true]
    exact ⟨l, List.mem_filter.mpr ⟨hl, e⟩, by simp⟩
  · rw [Bool.not_eq_true] at e
    rw [e, List.any_eq_false]
    intro l' hl' hx
    obtain ⟨m1, m2⟩ := List.mem_filter.mp hl'
    have := (letter_inj (hls l' m1) (hls l hl) (by simpa using hx)).1
    rw [this, e] at m2; cases m2
example : True := by
  k_with "binaryOp Add ref ref" => ((fail_if_success (have := @off12)); ((k_here; (with_reducible show wpAny _ _ (binaryOp _ (Value.ref _) (Value.ref _)) _ _ _); k_dflt (refine' cat_lists (vs := b.gs) (ws := ys4) ?Fw58 ?Nw58 ?aw58 ?bw58 ?zw58 ?_; (case Fw58 => k_asm); (case Nw58 => k_asm); (case aw58 => exact ⟨_, Fr.keep (by k_asm) _ _ hbg, rfl, _, rfl⟩); (case bw58 => exact ⟨_, News.get (by k_asm) (.head _), rfl, _, rfl⟩); (case zw58 => omega); (intro D' h' hD' ax' hk' F' N'; simp only [AllNe, and_true] at ax'; (obtain ⟨-, ax2', -, -, ax', ax6'⟩ := ax'))))))
  exact trivial
theorem LetterAt.offx {h : Heap} {l : Lt} {b : Bx} (x : LetterAt w h l) (hx : h.get? b.x = some (instObj 339 b.dx)) : ∀ y ∈ [l.x, l.dx, l.ft], y ≠ b.x := by
  have i1 := x.inst.at_
  have i2 : h.get? l.dx = some (dictOf (letterEs w l) 5) := x.inst.dict
  obtain ⟨_, o', n, vs, f1, f2, f3, _⟩ := x.fl
  intro y hy e
  simp only [List.mem_cons, List.not_mem_nil, or_false] at hy
  rcases hy with rfl | rfl | rfl
  · rw [e, hx] at i1; injection i1 with i1; injection i1 with i1; injection i1 with i1; exact absurd i1 (by decide)
  · rw [e, hx] at i2; cases i2
  · rw [e, hx] at f1; cases f1; cases f2
theorem filter_nil {u u2 : Int} {ls : List Lt} (h : (uidsOf ls).filter (inW u u2) = []) : ∀ l ∈ ls, inW u u2 l.uid = false := by
  intro l hl
  have := List.filter_eq_nil_iff.mp h l.uid (List.mem_map_of_mem hl)
  simpa using this
theorem filter_sum {u u2 : Int} (ls : List Lt) : ((uidsOf ls).filter (inW u u2)).length + (ls.filter fun l => !inW u u2 l.uid).length = ls.length := by
  induction ls with
  | nil => rfl
  | cons l r ih =>
    show ((l.uid :: uidsOf r).filter _).length + _ = _
    rw [List.filter_cons, List.filter_cons]
    cases e : inW u u2 l.uid <;> simp <;> omega
theorem expunge_spec {b : Bx} {a : Addr} {u u2 : Int} {t t2 : Tok} {n : Nat}
    (B : Bed w mg mb hB) (st : hB.StaysIn s.heap) (hr : dp < 850) (hun : un < 8000) (hb : BoxAt w s.heap b) (o1 : hB.get? b.x = none) (o2 : hB.get? b.dx = none) (ha : s.heap.get? a = some (listOf #[.int u t, .int u2 t2] n)) (o4 : hB.get? a = none)
    (na1 : a ≠ b.lb) (na2 : a ≠ b.gb)
    (h1 : (∀ l ∈ b.ls, inW u u2 l.uid = false) → ∀ D h' tk, Ext [] s.heap h' → Q (.ref D) { s with heap := h', toks := tk })
    (hX2 : ∀ D h' tk lb' ln gb' gn gs' tt, s.heap.get? lb' = none → s.heap.get? gb' = none → lb' ≠ gb' → Ext [b.dx] s.heap h' → InstAt h' b.x (instObj 339 b.dx) 339 (some (dictOf (boxE w b b.nxt b.tn (b.top + 1) tt lb' gb') 7)) →
      h'.get? lb' = some (listOf (refsOf (b.ls.filter fun l => !inW u u2 l.uid)) ln) → h'.get? gb' = some (listOf (List.toArray gs') gn) → gs'.length + (b.ls.filter fun l => !inW u u2 l.uid).length ≤ b.gs.length + b.ls.length → Q (.ref D) { s with heap := h', toks := tk }) :
    wpAny (model prog w) (AT dp un fr gd) (call (.ref 376) [.ref b.x, .ref a]) Q E s := by
  obtain ⟨a1, a2, a3, a4, a5⟩ := hb.apart
  have p1 : a ≠ b.x := by rintro rfl; rw [hb.inst.at_] at ha; cases ha
  have p2 : a ≠ b.dx := by
    rintro rfl
    have e : s.heap.get? b.dx = some (dictOf (boxEs w b) 7) := hb.inst.dict
    rw [e] at ha; injection ha with ha; injection ha with ha; injection ha with ha; exact absurd ha (by decide)
  have q1 := neN a1
  have q4 := neN p1
  have q5 := neN p2
  have hW : ∀ p ∈ [(b.x, instObj 339 b.dx), (b.dx, dictOf (boxEs w b) 7), (a, listOf #[.int u t, .int u2 t2] n)], s.heap.get? p.1 = some p.2 ∧ hB.get? p.1 = none := by
    simpa using ⟨⟨hb.inst.at_, o1⟩, ⟨hb.inst.dict, o2⟩, ha, o4⟩
  have hlen := hb.len
  walk_at "enterC"
  have hls : ∀ l ∈ b.ls, LetterAt w g l := fun l hl => (hb.lets l hl).at fun y hy o ho => by
    rw [hg]
    refine hideAll_get _ ho ?_
    simp only [List.mem_cons, List.not_mem_nil, or_false, not_or]
    exact ⟨(hb.lets l hl).offx hb.inst.at_ y hy, fun e => (hb.lets l hl).off hb.mut.2.2 (e ▸ hy), fun e => (hb.lets l hl).off (mut_list ha) (e ▸ hy)⟩
  have hbl : g.get? b.lb = some (listOf (refsOf b.ls) b.ln) := by
    rw [hg]
    refine hideAll_get _ hb.list ?_
    simp only [List.mem_cons, List.not_mem_nil, or_false, not_or]
    exact ⟨a3, a2, na1.symm⟩
  have hbg : g.get? b.gb = some (listOf b.gs.toArray b.gn) := by
    rw [hg]
    refine hideAll_get _ hb.gone ?_
    simp only [List.mem_cons, List.not_mem_nil, or_false, not_or]
    exact ⟨a5, a4, na2.symm⟩
  have hbNow : ∀ {h' : Heap} {m : Str → Option Value} {news : List (Addr × Obj)}, Fr g L h' m → News g L h' news → (b.x, instObj 339 b.dx) ∈ news → (b.dx, dictOf (boxEs w b) 7) ∈ news → BoxAt w h' b := fun F N h1 h2 =>
    ⟨⟨(N _ h1).1, rfl, rfl, (N _ h2).1⟩, F.keep _ _ hbl, F.keep _ _ hbg, fun l hl => (hls l hl).keeps F.keep, hb.sorted, hb.pos, hb.len, hb.glen⟩
  walk_at "goL"
  rename Fr _ _ _ _ => F3
  rename News _ _ _ _ => N3
  rename Obj.IsDictOf _ _ _ => hdW
  have hcell := (N3 _ (.tail _ (.tail _ (.head _)))).1
  refine wpAny_execs_cons ?_
  refine comp_assign (cl := _) (fun x => match x with | .int i _ => inW u u2 i | _ => false) (RelA fun v y => y = v) rfl rfl rfl (by decide) rfl (by decide) rfl rfl relA_stable ?_
  walk_at "goL"
  clear F3 N3
  rename Fr _ _ _ _ => F3
  rename News _ _ _ _ => N3
  have zD := N3 _ (.head _)
  have zd := N3 _ (.tail _ (.head _))
  have zc := N3 _ (.tail _ (.tail _ (.tail _ (.head _))))
  have zlen := ints_length hI'
  rw [uids_len] at zlen
  refine ⟨D', ys', g, _, rfl, F3, ⟨_, zD.1, rfl, _, rfl⟩, by omega, fun C x s₃ m₃ hx FC => ?_, fun D2 h2 tk2 n2 ys2 hD2 hys2 hP2 F2 hk2 => ?_⟩
  · obtain ⟨i, t, rfl, hi⟩ := ints_mem hI' x hx
    refine cassign FC (fun h2 F2 k2 => ctest1 ?_) rfl rfl
    have X1 := X.keeps F3.keep
    have hcell := zc.1
    have hDd : (_ : Heap).DictOf (PySem.intKind prog w) _ _ := Heap.dictOf_iff.mpr ⟨_, zd.1, hdW⟩
    walk_at "go"
    · rename (valueAt _ _).isSome = _ => hq
      rw [inW_val] at hq
      exact ⟨hq, ⟨_, _, _, rfl, F2.ns, k2⟩, [], ⟨rfl, rfl⟩, by simp⟩
    · rename (valueAt _ _).isSome = _ => hq
      rw [inW_val] at hq
      exact ⟨hq, ⟨_, _, _, rfl, F2.ns, k2⟩⟩
  have hI2 := ints_filter (q := inW u u2) (fun _ _ => rfl) hI' hP2
  have N2 := Ext.news (W := [L]) (fun b o hb e => hk2 b o (fun q => hb (List.mem_singleton.mpr q)) e) N3 (fun p hp q => (N3 p hp).2.1 (List.mem_singleton.mp q))
  have N4 := news_add (m := fun _ => none) N2 hys2 (fr_none F3 hD2) (fr_ne F3 hD2)
  have aD := ne_new N3 hD2 (.tail _ (.tail _ (.tail _ (.tail _ (.tail _ (.head _))))))
  dsimp only at aD
  have aDc := ne_new N3 hD2 (.tail _ (.tail _ (.head _)))
  dsimp only at aDc
  have cD : @Ne Nat b.dx D' := by omega
  have cDc : @Ne Nat (L + 1 + 1) D' := by omega
  clear ne'
  clear F3 N3 N2 hk2
  have hn2 : ys2.length ≤ 100 := by
    have := ints_length hI2
    have e2 : ((uidsOf b.ls).filter (inW u u2)).length ≤ (uidsOf b.ls).length := List.length_filter_le _ _
    rw [uids_len] at e2
    omega
  walk_at "goL"
  · rename Fr _ _ _ _ => F5
    rename News _ _ _ _ => N5
    rename decide _ = true => hq
    have e5 := ext_of hg F5
    have zx := (N5 _ (.tail _ (.tail _ (.tail _ (.tail _ (.tail _ (.tail _ (.tail _ (.head _))))))))).1
    have zd := (N5 _ (.tail _ (.tail _ (.tail _ (.tail _ (.tail _ (.tail _ (.tail _ (.tail _ (.head _)))))))))).1
    have za := (N5 _ (.tail _ (.tail _ (.tail _ (.tail _ (.tail _ (.tail _ (.tail _ (.tail _ (.tail _ (.head _))))))))))).1
    exact h1 (filter_nil (of_decide_eq_true hq)) _ _ _ (((e5.drop hb.inst.at_ zx).drop hb.inst.dict zd).drop ha za)
  rename Fr _ _ _ _ => F5
  rename News _ _ _ _ => N5
  refine wpAny_execs_cons ?_
  with_reducible refine plainObj_wpAny_Assign_Attribute ?_ ?_
  rotate_left
  · with_unfolding_all rfl
  refine comp_list (cl := _) (notW u u2 b.ls) (RelA fun v y => y = v) rfl rfl (by decide) rfl (by decide) relA_stable ?_
  walk_at "goL"
  have zd5 := N5 _ (.tail _ (.tail _ (.tail _ (.head _))))
  have zc5 := N5 _ (.tail _ (.tail _ (.tail _ (.tail _ (.tail _ (.head _))))))
  refine ⟨b.lb, b.ls.map (fun l => .ref l.x), rfl, ⟨_, F5.keep _ _ hbl, rfl, _, rfl⟩, by simp; omega, fun C x s₃ m₃ hx FC => ?_, fun D3 h3 tk3 n3 ys3 hD3 hys3 hP3 hk3 => ?_⟩
  · obtain ⟨l, hl, rfl⟩ := List.mem_map.mp hx
    have hI1 := inst_keeps (hls l hl).inst F5.keep
    refine cassign FC (fun h2 F2 k2 => ctest1 ?_) rfl rfl
    have X1 := X.keeps F5.keep
    have hcell := zc5.1
    have hDd : (_ : Heap).DictOf (PySem.intKind prog w) _ _ := Heap.dictOf_iff.mpr ⟨_, zd5.1, hdW⟩
    walk_at "go"
    · rename (valueAt _ _).isSome = _ => hq
      rw [inW_val] at hq
      exact ⟨by rw [notW_at hls l hl, hq]; rfl, ⟨_, _, _, rfl, F2.ns, k2⟩⟩
    · rename (valueAt _ _).isSome = _ => hq
      rw [inW_val] at hq
      exact ⟨by rw [notW_at hls l hl, hq]; rfl, ⟨_, _, _, rfl, F2.ns, k2⟩, [], ⟨rfl, rfl⟩, by simp⟩
  have e3 := refs_filter (q := fun l => !inW u u2 l.uid) (notW_at hls) hP3
  have F6 := Ext.fr (.of_keeps hk3) F5 (List.forall_mem_nil _) List.not_mem_nil
  have N6 := Ext.news (.of_keeps hk3) N5 (fun _ _ => List.not_mem_nil)
  have N7 := news_add (m := fun _ => none) N6 hys3 (fr_none F5 hD3) (fr_ne F5 hD3)
  have aD3 := ne_new N5 hD3 (.tail _ (.tail _ (.tail _ (.tail _ (.tail _ (.tail _ (.tail _ (.head _))))))))
  have aD3a := ne_new N5 hD3 (.tail _ (.tail _ (.tail _ (.tail _ (.tail _ (.tail _ (.tail _ (.tail _ (.head _)))))))))
  dsimp only at aD3 aD3a
  clear F5 N5 N6 hk3
  walk_at "goL"
  rename Fr _ _ _ _ => F8
  rename News _ _ _ _ => N8
  refine comp_list (cl := _) (fun _ => true) (RelB fun v its => True) rfl rfl (by decide) rfl (by decide) relB_stable ?_
  walk_at "goL"
  have zD8 := N8 _ (.tail _ (.tail _ (.head _)))
  have zc8 := N8 _ (.tail _ (.tail _ (.tail _ (.tail _ (.tail _ (.head _))))))
  refine ⟨D2, ys2, rfl, ⟨_, zD8.1, rfl, _, rfl⟩, by omega, fun C x s₃ m₃ hx FC => ?_, fun D4 h4 tk4 n4 ys4 hD4 hys4 hP4 hk4 => ?_⟩
  · obtain ⟨i, t, rfl, hi⟩ := ints_mem hI2 x hx
    refine cassign FC (fun h2 F2 k2 => ctest0 ?_) rfl rfl
    rw [if_pos rfl]
    have X1 := X.keeps F8.keep
    have hcell := zc8.1
    walk_at "go"
    refine ⟨rfl, CompStep.of F' fun b o h1 e => hk' b o (k2 b o h1 e), [D'], ⟨D', _, rfl, rfl, hO', trivial⟩, ?_⟩
    exact foot_new F2 k2 hD'
  have F9 := Ext.fr (.of_keeps hk4) F8 (List.forall_mem_nil _) List.not_mem_nil
  have N9 := Ext.news (.of_keeps hk4) N8 (fun _ _ => List.not_mem_nil)
  have N10 := news_add (m := fun _ => none) N9 hys4 (fr_none F8 hD4) (fr_ne F8 hD4)
  have aD4 := ne_new N8 hD4 (.tail _ (.tail _ (.tail _ (.tail _ (.tail _ (.tail _ (.tail _ (.tail _ (.head _)))))))))
  dsimp only at aD4
  have len4 : ys4.length ≤ 100 := by
    have := hP4.length
    rw [filt] at this
    omega
  have N11 := news_cons (N10 _ (.head _)) (news_cons (N10 _ (.tail _ (.head _))) (news_cons (N10 _ (.tail _ (.tail _ (.tail _ (.head _))))) (news_cons (N10 _ (.tail _ (.tail _ (.tail _ (.tail _ (.tail _ (.tail _ (.tail _ (.tail _ (.head _)))))))))) (news_cons (N10 _ (.tail _ (.tail _ (.tail _ (.tail _ (.tail _ (.tail _ (.tail _ (.tail _ (.tail _ (.head _))))))))))) (news_cons (N10 _ (.tail _ (.tail _ (.tail _ (.tail _ (.tail _ (.tail _ (.tail _ (.tail _ (.tail _ (.tail _ (.head _)))))))))))) News.nil)))))
  clear F8 N8 N9 hk4 N10
  have glen := hb.glen
  walk_at "goL"
  rename Fr _ _ _ _ => F12
  rename News _ _ _ _ => N12
  have e12 := ext_of hg F12
  have zx := (N12 _ (.tail _ (.tail _ (.tail _ (.tail _ (.head _)))))).1
  have zd := (N12 _ (.tail _ (.tail _ (.tail _ (.tail _ (.tail _ (.head _))))))).1
  have za := (N12 _ (.tail _ (.tail _ (.tail _ (.tail _ (.tail _ (.tail _ (.head _)))))))).1
  have zg := N12 _ (.head _)
  have zl := N12 _ (.tail _ (.tail _ (.head _)))
  have ne1 : ∀ {D : Addr} {v : Array Value} {n : Nat} {h' : Heap}, h'.get? D = some (listOf v n) → h'.get? b.x = some (instObj 339 b.dx) → D ≠ b.x := fun e1 e2 e => by
    rw [e, e2] at e1; injection e1 with e1; injection e1 with e1; cases e1
  have ne2 : ∀ {D : Addr} {v : Array Value} {n : Nat} {h' : Heap} {es : List DictEntry}, h'.get? D = some (listOf v n) → h'.get? b.dx = some (dictOf es 7) → D ≠ b.dx := fun e1 e2 e => by
    rw [e, e2] at e1; injection e1 with e1; injection e1 with e1; injection e1 with e1; exact absurd e1 (by decide)
  refine hX2 D2 _ _ D3 n3 D' 0 (b.gs ++ ys4) tt' (hide_new hg zl.2.2 ?_) (hide_new hg zg.2.2 ?_) ax2' ?_ ⟨zx, rfl, rfl, zd⟩ ?_ zg.1 ?_
  · simp only [List.mem_cons, List.not_mem_nil, or_false, not_or]
    exact ⟨ne1 zl.1 zx, ne2 zl.1 zd, fun e => aD3a e.symm⟩
  · simp only [List.mem_cons, List.not_mem_nil, or_false, not_or]
    exact ⟨ne1 zg.1 zx, ne2 zg.1 zd, fun e => ax6' e.symm⟩
  · exact ((e12.mono (W' := [b.x, a, b.dx]) (by simp)).drop hb.inst.at_ zx).drop ha za
  · rw [e3] at zl; exact zl.1
  · have q1 := hP4.length
    rw [filt] at q1
    have q2 := ints_length hI2
    have q3 := filter_sum (u := u) (u2 := u2) b.ls
    rw [List.length_append]; omega
theorem off12 : True := trivial
end
/-! S5 -/
section
variable {prog : Program} {w : World} {mg mb : Str → Option Value} {dp un : Nat} {fr : Option (List Env)} {gd : Option (List Code)} {E : Value → Shared → Prop} {s : Shared} {hB : Heap} {Q : Value → Shared → Prop}
theorem atom_make {x : Str} {t : Tok}
    (B : Bed w mg mb hB) (st : hB.StaysIn s.heap) (hr : dp < 870)
    (h : ∀ D h' tk, Ext [] s.heap h' → Q (.ref D) { s with heap := h', toks := tk }) :
    wpAny (model prog w) (AT dp un fr gd) (call (.ref 73) [.str x t]) Q E s := by
  have hFill := fill_row
  revert hFill; k_fill; intro hFill
  refine make_at (fI := 63) (B.x.keeps st) (by k_is) (by k_is) (by k_is) fun x dx h0 fr' gd' n1 n2 e1 e2 hne e3 => ?_
  have hW : ∀ p ∈ [(x, instObj 73 dx), (dx, dictOf [] 0)], h0.get? p.1 = some p.2 ∧ hB.get? p.1 = none := by simpa using ⟨⟨e1, none_keeps st n1⟩, e2, none_keeps st n2⟩
  replace st : hB.StaysIn h0 := fun b o e => e3.nil b o (st b o e)
  have hne' := neN hne
  walk_at "enterI"
  have kg := keep_make e3 n1 n2
  rw [← hg] at kg
  walk_at "goall"
  rename Fr _ _ _ _ => F3
  exact ⟨rfl, h _ _ _ fun b o _ e => F3.keep b o (kg b o e)⟩
end
/-! S3 -/
section
variable {prog : Program} {w : World} {mg mb : Str → Option Value} {dp un : Nat} {fr : Option (List Env)} {gd : Option (List Code)} {E : Value → Shared → Prop} {s : Shared} {hB : Heap} {Q : Value → Shared → Prop}
def selR (q : Int → Bool) (ls : List Lt) (v : Value) : Bool := match v with | .ref x => ls.any fun l => l.x == x && q l.uid | _ => false
theorem selR_at {h : Heap} {q : Int → Bool} {ls : List Lt} (hls : ∀ l ∈ ls, LetterAt w h l) : ∀ l ∈ ls, selR q ls (.ref l.x) = q l.uid := by
  intro l hl
  show (ls.any fun l' => l'.x == l.x && q l'.uid) = _
  cases e : q l.uid with
  | true =>
    rw [List.any_eq_true]
    exact ⟨l, hl, by simp [e]⟩
  | false =>
    rw [List.any_eq_false]
    intro l' hl' hx
    rw [Bool.and_eq_true] at hx
    have := (letter_inj (hls l' hl') (hls l hl) (by simpa using hx.1)).1
    rw [this, e] at hx
    exact absurd hx.2 (by simp)
example : True := by
  k_with "compareOp NotIn int ref" => ((fail_if_success (have := @off13)); ((k_here; k_dflt (refine' notin_dict ?Dw59 ?Fw59 ?low59 ?_; (case Dw59 => with_reducible assumption); (case Fw59 => k_asm); (case low59 => assumption); k_whole))))
  exact trivial
def isNew (v : Vw) (u : Int) : Bool := decide ((v.us.getLast?.getD 0) < u) && (v.fl u).isNone
theorem new_letters_spec {v : Vw} {b : Bx}
    (B : Bed w mg mb hB) (st : hB.StaysIn s.heap) (hr : dp < 870) (hun : un < 8000) (hv : ViewAt prog w s.heap v) (hb : BoxAt w s.heap b) (hvb : v.bx = b.x)
    (h : ∀ D h' tk n, s.heap.get? D = none → h'.get? D = some (listOf (refsOf (b.ls.filter fun l => isNew v l.uid)) n) → Ext [] s.heap h' → Q (.ref D) { s with heap := h', toks := tk }) :
    wpAny (model prog w) (AT dp un fr gd) (call (.ref 159) [.ref v.x]) Q E s := by
  have hW : ∀ p ∈ ([] : List (Addr × Obj)), s.heap.get? p.1 = some p.2 ∧ hB.get? p.1 = none := List.forall_mem_nil _
  walk_at "enterC"
  replace hv : ViewAt prog w g v := hg ▸ hv
  replace hb : BoxAt w g b := hg ▸ hb
  have hI := hv.inst
  have hIb : InstAt g v.bx (instObj 339 b.dx) 339 (some (dictOf (boxEs w b) 7)) := hvb ▸ hb.inst
  have hl' : g.IsList v.ul v.uvs.toArray := ⟨_, hv.list, rfl, _, rfl⟩
  have hiv := hv.ivs
  have hlen := hv.len
  have hs := hv.sorted
  obtain ⟨kvF, hkvF, hkf⟩ := hv.flags
  walk_at "go"
  all_goals (rename Obj.data _ = Data.cell (bindC _ _ _ _) => dv0)
  rotate_left
  · rename decide _ = false => hq
    have hpos : 0 < v.us.length := List.length_pos_iff.mpr (of_decide_eq_false hq)
    walk_at "go"
    replace dv0 : Obj.data _ = Data.cell (some (.ref v.x)) := dv0
    have hle : v.us.getD ((v.us.length : Int) - 1).toNat 0 = v.us.getLast?.getD 0 := by
      have e1 : ((v.us.length : Int) - 1).toNat = v.us.length - 1 := by omega
      rw [e1, List.getLast?_eq_getElem?]
      simp [List.getD]
    refine comp_list (cl := _) (selR (isNew v) b.ls) (RelA fun v y => y = v) rfl rfl (by decide) rfl (by decide) relA_stable ?_
    walk_at "go"
    rename Fr _ _ _ _ => F5
    rename News _ _ _ _ => N5
    have zl := (N5 _ (.tail _ (.head _))).1
    have zv := (N5 _ (.tail _ (.tail _ (.head _)))).1
    refine ⟨b.lb, b.ls.map (fun l => .ref l.x), rfl, hb.isList.at fun o e => F5.keep _ o e, by have := hb.len; simp; omega, fun C x s₃ m₃ hx FC => ?_, fun D3 h3 tk3 n3 ys3 hD3 hys3 hP3 hk3 => ?_⟩
    · obtain ⟨l, hl, rfl⟩ := List.mem_map.mp hx
      have hI1 := inst_keeps (hb.lets l hl).inst F5.keep
      have hI2 := inst_keeps hI F5.keep
      have hDd := dict_keeps hkvF (fun o e => F5.keep _ o e)
      have lo := hv.lo
      refine cassign FC (fun h2 F2 k2 => ctest1 ?_) rfl rfl
      have X1 := X.keeps F5.keep
      walk_at "go"
      all_goals (have hsl : selR (isNew v) b.ls (.ref l.x) = (decide (v.us.getD ((v.us.length : Int) - 1).toNat 0 < l.uid) && !(valueAt kvF l.uid).isSome) := (selR_at hb.lets l hl).trans (by unfold isNew; rw [FlagKv.isSome hkf l.uid, ← hle, Option.not_isSome]))
      · rename (valueAt _ _).isSome = _ => hz
        rename _ < l.uid => hlt
        exact ⟨by rw [hsl, hz, decide_eq_true hlt]; rfl, ⟨_, _, _, rfl, F2.ns, k2⟩⟩
      · rename (valueAt _ _).isSome = _ => hz
        rename _ < l.uid => hlt
        exact ⟨by rw [hsl, hz, decide_eq_true hlt]; rfl, ⟨_, _, _, rfl, F2.ns, k2⟩, [], ⟨rfl, rfl⟩, by simp⟩
      · rename ¬ _ < l.uid => hlt
        exact ⟨by rw [hsl, decide_eq_false hlt]; rfl, ⟨_, _, _, rfl, F2.ns, k2⟩⟩
    · rw [refs_filter (q := fun l => isNew v l.uid) (selR_at hb.lets) hP3] at hys3
      exact h _ _ _ _ (none_of (ext_of hg F5) hD3) hys3 ((ext_of hg F5).trans (.of_keeps hk3))
  · rename decide _ = true => hq
    replace dv0 : Obj.data _ = Data.cell (some (.ref v.x)) := dv0
    have hle : (0 : Int) = v.us.getLast?.getD 0 := by
      rw [of_decide_eq_true hq]; rfl
    refine comp_list (cl := _) (selR (isNew v) b.ls) (RelA fun v y => y = v) rfl rfl (by decide) rfl (by decide) relA_stable ?_
    walk_at "go"
    rename Fr _ _ _ _ => F5
    rename News _ _ _ _ => N5
    have zl := (N5 _ (.tail _ (.head _))).1
    have zv := (N5 _ (.tail _ (.tail _ (.head _)))).1
    refine ⟨b.lb, b.ls.map (fun l => .ref l.x), rfl, hb.isList.at fun o e => F5.keep _ o e, by have := hb.len; simp; omega, fun C x s₃ m₃ hx FC => ?_, fun D3 h3 tk3 n3 ys3 hD3 hys3 hP3 hk3 => ?_⟩
    · obtain ⟨l, hl, rfl⟩ := List.mem_map.mp hx
      have hI1 := inst_keeps (hb.lets l hl).inst F5.keep
      have hI2 := inst_keeps hI F5.keep
      have hDd := dict_keeps hkvF (fun o e => F5.keep _ o e)
      have lo := hv.lo
      refine cassign FC (fun h2 F2 k2 => ctest1 ?_) rfl rfl
      have X1 := X.keeps F5.keep
      walk_at "go"
      all_goals (have hsl : selR (isNew v) b.ls (.ref l.x) = (decide ((0 : Int) < l.uid) && !(valueAt kvF l.uid).isSome) := (selR_at hb.lets l hl).trans (by unfold isNew; rw [FlagKv.isSome hkf l.uid, ← hle, Option.not_isSome]))
      · rename (valueAt _ _).isSome = _ => hz
        rename _ < l.uid => hlt
        exact ⟨by rw [hsl, hz, decide_eq_true hlt]; rfl, ⟨_, _, _, rfl, F2.ns, k2⟩⟩
      · rename (valueAt _ _).isSome = _ => hz
        rename _ < l.uid => hlt
        exact ⟨by rw [hsl, hz, decide_eq_true hlt]; rfl, ⟨_, _, _, rfl, F2.ns, k2⟩, [], ⟨rfl, rfl⟩, by simp⟩
      · rename ¬ _ < l.uid => hlt
        exact ⟨by rw [hsl, decide_eq_false hlt]; rfl, ⟨_, _, _, rfl, F2.ns, k2⟩⟩
    · rw [refs_filter (q := fun l => isNew v l.uid) (selR_at hb.lets) hP3] at hys3
      exact h _ _ _ _ (none_of (ext_of hg F5) hD3) hys3 ((ext_of hg F5).trans (.of_keeps hk3))
theorem off13 : True := trivial
end
/-! S4 -/
section
variable {prog : Program} {w : World} {mg mb : Str → Option Value} {dp un : Nat} {fr : Option (List Env)} {gd : Option (List Code)} {E : Value → Shared → Prop} {s : Shared} {hB : Heap} {Q : Value → Shared → Prop}
theorem ul_off {h : Heap} {v : Vw} {kvF kvM : List (Int × Value)} (hI : InstAt h v.x (instObj 124 v.dx) 124 (some (dictOf (viewEs w v) 7))) (hl : h.get? v.ul = some (listOf v.uvs.toArray v.un)) (hF : h.DictOf (PySem.intKind prog w) v.fv kvF) (hM : h.DictOf (PySem.intKind prog w) v.mv kvM) : v.ul ≠ v.x ∧ v.ul ≠ v.dx ∧ v.ul ≠ v.fv ∧ v.ul ≠ v.mv := by
  have i1 := hI.at_
  have i2 : h.get? v.dx = some (dictOf (viewEs w v) 7) := hI.dict
  obtain ⟨oF, f1, es, ep, f2, _⟩ := Heap.dictOf_iff.mp hF
  obtain ⟨oM, g1, es', ep', g2, _⟩ := Heap.dictOf_iff.mp hM
  refine ⟨?_, ?_, ?_, ?_⟩ <;> intro e <;> rw [e] at hl
  · rw [i1] at hl; injection hl with hl; injection hl with hl; cases hl
  · rw [i2] at hl; injection hl with hl; injection hl with hl; injection hl with hl; exact absurd hl (by decide)
  · rw [f1] at hl; cases hl; exact absurd f2.1 (by simp)
  · rw [g1] at hl; cases hl; exact absurd g2.1 (by simp)
example : True := by
  k_with "call builtin:dict.pop" => ((fail_if_success (have := @off14)); ((k_here; k_dflt ((with_reducible show wpAny _ _ (call (Value.builtin "dict.pop") [Value.ref _, Value.int _ _]) _ _ _); refine' kob_pop (knd := PySem.intKind _ _) (more := []) ?Fw60 ?Nw60 ?Uw60 ?dw60 (intKind_is _ _ _ _) (.inl rfl) (by rfl) (PySem.F.args_dict_pop_2 _ _) ?lw60 ?zw60 ?_; (case Fw60 => k_asm); (case Nw60 => k_asm); (case Uw60 => k_updF); (case dw60 => with_reducible assumption); (case lw60 => assumption); (case zw60 => rw [sizeLine_eq]; omega)); (intro h' o' F' N' hd'; (try dsimp only at N')))))
  exact trivial
theorem forget_spec {v : Vw} {u : Int} {tu : Tok} {kvF kvM : List (Int × Value)}
    (B : Bed w mg mb hB) (st : hB.StaysIn s.heap) (hr : dp < 870) (hI : InstAt s.heap v.x (instObj 124 v.dx) 124 (some (dictOf (viewEs w v) 7))) (hl0 : s.heap.get? v.ul = some (listOf v.uvs.toArray v.un)) (hiv : IntsAre v.uvs v.us) (hlen : v.us.length ≤ 100)
    (hF : s.heap.DictOf (PySem.intKind prog w) v.fv kvF) (hM : s.heap.DictOf (PySem.intKind prog w) v.mv kvM) (hne : v.fv ≠ v.mv) (b0 : hB.get? v.x = none) (b1 : hB.get? v.fv = none) (b2 : hB.get? v.mv = none) (b3 : hB.get? v.dx = none) (l1 : kvF.length ≤ 1000) (l2 : kvM.length ≤ 1000)
    (hiF : (valueAt kvF u).isSome = true) (hiM : (valueAt kvM u).isSome = true)
    (h : ∀ ul' un' uvs' h' tk, s.heap.get? ul' = none → Ext [v.dx, v.fv, v.mv] s.heap h' → InstAt h' v.x (instObj 124 v.dx) 124 (some (dictOf (viewEs w { v with ul := ul' }) 7)) → h'.get? ul' = some (listOf (List.toArray uvs') un') → IntsAre uvs' (v.us.filter fun i => !(i == u)) →
      h'.DictOf (PySem.intKind prog w) v.fv (without kvF u) → h'.DictOf (PySem.intKind prog w) v.mv (without kvM u) → Q .none { s with heap := h', toks := tk }) :
    wpAny (model prog w) (AT dp un fr gd) (call (.ref 176) [.ref v.x, .int u tu]) Q E s := by
  have m1 := mut_dict hF
  have m2 := mut_dict hM
  have vx := view_off hI m1
  have vx2 := view_off hI m2
  replace hne := neN hne
  have vd := view_off2 hI hF
  have vd2 := view_off2 hI hM
  have vxd : v.x ≠ v.dx := by
    intro e
    have i1 := hI.at_
    have i2 : s.heap.get? v.dx = some (dictOf (viewEs w v) 7) := hI.dict
    rw [e, i2] at i1; injection i1 with i1; injection i1 with i1; cases i1
  obtain ⟨oF, hoF, dF⟩ := Heap.dictOf_iff.mp hF
  obtain ⟨oM, hoM, dM⟩ := Heap.dictOf_iff.mp hM
  have hW : ∀ p ∈ [(v.x, instObj 124 v.dx), (v.dx, dictOf (viewEs w v) 7), (v.fv, oF), (v.mv, oM)], s.heap.get? p.1 = some p.2 ∧ hB.get? p.1 = none := by simpa using ⟨⟨hI.at_, b0⟩, ⟨hI.dict, b3⟩, ⟨hoF, b1⟩, hoM, b2⟩
  have q1 := neN vx
  have q2 := neN vx2
  have q3 := neN vd
  have q4 := neN vd2
  have q5 := neN vxd
  obtain ⟨vF, hvF⟩ := Option.isSome_iff_exists.mp hiF
  obtain ⟨vM, hvM⟩ := Option.isSome_iff_exists.mp hiM
  have vu := ul_off hI hl0 hF hM
  walk_at "enterC"
  have hl' : g.get? v.ul = some (listOf v.uvs.toArray v.un) := by
    rw [hg]
    refine hideAll_get _ hl0 ?_
    simp only [List.mem_cons, List.not_mem_nil, or_false, not_or]
    exact vu
  walk_at "goL"
  refine wpAny_execs_cons ?_
  with_reducible refine plainObj_wpAny_Assign_Attribute ?_ ?_
  rotate_left
  · with_unfolding_all rfl
  refine comp_list (cl := _) (fun x => match x with | .int i _ => !(i == u) | _ => false) (RelA fun v y => y = v) rfl rfl (by decide) rfl (by decide) relA_stable ?_
  walk_at "goL"
  rename Obj.data _ = Data.cell (bindC _ _ _ _) => dv0
  replace dv0 : Obj.data _ = Data.cell (some (.int u tu)) := dv0
  have zc := (N _ (.head _)).1
  refine ⟨v.ul, v.uvs, rfl, ⟨_, F.keep _ _ hl', rfl, _, rfl⟩, by have := ints_length hiv; omega, fun C x s₃ m₃ hx FC => ?_, fun D3 h3 tk3 n3 ys3 hD3 hys3 hP3 hk3 => ?_⟩
  · obtain ⟨i, t, rfl, hi⟩ := ints_mem hiv x hx
    refine cassign FC (fun h2 F2 k2 => ctest1 ?_) rfl rfl
    have X1 := X.keeps F.keep
    walk_at "go"
    · rename i ≠ u => hq
      exact ⟨by show (!(i == u)) = true; simpa using hq, ⟨_, _, _, rfl, F2.ns, k2⟩, [], ⟨rfl, rfl⟩, by simp⟩
    · rename i = u => hq
      exact ⟨by show (!(i == u)) = false; simpa using hq, ⟨_, _, _, rfl, F2.ns, k2⟩⟩
  have hI3 := ints_filter (q := fun i => !(i == u)) (fun _ _ => rfl) hiv hP3
  have F6 := Ext.fr (.of_keeps hk3) F (List.forall_mem_nil _) List.not_mem_nil
  have N6 := Ext.news (.of_keeps hk3) N (fun _ _ => List.not_mem_nil)
  have N7 := news_add (m := fun _ => none) N6 hys3 (fr_none F hD3) (fr_ne F hD3)
  have aD1 := ne_new N hD3 (.tail _ (.tail _ (.head _)))
  have aD2 := ne_new N hD3 (.tail _ (.tail _ (.tail _ (.head _))))
  have aD3 := ne_new N hD3 (.tail _ (.tail _ (.tail _ (.tail _ (.head _)))))
  dsimp only at aD1 aD2 aD3
  clear F N N6 hk3
  walk_at "goL"
  rename Fr _ _ _ _ => F8
  rename News _ _ _ _ => N8
  rename Obj.IsDictOf _ _ _ => hdM
  revert hdM
  rename Obj.IsDictOf _ _ _ => hdF
  intro hdM
  have e5 := ext_of hg F8
  have z0 := N8 _ (.head _)
  have zx := (N8 _ (.tail _ (.tail _ (.head _)))).1
  have zd := (N8 _ (.tail _ (.tail _ (.tail _ (.head _))))).1
  have zf := (N8 _ (.tail _ (.tail _ (.tail _ (.tail _ (.head _)))))).1
  have zm := (N8 _ (.tail _ (.tail _ (.tail _ (.tail _ (.tail _ (.head _))))))).1
  have n1 : D3 ≠ v.x := fun e => by
    rw [e, zx] at z0; have := z0.1; injection this with this; injection this with this; cases this
  refine h D3 n3 ys3 _ _ (hide_new hg z0.2.2 ?_) (e5.drop hI.at_ zx) ⟨zx, rfl, rfl, zd⟩ z0.1 hI3 (Heap.dictOf_iff.mpr ⟨_, zf, hdF⟩) (Heap.dictOf_iff.mpr ⟨_, zm, hdM⟩)
  simp only [List.mem_cons, List.not_mem_nil, or_false, not_or]
  exact ⟨n1, fun e => aD1 e.symm, fun e => aD2 e.symm, fun e => aD3 e.symm⟩
theorem off14 : True := trivial
end
/-! S6 -/
section
variable {prog : Program} {w : World} {A : Around} {E : Value → Shared → Prop} {env : Env}
theorem pyIter_tup_walk {l : Addr} {its : List Value} {s : Shared} {T : Value → Shared → Prop} (hh : A.handled = none) (hl : s.heap.IsTuple l its.toArray)
    (h : ∀ I s₂, s₂ = { s with heap := s₂.heap } → s.heap.get? I = none → s.heap.objs.size ≤ s₂.heap.objs.size → (∀ b o, s.heap.get? b = some o → s₂.heap.get? b = some o) → Walks prog w A I [I, l] [I] its.length (fun i v => its[i]? = some v) (fun i h => h.IsTupleIter I l i ∧ h.IsTuple l its.toArray) →
      (∀ i (h : Heap), (h.IsTupleIter I l i ∧ h.IsTuple l its.toArray) → ∃ o, h.get? I = some o) → (s₂.heap.IsTupleIter I l 0 ∧ s₂.heap.IsTuple l its.toArray) → (∀ b ∈ [I, l], b < s₂.heap.objs.size) → T (.ref I) s₂) :
    wpAny (model prog w) A (pyIter (.ref l)) T E s := by
  refine wpAny_pyIter_tuple hl ?_
  obtain ⟨ol, hol, _⟩ := id hl
  have hlt : l < s.heap.objs.size := Heap.lt_size hol
  have hne : l ≠ s.heap.objs.size := Nat.ne_of_lt hlt
  have W := Walks.tuple (prog := prog) (w := w) hh s.heap.objs.size l hne its.toArray
  simp only [List.size_toArray, List.getElem?_toArray] at W
  refine h s.heap.objs.size _ rfl fresh_size (by rw [Heap.size_push]; exact Nat.le_succ _) (fun b o e => Heap.get?_push_of_some _ e) W (fun i h x => let ⟨⟨o, a, _⟩, _⟩ := x; ⟨o, a⟩) ⟨⟨_, Heap.get?_push_size _ rfl, rfl, rfl⟩, hl.at fun o e => Heap.get?_push_of_some _ e⟩ ?_
  intro b hb
  rw [Heap.size_push]
  simp only [List.mem_cons, List.not_mem_nil, or_false] at hb
  rcases hb with rfl | rfl
  · exact Nat.lt_succ_self _
  · exact Nat.lt_succ_of_lt hlt
inductive CompFromT (prog : Program) (w : World) (A : Around) (env : Env) (target elt : PySem.Expr) (ifs : List PySem.Expr) (scope : Scope) (cl : List (Str × Addr)) (p : Value → Bool) (R : Heap → Value → Value → List Addr → Prop) (Q : Value → Shared → Prop) (xv : Value) (s₁ : Shared) : Prop
  | mk (l : _) (its : _) (z1 : xv = .ref l) (z2 : s₁.heap.IsTuple l (List.toArray its)) (z3 : its.length ≤ 1000) (z4 : (∀ C (v : Value) s₃ m₃, v ∈ its → Fr s₁.heap C s₃.heap m₃ → CompTurn prog w A target elt ifs p R C (compEnvC scope cl C env) v s₃)) (z5 : (∀ D h' tk n ys, s₁.heap.get? D = none → h'.get? D = some (listOf (List.toArray ys) n) → Paired (fun v y => ∃ foot, R h' v y foot ∧ ∀ b ∈ foot, b ≠ D ∧ s₁.heap.get? b = none) (its.filter p) ys → (∀ b o, s₁.heap.get? b = some o → h'.get? b = some o) → Q (.ref D) { s₁ with heap := h', toks := tk })) : CompFromT prog w A env target elt ifs scope cl p R Q xv s₁
theorem comp_tup {s : Shared} {elt target iter : PySem.Expr} {ifs : List PySem.Expr} {scope : Scope} {cl : List (Str × Addr)} {pos : Pos} {Q : Value → Shared → Prop} (p : Value → Bool) (R : Heap → Value → Value → List Addr → Prop)
    (hh : A.handled = none) (hclos : closureFor scope env = pure cl) (hcell : ∀ y ∈ scope.names, y.2 ≠ .cell) (hkind : scope.kind = .function)
    (hnames : ∀ y ∈ scope.names, y.2 = .local → scope.names.lookup y.1 = some .local)
    (hR : ∀ h h' v y foot, R h v y foot → (∀ b ∈ foot, ∀ o, h.get? b = some o → h'.get? b = some o) → R h' v y foot)
    (h : wpAny (model prog w) A (eval iter env) (CompFromT prog w A env target elt ifs scope cl p R Q) E s)
    (hs : ∀ x, foldedSetIterable iter env x = pure x := by intro _; rfl) (ht : ∀ I v, letOwnedTupleGo target (.ref I) v = pure () := by intro _ _; rfl) :
    wpAny (model prog w) A (eval (.ListComp elt [⟨target, iter, ifs, 0⟩] scope pos) env) Q E s := by
  refine comp_all p R hclos hcell hkind hnames hR (wpAny_mono h (fun xv s₁ h₁ => ?_) fun _ _ x => x) hs ht
  obtain ⟨l, its, rfl, hl, hlen, turn, hQ⟩ := h₁
  refine pyIter_tup_walk hh hl fun I s₂ es hI hle hk W hlive hst hfp => ?_
  have up : ∀ b, s₂.heap.get? b = none → s₁.heap.get? b = none := fun b e => by
    cases q : s₁.heap.get? b with
    | none => rfl
    | some o => rw [hk b o q] at e; cases e
  have neI : ∀ b o, s₁.heap.get? b = some o → b ≠ I := by
    rintro b o e rfl; rw [hI] at e; cases e
  refine ⟨I, _, _, _, _, rfl, W, hlen, hlive, hst, hfp, fun C i v s₃ m₃ hC hv _ hn hk' => turn C v s₃ m₃ (List.mem_of_getElem? hv) ⟨hn, fun b o e => hk' b o (neI b o e) (hk b o e), Nat.le_trans hle hC⟩, fun D h' tk ys vs hD hpl hlen' hP hF hk' => ?_⟩
  obtain ⟨n, hn⟩ := hpl
  have e : vs = its := List.ext_getElem? fun j => by
    cases q : vs[j]? with
    | some v => exact (hP j v q).symm
    | none =>
      have : its.length ≤ j := by rw [← hlen']; exact List.getElem?_eq_none_iff.mp q
      exact (List.getElem?_eq_none this).symm
  subst e
  have hF' : Paired (fun v y => ∃ foot, R h' v y foot ∧ ∀ b ∈ foot, b ≠ D ∧ s₁.heap.get? b = none) (vs.filter p) ys.toList := hF.mono fun _ _ ⟨foot, r, hf⟩ => ⟨foot, r, fun b hb => ⟨(hf b hb).1, up b (hf b hb).2⟩⟩
  have := hQ D h' tk n ys.toList (up D hD) (by simpa using hn) hF' fun b o e => hk' b o (neI b o e) (hk b o e)
  rw [es]
  exact this
end
section
variable {prog : Program} {w : World} {mg mb : Str → Option Value} {dp un : Nat} {fr : Option (List Env)} {gd : Option (List Code)} {E : Value → Shared → Prop} {s : Shared} {hB : Heap} {Q : Value → Shared → Prop}
example : True := by
  k_with "call ref" => ((fail_if_success (have := @off15)); ((k_here; (with_reducible show wpAny _ _ (call (Value.ref 73) _) _ _ _); k_dflt (refine' atom_make (BedKeep Bg F1) (Fr.keep (by k_asm)) ?hrw61 ?_; (case hrw61 => walk_at "room"); (intro D' h' tk' he')))))
  exact trivial
theorem BedKeep {h h' : Heap} {L : Addr} {m : Str → Option Value} (B : Bed w mg mb h) (F : Fr h L h' m) : Bed w mg mb h' := B.keeps F.keep
theorem strs_mem : ∀ {vs : List Value} {ss : List Str}, StrsAre vs ss → ∀ v ∈ vs, ∃ x t, v = .str x t
  | _, _, .cons x t r, v, hv => by
    rcases List.mem_cons.mp hv with rfl | hv
    · exact ⟨x, t, rfl⟩
    · exact strs_mem r v hv
theorem flag_pairs_spec {v : Vw} {l : Lt}
    (B : Bed w mg mb hB) (st : hB.StaysIn s.heap) (hr : dp < 850) (hI0 : InstAt s.heap v.x (instObj 124 v.dx) 124 (some (dictOf (viewEs w v) 7))) (hl : LetterAt w s.heap l)
    (h : ∀ D h' tk, Ext [] s.heap h' → Q (.ref D) { s with heap := h', toks := tk }) :
    wpAny (model prog w) (AT dp un fr gd) (call (.ref 164) [.ref v.x, .ref l.x]) Q E s := by
  have hW : ∀ p ∈ ([] : List (Addr × Obj)), s.heap.get? p.1 = some p.2 ∧ hB.get? p.1 = none := List.forall_mem_nil _
  walk_at "enter"
  have hI : InstAt g v.x (instObj 124 v.dx) 124 (some (dictOf (viewEs w v) 7)) := hg ▸ hI0
  replace hl : LetterAt w g l := hg ▸ hl
  have hI2 := hl.inst
  obtain ⟨_, of, nf, fvs, f1, f2, f3, f4⟩ := hl.fl
  walk_at "go"
  refine comp_tup (cl := []) (fun _ => true) (RelA fun v y => True) rfl rfl (by decide) rfl (by decide) relA_stable ?_
  walk_at "go"
  refine ⟨l.ft, fvs, rfl, ⟨_, Fr.keep (by assumption) _ _ f1, f2, nf, f3⟩, ?_, fun C v s₃ m₃ hv FC => ?_, fun D1 h1 tk1 n1 ys1 hD1 hys1 hP1 hk1 => ?_⟩
  · have := f4.length
    have : ∀ k, (flagsS k).length ≤ 2 := fun k => match k with | 0 => by decide | 1 => by decide | 2 => by decide | _ + 3 => by simp [flagsS]
    have := this l.srt
    omega
  · obtain ⟨x, t, rfl⟩ := strs_mem f4 v hv
    rename Fr g _ _ _ => F1
    refine cassign FC (fun h2 F2 k2 => ctest0 ?_) rfl rfl
    rw [if_pos rfl]
    have X1 := X.keeps F1.keep
    have T1 := T.keeps F1.keep
    walk_at "go"
    have F' := Ext.fr he' F2 (List.forall_mem_nil _) List.not_mem_nil
    exact ⟨rfl, CompStep.of F' fun b o h1 e => he'.nil b o (k2 b o h1 e), [], ⟨rfl, trivial⟩, by simp⟩
  rename Fr _ _ _ _ => F0
  rename News _ _ _ _ => N0
  have F1 := Ext.fr (.of_keeps hk1) F0 (List.forall_mem_nil _) List.not_mem_nil
  have N1 := Ext.news (.of_keeps hk1) N0 (fun _ _ => List.not_mem_nil)
  clear F0 N0
  dsimp only
  walk_at "go"
  all_goals (rename Fr _ _ _ _ => F9; exact h _ _ _ (ext_of hg F9))
theorem off15 : True := trivial
end
/-! S7 -/
section
structure VAt (prog : Program) (w : World) (hF h : Heap) (v : Vw) : Prop where
  inst : InstAt h v.x (instObj 124 v.dx) 124 (some (dictOf (viewEs w v) 7))
  list : h.get? v.ul = some (listOf v.uvs.toArray v.un)
  ivs : IntsAre v.uvs v.us
  flags : ∃ kvs, h.DictOf (PySem.intKind prog w) v.fv kvs ∧ FlagKv hF kvs v.fl
  mods : ∃ kvs, h.DictOf (PySem.intKind prog w) v.mv kvs ∧ MsKv kvs v.ms
  fdom : ∀ u, (v.fl u).isSome = true ↔ u ∈ v.us
  mdom : ∀ u, (v.ms u).isSome = true ↔ u ∈ v.us
  sorted : Sorted v.us
  pos : ∀ u ∈ v.us, 1 ≤ u
  len : v.us.length ≤ 100
  apart : v.fv ≠ v.mv
  lo : (v.fv == sysModules) = false
theorem VAt.view {prog : Program} {w : World} {hF h : Heap} {v : Vw} (x : VAt prog w hF h v) (st : hF.StaysIn h) : ViewAt prog w h v :=
  ⟨x.inst, x.list, x.ivs, let ⟨kvs, d, f⟩ := x.flags; ⟨kvs, d, f.keep fun a k q => q.at fun o e => st a o e⟩, let ⟨kvs, d, f⟩ := x.mods; ⟨kvs, d, f⟩, x.fdom, x.mdom, x.sorted, x.pos, x.len, x.apart, x.lo⟩
theorem ViewAt.v {prog : Program} {w : World} {h : Heap} {v : Vw} (x : ViewAt prog w h v) : VAt prog w h h v :=
  ⟨x.inst, x.list, x.ivs, let ⟨kvs, d, f⟩ := x.flags; ⟨kvs, d, f⟩, let ⟨kvs, d, f⟩ := x.mods; ⟨kvs, d, f⟩, x.fdom, x.mdom, x.sorted, x.pos, x.len, x.apart, x.lo⟩
end
section
variable {prog : Program} {w : World} {mg mb : Str → Option Value} {dp un : Nat} {fr : Option (List Env)} {gd : Option (List Code)} {E : Value → Shared → Prop} {s : Shared} {hB hF : Heap} {Q : Value → Shared → Prop}
theorem range_inv {A : Around} {h₀ : Heap} {env : Env} {x : Str} {body : List Stmt} {Q : Flow → Shared → Prop} {r : Addr} {n : Nat} {t u v : Tok} {m₀ : Str → Option Value} {news : List (Addr × Obj)} (J : Nat → (Str → Option Value) → List (Addr × Obj) → Prop)
    (hh : A.handled = none) (hr : IsRange s.heap r 0 (n : Int) 1 t u v) (hn : n ≤ 1000) (F : Fr h₀ env.locals s.heap m₀) (N : News h₀ env.locals s.heap news) (hj : J 0 m₀ news)
    (turn : ∀ i t m₁ nx h tk own, i < n → OwnOff own (nx.map (·.1)) → J i m₁ nx → Fr h₀ env.locals h (fun y => if y = x then some (.int (i : Nat) t) else m₁ y) → News h₀ env.locals h (nx ++ own) →
      wpAny (model prog w) A (execs body env) (InvPostG h₀ env.locals (J (i + 1)) own { s with heap := h, toks := tk } Q) E { s with heap := h, toks := tk })
    (done : ∀ m₁ nx h tk, J n m₁ nx → Fr h₀ env.locals h m₁ → News h₀ env.locals h nx → Q .next { s with heap := h, toks := tk }) :
    wpAny (model prog w) A (pyIter (.ref r)) (fun it s₂ => LoopAtV prog w A h₀ env x body Q E it s₂) E s := by
  refine wpAny_pyIter_range hr (by
    have hz : Builtin.Range.rangeSize 0 (n : Int) 1 = n := by
      unfold Builtin.Range.rangeSize
      rw [if_pos (by decide)]
      split <;> omega
    unfold Builtin.Range.small Builtin.Range.rangeFitsLong
    rw [hz, if_pos (by decide)]
    simp only [Bool.and_eq_true, Bool.or_eq_true, decide_eq_true_eq, beq_iff_eq]
    refine ⟨⟨⟨⟨⟨?_, ?_⟩, ⟨?_, ?_⟩⟩, ⟨?_, ?_⟩⟩, ⟨?_, ?_⟩⟩, .inr ⟨?_, ?_⟩⟩ <;> omega) ?_
  have W := Walks.range (prog := prog) (w := w) hh s.heap.objs.size 0 1 n
  have hsz : Builtin.Range.rangeSize 0 (n : Int) 1 = n := by
    unfold Builtin.Range.rangeSize
    rw [if_pos (by decide)]
    split <;> omega
  refine kdr_loop (s := { s with heap := s.heap.push { cls := .type "range_iterator", data := .fields #[rawInt 0, rawInt (Builtin.Range.rangeSize 0 (n : Int) 1), rawInt 1] } }) J W (fun _ h => h) (fun _ h => h) (fun i h st b hb => ?_) ?_ ?_ ?_ ?_ (F.push _) (fun p hp => ⟨Heap.get?_push_of_some _ (N p hp).1, (N p hp).2⟩) hj (fun i v m₁ nx h tk own hi hP ho hJ F' N' => ?_) done
  · rw [List.mem_singleton.mp hb]; exact ⟨_, st⟩
  · intro hm
    exact absurd F.ns.lt ((List.mem_singleton.mp hm) ▸ Nat.lt_irrefl _)
  · intro b hb
    rw [List.mem_singleton.mp hb]
    exact next_is_new F
  · intro p hp hI
    exact absurd (Heap.lt_size (N p hp).1) ((List.mem_singleton.mp hI) ▸ Nat.lt_irrefl _)
  · rw [hsz]
    exact Heap.get?_push_size _ rfl
  · obtain ⟨t, rfl⟩ := hP
    have e : (0 : Int) + (i : Nat) * 1 = (i : Nat) := by omega
    rw [e] at F'
    exact turn i t m₁ nx h tk own hi ho hJ F' N'
theorem note_in {v : Vw} {l : Lt} {g : Heap} {L : Addr} {m : Str → Option Value} {news : List (Addr × Obj)} {oF oM : Obj} {n1 : Obj → List (Addr × Obj)} {n2 : Obj → Obj → List (Addr × Obj)} {kvF kvM : List (Int × Value)} (Bg : Bed w mg mb g) (F : Fr g L s.heap m) (N : News g L s.heap news)
    (U1 : UpdF v.fv oF news n1) (U2 : ∀ o, UpdF v.mv oM (n1 o) (n2 o)) (hr : dp < 890) (hI : InstAt s.heap v.x (instObj 124 v.dx) 124 (some (dictOf (viewEs w v) 7))) (hl : LetterAt w s.heap l) (mF : (v.fv, oF) ∈ news) (mM : (v.mv, oM) ∈ news)
    (dF : oF.IsDictOf (PySem.intKind prog w) kvF) (dM : oM.IsDictOf (PySem.intKind prog w) kvM) (hne : v.fv ≠ v.mv) (l1 : kvF.length ≤ 1000) (l2 : kvM.length ≤ 1000)
    (h : ∀ oF' oM' h' tk, Fr g L h' m → News g L h' (n2 oF' oM') → oF'.IsDictOf (PySem.intKind prog w) (stored kvF l.uid (.ref l.ft)) → oM'.IsDictOf (PySem.intKind prog w) (stored kvM l.uid (.int l.ms l.tm)) → Q .none { s with heap := h', toks := tk }) :
    wpAny (model prog w) (AT dp un fr gd) (call (.ref 142) [.ref v.x, .ref l.x]) Q E s := by
  have zF := N _ mF
  have zM := N _ mM
  refine note_spec Bg F.keep hr hI hl (Heap.dictOf_iff.mpr ⟨_, zF.1, dF⟩) (Heap.dictOf_iff.mpr ⟨_, zM.1, dM⟩) hne zF.2.2 zM.2.2 l1 l2 fun h' tk he hF' hM' => ?_
  obtain ⟨oF', f1, f2⟩ := Heap.dictOf_iff.mp hF'
  obtain ⟨oM', g1, g2⟩ := Heap.dictOf_iff.mp hM'
  refine h oF' oM' h' tk (he.fr F ?_ ?_) ?_ f2 g2
  · intro b hb
    simp only [List.mem_cons, List.not_mem_nil, or_false] at hb
    rcases hb with rfl | rfl
    · exact zF.2.2
    · exact zM.2.2
  · simp only [List.mem_cons, List.not_mem_nil, or_false, not_or]
    exact ⟨zF.2.1.symm, zM.2.1.symm⟩
  · obtain ⟨pre, post, e1, e2, a, b⟩ := U1.split
    obtain ⟨pre', post', e1', e2', a', b'⟩ := (U2 oF').split
    rw [e2']
    have split : ∀ p ∈ pre' ++ post', h'.get? p.1 = some p.2 ∧ p.1 ≠ L ∧ g.get? p.1 = none := by
      intro p hp
      have hpM : p.1 ≠ v.mv := by
        rcases List.mem_append.mp hp with q | q
        · exact a' p q
        · exact b' p q
      have hp2 : p ∈ n1 oF' := by
        rw [e1']
        rcases List.mem_append.mp hp with q | q
        · exact List.mem_append_left _ q
        · exact List.mem_append.mpr (.inr (.tail _ q))
      rw [e2] at hp2
      rcases List.mem_append.mp hp2 with q | q
      · have z := N p (by rw [e1]; exact List.mem_append_left _ q)
        exact ⟨he _ _ (by simpa using ⟨a p q, hpM⟩) z.1, z.2⟩
      · rcases List.mem_cons.mp q with rfl | q
        · exact ⟨f1, zF.2⟩
        · have z := N p (by rw [e1]; exact List.mem_append.mpr (.inr (.tail _ q)))
          exact ⟨he _ _ (by simpa using ⟨b p q, hpM⟩) z.1, z.2⟩
    intro p hp
    rcases List.mem_append.mp hp with q | q
    · exact split p (List.mem_append_left _ q)
    · rcases List.mem_cons.mp q with rfl | q
      · exact ⟨g1, zM.2⟩
      · exact split p (List.mem_append_right _ q)
theorem flOf_found {ls : List Lt} {l : Lt} {α : Type} {f : Lt → α} (hs : Sorted (uidsOf ls)) (hl : l ∈ ls) : (ls.find? fun l' => decide (l'.uid = l.uid)).map f = some (f l) := by
  induction ls with
  | nil => cases hl
  | cons x r ih =>
    rw [List.find?_cons]
    have hs' : Sorted (x.uid :: uidsOf r) := hs
    unfold Sorted at hs'
    rw [List.pairwise_cons] at hs'
    rcases List.mem_cons.mp hl with rfl | hl'
    · simp
    · have : x.uid < l.uid := hs'.1 _ (List.mem_map_of_mem hl')
      have hne : ¬ x.uid = l.uid := by omega
      simp only [hne, decide_false]
      exact ih hs'.2 hl'
theorem flOf_miss {ls : List Lt} {u : Int} {α : Type} {f : Lt → α} (h : ∀ l ∈ ls, l.uid ≠ u) : (ls.find? fun l' => decide (l'.uid = u)).map f = none := by
  have : ls.find? (fun l' => decide (l'.uid = u)) = none := by
    rw [List.find?_eq_none]; intro x hx; simpa using h x hx
  rw [this]; rfl
theorem box_letter_at {b : Bx} {x' : Addr} {u : Int} {tu : Tok} (hx : x' = b.x)
    (B : Bed w mg mb hB) (st : hB.StaysIn s.heap) (hr : dp < 890) (hb : BoxAt w s.heap b)
    (h1 : ∀ (i : Nat) (l : Lt) h' tk, b.ls[i]? = some l → l.uid = u → Ext [] s.heap h' → Q (.ref l.x) { s with heap := h', toks := tk })
    (h2 : (∀ l ∈ b.ls, l.uid ≠ u) → ∀ h' tk, Ext [] s.heap h' → Q .none { s with heap := h', toks := tk }) :
    wpAny (model prog w) (AT dp un fr gd) (call (.ref 326) [.ref x', .int u tu]) Q E s := by
  subst hx
  exact box_letter_spec B st hr hb h1 h2
theorem new_tupN {A : Around} {g : Heap} {L : Addr} {m : Str → Option Value} {news : List (Addr × Obj)} {its : List Value} (F : Fr g L s.heap m) (N : News g L s.heap news) (hz : its.length ≤ 1000)
    (h : ∀ D h', Fr g L h' m → News g L h' news → Q (.ref D) { s with heap := h' }) :
    wpAny (model prog w) A (newTuple its) Q E s :=
  wpAny_newTuple (h _ _ (F.push _) (fun p hp => ⟨Heap.get?_push_of_some _ (N p hp).1, (N p hp).2⟩)) (by rw [sizeLine_eq]; first | omega | (simp; omega))
def Told (b : Bx) (v : Vw) (us : List Int) (fl : Int → Option Nat) (ms : Int → Option Int) : Prop :=
  (∀ u, fl u = if u ∈ us then (flOf b.ls u).or (v.fl u) else v.fl u) ∧ (∀ u, (ms u).isSome = (v.ms u).isSome) ∧ (v.uses = true → ∀ u, ms u = if u ∈ us then (msOf b.ls u).or (v.ms u) else v.ms u)
inductive JF (prog : Program) (w : World) (hF : Heap) (b : Bx) (v : Vw) (i : Nat) (m : Str → Option Value) (nx : List (Addr × Obj)) : Prop
  | mk (D : _) (ys : _) (n : _) (oF : _) (oM : _) (kvF : _) (kvM : _) (fl : _) (ms : _) (z1 : @Ne Nat D v.fv) (z2 : @Ne Nat D v.mv) (z3 : nx = [(D, listOf (List.toArray ys) n), (v.fv, oF), (v.mv, oM)]) (z4 : oF.IsDictOf (PySem.intKind prog w) kvF) (z5 : oM.IsDictOf (PySem.intKind prog w) kvM) (z6 : FlagKv hF kvF fl) (z7 : MsKv kvM ms) (z8 : Told b v (v.us.take i) fl ms) (z9 : ys.length ≤ ((v.us.take i).filter fun u => (uidsOf b.ls).contains u).length) (z10 : m "answers" = some (.ref D)) (z11 : m "view" = some (.ref v.x)) : JF prog w hF b v i m nx
example : True := by
  k_with "call ref" => ((fail_if_success (have := @off16)); ((k_here; (with_reducible show wpAny _ _ (call (Value.ref 326) _) _ _ _); k_dflt (refine' box_letter_at (b := b) hvb ?Bw62 ?stw62 ?hrw62 ?hbw62 ?_ ?_; (case Bw62 => assumption); (case stw62 => exact Fr.keep (by k_asm)); (case hrw62 => walk_at "room"); (case hbw62 => exact hbg.keeps (Fr.keep (by k_asm))); (all_goals (first | (intro i' l' h' tk' hi' hu' he'; (have hl0' := hbg.lets l' (List.mem_of_getElem? hi')); walk_at "after0"; clear he') | (intro hno' h' tk' he'; walk_at "after0"; clear he')))))))
  exact trivial
example : True := by
  k_with "call ref" => ((fail_if_success (have := @off16)); ((k_here; (with_reducible show wpAny _ _ (call (Value.ref 149) _) _ _ _); k_dflt (refine' is_stale_spec (v := { v with fl := fl, ms := ms }) (l := l') ?Bw63 ?stw63 ?hrw63 ?huw63 ?hvw63 ?hlw63 ?hkw63 ?hmw63 ?_; (case Bw63 => assumption); (case stw63 => exact Fr.keep (by k_asm)); (case hrw63 => walk_at "room"); (case huw63 => walk_at "room"); (case hvw63 => exact vNow (by k_asm) (by k_asm) (by k_mem) (by k_mem)); (case hlw63 => exact hl0'.keeps (Fr.keep (by k_asm))); (case hkw63 => (rw [hu']; exact hk0)); (case hmw63 => (rw [hu']; exact hm0)); (intro h' tk' he'; walk_at "after0"; clear he')))))
  exact trivial
example : True := by
  k_with "call ref" => ((fail_if_success (have := @off16)); ((k_here; (with_reducible show wpAny _ _ (call (Value.ref 164) _) _ _ _); k_dflt (refine' flag_pairs_spec (v := v) (l := l') ?Bw64 ?stw64 ?hrw64 ?hIw64 ?hlw64 ?_; (case Bw64 => assumption); (case stw64 => exact Fr.keep (by k_asm)); (case hrw64 => walk_at "room"); (case hIw64 => exact inst_keeps hI1 (Fr.keep (by k_asm))); (case hlw64 => exact hl0'.keeps (Fr.keep (by k_asm))); (intro D' h' tk' he'; walk_at "after0"; clear he')))))
  exact trivial
example : True := by
  k_with "call ref" => ((fail_if_success (have := @off16)); ((k_here; (with_reducible show wpAny _ _ (call (Value.ref 142) _) _ _ _); k_dflt (refine' note_in (v := v) (l := l') (oF := oF') (oM := oM') (kvF := kvF') (kvM := kvM') ?Bw65 ?Fw65 ?Nw65 ?U1w65 ?U2w65 ?hrw65 ?hIw65 ?hlw65 ?mFw65 ?mMw65 ?dFw65 ?dMw65 ?hnew65 ?l1w65 ?l2w65 ?_; (case Bw65 => assumption); (case Fw65 => k_asm); (case Nw65 => k_asm); (case U1w65 => k_updF); (case U2w65 => (intro o9; k_updF)); (case hrw65 => walk_at "room"); (case hIw65 => exact inst_keeps hI1 (Fr.keep (by k_asm))); (case hlw65 => exact hl0'.keeps (Fr.keep (by k_asm))); (case mFw65 => k_mem); (case mMw65 => k_mem); (case dFw65 => assumption); (case dMw65 => assumption); (case hnew65 => exact hv.apart); (case l1w65 => exact hlF); (case l2w65 => exact hlM); (intro oF2 oM2 h' tk' F' N' hdF2 hdM2; (try dsimp only at N'))))))
  exact trivial
example : True := by
  k_with "newTuple" => ((fail_if_success (have := @off16)); ((k_here; k_dflt (refine' new_tupN ?Fw66 ?Nw66 ?zw66 ?_; (case Fw66 => k_asm); (case Nw66 => k_asm); (case zw66 => simp)); (intro D' h' F' N'))))
  exact trivial
example : True := by
  k_with "call builtin:list.append" => ((fail_if_success (have := @off16)); ((k_here; (with_reducible show wpAny _ _ (call (Value.builtin _) [Value.ref _, _]) _ _ _); k_dflt (refine' append_K ?k1w67 ?k2w67 ?k3w67 ?_ ?zw67; (case k1w67 => k_asm); (case k2w67 => k_asm); (case k3w67 => k_upd); (case zw67 => (rw [sizeLine_eq]; (try simp only [List.size_toArray, List.length_map]); omega)); k_whole); intro h' F' N')))
  exact trivial
theorem Told.set {b : Bx} {v : Vw} {us : List Int} {fl : Int → Option Nat} {ms : Int → Option Int} {l : Lt} (t : Told b v us fl ms) (hs : Sorted (uidsOf b.ls)) (hl : l ∈ b.ls) (hd : (v.ms l.uid).isSome = true) : Told b v (us ++ [l.uid]) (upd fl l.uid l.srt) (upd ms l.uid l.ms) := by
  refine ⟨fun u => ?_, fun u => ?_, fun hu u => ?_⟩
  · unfold upd
    by_cases e : u = l.uid
    · rw [if_pos e, if_pos (by simp [e]), e]
      unfold flOf; rw [flOf_found hs hl]; rfl
    · rw [if_neg e, t.1 u]; simp [e]
  · unfold upd
    by_cases e : u = l.uid
    · rw [if_pos e, e, hd]; rfl
    · rw [if_neg e]; exact t.2.1 u
  · unfold upd
    by_cases e : u = l.uid
    · rw [if_pos e, if_pos (by simp [e]), e]
      unfold msOf; rw [flOf_found hs hl]; rfl
    · rw [if_neg e, t.2.2 hu u]; simp [e]
theorem Told.same {b : Bx} {v : Vw} {us : List Int} {fl : Int → Option Nat} {ms : Int → Option Int} {l : Lt} (t : Told b v us fl ms) (hs : Sorted (uidsOf b.ls)) (hl : l ∈ b.ls) (h1 : fl l.uid = some l.srt) (h2 : v.uses = true → ms l.uid = some l.ms) : Told b v (us ++ [l.uid]) fl ms := by
  refine ⟨fun u => ?_, t.2.1, fun hu u => ?_⟩
  · by_cases e : u = l.uid
    · rw [if_pos (by simp [e]), e, h1]
      unfold flOf; rw [flOf_found hs hl]; rfl
    · rw [t.1 u]; simp [e]
  · by_cases e : u = l.uid
    · rw [if_pos (by simp [e]), e, h2 hu]
      unfold msOf; rw [flOf_found hs hl]; rfl
    · rw [t.2.2 hu u]; simp [e]
theorem Told.none {b : Bx} {v : Vw} {us : List Int} {fl : Int → Option Nat} {ms : Int → Option Int} {u0 : Int} (t : Told b v us fl ms) (hn : ∀ l ∈ b.ls, l.uid ≠ u0) : Told b v (us ++ [u0]) fl ms := by
  have f1 : flOf b.ls u0 = .none := flOf_miss hn
  have f2 : msOf b.ls u0 = .none := flOf_miss hn
  refine ⟨fun u => ?_, t.2.1, fun hu u => ?_⟩
  · by_cases e : u = u0
    · rw [if_pos (by simp [e]), t.1 u, e, f1]; simp
    · rw [t.1 u]; simp [e]
  · by_cases e : u = u0
    · rw [if_pos (by simp [e]), t.2.2 hu u, e, f2]; simp
    · rw [t.2.2 hu u]; simp [e]
theorem mem_uids {ls : List Lt} {l : Lt} (h : l ∈ ls) : (uidsOf ls).contains l.uid = true := by
  have : l.uid ∈ uidsOf ls := List.mem_map_of_mem h
  simpa using this
theorem take_next {us : List Int} {i : Nat} {u : Int} (h : us[i]? = some u) : us.take (i + 1) = us.take i ++ [u] := by rw [List.take_add_one, h]; rfl
theorem count_next {us : List Int} {c : Int → Bool} {u : Int} : (us.filter c).length ≤ ((us ++ [u]).filter c).length := by rw [List.filter_append, List.length_append]; omega
theorem count_in {us : List Int} {c : Int → Bool} {u : Int} (h : c u = true) : ((us ++ [u]).filter c).length = (us.filter c).length + 1 := by rw [List.filter_append, List.length_append]; simp [h]
theorem flag_news_spec {v : Vw} {b : Bx}
    (B : Bed w mg mb hB) (st : hB.StaysIn s.heap) (hr : dp < 800) (hun : un < 7900) (stF : hF.StaysIn hB) (hbx : BoxAt w hF b) (hvb : v.bx = b.x) (hv : VAt prog w hF s.heap v) (b1 : hB.get? v.fv = none) (b2 : hB.get? v.mv = none)
    (h : ∀ D h' tk n ys fl ms, s.heap.get? D = none → h'.get? D = some (listOf (List.toArray ys) n) → ys.length ≤ (v.us.filter fun u => (uidsOf b.ls).contains u).length → Ext [v.fv, v.mv] s.heap h' → (∃ kvs, h'.DictOf (PySem.intKind prog w) v.fv kvs ∧ FlagKv hF kvs fl) → (∃ kvs, h'.DictOf (PySem.intKind prog w) v.mv kvs ∧ MsKv kvs ms) → Told b v v.us fl ms → Q (.ref D) { s with heap := h', toks := tk }) :
    wpAny (model prog w) (AT dp un fr gd) (call (.ref 171) [.ref v.x]) Q E s := by
  obtain ⟨kvF, hF1, hF2⟩ := hv.flags
  obtain ⟨kvM, hM1, hM2⟩ := hv.mods
  have hI := hv.inst
  have m1 := mut_dict hF1
  have m2 := mut_dict hM1
  have hne := neN hv.apart
  have vu := ul_off hI hv.list hF1 hM1
  obtain ⟨oF, hoF, dF⟩ := Heap.dictOf_iff.mp hF1
  obtain ⟨oM, hoM, dM⟩ := Heap.dictOf_iff.mp hM1
  have hW : ∀ p ∈ [(v.fv, oF), (v.mv, oM)], s.heap.get? p.1 = some p.2 ∧ hB.get? p.1 = none := by simpa using ⟨⟨hoF, b1⟩, hoM, b2⟩
  walk_at "enter"
  have eg : Ext [v.fv, v.mv] s.heap g := hg ▸ ext_hide
  have hI1 := inst_at hI (h' := g) (fun o => eg _ o (by simp [(view_off hI m1).symm, (view_off hI m2).symm])) (fun o => eg _ o (by simp [(view_off2 hI hF1).symm, (view_off2 hI hM1).symm]))
  have hul : g.get? v.ul = some (listOf v.uvs.toArray v.un) := eg _ _ (by simp [vu]) hv.list
  have hl' : g.IsList v.ul v.uvs.toArray := ⟨_, hul, rfl, _, rfl⟩
  have hiv := hv.ivs
  have hlen := hv.len
  have hs := hv.sorted
  walk_at "go"
  refine wpAny_execs_cons ?_
  rename Fr _ _ _ _ => F1
  rename News _ _ _ _ => N1
  with_unfolding_all refine' For_invVF F1 ?k1 ?k2 ?_
  case k1 => exact rfl
  case k2 => exact rfl
  walk_at "goI"
  rename IsRange _ _ _ _ _ _ _ _ => hrng
  rename Fr _ _ _ _ => F1
  rename News _ _ _ _ => N1
  have kBg : ∀ b o, hB.get? b = some o → g.get? b = some o := fun c o e => by
    rw [hg]
    refine hideAll_get _ (st c o e) ?_
    simp only [List.mem_cons, List.not_mem_nil, or_false, not_or]
    constructor
    · intro q
      rw [q, b1] at e; cases e
    · intro q
      rw [q, b2] at e; cases e
  have kFg : ∀ b o, hF.get? b = some o → g.get? b = some o := fun c o e => kBg c o (stF c o e)
  have hbg : BoxAt w g b := hbx.keeps kFg
  have hIb : InstAt g v.bx (instObj 339 b.dx) 339 (some (dictOf (boxEs w b) 7)) := hvb ▸ hbg.inst
  refine range_inv (JF prog w hF b v) rfl hrng (by omega) F1 N1 ⟨_, [], 0, oF, oM, kvF, kvM, v.fl, v.ms, ?_, ?_, rfl, dF, dM, hF2, hM2, ?_, ?_, rfl, rfl⟩ ?_ ?_
  · omega
  · omega
  · exact ⟨fun u => by simp, fun u => rfl, fun _ u => by simp⟩
  · simp
  · rintro i t m₁ nx h tk own hi hoff ⟨D, ys, n, oF', oM', kvF', kvM', fl, ms, nD1, nD2, rfl, dF', dM', fk, mk, told, hys, e1, e2⟩ F2 N2
    have F3 := over_fr (st := []) (ps := [("at", .int (i : Nat) t), ("answers", .ref D), ("view", .ref v.x)]) (m₀ := _) F2 (by
      intro p hp
      simp only [List.mem_cons, List.not_mem_nil, or_false] at hp
      rcases hp with rfl | rfl | rfl
      · exact if_pos rfl
      · exact (if_neg (show ¬ (Str.ofString "answers" = Str.ofString "at") by decide)).trans e1
      · exact (if_neg (show ¬ (Str.ofString "view" = Str.ofString "at") by decide)).trans e2) (fun _ _ _ => rfl)
    clear F2
    have fdom : ∀ u, (fl u).isSome = true ↔ u ∈ v.us := by
      intro u
      rw [told.1 u, ← hv.fdom u]
      split
      · rename_i hm
        have := (hv.fdom u).mpr (List.mem_of_mem_take hm)
        cases flOf b.ls u <;> simp [this]
      · rfl
    have mdom : ∀ u, (ms u).isSome = true ↔ u ∈ v.us := fun u => by rw [told.2.1 u]; exact hv.mdom u
    have hlF : kvF'.length ≤ 1000 := Nat.le_trans (tab_len (Heap.dictOf_iff.mpr ⟨oF', (N2 _ (.tail _ (.head _))).1, dF'⟩) (fun u hu => (fdom u).mp (by rw [← fk.isSome u]; exact hu))) (by omega)
    have hlM : kvM'.length ≤ 1000 := Nat.le_trans (tab_len (Heap.dictOf_iff.mpr ⟨oM', (N2 _ (.tail _ (.tail _ (.head _)))).1, dM'⟩) (fun u hu => (mdom u).mp (by rw [← mk.isSome u]; exact hu))) (by omega)
    have vNow : ∀ {h' : Heap} {m : Str → Option Value} {news : List (Addr × Obj)}, Fr g L h' m → News g L h' news → (v.fv, oF') ∈ news → (v.mv, oM') ∈ news → ViewAt prog w h' { v with fl := fl, ms := ms } := fun F N h1 h2 =>
      ⟨inst_keeps hI1 F.keep, F.keep _ _ hul, hiv, ⟨kvF', Heap.dictOf_iff.mpr ⟨oF', (N _ h1).1, dF'⟩, fk.keep fun a k q => q.at fun o e => F.keep a o (kFg a o e)⟩, ⟨kvM', Heap.dictOf_iff.mpr ⟨oM', (N _ h2).1, dM'⟩, mk⟩, fdom, mdom, hs, hv.pos, hlen, hv.apart, hv.lo⟩
    have hu0 : v.us[i]? = some (v.us.getD i 0) := getD_some hi
    have hmem : v.us.getD i 0 ∈ v.us := List.mem_of_getElem? hu0
    have hysz : ys.length ≤ 100 := Nat.le_trans hys (Nat.le_trans (List.length_filter_le _ _) (Nat.le_trans (List.length_take_le' _ _) hlen))
    obtain ⟨k0, hk0⟩ := Option.isSome_iff_exists.mp ((fdom (v.us.getD (i : Int).toNat 0)).mpr hmem)
    obtain ⟨m0, hm0⟩ := Option.isSome_iff_exists.mp ((mdom (v.us.getD (i : Int).toNat 0)).mpr hmem)
    walk_at "go"
    · rename Fr _ _ _ _ => F9
      rename News _ _ _ _ => N9
      have hlm := List.mem_of_getElem? hi'
      have hu2 : v.us[i]? = some l'.uid := by rw [hu0, hu']; rfl
      refine InvEndG.intro (nx := [(D, listOf (ys.toArray.push (.ref D')) (n + 1)), (v.fv, oF2), (v.mv, oM2)]) F9 N9 ⟨D, ys ++ [.ref D'], n + 1, oF2, oM2, _, _, upd fl l'.uid l'.srt, upd ms l'.uid l'.ms, nD1, nD2, (by simp), hdF2, hdM2, ?_, mk.upd, ?_, ?_, rfl, rfl⟩ hoff ?_ ?_
      · exact fk.upd (hbx.lets l' hlm).fl
      · rw [take_next hu2]
        exact told.set hbg.sorted hlm ((hv.mdom _).mpr (List.mem_of_getElem? hu2))
      · rw [take_next hu2, count_in (mem_uids hlm), List.length_append]
        exact Nat.add_le_add_right hys 1
      · intro p hp
        simp only [List.mem_cons, List.not_mem_nil, or_false] at hp
        rcases hp with rfl | rfl | rfl <;> simp
      · intro p hp; simp [hp]
    · rename Fr _ _ _ _ => F9
      rename News _ _ _ _ => N9
      rename _ = false => hst
      have hlm := List.mem_of_getElem? hi'
      have hu2 : v.us[i]? = some l'.uid := by rw [hu0, hu']; rfl
      rw [← hu'] at hk0 hm0
      simp only [Bool.or_eq_false_iff, Bool.and_eq_false_iff, decide_eq_false_iff_not, Decidable.not_not] at hst
      refine InvEndG.intro F9 N9 ⟨D, ys, n, oF', oM', _, _, fl, ms, nD1, nD2, rfl, dF', dM', fk, mk, ?_, ?_, rfl, rfl⟩ hoff ?_ ?_
      · rw [take_next hu2]
        refine told.same hbg.sorted hlm (by rw [hk0, hst.1]) fun hu => ?_
        rcases hst.2 with q | q
        · rw [hu] at q; cases q
        · rw [hm0, q]
      · rw [take_next hu2]; exact Nat.le_trans hys count_next
      · intro p hp; exact List.mem_append_left _ hp
      · intro p hp; exact List.mem_append_right _ hp
    · rename Fr _ _ _ _ => F9
      rename News _ _ _ _ => N9
      refine InvEndG.intro F9 N9 ⟨D, ys, n, oF', oM', _, _, fl, ms, nD1, nD2, rfl, dF', dM', fk, mk, ?_, ?_, rfl, rfl⟩ hoff ?_ ?_
      · rw [take_next hu0]; exact told.none hno'
      · rw [take_next hu0]; exact Nat.le_trans hys count_next
      · intro p hp; exact List.mem_append_left _ hp
      · intro p hp; exact List.mem_append_right _ hp
  · rintro m₁ nx h9 tk9 ⟨D, ys, n, oF', oM', kvF', kvM', fl, ms, nD1, nD2, rfl, dF', dM', fk, mk, told, hys, e1, e2⟩ F2 N2
    have F3 := over_fr (st := []) (ps := [("answers", .ref D), ("view", .ref v.x)]) (m₀ := _) F2 (by
      intro p hp
      simp only [List.mem_cons, List.not_mem_nil, or_false] at hp
      rcases hp with rfl | rfl
      · exact e1
      · exact e2) (fun _ _ _ => rfl)
    clear F2
    rw [List.take_length] at told hys
    walk_at "go"
    rename Fr _ _ _ _ => F9
    rename News _ _ _ _ => N9
    have zD := N9 _ (.head _)
    exact h D _ _ n ys fl ms (hide_new hg zD.2.2 (by simp only [List.mem_cons, List.not_mem_nil, or_false, not_or]; exact ⟨nD1, nD2⟩)) zD.1 hys (ext_of hg F9) ⟨kvF', Heap.dictOf_iff.mpr ⟨oF', (N9 _ (.tail _ (.head _))).1, dF'⟩, fk⟩ ⟨kvM', Heap.dictOf_iff.mpr ⟨oM', (N9 _ (.tail _ (.tail _ (.head _)))).1, dM'⟩, mk⟩ told
theorem off16 : True := trivial
end
/-! S9 -/
section
variable {prog : Program} {w : World} {mg mb : Str → Option Value} {dp un : Nat} {fr : Option (List Env)} {gd : Option (List Code)} {E : Value → Shared → Prop} {s : Shared} {hB hF : Heap} {Q : Value → Shared → Prop}
theorem ne_nil {A : Around} {l b : Addr} {its : List Value} (hl : s.heap.IsList l its.toArray) (hb : s.heap.IsList b #[]) (hu : A.units < cLine) (h : Q (.bool (!its.isEmpty)) s) : wpAny (model prog w) A (compareOp .NotEq (.ref l) (.ref b)) Q E s := by
  cases its with
  | nil => exact SeqAt.RcNeAt.lists (e := fun _ => true) hl hb rfl hu (fun j h1 _ => absurd h1 (by simp)) prog w E Q h
  | cons x r => exact SeqAt.RcNeAt.lists_lengths hl hb (by simp) hu prog w E Q h
theorem flOf_snoc {ls : List Lt} {l : Lt} {u : Int} {α : Type} {f : Lt → α} : ((ls ++ [l]).find? fun l' => decide (l'.uid = u)).map f = ((ls.find? fun l' => decide (l'.uid = u)).map f).or (if l.uid = u then some (f l) else none) := by
  rw [List.find?_append]
  cases e : ls.find? (fun l' => decide (l'.uid = u)) with
  | some x => simp
  | none => by_cases q : l.uid = u <;> simp [q]
def Grown (v : Vw) (ls : List Lt) (fl : Int → Option Nat) (ms : Int → Option Int) : Prop := (∀ u, fl u = (flOf ls u).or (v.fl u)) ∧ (∀ u, ms u = (msOf ls u).or (v.ms u))
theorem Grown.snoc {v : Vw} {ls : List Lt} {fl : Int → Option Nat} {ms : Int → Option Int} {l : Lt} (g : Grown v ls fl ms) (h1 : ∀ x ∈ ls, x.uid ≠ l.uid) : Grown v (ls ++ [l]) (upd fl l.uid l.srt) (upd ms l.uid l.ms) := by
  refine ⟨fun u => ?_, fun u => ?_⟩
  · unfold upd flOf
    rw [flOf_snoc]
    by_cases e : u = l.uid
    · subst e; rw [if_pos rfl, flOf_miss h1]; simp
    · have e' : l.uid ≠ u := fun q => e q.symm
      rw [if_neg e, g.1 u]; unfold flOf; simp [e']
  · unfold upd msOf
    rw [flOf_snoc]
    by_cases e : u = l.uid
    · subst e; rw [if_pos rfl, flOf_miss h1]; simp
    · have e' : l.uid ≠ u := fun q => e q.symm
      rw [if_neg e, g.2 u]; unfold msOf; simp [e']
inductive JA (prog : Program) (w : World) (hF : Heap) (v : Vw) (D : Addr) (nn : Nat) (nls : List Lt) (i : Nat) (m : Str → Option Value) (nx : List (Addr × Obj)) : Prop
  | mk (uvs : _) (un : _) (oF : _) (oM : _) (kvF : _) (kvM : _) (fl : _) (ms : _) (z1 : nx = [(D, listOf (refsOf nls) nn), (v.ul, listOf (List.toArray uvs) un), (v.fv, oF), (v.mv, oM)]) (z2 : IntsAre uvs (v.us ++ uidsOf (nls.take i))) (z3 : oF.IsDictOf (PySem.intKind prog w) kvF) (z4 : oM.IsDictOf (PySem.intKind prog w) kvM) (z5 : FlagKv hF kvF fl) (z6 : MsKv kvM ms) (z7 : Grown v (nls.take i) fl ms) (z8 : m "letters" = some (.ref D)) (z9 : m "view" = some (.ref v.x)) : JA prog w hF v D nn nls i m nx
example : True := by
  k_with "call ref" => ((fail_if_success (have := @off17)); ((k_here; (with_reducible show wpAny _ _ (call (Value.ref 159) _) _ _ _); k_dflt (refine' new_letters_spec (b := b) (v := v) ?Bw68 ?stw68 ?hrw68 ?huw68 ?hvw68 ?hbw68 hvb ?_; (case Bw68 => assumption); (case stw68 => exact Fr.keep (by k_asm)); (case hrw68 => walk_at "room"); (case huw68 => walk_at "room"); (case hvw68 => exact vNow0 (by k_asm) (by k_asm)); (case hbw68 => exact hbg.keeps (Fr.keep (by k_asm))); (intro D' h' tk' nn' hD' hO' he'; walk_at "afterD")))))
  exact trivial
example : True := by
  k_with "compareOp NotEq ref ref" => ((fail_if_success (have := @off17)); ((k_here; k_dflt (refine' ne_nil (its := nls.map fun l => Value.ref l.x) ?k1w69 ?k2w69 ?k4w69 ?_; (case k1w69 => exact ⟨_, News.get (by k_asm) (by k_mem), rfl, _, rfl⟩); (case k2w69 => exact ⟨_, News.get (by k_asm) (.head _), rfl, _, rfl⟩); (case k4w69 => rw [cLine_is']; walk_at "room"); k_whole))))
  exact trivial
example : True := by
  k_with "call ref" => ((fail_if_success (have := @off17)); ((k_here; (with_reducible show wpAny _ _ (call (Value.ref 142) _) _ _ _); k_dflt (refine' note_in (v := v) (l := l') (oF := oF') (oM := oM') (kvF := kvF') (kvM := kvM') ?Bw70 ?Fw70 ?Nw70 ?U1w70 ?U2w70 ?hrw70 ?hIw70 ?hlw70 ?mFw70 ?mMw70 ?dFw70 ?dMw70 ?hnew70 ?l1w70 ?l2w70 ?_; (case Bw70 => assumption); (case Fw70 => k_asm); (case Nw70 => k_asm); (case U1w70 => k_updF); (case U2w70 => (intro o9; k_updF)); (case hrw70 => walk_at "room"); (case hIw70 => exact inst_keeps hI1 (Fr.keep (by k_asm))); (case hlw70 => exact hl0'.keeps (Fr.keep (by k_asm))); (case mFw70 => k_mem); (case mMw70 => k_mem); (case dFw70 => assumption); (case dMw70 => assumption); (case hnew70 => exact hv.apart); (case l1w70 => exact hlF); (case l2w70 => exact hlM); (intro oF2 oM2 h' tk' F' N' hdF2 hdM2; (try dsimp only at N'))))))
  exact trivial
example : True := by
  k_with "call builtin:list.append" => ((fail_if_success (have := @off17)); ((k_here; (with_reducible show wpAny _ _ (call (Value.builtin _) [Value.ref _, _]) _ _ _); k_dflt (refine' append_K ?k1w71 ?k2w71 ?k3w71 ?_ ?zw71; (case k1w71 => k_asm); (case k2w71 => k_asm); (case k3w71 => k_upd); (case zw71 => (rw [sizeLine_eq]; (try simp only [List.size_toArray, List.length_map]); omega)); k_whole); intro h' F' N')))
  exact trivial
example : True := by
  k_with "newTuple" => ((fail_if_success (have := @off17)); ((k_here; k_dflt (refine' new_tupN ?Fw72 ?Nw72 ?zw72 ?_; (case Fw72 => k_asm); (case Nw72 => k_asm); (case zw72 => simp)); (intro D' h' F' N'))))
  exact trivial
theorem last_max : ∀ {us : List Int}, Sorted us → ∀ u ∈ us, u ≤ us.getLast?.getD 0
  | [], _, u, h => by cases h
  | [x], _, u, h => by simp at h; simp [h]
  | x :: y :: r, hs, u, h => by
    have hs' : (x :: y :: r).Pairwise (· < ·) := hs
    rw [List.pairwise_cons] at hs'
    have ih := last_max (us := y :: r) hs'.2
    rw [List.getLast?_cons_cons]
    rcases List.mem_cons.mp h with rfl | h
    · have h1 := hs'.1 y (.head _)
      have h2 := ih y (.head _)
      omega
    · exact ih u h
theorem new_sorted {v : Vw} {ls : List Lt} (h1 : Sorted v.us) (h2 : Sorted (uidsOf ls)) : Sorted (v.us ++ uidsOf (ls.filter fun l => isNew v l.uid)) := by
  unfold Sorted
  rw [List.pairwise_append]
  refine ⟨h1, ?_, ?_⟩
  · exact List.Pairwise.sublist (List.Sublist.map _ List.filter_sublist) h2
  · intro a ha c hc
    obtain ⟨l, hl, rfl⟩ := List.mem_map.mp hc
    have := (List.mem_filter.mp hl).2
    unfold isNew at this
    rw [Bool.and_eq_true] at this
    have h3 := of_decide_eq_true this.1
    have := last_max h1 a ha
    omega
theorem Grown.dom {v : Vw} {ls : List Lt} {fl : Int → Option Nat} {ms : Int → Option Int} (g : Grown v ls fl ms) (h1 : ∀ u, (v.fl u).isSome = true ↔ u ∈ v.us) (h2 : ∀ u, (v.ms u).isSome = true ↔ u ∈ v.us) :
    (∀ u, (fl u).isSome = true ↔ u ∈ v.us ++ uidsOf ls) ∧ ∀ u, (ms u).isSome = true ↔ u ∈ v.us ++ uidsOf ls := by
  constructor <;> intro u
  · rw [g.1 u, Option.isSome_or, Bool.or_eq_true, List.mem_append, h1 u]
    unfold flOf; rw [find_dom]; exact Or.comm
  · rw [g.2 u, Option.isSome_or, Bool.or_eq_true, List.mem_append, h2 u]
    unfold msOf; rw [find_dom]; exact Or.comm
theorem len_news {A : Around} {g : Heap} {L l : Addr} {news : List (Addr × Obj)} {its : Array Value} {n : Nat} (N : News g L s.heap news) (hm : (l, listOf its n) ∈ news) (hz : its.size ≤ 1000) (h : Q (.int its.size (s.toks + 1)) { s with toks := s.toks + 1 + 1 }) : wpAny (model prog w) A (call (.builtin "len") [.ref l]) Q E s :=
  call_len_list (items := its) ⟨_, (N _ hm).1, rfl, _, rfl⟩ (by omega) h
example : True := by
  k_with "call builtin:len" => ((fail_if_success (have := @off17)); ((k_here; (with_reducible show wpAny _ _ (call (Value.builtin "len") [Value.ref _]) _ _ _); k_dflt (refine' len_news ?Nw73 ?mw73 ?zw73 ?_; (case Nw73 => k_asm); (case mw73 => k_mem); (case zw73 => (simp only [List.size_toArray]; omega))))))
  exact trivial
theorem arrival_news_spec {v : Vw} {b : Bx}
    (B : Bed w mg mb hB) (st : hB.StaysIn s.heap) (hr : dp < 800) (hun : un < 7900) (stF : hF.StaysIn hB) (hbx : BoxAt w hF b) (hvb : v.bx = b.x) (hv : VAt prog w hF s.heap v) (b0 : hB.get? v.ul = none) (b1 : hB.get? v.fv = none) (b2 : hB.get? v.mv = none)
    (hsum : v.us.length + b.ls.length ≤ 100)
    (h : ∀ D h' tk n ys uvs un' fl ms, s.heap.get? D = none → h'.get? D = some (listOf (List.toArray ys) n) → ys.length ≤ (if (b.ls.filter fun l => isNew v l.uid) = [] then 0 else 1) → Ext [v.ul, v.fv, v.mv] s.heap h' →
      VAt prog w hF h' { v with us := v.us ++ uidsOf (b.ls.filter fun l => isNew v l.uid), uvs := uvs, un := un', fl := fl, ms := ms } → Grown v (b.ls.filter fun l => isNew v l.uid) fl ms → Q (.ref D) { s with heap := h', toks := tk }) :
    wpAny (model prog w) (AT dp un fr gd) (call (.ref 190) [.ref v.x]) Q E s := by
  obtain ⟨kvF, hF1, hF2⟩ := hv.flags
  obtain ⟨kvM, hM1, hM2⟩ := hv.mods
  have hI := hv.inst
  have m1 := mut_dict hF1
  have m2 := mut_dict hM1
  have hne := neN hv.apart
  have vu := ul_off hI hv.list hF1 hM1
  have vu3 := neN vu.2.2.1
  have vu4 := neN vu.2.2.2
  obtain ⟨oF, hoF, dF⟩ := Heap.dictOf_iff.mp hF1
  obtain ⟨oM, hoM, dM⟩ := Heap.dictOf_iff.mp hM1
  have hW : ∀ p ∈ [(v.ul, listOf v.uvs.toArray v.un), (v.fv, oF), (v.mv, oM)], s.heap.get? p.1 = some p.2 ∧ hB.get? p.1 = none := by simpa using ⟨⟨hv.list, b0⟩, ⟨hoF, b1⟩, hoM, b2⟩
  walk_at "enter"
  have eg : Ext [v.ul, v.fv, v.mv] s.heap g := hg ▸ ext_hide
  have hI1 := inst_at hI (h' := g) (fun o => eg _ o (by simp [(view_off hI m1).symm, (view_off hI m2).symm, vu.1.symm])) (fun o => eg _ o (by simp [(view_off2 hI hF1).symm, (view_off2 hI hM1).symm, vu.2.1.symm]))
  have hiv := hv.ivs
  have hlen := hv.len
  have hs := hv.sorted
  have kBg : ∀ b o, hB.get? b = some o → g.get? b = some o := fun c o e => by
    rw [hg]
    refine hideAll_get _ (st c o e) ?_
    simp only [List.mem_cons, List.not_mem_nil, or_false, not_or]
    refine ⟨?_, ?_, ?_⟩
    · intro q
      rw [q, b0] at e; cases e
    · intro q
      rw [q, b1] at e; cases e
    · intro q
      rw [q, b2] at e; cases e
  have kFg : ∀ b o, hF.get? b = some o → g.get? b = some o := fun c o e => kBg c o (stF c o e)
  have hbg : BoxAt w g b := hbx.keeps kFg
  have vNow0 : ∀ {h' : Heap} {m : Str → Option Value}, Fr g L h' m → News g L h' [(v.ul, listOf v.uvs.toArray v.un), (v.fv, oF), (v.mv, oM)] → ViewAt prog w h' v := fun F N =>
    ⟨inst_keeps hI1 F.keep, (N _ (.head _)).1, hiv, ⟨kvF, Heap.dictOf_iff.mpr ⟨oF, (N _ (.tail _ (.head _))).1, dF⟩, hF2.keep fun a k q => q.at fun o e => F.keep a o (kFg a o e)⟩, ⟨kvM, Heap.dictOf_iff.mpr ⟨oM, (N _ (.tail _ (.tail _ (.head _)))).1, dM⟩, hM2⟩, hv.fdom, hv.mdom, hs, hv.pos, hlen, hv.apart, hv.lo⟩
  walk_at "go"
  refine wpAny_execs_cons ?_
  rename Fr _ _ _ _ => F1
  rename News _ _ _ _ => N1
  with_unfolding_all refine' For_invVF F1 ?k1 ?k2 ?_
  case k1 => exact rfl
  case k2 => exact rfl
  walk_at "goI"
  have hnl : (b.ls.filter fun l => isNew v l.uid).length ≤ b.ls.length := List.length_filter_le _ _
  have hnm : ∀ l ∈ (b.ls.filter fun l => isNew v l.uid), l ∈ b.ls := fun l hl => (List.mem_filter.mp hl).1
  have hnsort := new_sorted (v := v) (ls := b.ls) hs hbg.sorted
  have hpos : ∀ u ∈ v.us ++ uidsOf (b.ls.filter fun l => isNew v l.uid), 1 ≤ u := by
    intro u hu
    rcases List.mem_append.mp hu with q | q
    · exact hv.pos u q
    · obtain ⟨l, hl, rfl⟩ := List.mem_map.mp q
      exact (hbg.pos l (hnm l hl)).1
  generalize (b.ls.filter fun l => isNew v l.uid) = nls at *
  refine kdl_iter (vs := nls.map fun l => Value.ref l.x) (nn := nn') (JA prog w hF v D' nn' nls) rfl (show (D', listOf (refsOf nls) nn') ∈ [(D', listOf (refsOf nls) nn'), (v.ul, listOf v.uvs.toArray v.un), (v.fv, oF), (v.mv, oM)] from .head _) F1 N1 ⟨v.uvs, v.un, oF, oM, kvF, kvM, v.fl, v.ms, rfl, by simpa [uidsOf] using hiv, dF, dM, hF2, hM2, ⟨fun u => rfl, fun u => rfl⟩, rfl, rfl⟩ ?_ ?_
  · rintro i x m₁ nx h tk own hi hoff _ ⟨uvs, un', oF', oM', kvF', kvM', fl, ms, rfl, hint, dF', dM', fk, mk, gr, e1, e2⟩ F2 N2
    rw [List.getElem?_map] at hi
    obtain ⟨l', hi', rfl⟩ := Option.map_eq_some_iff.mp hi
    have hlm := List.mem_of_getElem? hi'
    have hl0' := hbg.lets l' (hnm l' hlm)
    have hI2 := hl0'.inst
    have F3 := over_fr (st := []) (ps := [("letter", .ref l'.x), ("letters", .ref D'), ("view", .ref v.x)]) (m₀ := _) F2 (by
      intro p hp
      simp only [List.mem_cons, List.not_mem_nil, or_false] at hp
      rcases hp with rfl | rfl | rfl
      · exact if_pos rfl
      · exact (if_neg (show ¬ (Str.ofString "letters" = Str.ofString "letter") by decide)).trans e1
      · exact (if_neg (show ¬ (Str.ofString "view" = Str.ofString "letter") by decide)).trans e2) (fun _ _ _ => rfl)
    clear F2
    obtain ⟨fdom, mdom⟩ := gr.dom hv.fdom hv.mdom
    have htk : (uidsOf (nls.take i)).length ≤ nls.length := by rw [uids_len]; exact List.length_take_le' _ _
    have hlF : kvF'.length ≤ 1000 := Nat.le_trans (tab_len (Heap.dictOf_iff.mpr ⟨oF', (N2 _ (.tail _ (.tail _ (.head _)))).1, dF'⟩) (fun u hu => (fdom u).mp (by rw [← fk.isSome u]; exact hu))) (by rw [List.length_append]; omega)
    have hlM : kvM'.length ≤ 1000 := Nat.le_trans (tab_len (Heap.dictOf_iff.mpr ⟨oM', (N2 _ (.tail _ (.tail _ (.tail _ (.head _))))).1, dM'⟩) (fun u hu => (mdom u).mp (by rw [← mk.isSome u]; exact hu))) (by rw [List.length_append]; omega)
    have hysz : uvs.length ≤ 1000 := by rw [ints_length hint, List.length_append]; omega
    walk_at "go"
    rename Fr _ _ _ _ => F9
    rename News _ _ _ _ => N9
    have htn : nls.take (i + 1) = nls.take i ++ [l'] := by rw [List.take_add_one, hi']; rfl
    refine InvEndG.intro (nx := [(D', listOf (refsOf nls) nn'), (v.ul, listOf (uvs.toArray.push (.int l'.uid l'.tu)) (un' + 1)), (v.fv, oF2), (v.mv, oM2)]) F9 N9 ⟨.head _, uvs ++ [.int l'.uid l'.tu], un' + 1, oF2, oM2, _, _, upd fl l'.uid l'.srt, upd ms l'.uid l'.ms, (by simp), ?_, hdF2, hdM2, fk.upd (hbx.lets l' (hnm l' hlm)).fl, mk.upd, ?_, rfl, rfl⟩ hoff ?_ ?_
    · rw [htn]
      unfold uidsOf
      rw [List.map_append, ← List.append_assoc]
      exact hint.append (.cons _ _ .nil)
    · rw [htn]
      refine gr.snoc fun x hx e => ?_
      have hns : Sorted (uidsOf nls) := (List.pairwise_append.mp hnsort).2.1
      obtain ⟨j, hj, rfl⟩ := List.getElem_of_mem hx
      rw [List.length_take] at hj
      have hj1 : (uidsOf nls)[j]? = some (nls.take i)[j].uid := by
        rw [List.getElem_take]; exact uids_get (List.getElem?_eq_getElem (by omega))
      have hi1 : (uidsOf nls)[i]? = some l'.uid := uids_get hi'
      obtain ⟨q1, q2⟩ := List.getElem?_eq_some_iff.mp hj1
      obtain ⟨q3, q4⟩ := List.getElem?_eq_some_iff.mp hi1
      have := List.pairwise_iff_getElem.mp hns j i q1 q3 (by omega)
      rw [q2, q4] at this; omega
    · intro p hp
      simp only [List.mem_cons, List.not_mem_nil, or_false] at hp
      rcases hp with rfl | rfl | rfl | rfl <;> simp
    · intro p hp; simp [hp]
  · rintro m₁ nx h9 tk9 ⟨uvs, un', oF', oM', kvF', kvM', fl, ms, rfl, hint, dF', dM', fk, mk, gr, e1, e2⟩ F2 N2
    have F3 := over_fr (st := []) (ps := [("letters", .ref D'), ("view", .ref v.x)]) (m₀ := _) F2 (by
      intro p hp
      simp only [List.mem_cons, List.not_mem_nil, or_false] at hp
      rcases hp with rfl | rfl
      · exact e1
      · exact e2) (fun _ _ _ => rfl)
    clear F2
    rw [List.length_map, List.take_length] at hint gr
    have hln : uvs.length ≤ 1000 := by rw [ints_length hint, List.length_append, uids_len]; omega
    walk_at "go"
    all_goals (have gdom := gr.dom hv.fdom hv.mdom)
    · rename Fr _ _ _ _ => F9
      rename News _ _ _ _ => N9
      rename List.isEmpty _ = _ => hq
      have z0 := N9 _ (.head _)
      refine h _ _ _ 0 [] uvs un' fl ms (hide_new hg z0.2.2 ?_) z0.1 ?_ (ext_of hg F9) ⟨inst_keeps hI1 F9.keep, (N9 _ (.tail _ (.tail _ (.tail _ (.head _))))).1, hint, ⟨kvF', Heap.dictOf_iff.mpr ⟨oF', (N9 _ (.tail _ (.tail _ (.tail _ (.tail _ (.head _)))))).1, dF'⟩, fk⟩, ⟨kvM', Heap.dictOf_iff.mpr ⟨oM', (N9 _ (.tail _ (.tail _ (.tail _ (.tail _ (.tail _ (.head _))))))).1, dM'⟩, mk⟩, gdom.1, gdom.2, hnsort, hpos, ?_, hv.apart, hv.lo⟩ gr
      · simp only [List.mem_cons, List.not_mem_nil, or_false, not_or]
        refine ⟨?_, ?_, ?_⟩ <;> (intro e; have e' := (show (_ : Nat) = _ from e); omega)
      · simp
      · dsimp only; rw [List.length_append, uids_len]; omega
    · rename Fr _ _ _ _ => F9
      rename News _ _ _ _ => N9
      rename List.isEmpty _ = _ => hq
      have z0 := N9 _ (.head _)
      refine h _ _ _ 0 [_] uvs un' fl ms (hide_new hg z0.2.2 ?_) z0.1 ?_ (ext_of hg F9) ⟨inst_keeps hI1 F9.keep, (N9 _ (.tail _ (.tail _ (.tail _ (.head _))))).1, hint, ⟨kvF', Heap.dictOf_iff.mpr ⟨oF', (N9 _ (.tail _ (.tail _ (.tail _ (.tail _ (.head _)))))).1, dF'⟩, fk⟩, ⟨kvM', Heap.dictOf_iff.mpr ⟨oM', (N9 _ (.tail _ (.tail _ (.tail _ (.tail _ (.tail _ (.head _))))))).1, dM'⟩, mk⟩, gdom.1, gdom.2, hnsort, hpos, ?_, hv.apart, hv.lo⟩ gr
      · simp only [List.mem_cons, List.not_mem_nil, or_false, not_or]
        refine ⟨?_, ?_, ?_⟩ <;> (intro e; have e' := (show (_ : Nat) = _ from e); omega)
      · have : nls ≠ [] := by
          rintro rfl
          simp at hq
        rw [if_neg this]; simp
      · dsimp only; rw [List.length_append, uids_len]; omega
theorem off17 : True := trivial
end
/-! S10 -/
section
variable {prog : Program} {w : World} {mg mb : Str → Option Value} {dp un : Nat} {fr : Option (List Env)} {gd : Option (List Code)} {E : Value → Shared → Prop} {s : Shared} {hB hF : Heap} {Q : Value → Shared → Prop}
theorem set_last {g : Heap} {L D : Addr} {m : Str → Option Value} {news news' : List (Addr × Obj)} {A : Around} {pre : List Value} {x v : Value} {n : Nat} {t : Tok} {Q : Unit → Shared → Prop} (F : Fr g L s.heap m) (N : News g L s.heap news)
    (U : Upd D (listOf (pre ++ [x]).toArray n) (listOf (pre ++ [v]).toArray n) news news')
    (h : ∀ h', Fr g L h' m → News g L h' news' → Q () { s with heap := h' }) : wpAny (model prog w) A (setItem (.ref D) (.int (-1) t) v) Q E s := by
  obtain ⟨pre', post, rfl, rfl, a, b'⟩ := U.split
  have z := N (D, listOf (pre ++ [x]).toArray n) (List.mem_append.mpr (.inr (.head _)))
  have hk : ((-1 : Int) + ((pre ++ [x]).toArray.size : Int)).toNat = pre.length := by simp; omega
  refine ki_setBack z.1 (by decide) (by simp; omega) (by decide) (h _ (F.change (Heap.SameBut.update ..) z.2.1 z.2.2) (ki_turn _ N a b' ?_ ?_))
  · rw [hk]; apply Array.toList_inj.mp; simp
  · simp
theorem item_last {A : Around} {g : Heap} {L D : Addr} {news : List (Addr × Obj)} {value slice : PySem.Expr} {pre : List Value} {x : Value} {n : Nat} {t : Tok} (N : News g L s.heap news) (hm : (D, listOf (pre ++ [x]).toArray n) ∈ news) (h : Q x s)
    (hs : subscripted slice false (.ref D) (.int (-1) t) = operate [.ref D, .int (-1) t] (getItem (.ref D) (.int (-1) t)) := by with_unfolding_all rfl) :
    wpAny (model prog w) A (subscriptTail value slice (.ref D) (.int (-1) t)) Q E s := by
  have hL : s.heap.IsList D (pre ++ [x]).toArray := ⟨_, (N _ hm).1, rfl, _, rfl⟩
  have hk : ((-1 : Int) + ((pre ++ [x]).toArray.size : Int)).toNat = pre.length := by simp; omega
  exact tail_any hL.typeIs slot_list_getitem.lookup (wpAny_getItem_list_neg hL (by decide) (by simp; omega) (by decide) (by rw [hk]; simp) h) hs
theorem new_tupL {A : Around} {g : Heap} {L : Addr} {m : Str → Option Value} {news : List (Addr × Obj)} {its : List Value} {D : Addr} {oD : Obj} (F : Fr g L s.heap m) (N : News g L s.heap news) (hm : (D, oD) ∈ news) (hz : its.length ≤ 1000)
    (h : ∀ T h', @Ne Nat T D → (∀ p ∈ news, @Ne Nat p.1 T) → Fr g L h' m → News g L h' ((T, tupObj its) :: news) → Q (.ref T) { s with heap := h' }) :
    wpAny (model prog w) A (newTuple its) Q E s :=
  wpAny_newTuple (h _ _ (fun e => ne_new N fresh_size hm (show D = _ from e.symm)) (fun p hp => ne_new N fresh_size hp) (F.push _) (News.push F N _)) (by rw [sizeLine_eq]; first | omega | (simp; omega))
def JR (D : Addr) (i : Nat) (m : Str → Option Value) (nx : List (Addr × Obj)) : Prop :=
  m "out" = some (.ref D) ∧ ((∃ n, nx = [(D, listOf ([] : List Value).toArray n)]) ∨ ∃ pre T x y tx ty n, pre.length ≤ i ∧ @Ne Nat T D ∧ nx = [(D, listOf (pre ++ [Value.ref T]).toArray n), (T, tupObj [.int x tx, .int y ty])])
example : True := by
  k_with "subscriptTail" => ((fail_if_success (have := @off18)); ((k_here; (with_reducible show wpAny _ _ (subscriptTail _ _ (Value.ref D) _) _ _ _); k_dflt (refine' item_last (pre := pre) (x := .ref T) ?Nw74 ?mw74 ?_; (case Nw74 => k_asm); (case mw74 => k_mem)))))
  exact trivial
example : True := by
  k_with "setItem ref int" => ((fail_if_success (have := @off18)); ((k_here; k_dflt (refine' set_last (pre := pre) (x := .ref T) ?Fw75 ?Nw75 ?Uw75 ?_; (case Fw75 => k_asm); (case Nw75 => k_asm); (case Uw75 => k_upd)); (intro h' F' N'))))
  exact trivial
example : True := by
  k_with "call builtin:len" => ((fail_if_success (have := @off18)); ((k_here; (with_reducible show wpAny _ _ (call (Value.builtin "len") [Value.ref _]) _ _ _); k_dflt (refine' len_news ?Nw76 ?mw76 ?zw76 ?_; (case Nw76 => k_asm); (case mw76 => k_mem); (case zw76 => (simp only [List.size_toArray, List.length_append, List.length_singleton, List.length_nil]; omega))))))
  exact trivial
example : True := by
  k_with "call builtin:list.append" => ((fail_if_success (have := @off18)); ((k_here; (with_reducible show wpAny _ _ (call (Value.builtin _) [Value.ref _, _]) _ _ _); k_dflt (refine' append_K ?k1w77 ?k2w77 ?k3w77 ?_ ?zw77; (case k1w77 => k_asm); (case k2w77 => k_asm); (case k3w77 => k_upd); (case zw77 => (rw [sizeLine_eq]; (try simp only [List.size_toArray, List.length_append, List.length_singleton, List.length_nil]); omega)); k_whole); intro h' F' N')))
  exact trivial
example : True := by
  k_with "newTuple" => ((fail_if_success (have := @off18)); ((k_here; k_dflt (refine' new_tupL (D := D) ?Fw78 ?Nw78 ?Mw78 ?zw78 ?_; (case Fw78 => k_asm); (case Nw78 => k_asm); (case Mw78 => k_mem); (case zw78 => simp)); (intro T' h' neT' aT' F' N'))))
  exact trivial
theorem ranges_of_spec {a : Addr} {vs : List Value} {ns : List Int}
    (B : Bed w mg mb hB) (st : hB.StaysIn s.heap) (hr : dp < 800) (hl : s.heap.IsList a vs.toArray) (hi : IntsAre vs ns) (hn : ns.length ≤ 100)
    (h : ∀ v h' tk, Ext [] s.heap h' → Q v { s with heap := h', toks := tk }) :
    wpAny (model prog w) (AT dp un fr gd) (call (.ref 42) [.ref a]) Q E s := by
  have hW : ∀ p ∈ ([] : List (Addr × Obj)), s.heap.get? p.1 = some p.2 ∧ hB.get? p.1 = none := List.forall_mem_nil _
  walk_at "enter"
  replace hl : g.IsList a vs.toArray := hg ▸ hl
  walk_at "go"
  refine wpAny_execs_cons ?_
  rename Fr _ _ _ _ => F1
  rename News _ _ _ _ => N1
  with_unfolding_all refine' For_invVF F1 ?k1 ?k2 ?_
  case k1 => exact rfl
  case k2 => exact rfl
  walk_at "goI"
  rename Addr => D
  refine iter_invG (JR D) rfl hl hi F1 N1 ⟨rfl, .inl ⟨0, rfl⟩⟩ ?_ ?_
  · rintro i x t m₁ nx h9 tk own hin _ hoff ⟨e1, hc⟩ F2 N2
    have hilt := (List.getElem?_eq_some_iff.mp hin).1
    have F3 := over_fr (st := []) (ps := [("number", .int x t), ("out", .ref _)]) (m₀ := _) F2 (by
      intro p hp
      simp only [List.mem_cons, List.not_mem_nil, or_false] at hp
      rcases hp with rfl | rfl
      · exact if_pos rfl
      · exact (if_neg (show ¬ (Str.ofString "out" = Str.ofString "number") by decide)).trans e1) (fun _ _ _ => rfl)
    clear F2
    rcases hc with ⟨n, rfl⟩ | ⟨pre, T, x', y', tx, ty, n, hpre, hTD, rfl⟩
    · walk_at "go"
      · rename Fr _ _ _ _ => F9
        rename News _ _ _ _ => N9
        refine InvEndG.intro (nx := [(D, listOf (#[].push (Value.ref T')) (n + 1)), (T', tupObj [.int x t, .int x t])]) F9 N9 ⟨rfl, .inr ⟨[], T', x, x, t, t, n + 1, by simp, neT', by simp⟩⟩ ?_ ?_ ?_
        · intro p hp c hc
          simp only [List.map_cons, List.map_nil, List.mem_cons, List.not_mem_nil, or_false] at hc
          rcases hc with rfl | rfl
          · exact hoff p hp _ (by simp)
          · exact aT' p (List.mem_append_right _ hp)
        · intro p hp
          simp only [List.mem_cons, List.not_mem_nil, or_false] at hp
          rcases hp with rfl | rfl <;> simp
        · intro p hp; simp [hp]
    · walk_at "go"
      · rename Fr _ _ _ _ => F9
        rename News _ _ _ _ => N9
        refine InvEndG.intro (nx := [(D, listOf (pre ++ [Value.ref T']).toArray n), (T', tupObj [.int x' tx, .int x t])]) F9 N9 ⟨rfl, .inr ⟨pre, T', x', x, tx, t, n, by omega, neT', by simp⟩⟩ ?_ ?_ ?_
        · intro p hp c hc
          simp only [List.map_cons, List.map_nil, List.mem_cons, List.not_mem_nil, or_false] at hc
          rcases hc with rfl | rfl
          · exact hoff p hp _ (by simp)
          · exact aT' p (List.mem_append_right _ hp)
        · intro p hp
          simp only [List.mem_cons, List.not_mem_nil, or_false] at hp
          rcases hp with rfl | rfl <;> simp
        · intro p hp; simp [hp]
      · rename Fr _ _ _ _ => F9
        rename News _ _ _ _ => N9
        refine InvEndG.intro (nx := [(D, listOf ((pre ++ [Value.ref T]).toArray.push (Value.ref T')) (n + 1)), (T', tupObj [.int x t, .int x t])]) F9 N9 ⟨rfl, .inr ⟨(pre ++ [Value.ref T]), T', x, x, t, t, n + 1, by simp; omega, neT', by simp⟩⟩ ?_ ?_ ?_
        · intro p hp c hc
          simp only [List.map_cons, List.map_nil, List.mem_cons, List.not_mem_nil, or_false] at hc
          rcases hc with rfl | rfl
          · exact hoff p hp _ (by simp)
          · exact aT' p (List.mem_append_right _ hp)
        · intro p hp
          simp only [List.mem_cons, List.not_mem_nil, or_false] at hp
          rcases hp with rfl | rfl <;> simp
        · intro p hp; simp [hp]
      · rename Fr _ _ _ _ => F9
        rename News _ _ _ _ => N9
        refine InvEndG.intro (nx := [(D, listOf ((pre ++ [Value.ref T]).toArray.push (Value.ref T')) (n + 1)), (T', tupObj [.int x t, .int x t])]) F9 N9 ⟨rfl, .inr ⟨(pre ++ [Value.ref T]), T', x, x, t, t, n + 1, by simp; omega, neT', by simp⟩⟩ ?_ ?_ ?_
        · intro p hp c hc
          simp only [List.map_cons, List.map_nil, List.mem_cons, List.not_mem_nil, or_false] at hc
          rcases hc with rfl | rfl
          · exact hoff p hp _ (by simp)
          · exact aT' p (List.mem_append_right _ hp)
        · intro p hp
          simp only [List.mem_cons, List.not_mem_nil, or_false] at hp
          rcases hp with rfl | rfl <;> simp
        · intro p hp; simp [hp]
  · rintro m₁ nx h9 tk9 ⟨e1, hc⟩ F2 N2
    have F3 := over_fr (st := []) (ps := [("out", .ref D)]) (m₀ := _) F2 (by
      intro p hp
      simp only [List.mem_cons, List.not_mem_nil, or_false] at hp
      rcases hp with rfl
      exact e1) (fun _ _ _ => rfl)
    clear F2
    rcases hc with ⟨n, rfl⟩ | ⟨pre, T, x', y', tx, ty, n, hpre, hTD, rfl⟩
    · walk_at "go"
      all_goals (rename Fr _ _ _ _ => F9; exact h _ _ _ (ext_of hg F9))
    · walk_at "go"
      all_goals (rename Fr _ _ _ _ => F9; exact h _ _ _ (ext_of hg F9))
theorem off18 : True := trivial
end
/-! S11 -/
section
variable {prog : Program} {w : World} {mg mb : Str → Option Value} {dp un : Nat} {fr : Option (List Env)} {gd : Option (List Code)} {E : Value → Shared → Prop} {s : Shared} {hB hF : Heap} {Q : Value → Shared → Prop}
/-- a ledger behind a call that turned the addresses of W and no others -/
theorem news_ext {g h h' : Heap} {L : Addr} {W : List Addr} {news news' : List (Addr × Obj)} (N : News g L h news) (e : Ext W h h') (hp : ∀ p ∈ news', (p ∈ news ∧ p.1 ∉ W) ∨ (h'.get? p.1 = some p.2 ∧ ∃ o, (p.1, o) ∈ news)) : News g L h' news' := by
  intro p hm
  rcases hp p hm with ⟨q, n⟩ | ⟨q, o, m⟩
  · exact ⟨e _ _ n (N p q).1, (N p q).2⟩
  · exact ⟨q, (N _ m).2⟩
theorem forget_in {v : Vw} {u : Int} {tu : Tok} {g : Heap} {L A D : Addr} {m : Str → Option Value} {oA oD oF oM : Obj} {own : List (Addr × Obj)} {kvF kvM : List (Int × Value)} (Bg : Bed w mg mb g) (F : Fr g L s.heap m)
    (N : News g L s.heap ((A, oA) :: (D, oD) :: (v.x, instObj 124 v.dx) :: (v.dx, dictOf (viewEs w v) 7) :: (v.ul, listOf v.uvs.toArray v.un) :: (v.fv, oF) :: (v.mv, oM) :: own)) (hr : dp < 870) (hiv : IntsAre v.uvs v.us) (hlen : v.us.length ≤ 100)
    (dF : oF.IsDictOf (PySem.intKind prog w) kvF) (dM : oM.IsDictOf (PySem.intKind prog w) kvM) (hne : v.fv ≠ v.mv) (l1 : kvF.length ≤ 1000) (l2 : kvM.length ≤ 1000) (hiF : (valueAt kvF u).isSome = true) (hiM : (valueAt kvM u).isSome = true)
    (sep : ∀ c ∈ A :: D :: v.x :: own.map (·.1), c ∉ [v.dx, v.fv, v.mv])
    (h : ∀ ul' un' uvs' oF' oM' h' tk, (∀ p ∈ (A, oA) :: (D, oD) :: own, @Ne Nat p.1 ul') → IntsAre uvs' (v.us.filter fun i => !(i == u)) → oF'.IsDictOf (PySem.intKind prog w) (without kvF u) → oM'.IsDictOf (PySem.intKind prog w) (without kvM u) → Fr g L h' m →
      News g L h' ((A, oA) :: (D, oD) :: (v.x, instObj 124 v.dx) :: (v.dx, dictOf (viewEs w { v with ul := ul' }) 7) :: (ul', listOf (List.toArray uvs') un') :: (v.fv, oF') :: (v.mv, oM') :: own) → Q .none { s with heap := h', toks := tk }) :
    wpAny (model prog w) (AT dp un fr gd) (call (.ref 176) [.ref v.x, .int u tu]) Q E s := by
  have zA := N _ (.head _)
  have zD := N _ (.tail _ (.head _))
  have zx := N _ (.tail _ (.tail _ (.head _)))
  have zd := N _ (.tail _ (.tail _ (.tail _ (.head _))))
  have zu := N _ (.tail _ (.tail _ (.tail _ (.tail _ (.head _)))))
  have zf := N _ (.tail _ (.tail _ (.tail _ (.tail _ (.tail _ (.head _))))))
  have zm := N _ (.tail _ (.tail _ (.tail _ (.tail _ (.tail _ (.tail _ (.head _)))))))
  refine forget_spec Bg F.keep hr ⟨zx.1, rfl, rfl, zd.1⟩ zu.1 hiv hlen (Heap.dictOf_iff.mpr ⟨_, zf.1, dF⟩) (Heap.dictOf_iff.mpr ⟨_, zm.1, dM⟩) hne zx.2.2 zf.2.2 zm.2.2 zd.2.2 l1 l2 hiF hiM fun ul' un' uvs' h' tk hul he hI hl hi hF' hM' => ?_
  obtain ⟨oF', f1, f2⟩ := Heap.dictOf_iff.mp hF'
  obtain ⟨oM', g1, g2⟩ := Heap.dictOf_iff.mp hM'
  have keep : ∀ p : Addr × Obj, p.1 ∈ A :: D :: v.x :: own.map (·.1) → (s.heap.get? p.1 = some p.2 ∧ p.1 ≠ L ∧ g.get? p.1 = none) → h'.get? p.1 = some p.2 ∧ p.1 ≠ L ∧ g.get? p.1 = none := fun p hp z => ⟨he _ _ (sep _ hp) z.1, z.2⟩
  refine h ul' un' uvs' oF' oM' h' tk (fun p hp => ?_) hi f2 g2 (he.fr F ?_ ?_) ?_
  · have : p ∈ (A, oA) :: (D, oD) :: (v.x, instObj 124 v.dx) :: (v.dx, dictOf (viewEs w v) 7) :: (v.ul, listOf v.uvs.toArray v.un) :: (v.fv, oF) :: (v.mv, oM) :: own := by
      simp only [List.mem_cons] at hp ⊢
      rcases hp with q | q | q <;> simp [q]
    exact ne_new N hul this
  · intro c hc
    simp only [List.mem_cons, List.not_mem_nil, or_false] at hc
    rcases hc with rfl | rfl | rfl
    · exact zd.2.2
    · exact zf.2.2
    · exact zm.2.2
  · simp only [List.mem_cons, List.not_mem_nil, or_false, not_or]
    exact ⟨zd.2.1.symm, zf.2.1.symm, zm.2.1.symm⟩
  · refine news_cons (keep _ (.head _) zA) (news_cons (keep _ (.tail _ (.head _)) zD) (news_cons (keep _ (.tail _ (.tail _ (.head _))) zx) (news_cons ⟨hI.dict, zd.2⟩ (news_cons ⟨hl, fr_ne F hul, fr_none F hul⟩ (news_cons ⟨f1, zf.2⟩ (news_cons ⟨g1, zm.2⟩ fun p hp => ?_))))))
    exact keep p (.tail _ (.tail _ (.tail _ (List.mem_map_of_mem hp)))) (N p (.tail _ (.tail _ (.tail _ (.tail _ (.tail _ (.tail _ (.tail _ hp))))))))
example : True := by
  k_with "call ref" => ((fail_if_success (have := @off19)); ((k_here; (with_reducible show wpAny _ _ (call (Value.ref 154) _) _ _ _); k_dflt (refine' gone_uids_spec (b := b) (v := v) ?Bw79 ?stw79 ?hrw79 ?huw79 ?hvw79 ?hbw79 hvb ?_; (case Bw79 => assumption); (case stw79 => exact Fr.keep (by k_asm)); (case hrw79 => walk_at "room"); (case huw79 => walk_at "room"); (case hvw79 => exact vNow0 (by k_asm) (by k_asm)); (case hbw79 => exact hbg.keeps (Fr.keep (by k_asm))); (intro D' h' tk' nn' gvs' hD' hO' hgi' he'; walk_at "afterD")))))
  exact trivial
inductive JE (prog : Program) (w : World) (hF : Heap) (v : Vw) (A D : Addr) (gvs : List Value) (gn : Nat) (gone : List Int) (i : Nat) (m : Str → Option Value) (nx : List (Addr × Obj)) : Prop
  | mk (ys : _) (n : _) (ulc : _) (uvs : _) (un : _) (us : _) (oF : _) (oM : _) (kvF : _) (kvM : _) (fl : _) (ms : _) (z1 : nx = [(A, listOf (List.toArray ys) n), (D, listOf gvs.toArray gn), (v.x, instObj 124 v.dx), (v.dx, dictOf (viewEs w { v with ul := ulc }) 7), (ulc, listOf (List.toArray uvs) un), (v.fv, oF), (v.mv, oM)]) (z2 : @Ne Nat A ulc) (z3 : IntsAre uvs us) (z4 : us = v.us.filter (fun u => !(gone.take i).contains u)) (z5 : oF.IsDictOf (PySem.intKind prog w) kvF) (z6 : oM.IsDictOf (PySem.intKind prog w) kvM) (z7 : FlagKv hF kvF fl) (z8 : MsKv kvM ms) (z9 : (∀ u, fl u = if u ∈ gone.take i then none else v.fl u)) (z10 : (∀ u, ms u = if u ∈ gone.take i then none else v.ms u)) (z11 : ys.length ≤ (if v.van then 0 else i)) (z12 : m "answers" = some (.ref A)) (z13 : m "gone" = some (.ref D)) (z14 : m "view" = some (.ref v.x)) : JE prog w hF v A D gvs gn gone i m nx
example : True := by
  k_with "call ref" => ((fail_if_success (have := @off19)); ((k_here; (with_reducible show wpAny _ _ (call (Value.ref 97) _) _ _ _); k_dflt (refine' number_of_spec (ul := 0) (n := 0) (fv := 0) (mv := 0) (v := { v with ul := ulc, us := us, uvs := uvs, un := un' }) ?Bw80 ?stw80 ?hrw80 ?hIw80 ?hlw80 ?hvw80 ?hsw80 ?lenw80 ?_; (case Bw80 => assumption); (case stw80 => exact Fr.keep (by k_asm)); (case hrw80 => walk_at "room"); (case hIw80 => exact ⟨News.get (by k_asm) (by k_mem), rfl, rfl, News.get (by k_asm) (by k_mem)⟩); (case hlw80 => exact ⟨_, News.get (by k_asm) (by k_mem), rfl, _, rfl⟩); (case hvw80 => exact hint); (case hsw80 => exact hsc); (case lenw80 => exact hlc); (intro r' t' h' tk' hc' he'; walk_at "after0"; clear he')))))
  exact trivial
example : True := by
  k_with "call ref" => ((fail_if_success (have := @off19)); ((k_here; (with_reducible show wpAny _ _ (call (Value.ref 176) _) _ _ _); k_dflt (refine' forget_in (v := { v with ul := ulc, us := us, uvs := uvs, un := un' }) (kvF := kvF') (kvM := kvM') ?Bw81 ?Fw81 ?Nw81 ?hrw81 hint hlc dF' dM' hv.apart hlF hlM hiF hiM hsep ?_; (case Bw81 => assumption); (case Fw81 => k_asm); (case Nw81 => k_asm); (case hrw81 => walk_at "room"); (intro ul2 un2 uvs2 oF2 oM2 h' tk' hne2 hint2 dF2 dM2 F' N')))))
  exact trivial
example : True := by
  k_with "newTuple" => ((fail_if_success (have := @off19)); ((k_here; k_dflt (refine' new_tupN ?Fw82 ?Nw82 ?zw82 ?_; (case Fw82 => k_asm); (case Nw82 => k_asm); (case zw82 => simp)); (intro D'' h' F' N'))))
  exact trivial
example : True := by
  k_with "call builtin:list.append" => ((fail_if_success (have := @off19)); ((k_here; (with_reducible show wpAny _ _ (call (Value.builtin _) [Value.ref _, _]) _ _ _); k_dflt (refine' append_K ?k1w83 ?k2w83 ?k3w83 ?_ ?zw83; (case k1w83 => k_asm); (case k2w83 => k_asm); (case k3w83 => k_upd); (case zw83 => (rw [sizeLine_eq]; (try simp only [List.size_toArray, List.length_map]); omega)); k_whole); intro h' F' N')))
  exact trivial
theorem ints_get : ∀ {vs : List Value} {us : List Int} {i : Nat} {x : Value}, IntsAre vs us → vs[i]? = some x → ∃ u t, x = .int u t ∧ us[i]? = some u
  | _, _, 0, _, .cons i t _, h => by cases h; exact ⟨i, t, rfl, rfl⟩
  | _, _, k + 1, _, .cons _ _ r, h => ints_get (i := k) r h
theorem not_in_take {us : List Int} {i : Nat} {u : Int} (hs : Sorted us) (h : us[i]? = some u) : u ∉ us.take i := by
  intro hm
  obtain ⟨j, hj, e⟩ := List.getElem_of_mem hm
  rw [List.length_take] at hj
  rw [List.getElem_take] at e
  obtain ⟨q, q2⟩ := List.getElem?_eq_some_iff.mp h
  have := List.pairwise_iff_getElem.mp hs j i (by omega) q (by omega)
  rw [e, q2] at this; omega
example : True := by
  k_with "call ref" => ((fail_if_success (have := @off19)); ((k_here; (with_reducible show wpAny _ _ (call (Value.ref 42) _) _ _ _); k_dflt (refine' ranges_of_spec ?Bw84 ?stw84 ?hrw84 ?hlw84 hgi' hg100 ?_; (case Bw84 => assumption); (case stw84 => exact Fr.keep (by k_asm)); (case hrw84 => walk_at "room"); (case hlw84 => exact ⟨_, News.get (by k_asm) (by k_mem), rfl, _, rfl⟩); (intro vv' h' tk' he'; walk_at "after0"; clear he')))))
  exact trivial
example : True := by
  k_with "compareOp NotEq ref ref" => ((fail_if_success (have := @off19)); ((k_here; k_dflt (refine' ne_nil (its := gvs') ?k1w85 ?k2w85 ?k4w85 ?_; (case k1w85 => exact ⟨_, News.get (by k_asm) (by k_mem), rfl, _, rfl⟩); (case k2w85 => exact ⟨_, News.get (by k_asm) (.head _), rfl, _, rfl⟩); (case k4w85 => rw [cLine_is']; walk_at "room"); k_whole))))
  exact trivial
example : True := by
  k_with "or" => ((fail_if_success (have := @off19)); (first | (with_reducible assumption) | exact Or.inl (by with_reducible assumption) | (refine Or.inr ?_; walk_at "or")))
  exact trivial
theorem expunge_news_spec {v : Vw} {b : Bx}
    (B : Bed w mg mb hB) (st : hB.StaysIn s.heap) (hr : dp < 790) (hun : un < 7900) (stF : hF.StaysIn hB) (hbx : BoxAt w hF b) (hvb : v.bx = b.x) (hv : VAt prog w hF s.heap v) (bx : hB.get? v.x = none) (bd : hB.get? v.dx = none) (b0 : hB.get? v.ul = none) (b1 : hB.get? v.fv = none) (b2 : hB.get? v.mv = none)
    (h : ∀ D h' tk n ys ul' un' uvs' fl ms, s.heap.get? D = none → h'.get? D = some (listOf (List.toArray ys) n) → D ≠ ul' → ys.length ≤ (v.us.filter fun u => !(uidsOf b.ls).contains u).length → (ul' = v.ul ∨ s.heap.get? ul' = none) → Ext [v.dx, v.ul, v.fv, v.mv] s.heap h' →
      VAt prog w hF h' { v with ul := ul', us := v.us.filter (fun u => (uidsOf b.ls).contains u), uvs := uvs', un := un', fl := fl, ms := ms } → (∀ u, fl u = if (uidsOf b.ls).contains u = true then v.fl u else none) → (∀ u, ms u = if (uidsOf b.ls).contains u = true then v.ms u else none) → Q (.ref D) { s with heap := h', toks := tk }) :
    wpAny (model prog w) (AT dp un fr gd) (call (.ref 183) [.ref v.x]) Q E s := by
  obtain ⟨kvF, hF1, hF2⟩ := hv.flags
  obtain ⟨kvM, hM1, hM2⟩ := hv.mods
  have hI := hv.inst
  have m1 := mut_dict hF1
  have m2 := mut_dict hM1
  have hne := neN hv.apart
  have vu := ul_off hI hv.list hF1 hM1
  obtain ⟨oF, hoF, dF⟩ := Heap.dictOf_iff.mp hF1
  obtain ⟨oM, hoM, dM⟩ := Heap.dictOf_iff.mp hM1
  have hW : ∀ p ∈ [(v.x, instObj 124 v.dx), (v.dx, dictOf (viewEs w v) 7), (v.ul, listOf v.uvs.toArray v.un), (v.fv, oF), (v.mv, oM)], s.heap.get? p.1 = some p.2 ∧ hB.get? p.1 = none := by simpa using ⟨⟨hI.at_, bx⟩, ⟨hI.dict, bd⟩, ⟨hv.list, b0⟩, ⟨hoF, b1⟩, hoM, b2⟩
  walk_at "enter"
  have hiv := hv.ivs
  have hlen := hv.len
  have hs := hv.sorted
  have kBg : ∀ b o, hB.get? b = some o → g.get? b = some o := fun c o e => by
    rw [hg]
    refine hideAll_get _ (st c o e) ?_
    simp only [List.mem_cons, List.not_mem_nil, or_false, not_or]
    refine ⟨?_, ?_, ?_, ?_, ?_⟩ <;> (intro q; rw [q] at e; simp_all)
  have kFg : ∀ b o, hF.get? b = some o → g.get? b = some o := fun c o e => kBg c o (stF c o e)
  have hbg : BoxAt w g b := hbx.keeps kFg
  have vNow0 : ∀ {h' : Heap} {m : Str → Option Value}, Fr g L h' m → News g L h' [(v.x, instObj 124 v.dx), (v.dx, dictOf (viewEs w v) 7), (v.ul, listOf v.uvs.toArray v.un), (v.fv, oF), (v.mv, oM)] → ViewAt prog w h' v := fun F N =>
    ⟨⟨(N _ (.head _)).1, rfl, rfl, (N _ (.tail _ (.head _))).1⟩, (N _ (.tail _ (.tail _ (.head _)))).1, hiv, ⟨kvF, Heap.dictOf_iff.mpr ⟨oF, (N _ (.tail _ (.tail _ (.tail _ (.head _))))).1, dF⟩, hF2.keep fun a k q => q.at fun o e => F.keep a o (kFg a o e)⟩, ⟨kvM, Heap.dictOf_iff.mpr ⟨oM, (N _ (.tail _ (.tail _ (.tail _ (.tail _ (.head _)))))).1, dM⟩, hM2⟩, hv.fdom, hv.mdom, hs, hv.pos, hlen, hv.apart, hv.lo⟩
  walk_at "go"
  refine wpAny_execs_cons ?_
  rename Fr _ _ _ _ => F1
  rename News _ _ _ _ => N1
  with_unfolding_all refine' For_invVF F1 ?k1 ?k2 ?_
  case k1 => exact rfl
  case k2 => exact rfl
  walk_at "goI"
  rename Addr => A
  obtain ⟨gone, hgone⟩ : ∃ gone, gone = v.us.filter fun u => !(uidsOf b.ls).contains u := ⟨_, rfl⟩
  rw [← hgone] at hgi'
  have hglen : gone.length ≤ v.us.length := by rw [hgone]; exact List.length_filter_le _ _
  have hg100 : gone.length ≤ 100 := by omega
  have hAul : @Ne Nat A v.ul := by omega
  have hys0 : (v.us.filter fun u => !(uidsOf b.ls).contains u).length = gone.length := by rw [hgone]
  refine kdl_iter (vs := gvs') (nn := nn') (JE prog w hF v A D' gvs' nn' gone) rfl (show (D', listOf gvs'.toArray nn') ∈ [(A, listOf #[] 0), (D', listOf gvs'.toArray nn'), (v.x, instObj 124 v.dx), (v.dx, dictOf (viewEs w v) 7), (v.ul, listOf v.uvs.toArray v.un), (v.fv, oF), (v.mv, oM)] from .tail _ (.head _)) F1 N1 ⟨[], 0, v.ul, v.uvs, v.un, v.us, oF, oM, kvF, kvM, v.fl, v.ms, rfl, ?_, hiv, ?_, dF, dM, hF2, hM2, ?_, ?_, ?_, rfl, rfl, rfl⟩ ?_ ?_
  · omega
  · rw [List.take_zero]; exact (List.filter_eq_self.mpr (fun _ _ => rfl)).symm
  · intro u; simp
  · intro u; simp
  · exact Nat.zero_le _
  · rintro i x m₁ nx h9 tk own hin hoff _ ⟨ys, n, ulc, uvs, un', us, oF', oM', kvF', kvM', fl, ms, rfl, hAu, hint, hus, dF', dM', fk, mk, hfl, hms, hys, e1, e2, e3⟩ F2 N2
    have hxin : ∃ u t, x = .int u t ∧ gone[i]? = some u := ints_get hgi' hin
    obtain ⟨u, tu, rfl, hgi⟩ := hxin
    have hug : u ∈ v.us := by
      have := List.mem_of_getElem? hgi
      rw [hgone] at this; exact (List.mem_filter.mp this).1
    have hgs : Sorted gone := by rw [hgone]; exact List.Pairwise.sublist List.filter_sublist hs
    have hut : u ∉ gone.take i := not_in_take hgs hgi
    have hsc : Sorted us := by rw [hus]; exact List.Pairwise.sublist List.filter_sublist hs
    have hlc : us.length ≤ 100 := by rw [hus]; exact Nat.le_trans (List.length_filter_le _ _) hlen
    have hiF : (valueAt kvF' u).isSome = true := by rw [fk.isSome u, hfl u, if_neg hut]; exact (hv.fdom u).mpr hug
    have hiM : (valueAt kvM' u).isSome = true := by rw [mk.isSome u, hms u, if_neg hut]; exact (hv.mdom u).mpr hug
    have fdm : ∀ u, (fl u).isSome = true → u ∈ v.us := fun u hu => by
      rw [hfl u] at hu
      split at hu
      · cases hu
      · exact (hv.fdom u).mp hu
    have mdm : ∀ u, (ms u).isSome = true → u ∈ v.us := fun u hu => by
      rw [hms u] at hu
      split at hu
      · cases hu
      · exact (hv.mdom u).mp hu
    have hlF : kvF'.length ≤ 1000 := Nat.le_trans (tab_len (Heap.dictOf_iff.mpr ⟨oF', (N2 _ (.tail _ (.tail _ (.tail _ (.tail _ (.tail _ (.head _))))))).1, dF'⟩) (fun u hu => fdm u (by rw [← fk.isSome u]; exact hu))) (by omega)
    have hlM : kvM'.length ≤ 1000 := Nat.le_trans (tab_len (Heap.dictOf_iff.mpr ⟨oM', (N2 _ (.tail _ (.tail _ (.tail _ (.tail _ (.tail _ (.tail _ (.head _)))))))).1, dM'⟩) (fun u hu => mdm u (by rw [← mk.isSome u]; exact hu))) (by omega)
    have hysz : ys.length ≤ 1000 := by have := (List.getElem?_eq_some_iff.mp hgi).1; split at hys <;> omega
    have hsep : ∀ c ∈ A :: D' :: v.x :: own.map (·.1), c ∉ [v.dx, v.fv, v.mv] := by
      have kne : ∀ {a c : Addr} {o o' : Obj}, h9.get? a = some o → h9.get? c = some o' → o.cls ≠ o'.cls → a ≠ c := fun e1 e2 hc e => by
        rw [e, e2] at e1; cases e1; exact hc rfl
      have cF : oF'.cls = .type "dict" := let ⟨_, _, hc, _⟩ := dF'; hc.1
      have cM : oM'.cls = .type "dict" := let ⟨_, _, hc, _⟩ := dM'; hc.1
      have zA := (N2 _ (.head _)).1
      have zD := (N2 _ (.tail _ (.head _))).1
      have zx := (N2 _ (.tail _ (.tail _ (.head _)))).1
      have zd := (N2 _ (.tail _ (.tail _ (.tail _ (.head _))))).1
      have zf := (N2 _ (.tail _ (.tail _ (.tail _ (.tail _ (.tail _ (.head _))))))).1
      have zm := (N2 _ (.tail _ (.tail _ (.tail _ (.tail _ (.tail _ (.tail _ (.head _)))))))).1
      have ld : Value.type "list" ≠ Value.type "dict" := by simp
      intro c hc
      simp only [List.mem_cons, List.not_mem_nil, or_false, not_or]
      rcases List.mem_cons.mp hc with rfl | hc
      · exact ⟨kne zA zd ld, kne zA zf (by rw [cF]; exact ld), kne zA zm (by rw [cM]; exact ld)⟩
      rcases List.mem_cons.mp hc with rfl | hc
      · exact ⟨kne zD zd ld, kne zD zf (by rw [cF]; exact ld), kne zD zm (by rw [cM]; exact ld)⟩
      rcases List.mem_cons.mp hc with rfl | hc
      · exact ⟨kne zx zd (by simp), kne zx zf (by rw [cF]; simp), kne zx zm (by rw [cM]; simp)⟩
      obtain ⟨p, hp, rfl⟩ := List.mem_map.mp hc
      exact ⟨hoff p hp _ (by simp), hoff p hp _ (by simp), hoff p hp _ (by simp)⟩
    have F3 := over_fr (st := []) (ps := [("uid", .int u tu), ("answers", .ref A), ("gone", .ref D'), ("view", .ref v.x)]) (m₀ := _) F2 (by
      intro p hp
      simp only [List.mem_cons, List.not_mem_nil, or_false] at hp
      rcases hp with rfl | rfl | rfl | rfl
      · exact if_pos rfl
      · exact (if_neg (show ¬ (Str.ofString "answers" = Str.ofString "uid") by decide)).trans e1
      · exact (if_neg (show ¬ (Str.ofString "gone" = Str.ofString "uid") by decide)).trans e2
      · exact (if_neg (show ¬ (Str.ofString "view" = Str.ofString "uid") by decide)).trans e3) (fun _ _ _ => rfl)
    clear F2
    walk_at "go"
    · rename Fr _ _ _ _ => F9
      rename News _ _ _ _ => N9
      rename v.van = _ => hvan
      refine InvEndG.intro (nx := [(A, listOf ys.toArray n), (D', listOf gvs'.toArray nn'), (v.x, instObj 124 v.dx), (v.dx, dictOf (viewEs w { v with ul := ul2 }) 7), (ul2, listOf (List.toArray uvs2) un2), (v.fv, oF2), (v.mv, oM2)]) F9 N9 ⟨.tail _ (.head _), ys, n, ul2, uvs2, un2, _, oF2, oM2, _, _, del fl u, del ms u, (by simp), hne2 _ (.head _), hint2, ?_, dF2, dM2, fk.del, mk.del, ?_, ?_, ?_, rfl, rfl, rfl⟩ ?_ ?_ ?_
      · rw [take_next hgi, hus, List.filter_filter]
        refine List.filter_congr fun q _ => ?_
        by_cases e : q = u <;> simp [e, Bool.and_comm]
      · intro q
        rw [take_next hgi]; unfold del
        by_cases e : q = u
        · simp [e]
        · rw [if_neg e, hfl q]; simp [e]
      · intro q
        rw [take_next hgi]; unfold del
        by_cases e : q = u
        · simp [e]
        · rw [if_neg e, hms q]; simp [e]
      · rw [hvan] at hys ⊢; exact hys
      · intro p hp c hc
        simp only [List.map_cons, List.map_nil, List.mem_cons, List.not_mem_nil, or_false] at hc
        rcases hc with rfl | rfl | rfl | rfl | rfl | rfl | rfl
        · exact hoff p hp _ (by simp)
        · exact hoff p hp _ (by simp)
        · exact hoff p hp _ (by simp)
        · exact hoff p hp _ (by simp)
        · exact hne2 p (.tail _ (.tail _ hp))
        · exact hoff p hp _ (by simp)
        · exact hoff p hp _ (by simp)
      · intro p hp
        simp only [List.mem_cons, List.not_mem_nil, or_false] at hp
        rcases hp with rfl | rfl | rfl | rfl | rfl | rfl | rfl
        · exact .head _
        · exact .tail _ (.head _)
        · exact .tail _ (.tail _ (.head _))
        · exact .tail _ (.tail _ (.tail _ (.head _)))
        · exact .tail _ (.tail _ (.tail _ (.tail _ (.head _))))
        · exact .tail _ (.tail _ (.tail _ (.tail _ (.tail _ (.head _)))))
        · exact .tail _ (.tail _ (.tail _ (.tail _ (.tail _ (.tail _ (.head _))))))
      · intro p hp; simp [hp]
    · rename Fr _ _ _ _ => F9
      rename News _ _ _ _ => N9
      rename v.van = _ => hvan
      refine InvEndG.intro (nx := [(A, listOf (ys.toArray.push (Value.ref D'')) (n + 1)), (D', listOf gvs'.toArray nn'), (v.x, instObj 124 v.dx), (v.dx, dictOf (viewEs w { v with ul := ul2 }) 7), (ul2, listOf (List.toArray uvs2) un2), (v.fv, oF2), (v.mv, oM2)]) F9 N9 ⟨.tail _ (.head _), ys ++ [Value.ref D''], n + 1, ul2, uvs2, un2, _, oF2, oM2, _, _, del fl u, del ms u, (by simp), hne2 _ (.head _), hint2, ?_, dF2, dM2, fk.del, mk.del, ?_, ?_, ?_, rfl, rfl, rfl⟩ ?_ ?_ ?_
      · rw [take_next hgi, hus, List.filter_filter]
        refine List.filter_congr fun q _ => ?_
        by_cases e : q = u <;> simp [e, Bool.and_comm]
      · intro q
        rw [take_next hgi]; unfold del
        by_cases e : q = u
        · simp [e]
        · rw [if_neg e, hfl q]; simp [e]
      · intro q
        rw [take_next hgi]; unfold del
        by_cases e : q = u
        · simp [e]
        · rw [if_neg e, hms q]; simp [e]
      · rw [hvan] at hys ⊢; simp at hys ⊢; omega
      · intro p hp c hc
        simp only [List.map_cons, List.map_nil, List.mem_cons, List.not_mem_nil, or_false] at hc
        rcases hc with rfl | rfl | rfl | rfl | rfl | rfl | rfl
        · exact hoff p hp _ (by simp)
        · exact hoff p hp _ (by simp)
        · exact hoff p hp _ (by simp)
        · exact hoff p hp _ (by simp)
        · exact hne2 p (.tail _ (.tail _ hp))
        · exact hoff p hp _ (by simp)
        · exact hoff p hp _ (by simp)
      · intro p hp
        simp only [List.mem_cons, List.not_mem_nil, or_false] at hp
        rcases hp with rfl | rfl | rfl | rfl | rfl | rfl | rfl
        · exact .head _
        · exact .tail _ (.head _)
        · exact .tail _ (.tail _ (.head _))
        · exact .tail _ (.tail _ (.tail _ (.head _)))
        · exact .tail _ (.tail _ (.tail _ (.tail _ (.head _))))
        · exact .tail _ (.tail _ (.tail _ (.tail _ (.tail _ (.head _)))))
        · exact .tail _ (.tail _ (.tail _ (.tail _ (.tail _ (.tail _ (.head _))))))
      · intro p hp; simp [hp]
  · rintro m₁ nx h9 tk9 ⟨ys, n, ulc, uvs, un', us, oF', oM', kvF', kvM', fl, ms, rfl, hAu, hint, hus, dF', dM', fk, mk, hfl, hms, hys, e1, e2, e3⟩ F2 N2
    have F3 := over_fr (st := []) (ps := [("answers", .ref A), ("gone", .ref D'), ("view", .ref v.x)]) (m₀ := _) F2 (by
      intro p hp
      simp only [List.mem_cons, List.not_mem_nil, or_false] at hp
      rcases hp with rfl | rfl | rfl
      · exact e1
      · exact e2
      · exact e3) (fun _ _ _ => rfl)
    clear F2
    have hgl : gvs'.length = gone.length := ints_length hgi'
    rw [hgl, List.take_length] at hus hfl hms
    rw [hgl] at hys
    have cF : oF'.cls = .type "dict" := let ⟨_, _, hc, _⟩ := dF'; hc.1
    have cM : oM'.cls = .type "dict" := let ⟨_, _, hc, _⟩ := dM'; hc.1
    have kne : ∀ {h9 : Heap} {a c : Addr} {o o' : Obj}, h9.get? a = some o → h9.get? c = some o' → o.cls ≠ o'.cls → a ≠ c := fun e1 e2 hc e => by
      rw [e, e2] at e1; cases e1; exact hc rfl
    have ld : Value.type "list" ≠ Value.type "dict" := by simp
    have hmem : ∀ q, q ∈ gone ↔ q ∈ v.us ∧ (uidsOf b.ls).contains q = false := fun q => by rw [hgone, List.mem_filter]; simp
    have hus2 : us = v.us.filter (fun u => (uidsOf b.ls).contains u) := by
      rw [hus]
      refine List.filter_congr fun q hq => ?_
      have := hmem q
      cases e : (uidsOf b.ls).contains q
      · have : q ∈ gone := this.mpr ⟨hq, e⟩
        simpa using this
      · have : q ∉ gone := fun z => by have := (this.mp z).2; rw [e] at this; cases this
        simpa using this
    have hfl2 : ∀ u, fl u = if (uidsOf b.ls).contains u = true then v.fl u else none := fun u => by
      rw [hfl u]
      have := hmem u
      by_cases e : u ∈ v.us
      · cases e2 : (uidsOf b.ls).contains u
        · rw [if_pos (this.mpr ⟨e, e2⟩)]; simp
        · rw [if_neg (fun z => by have := (this.mp z).2; rw [e2] at this; cases this)]; simp
      · have e3 : v.fl u = none := by
          cases q : v.fl u with
          | none => rfl
          | some k => exact absurd ((hv.fdom u).mp (by rw [q]; rfl)) e
        rw [e3]; simp
    have hms2 : ∀ u, ms u = if (uidsOf b.ls).contains u = true then v.ms u else none := fun u => by
      rw [hms u]
      have := hmem u
      by_cases e : u ∈ v.us
      · cases e2 : (uidsOf b.ls).contains u
        · rw [if_pos (this.mpr ⟨e, e2⟩)]; simp
        · rw [if_neg (fun z => by have := (this.mp z).2; rw [e2] at this; cases this)]; simp
      · have e3 : v.ms u = none := by
          cases q : v.ms u with
          | none => rfl
          | some k => exact absurd ((hv.mdom u).mp (by rw [q]; rfl)) e
        rw [e3]; simp
    clear hus hfl hms
    subst hus2
    have zx0 : ∀ {h' : Heap} {m : Str → Option Value} {ys' : List Value} {n' tk : Nat} {news : List (Addr × Obj)}, Fr g L h' m → News g L h' news → (∀ p ∈ [(A, listOf ys'.toArray n'), (v.x, instObj 124 v.dx), (v.dx, dictOf (viewEs w { v with ul := ulc }) 7), (ulc, listOf (List.toArray uvs) un'), (v.fv, oF'), (v.mv, oM')], p ∈ news) → ys'.length ≤ gone.length →
        Q (.ref A) { s with heap := h', toks := tk } := fun {h' m ys' n' tk news} F N hsub hy => by
      have zA := N _ (hsub _ (.head _))
      have zx := (N _ (hsub _ (.tail _ (.head _)))).1
      have zd := (N _ (hsub _ (.tail _ (.tail _ (.head _))))).1
      have zu := N _ (hsub _ (.tail _ (.tail _ (.tail _ (.head _)))))
      have zf := (N _ (hsub _ (.tail _ (.tail _ (.tail _ (.tail _ (.head _))))))).1
      have zm := (N _ (hsub _ (.tail _ (.tail _ (.tail _ (.tail _ (.tail _ (.head _)))))))).1
      have li : Value.type "list" ≠ Value.ref 124 := by simp
      have e5 := ext_of hg F
      have gA : s.heap.get? A = none := hide_new hg zA.2.2 (by
        simp only [List.mem_cons, List.not_mem_nil, or_false, not_or]
        exact ⟨kne zA.1 zx li, kne zA.1 zd ld, hAul, kne zA.1 zf (by rw [cF]; exact ld), kne zA.1 zm (by rw [cM]; exact ld)⟩)
      refine h A h' tk n' ys' ulc un' uvs fl ms gA zA.1 hAu (by rw [hys0]; exact hy) ?_ (e5.drop hI.at_ zx) ⟨⟨zx, rfl, rfl, zd⟩, zu.1, hint, ⟨kvF', Heap.dictOf_iff.mpr ⟨oF', zf, dF'⟩, fk⟩, ⟨kvM', Heap.dictOf_iff.mpr ⟨oM', zm, dM'⟩, mk⟩, ?_, ?_, List.Pairwise.sublist List.filter_sublist hs, fun u hu => hv.pos u (List.mem_filter.mp hu).1, Nat.le_trans (List.length_filter_le _ _) hlen, hv.apart, hv.lo⟩ hfl2 hms2
      · by_cases q : ulc = v.ul
        · exact .inl q
        · refine .inr (hide_new hg zu.2.2 ?_)
          simp only [List.mem_cons, List.not_mem_nil, or_false, not_or]
          exact ⟨kne zu.1 zx li, kne zu.1 zd ld, q, kne zu.1 zf (by rw [cF]; exact ld), kne zu.1 zm (by rw [cM]; exact ld)⟩
      · intro u
        show (fl u).isSome = true ↔ u ∈ v.us.filter _
        rw [hfl2 u, List.mem_filter, ← hv.fdom u]
        cases (uidsOf b.ls).contains u <;> simp
      · intro u
        show (ms u).isSome = true ↔ u ∈ v.us.filter _
        rw [hms2 u, List.mem_filter, ← hv.mdom u]
        cases (uidsOf b.ls).contains u <;> simp
    have hysz : ys.length ≤ 1000 := by split at hys <;> omega
    have hy1 : ys.length ≤ gone.length := by split at hys <;> omega
    have one : ∀ {h' : Heap} {x : Value} {tk : Nat} {m : Str → Option Value} {news : List (Addr × Obj)}, gvs'.isEmpty = false → v.van = true → Fr g L h' m → News g L h' news → (∀ p ∈ [(A, listOf (ys.toArray.push x) (n + 1)), (v.x, instObj 124 v.dx), (v.dx, dictOf (viewEs w { v with ul := ulc }) 7), (ulc, listOf (List.toArray uvs) un'), (v.fv, oF'), (v.mv, oM')], p ∈ news) → Q (.ref A) { s with heap := h', toks := tk } := fun {h' x tk m news} q1 q2 F N hsub => by
      refine zx0 (ys' := ys ++ [x]) (n' := n + 1) F N (by simpa using hsub) ?_
      rw [q2] at hys
      simp at hys
      have : 0 < gvs'.length := by
        cases gvs' with
        | nil => simp at q1
        | cons _ _ => simp
      rw [hys]; simp; omega
    walk_at "go"
    all_goals (rename Fr _ _ _ _ => F9; rename News _ _ _ _ => N9)
    · exact zx0 F9 N9 (fun p hp => by simp only [List.mem_cons, List.not_mem_nil, or_false] at hp ⊢; rcases hp with q | q | q | q | q | q <;> walk_at "or") hy1
    · exact one (by assumption) (by assumption) F9 N9 (fun p hp => by simp only [List.mem_cons, List.not_mem_nil, or_false] at hp ⊢; rcases hp with q | q | q | q | q | q <;> walk_at "or")
    · exact zx0 F9 N9 (fun p hp => by simp only [List.mem_cons, List.not_mem_nil, or_false] at hp ⊢; rcases hp with q | q | q | q | q | q <;> walk_at "or") hy1
theorem off19 : True := trivial
end
/-! S12 -/
section
variable {prog : Program} {w : World} {mg mb : Str → Option Value} {dp un : Nat} {fr : Option (List Env)} {gd : Option (List Code)} {E : Value → Shared → Prop} {s : Shared} {hB hF : Heap} {Q : Value → Shared → Prop}
/-- where a view lies -/
abbrev five (v : Vw) : List Addr := [v.x, v.dx, v.ul, v.fv, v.mv]
theorem VAt.at {h h' : Heap} {v : Vw} (x : VAt prog w hF h v) (e : ∀ a ∈ five v, ∀ o, h.get? a = some o → h'.get? a = some o) : VAt prog w hF h' v :=
  ⟨inst_at x.inst (e _ (by simp)) (e _ (by simp)), e _ (by simp) _ x.list, x.ivs, let ⟨kvs, d, f⟩ := x.flags; ⟨kvs, dict_keeps d (e _ (by simp)), f⟩, let ⟨kvs, d, f⟩ := x.mods; ⟨kvs, dict_keeps d (e _ (by simp)), f⟩, x.fdom, x.mdom, x.sorted, x.pos, x.len, x.apart, x.lo⟩
/-- the ledger's rows that bear a view, whatever they are -/
def VIn (prog : Program) (w : World) (hF : Heap) (v : Vw) (vl : List (Addr × Obj)) : Prop := vl.map (·.1) = five v ∧ ∀ h : Heap, (∀ p ∈ vl, h.get? p.1 = some p.2) → VAt prog w hF h v
theorem VAt.led {h : Heap} {v : Vw} (x : VAt prog w hF h v) : ∃ vl, VIn prog w hF v vl ∧ ∀ p ∈ vl, h.get? p.1 = some p.2 := by
  obtain ⟨kvF, hF1, _⟩ := x.flags
  obtain ⟨kvM, hM1, _⟩ := x.mods
  obtain ⟨oF, hoF, _⟩ := Heap.dictOf_iff.mp hF1
  obtain ⟨oM, hoM, _⟩ := Heap.dictOf_iff.mp hM1
  have hp : ∀ p ∈ [(v.x, instObj 124 v.dx), (v.dx, dictOf (viewEs w v) 7), (v.ul, listOf v.uvs.toArray v.un), (v.fv, oF), (v.mv, oM)], h.get? p.1 = some p.2 := by
    simpa using ⟨x.inst.at_, x.inst.dict, x.list, hoF, hoM⟩
  refine ⟨[(v.x, instObj 124 v.dx), (v.dx, dictOf (viewEs w v) 7), (v.ul, listOf v.uvs.toArray v.un), (v.fv, oF), (v.mv, oM)], ⟨rfl, fun h' hp' => x.at fun a ha o e => ?_⟩, hp⟩
  have : ∃ p ∈ [(v.x, instObj 124 v.dx), (v.dx, dictOf (viewEs w v) 7), (v.ul, listOf v.uvs.toArray v.un), (v.fv, oF), (v.mv, oM)], p.1 = a := by
    simp only [five, List.mem_cons, List.not_mem_nil, or_false] at ha
    rcases ha with rfl | rfl | rfl | rfl | rfl
    · exact ⟨_, .head _, rfl⟩
    · exact ⟨_, .tail _ (.head _), rfl⟩
    · exact ⟨_, .tail _ (.tail _ (.head _)), rfl⟩
    · exact ⟨_, .tail _ (.tail _ (.tail _ (.head _))), rfl⟩
    · exact ⟨_, .tail _ (.tail _ (.tail _ (.tail _ (.head _)))), rfl⟩
  obtain ⟨p, hm, rfl⟩ := this
  rw [hp p hm] at e; cases e
  exact hp' p hm
theorem VIn.mem {v : Vw} {vl : List (Addr × Obj)} (V : VIn prog w hF v vl) {a : Addr} (ha : a ∈ five v) : ∃ o, (a, o) ∈ vl := by
  rw [← V.1] at ha
  obtain ⟨p, hp, rfl⟩ := List.mem_map.mp ha
  exact ⟨p.2, hp⟩
theorem VIn.mem' {v : Vw} {vl : List (Addr × Obj)} (V : VIn prog w hF v vl) {p : Addr × Obj} (hp : p ∈ vl) : p.1 ∈ five v := by
  rw [← V.1]; exact List.mem_map_of_mem hp
theorem turn_in {v v' : Vw} {W : List Addr} {pre vl : List (Addr × Obj)} {g h h' : Heap} {L D : Addr} {m : Str → Option Value} {oD : Obj} (F : Fr g L h m) (N : News g L h (pre ++ vl)) (V : VIn prog w hF v vl) (hoff : OwnOff vl (pre.map (·.1))) (e : Ext W h h') (hW : ∀ a ∈ W, a ∈ five v)
    (V' : VAt prog w hF h' v') (s1 : v'.x = v.x) (s2 : v'.dx = v.dx) (s3 : v'.fv = v.fv) (s4 : v'.mv = v.mv) (s5 : v'.ul = v.ul ∨ h.get? v'.ul = none) (hD : h.get? D = none) (hO : h'.get? D = some oD) (hDu : D ≠ v'.ul) :
    ∃ vl', VIn prog w hF v' vl' ∧ Fr g L h' m ∧ News g L h' ((D, oD) :: (pre ++ vl')) ∧ OwnOff vl' (D :: pre.map (·.1)) ∧ AllNe D pre := by
  have z : ∀ a ∈ five v, ∃ o, h.get? a = some o ∧ a ≠ L ∧ g.get? a = none := fun a ha => let ⟨o, hm⟩ := V.mem ha; ⟨o, N _ (List.mem_append_right _ hm)⟩
  have F' : Fr g L h' m := e.fr F (fun b hb => let ⟨o, _, _, q⟩ := z b (hW b hb); q) (fun hb => let ⟨o, _, q, _⟩ := z L (hW L hb); q rfl)
  obtain ⟨vl', V2, hp⟩ := V'.led
  have cas : ∀ p ∈ vl', p.1 ∈ five v ∨ h.get? p.1 = none := fun p hq => by
    have := V2.mem' hq
    simp only [five, List.mem_cons, List.not_mem_nil, or_false] at this ⊢
    rw [s1, s2, s3, s4] at this
    rcases this with q | q | q | q | q
    · simp [q]
    · simp [q]
    · rcases s5 with r | r
      · left; simp [q, r]
      · right; rw [q]; exact r
    · simp [q]
    · simp [q]
  have hpre : ∀ p ∈ pre, h'.get? p.1 = some p.2 ∧ p.1 ≠ L ∧ g.get? p.1 = none := fun p hq => by
    have := N p (List.mem_append_left _ hq)
    refine ⟨e _ _ (fun hw => ?_) this.1, this.2⟩
    obtain ⟨o, hm⟩ := V.mem (hW _ hw)
    exact hoff _ hm p.1 (List.mem_map_of_mem hq) rfl
  refine ⟨vl', V2, F', ?_, ?_, news_ne (L := L) (g := g) (fun p hq => N p (List.mem_append_left _ hq)) hD⟩
  · refine news_cons ⟨hO, fr_ne F hD, fr_none F hD⟩ fun p hq => ?_
    rcases List.mem_append.mp hq with hq | hq
    · exact hpre p hq
    · rcases cas p hq with q | q
      · obtain ⟨o, _, r⟩ := z _ q
        exact ⟨hp p hq, r⟩
      · exact ⟨hp p hq, fr_ne F q, fr_none F q⟩
  · intro p hq c hc
    rcases List.mem_cons.mp hc with rfl | hc
    · have := V2.mem' hq
      simp only [five, List.mem_cons, List.not_mem_nil, or_false] at this
      have old : ∀ a ∈ five v, a ≠ c := fun a ha q => by
        obtain ⟨o, h1, _⟩ := z a ha
        rw [q, hD] at h1; cases h1
      rcases this with q | q | q | q | q
      · rw [q, s1]; exact old _ (by simp)
      · rw [q, s2]; exact old _ (by simp)
      · rw [q]; exact fun r => hDu r.symm
      · rw [q, s3]; exact old _ (by simp)
      · rw [q, s4]; exact old _ (by simp)
    · rcases cas p hq with q | q
      · obtain ⟨o, hm⟩ := V.mem q
        exact hoff _ hm c hc
      · intro r
        obtain ⟨y, hy, rfl⟩ := List.mem_map.mp hc
        have := (N y (List.mem_append_left _ hy)).1
        rw [← r, q] at this; cases this
theorem VAt.told {h h' : Heap} {v : Vw} {b : Bx} {fl : Int → Option Nat} {ms : Int → Option Int} (x : VAt prog w hF h v) (e : Ext [v.fv, v.mv] h h') (f : ∃ kvs, h'.DictOf (PySem.intKind prog w) v.fv kvs ∧ FlagKv hF kvs fl) (m : ∃ kvs, h'.DictOf (PySem.intKind prog w) v.mv kvs ∧ MsKv kvs ms) (t : Told b v v.us fl ms) :
    VAt prog w hF h' { v with fl := fl, ms := ms } := by
  obtain ⟨kvF, hF1, _⟩ := x.flags
  obtain ⟨kvM, hM1, _⟩ := x.mods
  have vu := ul_off x.inst x.list hF1 hM1
  have m1 := mut_dict hF1
  have m2 := mut_dict hM1
  refine ⟨inst_at x.inst (fun o => e _ o (by simp [(view_off x.inst m1).symm, (view_off x.inst m2).symm])) (fun o => e _ o (by simp [(view_off2 x.inst hF1).symm, (view_off2 x.inst hM1).symm])), e _ _ (by simp [vu]) x.list, x.ivs, f, m, fun u => ?_, fun u => ?_, x.sorted, x.pos, x.len, x.apart, x.lo⟩
  · show (fl u).isSome = true ↔ u ∈ v.us
    refine Iff.trans ?_ (x.fdom u)
    rw [t.1 u]
    split
    · rename_i hm
      have := (x.fdom u).mpr hm
      cases flOf b.ls u <;> simp [this]
    · rfl
  · show (ms u).isSome = true ↔ u ∈ v.us
    rw [t.2.1 u]; exact x.mdom u
theorem flag_in {v : Vw} {b : Bx} {pre vl : List (Addr × Obj)} {g : Heap} {L : Addr} {m : Str → Option Value} (Bg : Bed w mg mb g) (F : Fr g L s.heap m) (N : News g L s.heap (pre ++ vl)) (V : VIn prog w hF v vl) (hoff : OwnOff vl (pre.map (·.1))) (hr : dp < 800) (hun : un < 7900) (stF : hF.StaysIn g) (hbx : BoxAt w hF b) (hvb : v.bx = b.x)
    (h : ∀ D h' tk n ys fl ms vl', ys.length ≤ (v.us.filter fun u => (uidsOf b.ls).contains u).length → Told b v v.us fl ms → VIn prog w hF { v with fl := fl, ms := ms } vl' → OwnOff vl' (D :: pre.map (·.1)) → AllNe D pre → Fr g L h' m → News g L h' ((D, listOf (List.toArray ys) n) :: (pre ++ vl')) → Q (.ref D) { s with heap := h', toks := tk }) :
    wpAny (model prog w) (AT dp un fr gd) (call (.ref 171) [.ref v.x]) Q E s := by
  have hv := V.2 s.heap fun p hp => (N p (List.mem_append_right _ hp)).1
  have nn : ∀ a ∈ five v, g.get? a = none := fun a ha => let ⟨o, hm⟩ := V.mem ha; (N _ (List.mem_append_right _ hm)).2.2
  refine flag_news_spec Bg F.keep hr hun stF hbx hvb hv (nn _ (by simp)) (nn _ (by simp)) fun D h' tk n ys fl ms hD hO hy he hf hm t => ?_
  have V' := hv.told he hf hm t
  have hDu : D ≠ v.ul := fun e => by rw [e, hv.list] at hD; cases hD
  obtain ⟨vl', V2, F', N', ho, ha⟩ := turn_in F N V hoff he (by intro a ha; simp only [List.mem_cons, List.not_mem_nil, or_false] at ha; rcases ha with rfl | rfl <;> simp) V' rfl rfl rfl rfl (.inl rfl) hD hO hDu
  exact h D h' tk n ys fl ms vl' hy t V2 ho ha F' N'
theorem expunge_in {v : Vw} {b : Bx} {pre vl : List (Addr × Obj)} {g : Heap} {L : Addr} {m : Str → Option Value} (Bg : Bed w mg mb g) (F : Fr g L s.heap m) (N : News g L s.heap (pre ++ vl)) (V : VIn prog w hF v vl) (hoff : OwnOff vl (pre.map (·.1))) (hr : dp < 790) (hun : un < 7900) (stF : hF.StaysIn g) (hbx : BoxAt w hF b) (hvb : v.bx = b.x)
    (h : ∀ D h' tk n ys ul' un' uvs' fl ms vl', ys.length ≤ (v.us.filter fun u => !(uidsOf b.ls).contains u).length → (ul' = v.ul ∨ s.heap.get? ul' = none) → (∀ u, fl u = if (uidsOf b.ls).contains u = true then v.fl u else none) → (∀ u, ms u = if (uidsOf b.ls).contains u = true then v.ms u else none) →
      VIn prog w hF { v with ul := ul', us := v.us.filter (fun u => (uidsOf b.ls).contains u), uvs := uvs', un := un', fl := fl, ms := ms } vl' → OwnOff vl' (D :: pre.map (·.1)) → AllNe D pre → Fr g L h' m → News g L h' ((D, listOf (List.toArray ys) n) :: (pre ++ vl')) → Q (.ref D) { s with heap := h', toks := tk }) :
    wpAny (model prog w) (AT dp un fr gd) (call (.ref 183) [.ref v.x]) Q E s := by
  have hv := V.2 s.heap fun p hp => (N p (List.mem_append_right _ hp)).1
  have nn : ∀ a ∈ five v, g.get? a = none := fun a ha => let ⟨o, hm⟩ := V.mem ha; (N _ (List.mem_append_right _ hm)).2.2
  refine expunge_news_spec Bg F.keep hr hun stF hbx hvb hv (nn _ (by simp)) (nn _ (by simp)) (nn _ (by simp)) (nn _ (by simp)) (nn _ (by simp)) fun D h' tk n ys ul' un' uvs' fl ms hD hO hDu hy hul he V' hfl hms => ?_
  obtain ⟨vl', V2, F', N', ho, ha⟩ := turn_in F N V hoff he (by intro a ha; simp only [List.mem_cons, List.not_mem_nil, or_false] at ha; rcases ha with rfl | rfl | rfl | rfl <;> simp) V' rfl rfl rfl rfl hul hD hO hDu
  exact h D h' tk n ys ul' un' uvs' fl ms vl' hy hul hfl hms V2 ho ha F' N'
theorem arrival_in {v : Vw} {b : Bx} {pre vl : List (Addr × Obj)} {g : Heap} {L : Addr} {m : Str → Option Value} (Bg : Bed w mg mb g) (F : Fr g L s.heap m) (N : News g L s.heap (pre ++ vl)) (V : VIn prog w hF v vl) (hoff : OwnOff vl (pre.map (·.1))) (hr : dp < 800) (hun : un < 7900) (stF : hF.StaysIn g) (hbx : BoxAt w hF b) (hvb : v.bx = b.x) (hsum : v.us.length + b.ls.length ≤ 100)
    (h : ∀ D h' tk n ys uvs un' fl ms vl', ys.length ≤ (if (b.ls.filter fun l => isNew v l.uid) = [] then 0 else 1) → Grown v (b.ls.filter fun l => isNew v l.uid) fl ms →
      VIn prog w hF { v with us := v.us ++ uidsOf (b.ls.filter fun l => isNew v l.uid), uvs := uvs, un := un', fl := fl, ms := ms } vl' → OwnOff vl' (D :: pre.map (·.1)) → AllNe D pre → Fr g L h' m → News g L h' ((D, listOf (List.toArray ys) n) :: (pre ++ vl')) → Q (.ref D) { s with heap := h', toks := tk }) :
    wpAny (model prog w) (AT dp un fr gd) (call (.ref 190) [.ref v.x]) Q E s := by
  have hv := V.2 s.heap fun p hp => (N p (List.mem_append_right _ hp)).1
  have nn : ∀ a ∈ five v, g.get? a = none := fun a ha => let ⟨o, hm⟩ := V.mem ha; (N _ (List.mem_append_right _ hm)).2.2
  refine arrival_news_spec Bg F.keep hr hun stF hbx hvb hv (nn _ (by simp)) (nn _ (by simp)) (nn _ (by simp)) hsum fun D h' tk n ys uvs un' fl ms hD hO hy he V' gr => ?_
  have hDu : D ≠ v.ul := fun e => by rw [e, hv.list] at hD; cases hD
  obtain ⟨vl', V2, F', N', ho, ha⟩ := turn_in F N V hoff he (by intro a ha; simp only [List.mem_cons, List.not_mem_nil, or_false] at ha; rcases ha with rfl | rfl | rfl <;> simp) V' rfl rfl rfl rfl (.inl rfl) hD hO hDu
  exact h D h' tk n ys uvs un' fl ms vl' hy gr V2 ho ha F' N'
theorem extend_any {g : Heap} {L D b : Addr} {m : Str → Option Value} {news : List (Addr × Obj)} {ng : Obj → List (Addr × Obj)} {A : Around} {ys zs : List Value} {n n2 : Nat} (F : Fr g L s.heap m) (N : News g L s.heap news) (hb : (b, listOf zs.toArray n2) ∈ news) (U : UpdF D (listOf ys.toArray n) news ng) (hz : ys.length + zs.length ≤ 1000)
    (h : ∀ n' h', Fr g L h' m → News g L h' (ng (listOf (ys ++ zs).toArray n')) → Q .none { s with heap := h' }) : wpAny (model prog w) A (call (.builtin "list.extend") [.ref D, .ref b]) Q E s := by
  obtain ⟨pre, post, e1, e2, a, c⟩ := U.split
  subst e1
  have z := N (D, listOf ys.toArray n) (List.mem_append.mpr (.inr (.head _)))
  have hd : ¬(!ys.toArray.isEmpty && Builtin.List.listTooLong (ys.toArray.size + zs.toArray.size)) = true := by
    have : Builtin.List.listTooLong (ys.toArray.size + zs.toArray.size) = false := by
      unfold Builtin.List.listTooLong
      rw [sizeLine_eq]
      simp [List.size_toArray]
      omega
    rw [this]; simp
  by_cases hne : zs = []
  · subst hne
    refine call_meets PySem.F.slot_list_extend ⟨_, z.1, rfl⟩ PySem.F.entry_list_extend (PySem.F.args_list_extend_2 _ _) (PySem.AutoSeq1.list_extend_list_list_0 D _ n b _ n2 hd (by rw [sizeLine_eq]; simp; omega) (by rw [sizeLine_eq]; simp; omega)) ⟨z.1, (N _ hb).1, h n _ (F.change (Heap.SameBut.update ..) z.2.1 z.2.2) ?_⟩
    rw [e2]
    exact kl_turn0 (fun x => x ++ #[]) N a c (by simp) (by simp)
  · refine call_meets PySem.F.slot_list_extend ⟨_, z.1, rfl⟩ PySem.F.entry_list_extend (PySem.F.args_list_extend_2 _ _) (PySem.AutoSeq1.list_extend_list_list_0 D _ n b _ n2 hd (by rw [sizeLine_eq]; simp; omega) (by rw [sizeLine_eq]; simp; omega)) ⟨z.1, (N _ hb).1, h (n + 1) _ (F.change (Heap.SameBut.update ..) z.2.1 z.2.2) ?_⟩
    rw [e2]
    refine kl_turn (fun x => x ++ zs.toArray) N a c (by simp) ?_
    simp
    exact hne
theorem cat_lists2 {A : Around} {h₀ : Heap} {L : Addr} {m : Str → Option Value} {news : List (Addr × Obj)} {l b : Addr} {vs ws : List Value} (F : Fr h₀ L s.heap m) (N : News h₀ L s.heap news) (hl : s.heap.IsList l vs.toArray) (hb : s.heap.IsList b ws.toArray) (hsz : vs.length + ws.length ≤ 2000)
    (h : ∀ D h', @LT.lt Nat _ L D → (∀ p ∈ news, @Ne Nat p.1 D) → Fr h₀ L h' m → News h₀ L h' ((D, listOf (vs ++ ws).toArray 0) :: news) → Q (.ref D) { s with heap := h' }) :
    wpAny (model prog w) A (binaryOp .Add (.ref l) (.ref b)) Q E s := by
  obtain ⟨⟨cls, dd, data, sl⟩, ho, hc, n, hd⟩ := id hl
  obtain ⟨⟨cls2, dd2, data2, sl2⟩, ho2, hc2, n2, hd2⟩ := id hb
  simp only at hc hd hc2 hd2
  subst hc hd hc2 hd2
  have e : vs.toArray ++ ws.toArray = (vs ++ ws).toArray := by simp
  refine concat_meets ⟨_, ho, rfl⟩ ⟨_, ho2, rfl⟩ noFill_list_add seq_list_add PySem.F.slot_list_add PySem.F.entry_list_add (PySem.F.args_list_add_2 _ _) (list_addW l b vs.toArray ws.toArray n n2 dd dd2 sl sl2 (by rw [sizeLine_eq]; simp; omega)) ⟨ho, ho2, ?_⟩
  rw [e]
  exact h _ _ F.ns.lt (fun p hp => Nat.ne_of_lt (Heap.lt_size (N p hp).1)) (F.push _) (News.push F N _)
/-- what `news` makes of a view -/
inductive NewsRel (b : Bx) (v : Vw) (me : Bool) (v' : Vw) (k : Nat) : Prop
  | mk (us : List Int) (fl1 fl : Int → Option Nat) (ms1 ms : Int → Option Int) (z1 : Told b v v.us fl1 ms1) (z2 : us = (if me then v.us.filter (fun u => (uidsOf b.ls).contains u) else v.us)) (z3 : (∀ u, fl u = if me = false ∨ (uidsOf b.ls).contains u = true then fl1 u else none)) (z4 : (∀ u, ms u = if me = false ∨ (uidsOf b.ls).contains u = true then ms1 u else none)) (z5 : v'.us = us ++ uidsOf (b.ls.filter fun l => isNew { v with us := us, fl := fl } l.uid)) (z6 : Grown { v with us := us, fl := fl, ms := ms } (b.ls.filter fun l => isNew { v with us := us, fl := fl } l.uid) v'.fl v'.ms) (z7 : k ≤ (v.us.filter fun u => (uidsOf b.ls).contains u).length + (if me then (v.us.filter fun u => !(uidsOf b.ls).contains u).length else 0) + (if (b.ls.filter fun l => isNew { v with us := us, fl := fl } l.uid) = [] then 0 else 1)) : NewsRel b v me v' k
example : True := by
  k_with "call ref" => ((fail_if_success (have := @off20)); ((k_here; (with_reducible show wpAny _ _ (call (Value.ref 171) _) _ _ _); k_dflt (refine' flag_in (v := v) (b := b) (pre := []) (vl := vl) ?Bw87 ?Fw87 ?Nw87 V hoff0 ?hrw87 ?huw87 kFg hbx hvb ?_; (case Bw87 => assumption); (case Fw87 => k_asm); (case Nw87 => exact (by k_asm : News g L _ vl)); (case hrw87 => walk_at "room"); (case huw87 => walk_at "room"); (intro D1 h' tk' n1 ys1 fl1 ms1 vl1 hy1 ht1 V1 ho1 ha1 F' N'; (try dsimp only [List.nil_append, List.cons_append] at N'); (simp only [List.map_nil] at ho1))))))
  exact trivial
example : True := by
  k_with "call ref" => ((fail_if_success (have := @off20)); ((k_here; (with_reducible show wpAny _ _ (call (Value.ref 183) _) _ _ _); k_dflt (refine' expunge_in (v := { v with fl := fl1, ms := ms1 }) (b := b) (pre := [(D1, listOf ys1.toArray n1)]) (vl := vl1) ?Bw88 ?Fw88 ?Nw88 V1 ho1 ?hrw88 ?huw88 kFg hbx hvb ?_; (case Bw88 => assumption); (case Fw88 => k_asm); (case Nw88 => exact (by k_asm : News g L _ ((D1, listOf ys1.toArray n1) :: vl1))); (case hrw88 => walk_at "room"); (case huw88 => walk_at "room"); (intro D2 h' tk' n2 zs2 ul2 un2 uvs2 fl2 ms2 vl2 hy2 hul2 hfl2 hms2 V2 ho2 ha2 F' N'; (simp only [AllNe, and_true] at ha2); (try dsimp only [List.nil_append, List.cons_append] at N'); (simp only [List.map_cons, List.map_nil] at ho2); (dsimp only at hy2 hfl2 hms2 V2))))))
  exact trivial
example : True := by
  k_with "call builtin:list.extend" => ((fail_if_success (have := @off20)); ((k_here; (with_reducible show wpAny _ _ (call (Value.builtin _) [Value.ref _, Value.ref _]) _ _ _); k_dflt (refine' extend_any (ys := ys1) (zs := zs2) ?Fw89 ?Nw89 ?bw89 ?Uw89 ?zw89 ?_; (case Fw89 => k_asm); (case Nw89 => k_asm); (case bw89 => k_mem); (case Uw89 => k_updF); (case zw89 => omega); (intro n3 h' F' N'; (try dsimp only at N'))))))
  exact trivial
example : True := by
  k_with "binaryOp Add ref ref" => ((fail_if_success (have := @off20)); ((k_here; (with_reducible show wpAny _ _ (binaryOp _ (Value.ref _) (Value.ref _)) _ _ _); k_dflt (refine' cat_lists2 (ws := ys3) ?Fw90 ?Nw90 ?aw90 ?bw90 ?zw90 ?_; (case Fw90 => k_asm); (case Nw90 => k_asm); (case aw90 => exact ⟨_, News.get (by k_asm) (by k_mem), rfl, _, rfl⟩); (case bw90 => exact ⟨_, News.get (by k_asm) (.head _), rfl, _, rfl⟩); (case zw90 => ((try simp only [List.length_append]); omega)); (intro D4 h' hLD hD4n F' N')))))
  exact trivial
example : True := by
  k_with "call ref" => ((fail_if_success (have := @off20)); ((k_here; (with_reducible show wpAny _ _ (call (Value.ref 190) _) _ _ _); k_dflt (refine' arrival_in (v := { v with ul := ul2, us := v.us.filter (fun u => (uidsOf b.ls).contains u), uvs := uvs2, un := un2, fl := fl2, ms := ms2 }) (b := b) (pre := [(D2, listOf zs2.toArray n2), (D1, listOf (ys1 ++ zs2).toArray n3)]) (vl := vl2) ?Bw91 ?Fw91 ?Nw91 V2 ho2 ?hrw91 ?huw91 kFg hbx hvb ?hsw91 ?_; (case Bw91 => assumption); (case Fw91 => k_asm); (case Nw91 => exact (by k_asm : News g L _ ((D2, listOf zs2.toArray n2) :: (D1, listOf (ys1 ++ zs2).toArray n3) :: vl2))); (case hrw91 => walk_at "room"); (case huw91 => walk_at "room"); (case hsw91 => dsimp only; omega); (intro D3 h' tk' n4 ys3 uvs3 un3 fl3 ms3 vl3 hy3 gr3 V3 ho3 ha3 F' N'; (simp only [AllNe, and_true] at ha3); (try dsimp only [List.nil_append, List.cons_append] at N'); (simp only [List.map_cons, List.map_nil] at ho3); (dsimp only at hy3 V3); have hy3' : ys3.length ≤ 1 := (by split at hy3 <;> omega))))))
  exact trivial
example : True := by
  k_with "call ref" => ((fail_if_success (have := @off20)); ((k_here; (with_reducible show wpAny _ _ (call (Value.ref 190) _) _ _ _); k_dflt (refine' arrival_in (v := { v with fl := fl1, ms := ms1 }) (b := b) (pre := [(D1, listOf ys1.toArray n1)]) (vl := vl1) ?Bw92 ?Fw92 ?Nw92 V1 ho1 ?hrw92 ?huw92 kFg hbx hvb ?hsw92 ?_; (case Bw92 => assumption); (case Fw92 => k_asm); (case Nw92 => exact (by k_asm : News g L _ ((D1, listOf ys1.toArray n1) :: vl1))); (case hrw92 => walk_at "room"); (case huw92 => walk_at "room"); (case hsw92 => dsimp only; omega); (intro D3 h' tk' n4 ys3 uvs3 un3 fl3 ms3 vl3 hy3 gr3 V3 ho3 ha3 F' N'; (simp only [AllNe, and_true] at ha3); (try dsimp only [List.nil_append, List.cons_append] at N'); (simp only [List.map_cons, List.map_nil] at ho3); (dsimp only at hy3 V3); have hy3' : ys3.length ≤ 1 := (by split at hy3 <;> omega))))))
  exact trivial
theorem news_end {v v' : Vw} {vl vl' : List (Addr × Obj)} {g h' : Heap} {L D : Addr} {m : Str → Option Value} {oD : Obj} {rest : List (Addr × Obj)} (hg : g = hideAll s.heap (vl.map (·.1))) (V : VIn prog w hF v vl) (hvl : ∀ p ∈ vl, s.heap.get? p.1 = some p.2) (F : Fr g L h' m) (N : News g L h' ((D, oD) :: rest)) (hsub : ∀ p ∈ vl', p ∈ rest) (hLD : @LT.lt Nat _ L D)
    (V' : VIn prog w hF v' vl') (s1 : v'.x = v.x) (s2 : v'.dx = v.dx) (s3 : v'.fv = v.fv) (s4 : v'.mv = v.mv) :
    s.heap.get? D = none ∧ h'.get? D = some oD ∧ (v'.ul = v.ul ∨ s.heap.get? v'.ul = none) ∧ Ext [v.dx, v.ul, v.fv, v.mv] s.heap h' ∧ VAt prog w hF h' v' := by
  have A' : VAt prog w hF h' v' := V'.2 h' fun p hp => (N p (.tail _ (hsub p hp))).1
  have hv := V.2 _ hvl
  have hg' : g = hideAll s.heap (five v) := by rw [hg, V.1]
  refine ⟨?_, (N _ (.head _)).1, ?_, ?_, A'⟩
  · cases q : s.heap.get? D with
    | none => rfl
    | some o =>
      have h1 := Heap.lt_size q
      have h2 := F.above
      rw [hg, hideAll_size] at h2
      exact absurd (Nat.lt_of_lt_of_le h1 h2) (Nat.lt_asymm hLD)
  · by_cases q : v'.ul = v.ul
    · exact .inl q
    · right
      obtain ⟨o, ho⟩ := V'.mem (a := v'.ul) (by simp)
      obtain ⟨kvF, hF1, _⟩ := A'.flags
      obtain ⟨kvM, hM1, _⟩ := A'.mods
      obtain ⟨u1, u2, u3, u4⟩ := ul_off A'.inst A'.list hF1 hM1
      refine hide_new hg' (N _ (.tail _ (hsub _ ho))).2.2 ?_
      simp only [five, List.mem_cons, List.not_mem_nil, or_false, not_or]
      exact ⟨s1 ▸ u1, s2 ▸ u2, q, s3 ▸ u3, s4 ▸ u4⟩
  · have e : Ext (v.x :: [v.dx, v.ul, v.fv, v.mv]) s.heap h' := ext_of hg' F
    exact e.drop hv.inst.at_ (by have := A'.inst.at_; rw [s1, s2] at this; exact this)
theorem news_true {v : Vw} {b : Bx}
    (B : Bed w mg mb hB) (st : hB.StaysIn s.heap) (hr : dp < 780) (hun : un < 7800) (stF : hF.StaysIn hB) (hbx : BoxAt w hF b) (hvb : v.bx = b.x) (hv : VAt prog w hF s.heap v) (hnone : ∀ a ∈ five v, hB.get? a = none) (hsum : v.us.length + b.ls.length ≤ 100)
    (h : ∀ D h' tk n ys v', s.heap.get? D = none → D ≠ v'.ul → h'.get? D = some (listOf (List.toArray ys) n) → NewsRel b v true v' ys.length → v'.x = v.x → v'.dx = v.dx → v'.fv = v.fv → v'.mv = v.mv → v'.bx = v.bx → v'.uses = v.uses → v'.van = v.van → (v'.ul = v.ul ∨ s.heap.get? v'.ul = none) → Ext [v.dx, v.ul, v.fv, v.mv] s.heap h' → VAt prog w hF h' v' → Q (.ref D) { s with heap := h', toks := tk }) :
    wpAny (model prog w) (AT dp un fr gd) (call (.ref 197) [.ref v.x, .bool true]) Q E s := by
  obtain ⟨vl, V, hvl⟩ := hv.led
  have hoff0 : OwnOff vl [] := fun p hp b hb => by cases hb
  have hlen := hv.len
  have hf1 : (v.us.filter fun u => (uidsOf b.ls).contains u).length ≤ v.us.length := List.length_filter_le _ _
  have hf2 : (v.us.filter fun u => !(uidsOf b.ls).contains u).length ≤ v.us.length := List.length_filter_le _ _
  have hW : ∀ p ∈ vl, s.heap.get? p.1 = some p.2 ∧ hB.get? p.1 = none := fun p hp => ⟨hvl p hp, hnone _ (V.mem' hp)⟩
  walk_at "enter"
  have kBg : ∀ b o, hB.get? b = some o → g.get? b = some o := fun c o e => by
    rw [hg]
    refine hideAll_get _ (st c o e) fun hc => ?_
    obtain ⟨p, hp, rfl⟩ := List.mem_map.mp hc
    rw [(hW p hp).2] at e; cases e
  have kFg : ∀ b o, hF.get? b = some o → g.get? b = some o := fun c o e => kBg c o (stF c o e)
  walk_at "go"
  rename Fr _ _ _ _ => F9
  rename News _ _ _ _ => N9
  obtain ⟨z1, z2, z3, z4, z5⟩ := news_end hg V hvl F9 N9 (fun p hp => .tail _ (.tail _ (.tail _ hp))) hLD V3 rfl rfl rfl rfl
  obtain ⟨o5, ho5⟩ := V3.mem (a := ul2) (by simp)
  have z6 : D4 ≠ ul2 := fun e => hD4n _ (.tail _ (.tail _ (.tail _ ho5))) e.symm
  refine h D4 _ _ _ _ { v with ul := ul2, us := v.us.filter (fun u => (uidsOf b.ls).contains u) ++ uidsOf (b.ls.filter fun l => isNew { v with us := v.us.filter (fun u => (uidsOf b.ls).contains u), fl := fl2 } l.uid), uvs := uvs3, un := un3, fl := fl3, ms := ms3 } z1 z6 z2 ⟨v.us.filter (fun u => (uidsOf b.ls).contains u), fl1, fl2, ms1, ms2, ht1, (if_pos rfl).symm, fun u => ?_, fun u => ?_, rfl, gr3, ?_⟩ rfl rfl rfl rfl rfl rfl rfl z3 z4 z5
  · rw [hfl2 u]; simp
  · rw [hms2 u]; simp
  · rw [List.length_append, List.length_append]
    simp only [if_true]
    exact Nat.add_le_add (Nat.add_le_add hy1 hy2) hy3
theorem news_false {v : Vw} {b : Bx}
    (B : Bed w mg mb hB) (st : hB.StaysIn s.heap) (hr : dp < 780) (hun : un < 7800) (stF : hF.StaysIn hB) (hbx : BoxAt w hF b) (hvb : v.bx = b.x) (hv : VAt prog w hF s.heap v) (hnone : ∀ a ∈ five v, hB.get? a = none) (hsum : v.us.length + b.ls.length ≤ 100)
    (h : ∀ D h' tk n ys v', s.heap.get? D = none → D ≠ v'.ul → h'.get? D = some (listOf (List.toArray ys) n) → NewsRel b v false v' ys.length → v'.x = v.x → v'.dx = v.dx → v'.fv = v.fv → v'.mv = v.mv → v'.bx = v.bx → v'.uses = v.uses → v'.van = v.van → (v'.ul = v.ul ∨ s.heap.get? v'.ul = none) → Ext [v.dx, v.ul, v.fv, v.mv] s.heap h' → VAt prog w hF h' v' → Q (.ref D) { s with heap := h', toks := tk }) :
    wpAny (model prog w) (AT dp un fr gd) (call (.ref 197) [.ref v.x, .bool false]) Q E s := by
  obtain ⟨vl, V, hvl⟩ := hv.led
  have hoff0 : OwnOff vl [] := fun p hp b hb => by cases hb
  have hlen := hv.len
  have hf1 : (v.us.filter fun u => (uidsOf b.ls).contains u).length ≤ v.us.length := List.length_filter_le _ _
  have hf2 : (v.us.filter fun u => !(uidsOf b.ls).contains u).length ≤ v.us.length := List.length_filter_le _ _
  have hW : ∀ p ∈ vl, s.heap.get? p.1 = some p.2 ∧ hB.get? p.1 = none := fun p hp => ⟨hvl p hp, hnone _ (V.mem' hp)⟩
  walk_at "enter"
  have kBg : ∀ b o, hB.get? b = some o → g.get? b = some o := fun c o e => by
    rw [hg]
    refine hideAll_get _ (st c o e) fun hc => ?_
    obtain ⟨p, hp, rfl⟩ := List.mem_map.mp hc
    rw [(hW p hp).2] at e; cases e
  have kFg : ∀ b o, hF.get? b = some o → g.get? b = some o := fun c o e => kBg c o (stF c o e)
  walk_at "go"
  rename Fr _ _ _ _ => F9
  rename News _ _ _ _ => N9
  obtain ⟨z1, z2, z3, z4, z5⟩ := news_end hg V hvl F9 N9 (fun p hp => .tail _ (.tail _ hp)) hLD V3 rfl rfl rfl rfl
  obtain ⟨o5, ho5⟩ := V3.mem (a := v.ul) (by simp)
  have z6 : D4 ≠ v.ul := fun e => hD4n _ (.tail _ (.tail _ ho5)) e.symm
  refine h D4 _ _ _ _ { v with us := v.us ++ uidsOf (b.ls.filter fun l => isNew { v with us := v.us, fl := fl1 } l.uid), uvs := uvs3, un := un3, fl := fl3, ms := ms3 } z1 z6 z2 ⟨v.us, fl1, fl1, ms1, ms1, ht1, (if_neg Bool.false_ne_true).symm, fun u => ?_, fun u => ?_, rfl, gr3, ?_⟩ rfl rfl rfl rfl rfl rfl rfl z3 z4 z5
  · simp
  · simp
  · rw [List.length_append]
    simp only [if_false, Bool.false_eq_true]
    exact Nat.add_le_add hy1 hy3
theorem off20 : True := trivial
end
/-! T1 -/
section
variable {prog : Program} {w : World} {mg mb : Str → Option Value} {dp un : Nat} {fr : Option (List Env)} {gd : Option (List Code)} {E : Value → Shared → Prop} {s : Shared} {hB : Heap} {Q : Value → Shared → Prop}
/-- what `told` gives: one tuple of three for each uid -/
def ToldAt (h : Heap) (us : List Int) (fl : Int → Option Nat) (ms : Int → Option Int) (ys : List Value) : Prop :=
  Paired (fun u y => ∃ T t a k m t', y = .ref T ∧ h.get? T = some (tupObj [.int u t, .ref a, .int m t']) ∧ fl u = some k ∧ ms u = some m ∧ FlagsAt h a k) us ys
theorem paired_ints2 {G : Value → Value → Prop} : ∀ {vs : List Value} {us : List Int} {ys : List Value}, IntsAre vs us → Paired G vs ys → Paired (fun u y => ∃ t, u ∈ us ∧ G (.int u t) y) us ys
  | _, _, _, .nil, h => by cases h; exact .nil
  | _, _, _, .cons i t r, h => by
    cases h with
    | cons a h =>
      refine .cons ⟨t, .head _, a⟩ (paired_mono (paired_ints2 r h) fun u hu y ⟨t, hm, g⟩ => ⟨t, .tail _ hm, g⟩)
example : True := by
  k_with "newTuple" => ((fail_if_success (have := @off21)); ((k_here; k_dflt (refine' new_tup ?Fw93 ?zw93 ?_; (case Fw93 => k_asm); (case zw93 => simp)); (intro D' h' hD' hk' hO' F'))))
  exact trivial
example : True := by
  k_with "call type:tuple" => ((fail_if_success (have := @off21)); ((k_here; (with_reducible show wpAny _ _ (call (Value.type _) [Value.ref D1]) _ _ _); k_dflt (refine' call_tuple_list (items := ys1.toArray) ⟨_, hys1, rfl, _, rfl⟩ ?_ (by rw [sizeLine_eq]; simp; omega)); intro h' hk')))
  exact trivial
theorem told_spec {v : Vw}
    (B : Bed w mg mb hB) (st : hB.StaysIn s.heap) (hr : dp < 870) (hv : ViewAt prog w s.heap v)
    (h : ∀ D h' tk ys, s.heap.get? D = none → h'.get? D = some (tupObj ys) → ToldAt h' v.us v.fl v.ms ys → Ext [] s.heap h' → Q (.ref D) { s with heap := h', toks := tk }) :
    wpAny (model prog w) (AT dp un fr gd) (call (.ref 121) [.ref v.x]) Q E s := by
  have hW : ∀ p ∈ ([] : List (Addr × Obj)), s.heap.get? p.1 = some p.2 ∧ hB.get? p.1 = none := List.forall_mem_nil _
  walk_at "enterC"
  replace hv : ViewAt prog w g v := hg ▸ hv
  have hI := hv.inst
  obtain ⟨kvF, hkF, hf⟩ := hv.flags
  obtain ⟨kvM, hkM, hm⟩ := hv.mods
  walk_at "go"
  refine comp_list (cl := _) (fun _ => true) (RelB fun x its => ∃ u t a m t', x = .int u t ∧ its = [.int u t, .ref a, .int m t'] ∧ valueAt kvF u = some (.ref a) ∧ valueAt kvM u = some (.int m t')) rfl rfl (by decide) rfl (by decide) relB_stable ?_
  walk_at "go"
  refine ⟨v.ul, v.uvs, rfl, ⟨_, Fr.keep (by assumption) _ _ hv.list, rfl, _, rfl⟩, by have := ints_length hv.ivs; have := hv.len; omega, fun C x s₃ m₃ hx FC => ?_, fun D1 h1 tk1 n1 ys1 hD1 hys1 hP1 hk1 => ?_⟩
  · obtain ⟨i, t, rfl, hi⟩ := ints_mem hv.ivs x hx
    rename Fr g _ _ _ => F1
    rename News g _ _ _ => N1
    obtain ⟨k, hk⟩ := Option.isSome_iff_exists.mp ((hv.fdom i).mpr hi)
    obtain ⟨m, hmm⟩ := Option.isSome_iff_exists.mp ((hv.mdom i).mpr hi)
    obtain ⟨a, ha, _⟩ := FlagKv.get hf hk
    obtain ⟨t', ht'⟩ := MsKv.get hm hmm
    have hI2 := inst_keeps hI F1.keep
    have hkF2 := dict_keeps hkF (fun o e => F1.keep _ o e)
    have hkM2 := dict_keeps hkM (fun o e => F1.keep _ o e)
    have hcell := (N1 _ (.head _)).1
    refine cassign FC (fun h2 F2 k2 => ctest0 ?_) rfl rfl
    rw [if_pos rfl]
    have X1 := X.keeps F1.keep
    walk_at "go"
    exact ⟨rfl, CompStep.of F' (fun b o h1 e => hk' b o (k2 b o h1 e)), [D'], ⟨D', _, rfl, rfl, hO', _, _, _, _, _, rfl, rfl, ha, ht'⟩, foot_new F2 k2 hD'⟩
  have len1 : ys1.length ≤ 100 := by
    have q1 := hP1.length
    rw [filt] at q1
    have q2 := ints_length hv.ivs
    have := hv.len
    omega
  dsimp only
  walk_at "go"
  have eh : Ext [] s.heap h1 := (ext_of hg F).trans (.of_keeps hk1)
  have eh2 : Ext [] s.heap h' := eh.trans (.of_keeps hk')
  have kp : ∀ b o, h'.get? b = some o → (h'.push { cls := .type "tuple", data := .seq ys1.toArray }).get? b = some o := fun b o e => Heap.get?_push_of_some _ e
  refine h _ _ _ ys1 (none_of eh2 fresh_size) (Heap.get?_push_size _ rfl) ?_ (eh2.trans (.of_keeps kp))
  rw [filt] at hP1
  refine paired_mono (paired_ints2 hv.ivs hP1) fun u hu y ⟨t, hm2, foot, ⟨T, its, e1, e2, e3, u', t2, a, m, t', e4, e5, e6, e7⟩, _⟩ => ?_
  cases e4
  obtain ⟨k, hk⟩ := Option.isSome_iff_exists.mp ((hv.fdom u).mpr hu)
  obtain ⟨m2, hmm⟩ := Option.isSome_iff_exists.mp ((hv.mdom u).mpr hu)
  obtain ⟨a2, ha2, fa⟩ := FlagKv.get hf hk
  obtain ⟨t3, ht3⟩ := MsKv.get hm hmm
  rw [e6] at ha2; cases ha2
  rw [e7] at ht3; cases ht3
  exact ⟨T, t, a, k, m, t', e1, by rw [kp _ _ (hk' _ _ e3), e5], hk, hmm, fa.at fun o e => kp _ _ (hk' _ _ (hk1 _ _ (F.keep _ _ e)))⟩
theorem off21 : True := trivial
end
/-! T2 -/
section
variable {prog : Program} {w : World} {mg mb : Str → Option Value} {dp un : Nat} {fr : Option (List Env)} {gd : Option (List Code)} {E : Value → Shared → Prop} {s : Shared} {hB : Heap} {Q : Value → Shared → Prop}
example : True := by
  k_with "call ref" => ((fail_if_success (have := @off22)); ((k_here; (with_reducible show wpAny _ _ (call (Value.ref 35) _) _ _ _); k_dflt (refine' plain_set_spec (a := a) (b := b) ?Bw95 ?stw95 ?hrw95 ?hnw95 ?haw95 ?hbw95 gA gB ?_; (case Bw95 => assumption); (case stw95 => exact Fr.keep (by k_asm)); (case hrw95 => walk_at "room"); (case hnw95 => exact hlast1); (case haw95 => exact News.get (by k_asm) (by k_mem)); (case hbw95 => exact News.get (by k_asm) (by k_mem)); (intro a' b' t' t2' h' tk' na' nb' hb' ha' he'; have gA' := fr_none (by k_asm) na'; have gB' := fr_none (by k_asm) nb'; have lA' := fr_ne (by k_asm) na'; have lB' := fr_ne (by k_asm) nb'; have F' := Ext.fr he' (by k_asm) (List.forall_mem_nil _) List.not_mem_nil; have N0' := Ext.news he' (by k_asm) (fun _ _ => List.not_mem_nil); have N' := news_add (m := fun _ => none) (news_add (m := fun _ => none) N0' ha' gA' lA') hb' gB' lB'; clear N0' he')))))
  exact trivial
example : True := by
  k_with "or" => ((fail_if_success (have := @off22)); (first | (with_reducible assumption) | exact Or.inl (by with_reducible assumption) | (refine Or.inr ?_; walk_at "or")))
  exact trivial
inductive JM (O b' : Addr) (ob : Obj) (a' : Addr) (oa : Obj) (r1 r2 : Addr × Obj) (ns : List Int) (i : Nat) (m : Str → Option Value) (nx : List (Addr × Obj)) : Prop
  | mk (ys : _) (n : _) (z1 : IntsAre ys (ns.take i)) (z2 : nx = [(O, listOf (List.toArray ys) n), (b', ob), (a', oa), r1, r2]) (z3 : m "out" = some (.ref O)) (z4 : (∃ t, m "at" = some (.int 0 t))) (z5 : m "pairs" = some (.ref b')) : JM O b' ob a' oa r1 r2 ns i m nx
theorem members_spec {a b l : Addr} {t1 t2 : Tok} {vs : List Value} {ns : List Int}
    (B : Bed w mg mb hB) (st : hB.StaysIn s.heap) (hr : dp < 870) (ha : s.heap.get? a = some (tupObj [.int 1 t1, .int 0 t2])) (hb : s.heap.get? b = some (tupObj [.ref a])) (b1 : hB.get? a = none) (b2 : hB.get? b = none)
    (hl : s.heap.IsList l vs.toArray) (hv : IntsAre vs ns) (hlen : ns.length ≤ 100) (h0 : ns ≠ []) (hlo : ∀ x ∈ ns, 1 ≤ x) (hhi : ∀ x ∈ ns, x ≤ ns.getD (ns.length - 1) 0)
    (h : ∀ D h' tk n ys, s.heap.get? D = none → h'.get? D = some (listOf (List.toArray ys) n) → IntsAre ys ns → Ext [] s.heap h' → Q (.ref D) { s with heap := h', toks := tk }) :
    wpAny (model prog w) (AT dp un fr gd) (call (.ref 49) [.ref b, .ref l]) Q E s := by
  have hpos : 0 < ns.length := List.length_pos_iff.mpr h0
  have hidx : (-1 + (ns.length : Int)).toNat = ns.length - 1 := by omega
  rw [← hidx] at hhi
  have hlast1 : 1 ≤ ns.getD (-1 + (ns.length : Int)).toNat 0 := hlo _ (by
    rw [hidx, List.getD_eq_getElem?_getD, List.getElem?_eq_getElem (by omega)]; exact List.getElem_mem _)
  have hW : ∀ p ∈ [(a, tupObj [.int 1 t1, .int 0 t2]), (b, tupObj [.ref a])], s.heap.get? p.1 = some p.2 ∧ hB.get? p.1 = none := by simpa using ⟨⟨ha, b1⟩, hb, b2⟩
  walk_at "enter"
  have gA : g.get? a = none := (N _ (.head _)).2.2
  have gB : g.get? b = none := (N _ (.tail _ (.head _))).2.2
  have hl' : g.IsList l vs.toArray := by
    rw [hg]
    refine isList_hide hl ?_
    obtain ⟨o, ho, hc, _⟩ := hl
    simp only [List.mem_cons, List.not_mem_nil, or_false, not_or]
    constructor <;> (rintro rfl; first | (rw [ha] at ho; cases ho; simp at hc) | (rw [hb] at ho; cases ho; simp at hc))
  walk_at "go"
  · exfalso; omega
  refine wpAny_execs_cons ?_
  rename Fr _ _ _ _ => F1
  rename News _ _ _ _ => N1
  with_unfolding_all refine' For_invVF F1 ?k1 ?k2 ?_
  case k1 => exact rfl
  case k2 => exact rfl
  walk_at "goI"
  rename Fr _ _ _ _ => F1
  rename News _ _ _ _ => N1
  rename_i O q2 l1 q3 q4
  have nOa : @Ne Nat O a' := by omega
  have nOb : @Ne Nat O b' := by omega
  have nOa2 : @Ne Nat O a := by omega
  have nOb2 : @Ne Nat O b := by omega
  refine iter_invG (JM O b' (tupObj [.ref a']) a' (tupObj [.int 1 t', .int (ns.getD (-1 + (ns.length : Int)).toNat 0) t2']) (a, tupObj [.int 1 t1, .int 0 t2]) (b, tupObj [.ref a]) ns) rfl hl' hv F1 N1 ⟨[], 0, .nil, rfl, rfl, ⟨_, rfl⟩, rfl⟩ ?_ ?_
  · rintro i x t m₁ nx h9 tk own hin _ hoff ⟨ys, n, hys, rfl, e1, ⟨t9, e2⟩, e3⟩ F2 N2
    have hx1 := hhi x (List.mem_of_getElem? hin)
    have hx0 := hlo x (List.mem_of_getElem? hin)
    have hilt := (List.getElem?_eq_some_iff.mp hin).1
    have F3 := over_fr (st := []) (ps := [("number", .int x t), ("out", .ref O), ("at", .int 0 t9), ("pairs", .ref b')]) (m₀ := _) F2 (by
      intro p hp
      simp only [List.mem_cons, List.not_mem_nil, or_false] at hp
      rcases hp with rfl | rfl | rfl | rfl
      · exact if_pos rfl
      · exact (if_neg (show ¬ (Str.ofString "out" = Str.ofString "number") by decide)).trans e1
      · exact (if_neg (show ¬ (Str.ofString "at" = Str.ofString "number") by decide)).trans e2
      · exact (if_neg (show ¬ (Str.ofString "pairs" = Str.ofString "number") by decide)).trans e3) (fun _ _ _ => rfl)
    clear F2
    have hvs : ys.length ≤ 100 := by rw [ints_length hys, List.length_take]; omega
    generalize hM : ns.getD (-1 + (ns.length : Int)).toNat 0 = M at *
    walk_at "go"
    refine wpAny_execs_cons ?_
    rename Fr _ _ _ _ => F4
    rename News _ _ _ _ => N4
    refine While_inv (n₀ := 0) (fun n m nx => nx = _ ∧ m = _) F4 N4 ⟨rfl, rfl⟩ ?_
    rintro n' m₂ nx h₂ tk₂ F5 N5 ⟨rfl, rfl⟩
    walk_at "go"
    rename Fr _ _ _ _ => F9
    rename News _ _ _ _ => N9
    refine InvEndG.intro (nx := [(O, listOf (ys.toArray.push (.int x t)) (n + 1)), (b', tupObj [.ref a']), (a', tupObj [.int 1 t', .int M t2']), (a, tupObj [.int 1 t1, .int 0 t2]), (b, tupObj [.ref a])]) F9 N9 ⟨ys ++ [.int x t], n + 1, ?_, (by simp), rfl, ⟨t9, rfl⟩, rfl⟩ hoff ?_ ?_
    · rw [take_next hin]; exact hys.append (.cons _ _ .nil)
    · intro p hp
      simp only [List.mem_cons, List.not_mem_nil, or_false] at hp
      rcases hp with rfl | rfl | rfl | rfl | rfl <;> simp
    · intro p hp; simp [hp]
  · rintro m₁ nx h9 tk9 ⟨ys, n, hys, rfl, e1, ⟨t9, e2⟩, e3⟩ F2 N2
    have F3 := over_fr (st := []) (ps := [("out", .ref O)]) (m₀ := _) F2 (by
      intro p hp
      simp only [List.mem_cons, List.not_mem_nil, or_false] at hp
      rcases hp with rfl
      exact e1) (fun _ _ _ => rfl)
    clear F2
    walk_at "go"
    rename Fr _ _ _ _ => F9
    rename News _ _ _ _ => N9
    have z0 := N9 _ (.head _)
    rw [List.take_length] at hys
    have e5 : Ext [a, b] s.heap _ := ext_of hg F9
    have za := (N9 _ (.tail _ (.tail _ (.tail _ (.head _))))).1
    have zb := (N9 _ (.tail _ (.tail _ (.tail _ (.tail _ (.head _)))))).1
    refine h O _ _ n ys (hide_new hg z0.2.2 ?_) z0.1 hys ((e5.drop ha za).drop hb zb)
    simp only [List.mem_cons, List.not_mem_nil, or_false, not_or]
    exact ⟨nOa2, nOb2⟩
theorem off22 : True := trivial
end
/-! T3 -/
section
variable {prog : Program} {w : World} {mg mb : Str → Option Value} {dp un : Nat} {fr : Option (List Env)} {gd : Option (List Code)} {E : Value → Shared → Prop} {s : Shared} {hB : Heap} {Q : Value → Shared → Prop}
def upTo (n : Nat) : List Int := (List.range n).map fun (i : Nat) => ((i : Int) + 1)
theorem upTo_len {n : Nat} : (upTo n).length = n := by simp [upTo]
theorem upTo_get {n i : Nat} (h : i < n) : (upTo n)[i]? = some ((i : Int) + 1) := by simp [upTo, h]
theorem upTo_mem {n : Nat} {x : Int} (h : x ∈ upTo n) : 1 ≤ x ∧ x ≤ n := by
  obtain ⟨i, hi, rfl⟩ := List.mem_map.mp h
  have := List.mem_range.mp hi
  omega
theorem ints_of_get : ∀ {ys : List Value} {ns : List Int}, ys.length = ns.length → (∀ (i : Nat) (v : Value), ys[i]? = some v → ∃ u t, v = Value.int u t ∧ ns[i]? = some u) → IntsAre ys ns
  | [], [], _, _ => .nil
  | y :: ys, n :: ns, hl, h => by
    obtain ⟨u, t, e, e2⟩ := h 0 y rfl
    cases e2; subst e
    exact .cons _ t (ints_of_get (by simpa using hl) fun i v hv => h (i + 1) v hv)
  | [], _ :: _, hl, _ => by simp at hl
  | _ :: _, [], hl, _ => by simp at hl
theorem paired_getR {α γ : Type} {R : α → γ → Prop} : ∀ {xs : List α} {ys : List γ} {j : Nat} {y : γ}, Paired R xs ys → ys[j]? = some y → ∃ x, xs[j]? = some x ∧ R x y
  | _, _, 0, _, .cons a _, h => by cases h; exact ⟨_, rfl, a⟩
  | _, _, j + 1, _, .cons _ r, h => paired_getR (j := j) r h
theorem list_upTo {A : Around} {r : Addr} {n : Nat} {t u v : Tok} (hh : A.handled = none) (hr : IsRange s.heap r 1 ((n : Int) + 1) 1 t u v) (hn : n ≤ 1000)
    (h : ∀ D h' tk c (ys : List Value), s.heap.get? D = none → h'.get? D = some (listOf ys.toArray c) → IntsAre ys (upTo n) → Ext [] s.heap h' → Q (.ref D) { s with heap := h', toks := tk }) :
    wpAny (model prog w) A (call (.type "list") [.ref r]) Q E s := by
  have hsz : Builtin.Range.rangeSize 1 ((n : Int) + 1) 1 = n := by
    unfold Builtin.Range.rangeSize
    rw [if_pos (by decide)]
    split <;> omega
  refine call_list_range (n := n) hh hr (by
    unfold Builtin.Range.small Builtin.Range.rangeFitsLong
    rw [hsz, if_pos (by decide)]
    simp only [Bool.and_eq_true, Bool.or_eq_true, decide_eq_true_eq, beq_iff_eq]
    refine ⟨⟨⟨⟨⟨?_, ?_⟩, ⟨?_, ?_⟩⟩, ⟨?_, ?_⟩⟩, ⟨?_, ?_⟩⟩, .inr ⟨?_, ?_⟩⟩ <;> omega) hsz (by omega) fun h' tk acc' c' hk hS' hacc => ?_
  refine h _ h' tk c' acc'.toList fresh_size (by rw [hS']) (ints_of_get ?_ fun i v hv => ?_) (.of_keeps hk)
  · rw [upTo_len]; simpa using hacc.1
  · have hi : i < n := by
      have := (List.getElem?_eq_some_iff.mp hv).1
      have h2 := hacc.1
      simp at this; omega
    obtain ⟨t, rfl⟩ := hacc.2 i v (by simpa using hv)
    exact ⟨_, t, rfl, by rw [upTo_get hi]; congr 1; omega⟩
example : True := by
  k_with "call type:list" => ((fail_if_success (have := @off23)); ((k_here; (with_reducible show wpAny _ _ (call (Value.type _) [Value.ref _]) _ _ _); (rename IsRange _ _ _ _ _ _ _ _ => hrng); k_dflt (refine' list_upTo (n := v.us.length) rfl hrng ?_ ?_); (omega); (intro D' h' tk' c0 ys0 hD' hO' hI0 he'; walk_at "afterD"))))
  exact trivial
example : True := by
  k_with "call ref" => ((fail_if_success (have := @off23)); ((k_here; (with_reducible show wpAny _ _ (call (Value.ref 49) _) _ _ _); k_dflt (refine' members_spec (a := a) (b := b) ?Bw98 ?stw98 ?hrw98 ?haw98 ?hbw98 gA gB ?hlw98 hI0 ?lenw98 hup0 hup1 hup2 ?_; (case Bw98 => assumption); (case stw98 => exact Fr.keep (by k_asm)); (case hrw98 => walk_at "room"); (case haw98 => exact News.get (by k_asm) (by k_mem)); (case hbw98 => exact News.get (by k_asm) (by k_mem)); (case hlw98 => exact ⟨_, News.get (by k_asm) (.head _), rfl, _, rfl⟩); (case lenw98 => rw [upTo_len]; omega); (intro D2 h' tk' n2 ys2 hD2 hO2 hI2 he'; have F' := Ext.fr he' (by k_asm) (List.forall_mem_nil _) List.not_mem_nil; have N' := Ext.news he' (by k_asm) (fun _ _ => List.not_mem_nil))))))
  exact trivial
theorem uids_in_spec {v : Vw} {a b : Addr} {t1 t2 : Tok}
    (B : Bed w mg mb hB) (st : hB.StaysIn s.heap) (hr : dp < 860) (hv : ViewAt prog w s.heap v) (h0 : v.us ≠ []) (ha : s.heap.get? a = some (tupObj [.int 1 t1, .int 0 t2])) (hb : s.heap.get? b = some (tupObj [.ref a])) (b1 : hB.get? a = none) (b2 : hB.get? b = none) 
    (h : ∀ D h' tk n ys, s.heap.get? D = none → h'.get? D = some (listOf (List.toArray ys) n) → IntsAre ys v.us → Ext [] s.heap h' → Q (.ref D) { s with heap := h', toks := tk }) :
    wpAny (model prog w) (AT dp un fr gd) (call (.ref 109) [.ref v.x, .ref b, .bool false]) Q E s := by
  have hW : ∀ p ∈ [(a, tupObj [.int 1 t1, .int 0 t2]), (b, tupObj [.ref a])], s.heap.get? p.1 = some p.2 ∧ hB.get? p.1 = none := by simpa using ⟨⟨ha, b1⟩, hb, b2⟩
  have hlen := hv.len
  have hpos : 0 < v.us.length := List.length_pos_iff.mpr h0
  have hup0 : upTo v.us.length ≠ [] := by
    intro e
    have : v.us.length = 0 := by rw [← upTo_len (n := v.us.length), e]; rfl
    omega
  have hup1 : ∀ x ∈ upTo v.us.length, 1 ≤ x := fun x hx => (upTo_mem hx).1
  have hup2 : ∀ x ∈ upTo v.us.length, x ≤ (upTo v.us.length).getD ((upTo v.us.length).length - 1) 0 := fun x hx => by
    rw [upTo_len, List.getD_eq_getElem?_getD, upTo_get (by omega)]
    have := (upTo_mem hx).2
    simp; omega
  walk_at "enterC"
  have gA : g.get? a = none := (N _ (.tail _ (.head _))).2.2
  have gB : g.get? b = none := (N _ (.tail _ (.tail _ (.head _)))).2.2
  have two : ∀ {p : Addr} {o : Obj}, s.heap.get? p = some o → o.cls ≠ .type "tuple" → g.get? p = some o := fun {p o} e hc => by
    rw [hg]
    refine hideAll_get _ e ?_
    simp only [List.mem_cons, List.not_mem_nil, or_false, not_or]
    constructor <;> (rintro rfl; first | (rw [ha] at e; cases e; exact hc rfl) | (rw [hb] at e; cases e; exact hc rfl))
  have hI : InstAt g v.x (instObj 124 v.dx) 124 (some (dictOf (viewEs w v) 7)) := inst_at hv.inst (fun o e => by have := hv.inst.at_; rw [e] at this; cases this; exact two e (by simp)) (fun o e => by have i2 : s.heap.get? v.dx = _ := hv.inst.dict; rw [e] at i2; cases i2; exact two e (by simp))
  have hl' : g.IsList v.ul v.uvs.toArray := ⟨_, two hv.list (by simp), rfl, _, rfl⟩
  have hiv := hv.ivs
  walk_at "go"
  refine comp_list (cl := _) (fun _ => true) (RelA fun x y => ∃ i t t', x = .int i t ∧ y = .int (v.us.getD (i - 1).toNat 0) t') rfl rfl (by decide) rfl (by decide) relA_stable ?_
  walk_at "go"
  rename Obj.data _ = Data.cell (bindC _ _ _ _) => dv0
  replace dv0 : Obj.data _ = Data.cell (some (.ref v.x)) := dv0
  rename Fr g _ _ _ => F1
  rename News g _ _ _ => N1
  have l2 := ints_length hI2
  rw [upTo_len] at l2
  refine ⟨D2, ys2, rfl, ⟨_, hO2, rfl, _, rfl⟩, by omega, fun C x s₃ m₃ hx FC => ?_, fun D3 h3 tk3 n3 ys3 hD3 hys3 hP3 hk3 => ?_⟩
  · obtain ⟨i, t, rfl, hi⟩ := ints_mem hI2 x hx
    obtain ⟨i1, i2⟩ := upTo_mem hi
    have hI3 := inst_keeps hI F1.keep
    have hl3 := hl'.at fun o e => F1.keep _ o e
    have hcell := (N1 _ (.tail _ (.head _))).1
    refine cassign FC (fun h2 F2 k2 => ctest0 ?_) rfl rfl
    rw [if_pos rfl]
    have X1 := X.keeps F1.keep
    walk_at "go"
    exact ⟨rfl, ⟨_, _, _, rfl, F2.ns, k2⟩, [], ⟨rfl, i, t, _, rfl, rfl⟩, by simp⟩
  · refine h _ _ _ _ ys3 ?_ hys3 ?_ ?_
    · refine hide_new hg (fr_none F1 hD3) ?_
      simp only [List.mem_cons, List.not_mem_nil, or_false, not_or]
      exact ⟨fun e => ne_new N1 hD3 (.tail _ (.tail _ (.head _))) e.symm, fun e => ne_new N1 hD3 (.tail _ (.tail _ (.tail _ (.head _)))) e.symm⟩
    · rw [filt] at hP3
      refine ints_of_get ?_ fun j y hy => ?_
      · have := hP3.length; omega
      · obtain ⟨x, hx, _, ⟨_, i, t, t', e1, e2⟩, _⟩ := paired_getR hP3 hy
        subst e1
        obtain ⟨u, t3, e3, e4⟩ := ints_get hI2 hx
        cases e3
        have hj : j < v.us.length := by
          have := (List.getElem?_eq_some_iff.mp hx).1
          omega
        rw [upTo_get hj] at e4
        cases e4
        refine ⟨_, _, e2, ?_⟩
        have : ((j : Int) + 1 - 1).toNat = j := by omega
        rw [this]
        exact getD_some hj
    · have e5 : Ext [a, b] s.heap _ := ext_of hg F1
      have za := (N1 _ (.tail _ (.tail _ (.head _)))).1
      have zb := (N1 _ (.tail _ (.tail _ (.tail _ (.head _))))).1
      exact ((e5.drop ha za).drop hb zb).trans (.of_keeps hk3)
theorem off23 : True := trivial
end
/-! T4 -/
section
variable {prog : Program} {w : World} {mg mb : Str → Option Value} {dp un : Nat} {fr : Option (List Env)} {gd : Option (List Code)} {E : Value → Shared → Prop} {s : Shared} {hB : Heap} {Q : Value → Shared → Prop}
theorem ints_readsAll {h : Heap} : ∀ {vs : List Value} {ns : List Int}, IntsAre vs ns → ReadsAll h vs (ns.map PyData.int) []
  | _, _, .nil => .nil
  | _, _, .cons i t r => by
    have := ReadsAll.cons (Reads.int (h := h) i t) (ints_readsAll r)
    simpa using this
theorem ints_reads {h : Heap} {a : Addr} {vs : List Value} {ns : List Int} {n : Nat} (e : h.get? a = some (listOf vs.toArray n)) (hi : IntsAre vs ns) : Reads h (.ref a) (.list (ns.map PyData.int)) [a] :=
  reads_list_at e rfl rfl (by simpa using ints_readsAll hi)
theorem eq_same {A : Around} {a b : Value} {d : PyData} {as bs : List Addr} (ra : Reads s.heap a d as) (rb : Reads s.heap b d bs) (hd : SeqAt.shaped d = true) (hu : A.units + 64 < cLine) (h : Q (.bool true) s) : wpAny (model prog w) A (compareOp .Eq a b) Q E s :=
  eq_dataH ra rb hd hd hu (by rw [SeqAt.eqv_refl d (SeqAt.canLay_of_shaped hd)]; exact h)
theorem ne_same {A : Around} {a b : Value} {d : PyData} {as bs : List Addr} (ra : Reads s.heap a d as) (rb : Reads s.heap b d bs) (hd : SeqAt.shaped d = true) (hu : A.units + 64 < cLine) (h : Q (.bool false) s) : wpAny (model prog w) A (compareOp .NotEq a b) Q E s :=
  ne_dataH ra rb hd hd hu (by rw [SeqAt.eqv_refl d (SeqAt.canLay_of_shaped hd)]; exact h)
theorem ViewAt.keeps {h h' : Heap} {v : Vw} (x : ViewAt prog w h v) (k : ∀ b o, h.get? b = some o → h'.get? b = some o) : ViewAt prog w h' v := (x.v.at fun a _ o e => k a o e).view k
theorem is_stale_no {v : Vw} {l : Lt} {m : Int}
    (B : Bed w mg mb hB) (st : hB.StaysIn s.heap) (hr : dp < 890) (hu : un < 8000) (hv : ViewAt prog w s.heap v) (hl : LetterAt w s.heap l) (hk : v.fl l.uid = some l.srt) (hm : v.ms l.uid = some m) (hmm : v.uses = true → m = l.ms)
    (h : ∀ h' tk, Ext [] s.heap h' → Q (.bool false) { s with heap := h', toks := tk }) :
    wpAny (model prog w) (AT dp un fr gd) (call (.ref 149) [.ref v.x, .ref l.x]) Q E s :=
  is_stale_spec B st hr hu hv hl hk hm fun h' tk he => by
    have e : (decide (l.srt ≠ l.srt) || (v.uses && decide (m ≠ l.ms))) = false := by
      cases hc : v.uses with
      | false => simp
      | true => simp [hmm hc]
    rw [e]; exact h h' tk he
theorem box_uids_at {b : Bx} {x' : Addr} (hx : x' = b.x)
    (B : Bed w mg mb hB) (st : hB.StaysIn s.heap) (hr : dp < 890) (hb : BoxAt w s.heap b)
    (h : ∀ D h' tk n (ys : List Value), s.heap.get? D = none → h'.get? D = some (listOf ys.toArray n) → IntsAre ys (uidsOf b.ls) → Ext [] s.heap h' → Q (.ref D) { s with heap := h', toks := tk }) :
    wpAny (model prog w) (AT dp un fr gd) (call (.ref 331) [.ref x']) Q E s := by
  subst hx; exact box_uids_spec B st hr hb h
/-- a view knows all of its box -/
def Fresh (b : Bx) (v : Vw) : Prop := v.us = uidsOf b.ls ∧ (∀ l ∈ b.ls, v.fl l.uid = some l.srt) ∧ (v.uses = true → ∀ l ∈ b.ls, v.ms l.uid = some l.ms)
example : True := by
  k_with "call ref" => ((fail_if_success (have := @off24)); ((k_here; (with_reducible show wpAny _ _ (call (Value.ref 331) _) _ _ _); k_dflt (refine' box_uids_at (b := b) hvb ?Bw99 ?stw99 ?hrw99 ?hbw99 ?_; (case Bw99 => assumption); (case stw99 => exact Fr.keep (by k_asm)); (case hrw99 => walk_at "room"); (case hbw99 => exact BoxAt.keeps (by with_reducible assumption) (Fr.keep (by k_asm))); (intro D' h' tk' n' ys' hD' hO' hI' he'; walk_at "afterD")))))
  exact trivial
example : True := by
  k_with "call ref" => ((fail_if_success (have := @off24)); ((k_here; (with_reducible show wpAny _ _ (call (Value.ref 149) _) _ _ _); k_dflt (refine' is_stale_no (v := v) (l := l) (BedKeep Bg F1) (Fr.keep (by k_asm)) ?hrw100 ?huw100 (hv2.keeps (Fr.keep (by k_asm))) (hl2.keeps (Fr.keep (by k_asm))) hfk hmk hmm ?_; (case hrw100 => walk_at "room"); (case huw100 => walk_at "room"); (intro h' tk' he')))))
  exact trivial
example : True := by
  k_with "compareOp Eq ref ref" => ((fail_if_success (have := @off24)); ((k_here; k_dflt (first
  | (refine' eq_same (ints_reads (ns := v.us) (vs := v.uvs) (Fr.keep (by k_asm) _ _ hv.list) hiv) (ints_reads (News.get (by k_asm) (by k_mem)) (hI'' hI')) (ke_shaped_ints _) ?uw101 ?_; (case uw101 => rw [cLine_is']; walk_at "room"); k_whole)
  | (refine' eq_same (ints_reads (ns := []) (vs := []) (News.get (by k_asm) (by k_mem)) .nil) (ints_reads (News.get (by k_asm) (.head _)) .nil) (ke_shaped_ints _) ?uw101 ?_; (case uw101 => rw [cLine_is']; walk_at "room"); k_whole)))))
  exact trivial
theorem is_up_to_date_spec {v : Vw} {b : Bx}
    (B : Bed w mg mb hB) (st : hB.StaysIn s.heap) (hr : dp < 860) (hun : un < 7800) (hv : ViewAt prog w s.heap v) (hb : BoxAt w s.heap b) (hvb : v.bx = b.x) (hf : Fresh b v)
    (h : ∀ h' tk, Ext [] s.heap h' → Q (.bool true) { s with heap := h', toks := tk }) :
    wpAny (model prog w) (AT dp un fr gd) (call (.ref 202) [.ref v.x]) Q E s := by
  have hW : ∀ p ∈ ([] : List (Addr × Obj)), s.heap.get? p.1 = some p.2 ∧ hB.get? p.1 = none := List.forall_mem_nil _
  walk_at "enterC"
  replace hv : ViewAt prog w g v := hg ▸ hv
  replace hb : BoxAt w g b := hg ▸ hb
  have hI := hv.inst
  have hIb : InstAt g v.bx (instObj 339 b.dx) 339 (some (dictOf (boxEs w b) 7)) := hvb ▸ hb.inst
  have hiv := hv.ivs
  have hI'' : ∀ {ys : List Value}, IntsAre ys (uidsOf b.ls) → IntsAre ys v.us := fun x => hf.1 ▸ x
  walk_at "go"
  refine comp_list (cl := _) (fun _ => false) (RelA fun _ _ => True) rfl rfl (by decide) rfl (by decide) relA_stable ?_
  walk_at "go"
  rename Obj.data _ = Data.cell (bindC _ _ _ _) => dv0
  replace dv0 : Obj.data _ = Data.cell (some (.ref v.x)) := dv0
  rename Fr g _ _ _ => F1
  rename News g _ _ _ => N1
  refine ⟨b.lb, b.ls.map (fun l => .ref l.x), rfl, hb.isList.at fun o e => F1.keep _ o e, by have := hb.len; simp; omega, fun C x s₃ m₃ hx FC => ?_, fun D1 h1 tk1 n1 ys1 hD1 hys1 hP1 hk1 => ?_⟩
  · obtain ⟨l, hl, rfl⟩ := List.mem_map.mp hx
    have hcell := (N1 _ (.tail _ (.head _))).1
    have hv2 := hv.keeps F1.keep
    have hl2 := (hb.lets l hl).keeps F1.keep
    have hfk := hf.2.1 l hl
    obtain ⟨m0, hmk⟩ := Option.isSome_iff_exists.mp ((hv.mdom l.uid).mpr (by rw [hf.1]; exact List.mem_map_of_mem hl))
    have hmm : v.uses = true → m0 = l.ms := fun e => by have := hf.2.2 e l hl; rw [hmk] at this; exact Option.some.inj this
    refine cassign FC (fun h2 F2 k2 => ctest1 ?_) rfl rfl
    have X1 := X.keeps F1.keep
    have T1 := T.keeps F1.keep
    walk_at "go"
    have F3 := Ext.fr he' F2 (List.forall_mem_nil _) List.not_mem_nil
    exact ⟨rfl, CompStep.of F3 fun b o h1 e => he'.nil b o (k2 b o h1 e)⟩
  rw [show ((b.ls.map fun l => Value.ref l.x).filter fun _ => false) = [] from List.filter_eq_nil_iff.mpr (by simp)] at hP1
  cases hP1
  have F2 := Ext.fr (.of_keeps hk1) F1 (List.forall_mem_nil _) List.not_mem_nil
  have N2 := news_add (m := fun _ => none) (Ext.news (.of_keeps hk1) N1 (fun _ _ => List.not_mem_nil)) hys1 (fr_none F1 hD1) (fr_ne F1 hD1)
  clear F1 N1
  dsimp only
  walk_at "go"
  rename Fr _ _ _ _ => F9
  exact h _ _ (ext_of hg F9)
theorem off24 : True := trivial
end
/-! T5 -/
section
variable {prog : Program} {w : World} {A : Around} {E : Value → Shared → Prop} {env : Env}
theorem shaped_map {α : Type} {f : α → PyData} (h1 : ∀ x, (f x).canLay0 = true) (h2 : ∀ x, (f x).depth ≤ 10) (xs : List α) : SeqAt.shaped (.list (xs.map f)) = true ∧ SeqAt.shaped (.tuple (xs.map f)) = true := by
  have c : PyData.canLayAll0 (xs.map f) = true := by
    induction xs with
    | nil => rfl
    | cons x r ih => simp [PyData.canLayAll0, h1 x, ih]
  have d : PyData.depthAll (xs.map f) ≤ 10 := by
    induction xs with
    | nil => exact Nat.zero_le _
    | cons x r ih =>
      have ih' := ih (by
        simp only [List.map_cons, PyData.canLayAll0, Bool.and_eq_true] at c; exact c.2)
      simp only [List.map_cons, PyData.depthAll]
      exact Nat.max_le.mpr ⟨h2 x, ih'⟩
  constructor <;> (simp only [SeqAt.shaped, PyData.canLay0, PyData.depth, c, Bool.true_and]; exact decide_eq_true (by omega))
theorem flagsD_lay (k : Nat) : (flagsD k).canLay0 = true ∧ (flagsD k).depth ≤ 1 := by
  match k with
  | 0 => decide +kernel
  | 1 => decide +kernel
  | 2 => decide +kernel
  | _ + 3 => simp only [flagsD, flagsS]; decide +kernel
def pairD (fl : Int → Option Nat) (u : Int) : PyData := .tuple [.int u, flagsD ((fl u).getD 0)]
def tripD (fl : Int → Option Nat) (ms : Int → Option Int) (u : Int) : PyData := .tuple [.int u, flagsD ((fl u).getD 0), .int ((ms u).getD 0)]
theorem pairD_shaped (fl : Int → Option Nat) (us : List Int) : SeqAt.shaped (.list (us.map (pairD fl))) = true :=
  (shaped_map (fun u => by simp [pairD, PyData.canLay0, PyData.canLayAll0, flagsD_lay]) (fun u => by have := (flagsD_lay ((fl u).getD 0)).2; simp only [pairD, PyData.depth, PyData.depthAll]; omega) us).1
theorem tripD_shaped (fl : Int → Option Nat) (ms : Int → Option Int) (us : List Int) : SeqAt.shaped (.tuple (us.map (tripD fl ms))) = true :=
  (shaped_map (fun u => by simp [tripD, PyData.canLay0, PyData.canLayAll0, flagsD_lay]) (fun u => by have := (flagsD_lay ((fl u).getD 0)).2; simp only [tripD, PyData.depth, PyData.depthAll]; omega) us).2
theorem readsAll_of {h : Heap} {f : Int → PyData} : ∀ {us : List Int} {ys : List Value}, Paired (fun u y => Reads h y (f u) []) us ys → ReadsAll h ys (us.map f) []
  | _, _, .nil => .nil
  | _, _, .cons a r => by
    have := ReadsAll.cons a (readsAll_of r)
    simpa using this
theorem pair_reads {h : Heap} {T a : Addr} {u : Int} {t : Tok} {k : Nat} (e : h.get? T = some (tupObj [.int u t, .ref a])) (f : FlagsAt h a k) : Reads h (.ref T) (.tuple [.int u, flagsD k]) [] :=
  reads_tuple_at e rfl rfl (by
    have := ReadsAll.cons (Reads.int (h := h) u t) (ReadsAll.cons f.reads .nil)
    simpa using this)
theorem trip_reads {h : Heap} {T a : Addr} {u m : Int} {t t' : Tok} {k : Nat} (e : h.get? T = some (tupObj [.int u t, .ref a, .int m t'])) (f : FlagsAt h a k) : Reads h (.ref T) (.tuple [.int u, flagsD k, .int m]) [] :=
  reads_tuple_at e rfl rfl (by
    have := ReadsAll.cons (Reads.int (h := h) u t) (ReadsAll.cons f.reads (ReadsAll.cons (Reads.int (h := h) m t') .nil))
    simpa using this)
theorem told_reads {h : Heap} {D : Addr} {us : List Int} {fl : Int → Option Nat} {ms : Int → Option Int} {ys : List Value} (e : h.get? D = some (tupObj ys)) (t : ToldAt h us fl ms ys) : Reads h (.ref D) (.tuple (us.map (tripD fl ms))) [] :=
  reads_tuple_at e rfl rfl (by
    have := readsAll_of (h := h) (f := tripD fl ms) (paired_mono t fun u hu y ⟨T, t, a, k, m, t', e1, e2, e3, e4, f⟩ => by
      subst e1
      unfold tripD
      rw [e3, e4]; exact trip_reads e2 f)
    simpa using this)
theorem ToldAt.keeps {h h' : Heap} {us : List Int} {fl : Int → Option Nat} {ms : Int → Option Int} {ys : List Value} (x : ToldAt h us fl ms ys) (k : ∀ b o, h.get? b = some o → h'.get? b = some o) : ToldAt h' us fl ms ys :=
  paired_mono x fun u hu y ⟨T, t, a, kk, m, t', e1, e2, e3, e4, f⟩ => ⟨T, t, a, kk, m, t', e1, k _ _ e2, e3, e4, f.at fun o e => k _ _ e⟩
/-- what the comprehension over `told` makes: the items of the tuple of three, without the third -/
def PairOf (h : Heap) (y : Value) (its : List Value) : Prop := ∃ T u t a m t', y = .ref T ∧ h.get? T = some (tupObj [.int u t, .ref a, .int m t']) ∧ its = [.int u t, .ref a]
theorem pairs_readsAll {h h' : Heap} {us : List Int} {fl : Int → Option Nat} {ms : Int → Option Int} {ys zs : List Value} {P : Addr → Prop} (x : ToldAt h us fl ms ys) (k : ∀ b o, h.get? b = some o → h'.get? b = some o)
    (p : Paired (fun v y => ∃ foot, RelB (PairOf h) h' v y foot ∧ ∀ b ∈ foot, P b) ys zs) : ReadsAll h' zs (us.map (pairD fl)) [] := by
  refine readsAll_of ?_
  induction x generalizing zs with
  | nil => cases p; exact .nil
  | cons a _ ih =>
    cases p with
    | cons c r =>
      refine .cons ?_ (ih r)
      obtain ⟨T, t, a, kk, m, t', e1, e2, e3, e4, f⟩ := a
      obtain ⟨foot, ⟨T2, its, q1, q2, q3, T3, u3, t3, a3, m3, t3', q4, q5, q6⟩, _⟩ := c
      subst e1
      cases q4
      rw [e2] at q5; cases q5
      subst q6; subst q1
      unfold pairD
      rw [e3]
      exact pair_reads q3 (f.at fun o e => k _ _ e)
section
variable {M : Model} {s : Shared} {h₀ : Heap} {C : Addr} {m : Str → Option Value} {scope : Scope} {cl : List (Str × Addr)} {x1 x2 x3 : Str} {pos p1 p2 p3 : Pos} {v1 v2 v3 : Value}
theorem cassign3 {T : Addr} {Q : Unit → Shared → Prop} (hh : A.handled = none) (F : Fr h₀ C s.heap m) (hT : h₀.get? T = some (tupObj [v1, v2, v3]))
    (h : ∀ h' tk, Fr h₀ C h' (fun y => if y = x3 then some v3 else if y = x2 then some v2 else if y = x1 then some v1 else m y) → (∀ b o, b ≠ C → s.heap.get? b = some o → h'.get? b = some o) → Q () { s with heap := h', toks := tk })
    (l1 : (compEnvC scope cl C env).kindOf x1 = some .local) (l2 : (compEnvC scope cl C env).kindOf x2 = some .local) (l3 : (compEnvC scope cl C env).kindOf x3 = some .local)
    (hp : ((compEnvC scope cl C env).scope.kind == .class || ((compEnvC scope cl C env).scope.kind == .module && (compEnvC scope cl C env).locals != (compEnvC scope cl C env).globals)) = false) (kk : _) :
    wpAny (model prog w) A (assign (.Tuple [.Name x1 p1, .Name x2 p2, .Name x3 p3] kk pos) (compEnvC scope cl C env) (.ref T)) Q E s := by
  refine assign_Tuple_tuple (items := [v1, v2, v3].toArray) hh ⟨_, F.keep _ _ hT, rfl, _, rfl⟩ rfl rfl fun h1 he => ?_
  have F1 : Fr h₀ C h1 m := F.extBut he (Nat.le_refl _)
  have k1 : ∀ b o, s.heap.get? b = some o → h1.get? b = some o := fun b o e => he b o (Nat.ne_of_lt (Heap.lt_size e)) e
  show wpAny _ A (assignInOrder [assign (.Name x1 p1) (compEnvC scope cl C env), assign (.Name x2 p2) (compEnvC scope cl C env), assign (.Name x3 p3) (compEnvC scope cl C env)] [v1, v2, v3]) _ _ _
  refine assignInOrder_cons (cassign F1 (fun h2 F2 k2 => ?_) l1 hp)
  refine assignInOrder_cons (cassign F2 (fun h3 F3 k3 => ?_) l2 hp)
  refine assignInOrder_cons (cassign F3 (fun h4 F4 k4 => ?_) l3 hp)
  refine assignInOrder_nil ?_
  exact h h4 _ F4 fun b o hb e => k4 b o hb (k3 b o hb (k2 b o hb (k1 b o e)))
end
inductive CompRng (prog : Program) (w : World) (A : Around) (env : Env) (target elt : PySem.Expr) (scope : Scope) (cl : List (Str × Addr)) (q : Int → Int) (n : Nat) (Q : Value → Shared → Prop) (xv : Value) (s₁ : Shared) : Prop
  | mk (r : _) (t : _) (u : _) (v : _) (z1 : xv = .ref r) (z2 : IsRange s₁.heap r 1 ((n : Int) + 1) 1 t u v) (z3 : (∀ C (i : Int) t s₃ m₃, 1 ≤ i → i ≤ n → Fr s₁.heap C s₃.heap m₃ → CompTurn prog w A target elt [] (fun _ => true) (RelA fun x y => ∃ i t t', x = .int i t ∧ y = .int (q i) t') C (compEnvC scope cl C env) (.int i t) s₃)) (z4 : (∀ D h' tk c ys, s₁.heap.get? D = none → h'.get? D = some (listOf (List.toArray ys) c) → IntsAre ys ((upTo n).map q) → (∀ b o, s₁.heap.get? b = some o → h'.get? b = some o) → Q (.ref D) { s₁ with heap := h', toks := tk })) : CompRng prog w A env target elt scope cl q n Q xv s₁
theorem comp_rng {s : Shared} {elt target iter : PySem.Expr} {scope : Scope} {cl : List (Str × Addr)} {pos : Pos} {Q : Value → Shared → Prop} (q : Int → Int) (n : Nat)
    (hh : A.handled = none) (hclos : closureFor scope env = pure cl) (hcell : ∀ y ∈ scope.names, y.2 ≠ .cell) (hkind : scope.kind = .function)
    (hnames : ∀ y ∈ scope.names, y.2 = .local → scope.names.lookup y.1 = some .local) (hn : n ≤ 1000)
    (h : wpAny (model prog w) A (eval iter env) (CompRng prog w A env target elt scope cl q n Q) E s)
    (hs : ∀ x, foldedSetIterable iter env x = pure x := by intro _; rfl) (ht : ∀ I v, letOwnedTupleGo target (.ref I) v = pure () := by intro _ _; rfl) :
    wpAny (model prog w) A (eval (.ListComp elt [⟨target, iter, [], 0⟩] scope pos) env) Q E s := by
  refine comp_all (fun _ => true) (RelA fun x y => ∃ i t t', x = .int i t ∧ y = .int (q i) t') hclos hcell hkind hnames relA_stable (wpAny_mono h (fun xv s₁ h₁ => ?_) fun _ _ x => x) hs ht
  obtain ⟨r, t, u, v, rfl, hr, turn, hQ⟩ := h₁
  have hsz : Builtin.Range.rangeSize 1 ((n : Int) + 1) 1 = n := by
    unfold Builtin.Range.rangeSize
    rw [if_pos (by decide)]
    split <;> omega
  refine wpAny_pyIter_range hr (by
    unfold Builtin.Range.small Builtin.Range.rangeFitsLong
    rw [hsz, if_pos (by decide)]
    simp only [Bool.and_eq_true, Bool.or_eq_true, decide_eq_true_eq, beq_iff_eq]
    refine ⟨⟨⟨⟨⟨?_, ?_⟩, ⟨?_, ?_⟩⟩, ⟨?_, ?_⟩⟩, ⟨?_, ?_⟩⟩, .inr ⟨?_, ?_⟩⟩ <;> omega) ?_
  have hk : ∀ b o, s₁.heap.get? b = some o → (s₁.heap.push { cls := .type "range_iterator", data := .fields #[rawInt 1, rawInt (Builtin.Range.rangeSize 1 ((n : Int) + 1) 1), rawInt 1] }).get? b = some o := fun b o e => Heap.get?_push_of_some _ e
  have neI : ∀ b o, s₁.heap.get? b = some o → b ≠ s₁.heap.objs.size := fun b o e => Nat.ne_of_lt (Heap.lt_size e)
  refine ⟨s₁.heap.objs.size, _, n, _, _, rfl, Walks.range hh s₁.heap.objs.size 1 1 n, hn, fun i h x => ⟨_, x⟩, ?_, ?_, fun C i x s₃ m₃ hC hv hi hns hk' => ?_, fun D h' tk ys vs hD hpl hlen' hP hF hk' => ?_⟩
  · rw [hsz]
    exact Heap.get?_push_size _ rfl
  · intro b hb
    rw [List.mem_singleton.mp hb, Heap.size_push]
    exact Nat.lt_succ_self _
  · obtain ⟨t, rfl⟩ := hv
    rw [Heap.size_push] at hC
    exact turn C _ t s₃ m₃ (by omega) (by omega) ⟨hns, fun b o e => hk' b o (neI b o e) (hk b o e), Nat.le_trans (Nat.le_succ _) hC⟩
  · obtain ⟨c, hc⟩ := hpl
    refine hQ D h' tk c ys.toList (none_keeps hk hD) (by simpa using hc) ?_ fun b o e => hk' b o (neI b o e) (hk b o e)
    rw [filt] at hF
    refine ints_of_get ?_ fun j y hy => ?_
    · have := hF.length
      rw [List.length_map, upTo_len]; omega
    · obtain ⟨x, hx, _, ⟨_, i, t, t', e1, e2⟩, _⟩ := paired_getR hF hy
      obtain ⟨t2, e3⟩ := hP j x hx
      rw [e1] at e3
      have hj : j < n := by
        have := (List.getElem?_eq_some_iff.mp hx).1
        omega
      refine ⟨q i, t', e2, ?_⟩
      rw [List.getElem?_map, upTo_get hj]
      have : i = (j : Int) + 1 := by
        injection e3 with e3 _
        omega
      rw [this]; rfl
/-- the number of a uid -/
noncomputable def numOf : List Int → Int → Int
  | [], _ => 0
  | x :: r, u => if x = u then 1 else if numOf r u = 0 then 0 else numOf r u + 1
theorem numOf_at : ∀ {us : List Int} {i : Nat} {u : Int}, us.Nodup → us[i]? = some u → numOf us u = (i : Int) + 1
  | x :: r, 0, u, _, h => by cases h; simp [numOf]
  | x :: r, i + 1, u, hn, h => by
    rw [List.nodup_cons] at hn
    have h' : r[i]? = some u := h
    have hm : u ∈ r := List.mem_of_getElem? h'
    have hx : ¬ x = u := fun e => hn.1 (e ▸ hm)
    have ih := numOf_at hn.2 h'
    unfold numOf
    rw [if_neg hx, ih, if_neg (by omega)]
    omega
theorem numOf_no : ∀ {us : List Int} {u : Int}, u ∉ us → numOf us u = 0
  | [], _, _ => rfl
  | x :: r, u, h => by
    simp only [List.mem_cons, not_or] at h
    unfold numOf
    rw [if_neg (fun e => h.1 e.symm), numOf_no h.2]; rfl
end
section
variable {prog : Program} {w : World} {mg mb : Str → Option Value} {dp un : Nat} {fr : Option (List Env)} {gd : Option (List Code)} {E : Value → Shared → Prop} {s : Shared} {hB : Heap} {Q : Value → Shared → Prop}
theorem number_at {v : Vw} {u : Int} {tu : Tok}
    (B : Bed w mg mb hB) (st : hB.StaysIn s.heap) (hr : dp < 890) (hv : ViewAt prog w s.heap v)
    (h : ∀ t' h' tk, Ext [] s.heap h' → Q (.int (numOf v.us u) t') { s with heap := h', toks := tk }) :
    wpAny (model prog w) (AT dp un fr gd) (call (.ref 97) [.ref v.x, .int u tu]) Q E s := by
  refine number_of_spec (ul := 0) (n := 0) (fv := 0) (mv := 0) B st hr hv.inst ⟨_, hv.list, rfl, _, rfl⟩ hv.ivs hv.sorted hv.len fun r t' h' tk hc he => ?_
  rcases hc with ⟨i, hi, rfl⟩ | ⟨rfl, hn⟩
  · rw [← numOf_at (sorted_nodup hv.sorted) hi]; exact h t' h' tk he
  · rw [← numOf_no hn]; exact h t' h' tk he
end
/-! T6 -/
section
variable {prog : Program} {w : World} {A : Around} {E : Value → Shared → Prop} {env : Env}
/-- the comprehension's loop whose target may be a tuple: what is asked of each turn -/
theorem compLoop_tests2 {R : Result → Shared → Prop} {s : Shared} {elt target iter : PySem.Expr} {ifs : List PySem.Expr} {scope : Scope} {pos : Pos} {it acc : Value} {cenv : Env} (I : Nat → Shared → Prop)
    (turn : ∀ n s, I n s → wpAny (model prog w) A (pyNext it) (fun r s₁ => match r with
      | none => R (.ok .next) s₁
      | some v => wpAny (model prog w) A (letOwnedTupleGo target it v) (fun _ s₁ => wpAny (model prog w) A (assign target cenv v) (fun _ s₂ =>
          wpAny (model prog w) A (compTests' ifs cenv) (fun ok s₃ =>
            if ok = true then wpAny (model prog w) A (eval elt cenv) (fun x s₄ =>
              wpAny (model prog w) A (call (.builtin "list.append") [acc, x]) (fun _ s₅ => ∃ m, m < n ∧ I m s₅) (notedBy (model prog w) A cenv fun e s' => R (.error e) s') s₄) (notedBy (model prog w) A cenv fun e s' => R (.error e) s') s₃
            else ∃ m, m < n ∧ I m s₃) (notedBy (model prog w) A cenv fun e s' => R (.error e) s') s₂) (notedBy (model prog w) A cenv fun e s' => R (.error e) s') s₁) (notedBy (model prog w) A cenv fun e s' => R (.error e) s') s₁) (notedBy (model prog w) A cenv fun e s' => R (.error e) s') s)
    (n : Nat) (h : I n s) : codeAny (model prog w) A (.compLoop (.ListComp elt [⟨target, iter, ifs, 0⟩] scope pos) 0 it acc cenv) R s := by
  refine codeAny_loop rfl I (fun n s hI => ?_) n h
  show wpAny _ A ((compTurn (.ListComp elt [⟨target, iter, ifs, 0⟩] scope pos) 0 it acc cenv).onRaise (fun x => do noteFrame x cenv; theTreesLotGoes x)) _ _ s
  refine wpAny_noted ?_
  rw [compTurn_list]
  have id2 : ∀ {α : Type} {E : Value → Shared → Prop} (e : Value) (s' : Shared), E e s' → E e s' := fun _ _ x => x
  refine wpAny_bind (wpAny_standAt (wpAny_bind (wpAny_mono (turn n s hI) (fun r s₁ hr => ?_) fun _ _ x => x)))
  cases r with
  | none => exact wpAny_pure hr
  | some v =>
    refine wpAny_bind (wpAny_mono hr (fun _ s₁ h₁ => ?_) fun _ _ x => x)
    refine wpAny_bind (wpAny_mono h₁ (fun _ s₂ h₂ => ?_) fun _ _ x => x)
    refine wpAny_bind (wpAny_mono h₂ (fun ok s₃ h₃ => ?_) fun _ _ x => x)
    cases hok : ok with
    | false =>
      rw [hok, if_neg Bool.false_ne_true] at h₃
      exact wpAny_pure ⟨rfl, h₃⟩
    | true =>
      rw [hok, if_pos rfl] at h₃
      refine wpAny_bind (wpAny_bind (wpAny_mono h₃ (fun x s₄ h₄ => ?_) fun _ _ x => x))
      refine wpAny_bind (wpAny_mono h₄ (fun _ s₅ h₅ => ?_) fun _ _ x => x)
      exact wpAny_pure (wpAny_pure ⟨rfl, h₅⟩)
theorem letOwned_tup {target : PySem.Expr} {I l : Addr} {i : Nat} {v : Value} {s : Shared} {Q : Unit → Shared → Prop} (hit : s.heap.IsTupleIter I l i) (hq : Q () s) : wpAny (model prog w) A (letOwnedTupleGo target (.ref I) v) Q E s := by
  obtain ⟨o, ho, hc, hd⟩ := hit
  have go : ∀ {a : Addr}, wpAny (model prog w) A (do
      let o ← load I
      match o.cls, o.data with
      | .type n, .fields vs =>
        if ["enumerate", "zip", "dict_itemiterator", "dict_reverseitemiterator", "odict_iterator", "itertools.zip_longest", "itertools.pairwise"].contains n && vs[0]? == some (rawInt a) then
          rule "for.unpacks-the-owned-tuple"
          updateField I 0 .none
      | _, _ => pure () : Sem Unit) Q E s := fun {a} => by
    refine wpAny_bind (wpAny_load ho ?_)
    rw [hc, hd]
    dsimp only
    rw [if_neg (by
      intro h
      rw [Bool.and_eq_true] at h
      exact absurd h.1 (by decide))]
    exact wpAny_pure hq
  unfold letOwnedTupleGo
  split
  · split
    · rename_i e; cases e; exact go
    · exact wpAny_pure hq
  · split
    · rename_i e; cases e; exact go
    · exact wpAny_pure hq
  · exact wpAny_pure hq
theorem comp_loop2 {R₀ : Result → Shared → Prop} {s : Shared} {elt target iter : PySem.Expr} {ifs : List PySem.Expr} {scope : Scope} {pos : Pos} {I D : Addr} {fp : List Addr} {n : Nat} {P : Nat → Value → Prop} {St : Nat → Heap → Prop}
    {cenv : Env} {m : Str → Option Value} (W : Walks prog w A I fp [I] n P St) (p : Value → Bool) (R : Heap → Value → Value → List Addr → Prop)
    (hR : ∀ h h' v y foot, R h v y foot → (∀ b ∈ foot, ∀ o, h.get? b = some o → h'.get? b = some o) → R h' v y foot)
    (hlive : ∀ i h, St i h → ∃ o, h.get? I = some o)
    (hDC : D ≠ cenv.locals) (hDf : D ∉ fp) (hCf : cenv.locals ∉ fp) (hfpn : ∀ b ∈ fp, b ≠ cenv.locals)
    (hst : St 0 s.heap) (hacc : s.heap.PlainList D #[]) (hn : s.heap.Ns cenv.locals m)
    (turn : ∀ i v s₃ m₃, P i v → i < n → s₃.heap.Ns cenv.locals m₃ → (∀ b o, b ≠ cenv.locals → b ≠ I → b ≠ D → s.heap.get? b = some o → s₃.heap.get? b = some o) → CompTurn prog w A target elt ifs p R cenv.locals cenv v s₃)
    (hEnd : ∀ h' tk m' ys (vs : List Value), h'.Ns cenv.locals m' → h'.PlainList D ys → vs.length = n → (∀ j v, vs[j]? = some v → P j v) →
      Paired (fun v y => ∃ foot, R h' v y foot ∧ ∀ b ∈ foot, b ≠ cenv.locals ∧ b ≠ D ∧ b ≠ I ∧ s.heap.get? b = none) (vs.filter p) ys.toList →
      (∀ b o, b ≠ cenv.locals → b ≠ I → b ≠ D → s.heap.get? b = some o → h'.get? b = some o) → R₀ (.ok .next) { s with heap := h', toks := tk })
    (hsz : n ≤ 1000) (hlet : ∀ i v (s₁ : Shared) (Q : Unit → Shared → Prop) (E : Value → Shared → Prop), St i s₁.heap → Q () s₁ → wpAny (model prog w) A (letOwnedTupleGo target (.ref I) v) Q E s₁) :
    codeAny (model prog w) A (.compLoop (.ListComp elt [⟨target, iter, ifs, 0⟩] scope pos) 0 (.ref I) (.ref D) cenv) R₀ s := by
  refine compLoop_tests2
    (fun k s' => ∃ h' tk m' ys, ∃ vs : List Value, s' = { s with heap := h', toks := tk } ∧ St vs.length h' ∧ h'.PlainList D ys ∧ h'.Ns cenv.locals m' ∧ (∀ j v, vs[j]? = some v → P j v) ∧
      Paired (fun v y => ∃ foot, R h' v y foot ∧ ∀ b ∈ foot, b ≠ cenv.locals ∧ b ≠ D ∧ b ≠ I ∧ s.heap.get? b = none) (vs.filter p) ys.toList ∧ vs.length ≤ n ∧ k = n + 1 - vs.length ∧
      (∀ b o, b ≠ cenv.locals → b ≠ I → b ≠ D → s.heap.get? b = some o → h'.get? b = some o)) ?_ (n + 1)
    ⟨s.heap, s.toks, m, #[], [], rfl, hst, hacc, hn, by simp, by simpa using Paired.nil, Nat.zero_le _, rfl, fun _ _ _ _ _ e => e⟩
  rintro k s' ⟨H, tk, m', ys, vs, rfl, hst', hacc', hn', hP, hF, hi, rfl, hk⟩
  have hCI : cenv.locals ≠ I := fun e => hCf (e ▸ W.sub I (by simp))
  have hDI : D ≠ I := fun e => hDf (e ▸ W.sub I (by simp))
  by_cases hlt : vs.length < n
  · refine W.item vs.length _ _ _ hlt hst' fun v h₁ tk₁ hPv hst₁ hk₁ => ?_
    have kI : ∀ b o, b ≠ I → H.get? b = some o → h₁.get? b = some o := fun b o hb e => hk₁ b o (by simpa using hb) e
    have hn₁ : h₁.Ns cenv.locals m' := hn'.at' fun o e => kI _ o hCI e
    have hacc₁ : h₁.PlainList D ys := hacc'.at fun o e => kI _ o hDI e
    have hP' : ∀ j u, (vs ++ [v])[j]? = some u → P j u := fun j u hj => by
      rcases Nat.lt_trichotomy j vs.length with h | h | h
      · exact hP j u (by rwa [List.getElem?_append_left h] at hj)
      · subst h; simp at hj; subst hj; exact hPv
      · have hnone : (vs ++ [v])[j]? = none := List.getElem?_eq_none (by rw [List.length_append, List.length_singleton]; omega)
        rw [hnone] at hj; cases hj
    have hk3 : ∀ b o, b ≠ cenv.locals → b ≠ I → b ≠ D → s.heap.get? b = some o → h₁.get? b = some o := fun b o h1 h2 h3 e => kI b o h2 (hk b o h1 h2 h3 e)
    have hF₁ : Paired (fun v y => ∃ foot, R h₁ v y foot ∧ ∀ b ∈ foot, b ≠ cenv.locals ∧ b ≠ D ∧ b ≠ I ∧ s.heap.get? b = none) (vs.filter p) ys.toList :=
      hF.mono fun _ _ ⟨foot, r, hf⟩ => ⟨foot, hR _ _ _ _ _ r fun b hb o e => kI b o (hf b hb).2.2.1 e, hf⟩
    have T := turn vs.length v { s with heap := h₁, toks := tk₁ } m' hPv hlt hn₁ hk3
    refine hlet _ _ _ _ _ hst₁ ?_
    refine wpAny_mono T (fun _ s₄ h₄ => wpAny_mono h₄ (fun ok s₅ h₅ => ?_) fun _ _ x => x.elim) fun _ _ x => x.elim
    obtain ⟨oI, hoI⟩ := hlive _ _ hst₁
    cases ok with
    | false =>
      simp only [Bool.false_eq_true, if_false] at h₅ ⊢
      obtain ⟨hpv, h₆, tk₆, m₆, rfl, hn₆, hk₆⟩ := h₅
      refine ⟨n + 1 - (vs.length + 1), by omega, h₆, tk₆, m₆, ys, vs ++ [v], rfl, ?_, hacc₁.at fun o e => hk₆ _ o hDC e, hn₆, hP', ?_, (by rw [List.length_append, List.length_singleton]; exact hlt), (by rw [List.length_append, List.length_singleton]),
        fun b o h1 h2 h3 e => hk₆ b o h1 (hk3 b o h1 h2 h3 e)⟩
      · have := W.frame _ _ h₆ hst₁ fun b hb o e => hk₆ b o (hfpn b hb) e
        simpa using this
      · rw [List.filter_append]
        have : Paired (fun v y => ∃ foot, R h₆ v y foot ∧ ∀ b ∈ foot, b ≠ cenv.locals ∧ b ≠ D ∧ b ≠ I ∧ s.heap.get? b = none) (vs.filter p) ys.toList :=
          hF₁.mono fun _ _ ⟨foot, r, hf⟩ => ⟨foot, hR _ _ _ _ _ r fun b hb o e => hk₆ b o (hf b hb).1 e, hf⟩
        simpa [hpv] using this
    | true =>
      simp only [if_true] at h₅ ⊢
      refine wpAny_mono h₅ (fun y s₆ h₆ => ?_) fun _ _ x => x.elim
      obtain ⟨hpv, ⟨h₆, tk₆, m₆, rfl, hn₆, hk₆⟩, foot, hRy, hnew⟩ := h₆
      have hacc₆ : h₆.PlainList D ys := hacc₁.at fun o e => hk₆ _ o hDC e
      have hys : ys.size ≤ sizeLine := by
        have e1 := hF.length
        have e2 : (vs.filter p).length ≤ vs.length := List.length_filter_le _ _
        have e4 : ys.toList.length = ys.size := by simp
        rw [sizeLine_eq]; omega
      have hfoot : ∀ b ∈ foot, b ≠ cenv.locals ∧ b ≠ D ∧ b ≠ I ∧ s.heap.get? b = none := fun b hb => by
        have hnone : h₁.get? b = none := hnew b hb
        obtain ⟨_, _, _, hC, _⟩ := hn₁
        obtain ⟨_, hD'⟩ := hacc₁
        have n1 : b ≠ cenv.locals := by rintro rfl; rw [hC] at hnone; cases hnone
        have n2 : b ≠ D := by rintro rfl; rw [hD'] at hnone; cases hnone
        have n3 : b ≠ I := by rintro rfl; rw [hoI] at hnone; cases hnone
        refine ⟨n1, n2, n3, ?_⟩
        cases q : s.heap.get? b with
        | none => rfl
        | some o => rw [hk3 b o n1 n3 n2 q] at hnone; cases hnone
      refine wpAny_list_append_plain (hsz := hys) hacc₆ fun h₇ hl₇ hs₇ => ?_
      have k7 : ∀ b o, b ≠ D → h₆.get? b = some o → h₇.get? b = some o := fun b o hb e => hs₇.extBut b o hb e
      refine ⟨n + 1 - (vs.length + 1), by omega, h₇, tk₆, m₆, ys.push y, vs ++ [v], rfl, ?_, hl₇, hn₆.sameBut hs₇ (Ne.symm hDC), hP', ?_, (by rw [List.length_append, List.length_singleton]; exact hlt), (by rw [List.length_append, List.length_singleton]),
        fun b o h1 h2 h3 e => k7 b o h3 (hk₆ b o h1 (hk3 b o h1 h2 h3 e))⟩
      · have := W.frame _ _ h₇ hst₁ fun b hb o e => k7 b o (fun h => hDf (h ▸ hb)) (hk₆ b o (hfpn b hb) e)
        simpa using this
      · rw [List.filter_append]
        have h1 : Paired (fun v y => ∃ foot, R h₇ v y foot ∧ ∀ b ∈ foot, b ≠ cenv.locals ∧ b ≠ D ∧ b ≠ I ∧ s.heap.get? b = none) (vs.filter p) ys.toList :=
          hF₁.mono fun _ _ ⟨foot, r, hf⟩ => ⟨foot, hR _ _ _ _ _ r fun b hb o e => k7 b o (hf b hb).2.1 (hk₆ b o (hf b hb).1 e), hf⟩
        have h2 : ∃ foot, R h₇ v y foot ∧ ∀ b ∈ foot, b ≠ cenv.locals ∧ b ≠ D ∧ b ≠ I ∧ s.heap.get? b = none := ⟨foot, hR _ _ _ _ _ hRy fun b hb o e => k7 b o (hfoot b hb).2.1 e, hfoot⟩
        simpa [hpv] using Paired.snoc h1 h2
  · have hin : vs.length = n := by omega
    refine W.done _ _ _ (hin ▸ hst') fun h₁ tk₁ hk₁ => ?_
    have kI : ∀ b o, b ≠ I → H.get? b = some o → h₁.get? b = some o := fun b o hb e => hk₁ b o (by simpa using hb) e
    exact hEnd h₁ tk₁ m' ys vs (hn'.at' fun o e => kI _ o hCI e) (hacc'.at fun o e => kI _ o hDI e) hin hP
      (hF.mono fun _ _ ⟨foot, r, hf⟩ => ⟨foot, hR _ _ _ _ _ r fun b hb o e => kI b o (hf b hb).2.2.1 e, hf⟩) fun b o h1 h2 h3 e => kI b o h2 (hk b o h1 h2 h3 e)

theorem comp_allR {s : Shared} {elt target iter : PySem.Expr} {ifs : List PySem.Expr} {scope : Scope} {cl : List (Str × Addr)} {pos : Pos} {Q : Value → Shared → Prop}
    (hclos : closureFor scope env = pure cl) (hcell : ∀ y ∈ scope.names, y.2 ≠ .cell) (hkind : scope.kind = .function)
    (hnames : ∀ y ∈ scope.names, y.2 = .local → scope.names.lookup y.1 = some .local)
    (h : wpAny (model prog w) A (eval iter env) (fun xv s₁ => wpAny (model prog w) A (pyIter xv) (fun it s₂ => ∃ (p : Value → Bool) (R : Heap → Value → Value → List Addr → Prop), ∃ I fp n P St, (∀ h h' v y foot, R h v y foot → (∀ b ∈ foot, ∀ o, h.get? b = some o → h'.get? b = some o) → R h' v y foot) ∧ it = .ref I ∧ Walks prog w A I fp [I] n P St ∧ n ≤ 1000 ∧ (∀ i h, St i h → ∃ o, h.get? I = some o) ∧ St 0 s₂.heap ∧ (∀ b ∈ fp, b < s₂.heap.objs.size) ∧ (∀ i v (s₁ : Shared) (Q : Unit → Shared → Prop) (E : Value → Shared → Prop), St i s₁.heap → Q () s₁ → wpAny (model prog w) A (letOwnedTupleGo target (.ref I) v) Q E s₁) ∧
      (∀ C i v s₃ m₃, s₂.heap.objs.size ≤ C → P i v → i < n → s₃.heap.Ns C m₃ → (∀ b o, b ≠ I → s₂.heap.get? b = some o → s₃.heap.get? b = some o) → CompTurn prog w A target elt ifs p R C (compEnvC scope cl C env) v s₃) ∧
      (∀ D h' tk ys (vs : List Value), s₂.heap.get? D = none → h'.PlainList D ys → vs.length = n → (∀ j v, vs[j]? = some v → P j v) → Paired (fun v y => ∃ foot, R h' v y foot ∧ ∀ b ∈ foot, b ≠ D ∧ s₂.heap.get? b = none) (vs.filter p) ys.toList →
        (∀ b o, b ≠ I → s₂.heap.get? b = some o → h'.get? b = some o) → Q (.ref D) { s₂ with heap := h', toks := tk })) E s₁) E s)
    (hs : ∀ x, foldedSetIterable iter env x = pure x := by intro _; rfl) :
    wpAny (model prog w) A (eval (.ListComp elt [⟨target, iter, ifs, 0⟩] scope pos) env) Q E s := by
  rw [eval_ListComp]
  refine wpAny_comprehension_free (use := none) rfl hs hclos hkind hnames (wpAny_mono h (fun xv s₁ h₁ => wpAny_mono h₁ (fun it s₂ h₂ => ?_) fun _ _ e => e) fun _ _ e => e)
  obtain ⟨p, R, I, fp, n, P, St, hR, rfl, W, hsz, hlive, hst, hfp, hlet, turn, hQ⟩ := h₂
  refine wpAny_newObj_type (wpAny_newFunctionEnv hcell (by intro y hy; simp at hy) (fun h₁ hns₁ hsb₁ => ?_) hkind)
  dsimp only at hns₁ hsb₁ ⊢
  generalize hH2 : s₂.heap.push { cls := .type "list", dict := none, data := .seq ([] : List Value).toArray } = H2 at hns₁ hsb₁ ⊢
  have hC : H2.objs.size = s₂.heap.objs.size + 1 := by rw [← hH2, Heap.size_push]
  have hDC : s₂.heap.objs.size ≠ H2.objs.size := by rw [hC]; exact Nat.ne_of_lt (Nat.lt_succ_self _)
  have below : ∀ b, b < s₂.heap.objs.size → b ≠ H2.objs.size ∧ b ≠ s₂.heap.objs.size := fun b hb => ⟨by rw [hC]; exact Nat.ne_of_lt (Nat.lt_succ_of_lt hb), Nat.ne_of_lt hb⟩
  have hDf : s₂.heap.objs.size ∉ fp := fun hm => Nat.lt_irrefl _ (hfp _ hm)
  have hCf : H2.objs.size ∉ fp := fun hm => by have := hfp _ hm; rw [hC] at this; exact Nat.lt_irrefl _ (Nat.lt_of_succ_lt this)
  have old : ∀ b o, s₂.heap.get? b = some o → h₁.get? b = some o := fun b o e => hsb₁.extBut b o (below b (Heap.lt_size e)).1 (Heap.get?_push_of_some _ (hH2 ▸ Heap.get?_push_of_some _ e))
  have hacc : h₁.PlainList s₂.heap.objs.size #[] := ⟨_, hsb₁.extBut _ _ hDC (Heap.get?_push_of_some _ (hH2 ▸ Heap.get?_push_size _ rfl))⟩
  have hst₁ : St 0 h₁ := W.frame _ _ _ hst fun b _ o e => old b o e
  have fresh : ∀ a, s₂.heap.objs.size ≤ a → s₂.heap.get? a = none := fun a ha => by
    cases e : s₂.heap.get? a with
    | none => rfl
    | some o' => exact absurd (Heap.lt_size e) (Nat.not_lt.mpr ha)
  have loop : ∀ s₃ : Shared, s₃ = { s₂ with heap := h₁, toks := s₂.toks + ([] : List (Str × Value)).length } →
      codeAny (model prog w) A (.compLoop (.ListComp elt [⟨target, iter, ifs, 0⟩] scope pos) 0 (.ref I) (.ref s₂.heap.objs.size) (compEnvC scope cl H2.objs.size env))
        (compPost (model prog w) A E none Q (.ref s₂.heap.objs.size) H2.objs.size) s₃ := by
    rintro s₃ rfl
    refine comp_loop2 (cenv := compEnvC scope cl H2.objs.size env) W p R hR hlive hDC hDf hCf (fun b hb => (below b (hfp b hb)).1) hst₁ hacc hns₁
      (fun i v s₃ m₃ hv hi hn hk => turn _ i v s₃ m₃ (by rw [hC]; exact Nat.le_succ _) hv hi hn fun b o hb e => hk b o (below b (Heap.lt_size e)).1 hb (below b (Heap.lt_size e)).2 (old b o e)) (fun h' tk m' ys vs hn hpl hlen hP hF hk => ?_) hsz hlet
    refine ⟨m', hn, fun h'' hs'' => ?_⟩
    refine hQ _ h'' tk ys vs (fresh _ (Nat.le_refl _)) (hpl.at fun o e => hs''.extBut _ o hDC e) hlen hP (hF.mono fun _ _ ⟨foot, r, hf⟩ => ⟨foot, hR _ _ _ _ _ r fun b hb o e => hs''.extBut b o (hf b hb).1 e, fun b hb => ⟨(hf b hb).2.1, ?_⟩⟩) fun b o hb e => ?_
    rotate_left
    · cases q : s₂.heap.get? b with
      | none => rfl
      | some o => have := (hf b hb).2.2.2; rw [old b o q] at this; cases this
    · exact hs''.extBut b o (below b (Heap.lt_size e)).1 (hk b o (below b (Heap.lt_size e)).1 hb (below b (Heap.lt_size e)).2 (old b o e))
  exact codeAny_compStart_list (loop _ rfl) (W.self 0 _ _ _ hst₁ (loop _ rfl))
inductive CompFromTR (prog : Program) (w : World) (A : Around) (env : Env) (target elt : PySem.Expr) (ifs : List PySem.Expr) (scope : Scope) (cl : List (Str × Addr)) (Q : Value → Shared → Prop) (xv : Value) (s₁ : Shared) : Prop
  | mk (p : Value → Bool) (R : Heap → Value → Value → List Addr → Prop) (l : _) (its : _) (z1 : (∀ h h' v y foot, R h v y foot → (∀ b ∈ foot, ∀ o, h.get? b = some o → h'.get? b = some o) → R h' v y foot)) (z2 : xv = .ref l) (z3 : s₁.heap.IsTuple l (List.toArray its)) (z4 : its.length ≤ 1000) (z5 : (∀ C (v : Value) s₃ m₃, v ∈ its → Fr s₁.heap C s₃.heap m₃ → CompTurn prog w A target elt ifs p R C (compEnvC scope cl C env) v s₃)) (z6 : (∀ D h' tk n ys, s₁.heap.get? D = none → h'.get? D = some (listOf (List.toArray ys) n) → Paired (fun v y => ∃ foot, R h' v y foot ∧ ∀ b ∈ foot, b ≠ D ∧ s₁.heap.get? b = none) (its.filter p) ys → (∀ b o, s₁.heap.get? b = some o → h'.get? b = some o) → Q (.ref D) { s₁ with heap := h', toks := tk })) : CompFromTR prog w A env target elt ifs scope cl Q xv s₁
theorem comp_tupR {s : Shared} {elt target iter : PySem.Expr} {ifs : List PySem.Expr} {scope : Scope} {cl : List (Str × Addr)} {pos : Pos} {Q : Value → Shared → Prop}
    (hh : A.handled = none) (hclos : closureFor scope env = pure cl) (hcell : ∀ y ∈ scope.names, y.2 ≠ .cell) (hkind : scope.kind = .function)
    (hnames : ∀ y ∈ scope.names, y.2 = .local → scope.names.lookup y.1 = some .local)
    (h : wpAny (model prog w) A (eval iter env) (CompFromTR prog w A env target elt ifs scope cl Q) E s)
    (hs : ∀ x, foldedSetIterable iter env x = pure x := by intro _; rfl) :
    wpAny (model prog w) A (eval (.ListComp elt [⟨target, iter, ifs, 0⟩] scope pos) env) Q E s := by
  refine comp_allR hclos hcell hkind hnames (wpAny_mono h (fun xv s₁ h₁ => ?_) fun _ _ x => x) hs
  obtain ⟨p, R, l, its, hR, rfl, hl, hlen, turn, hQ⟩ := h₁
  refine pyIter_tup_walk hh hl fun I s₂ es hI hle hk W hlive hst hfp => ?_
  have up : ∀ b, s₂.heap.get? b = none → s₁.heap.get? b = none := fun b e => by
    cases q : s₁.heap.get? b with
    | none => rfl
    | some o => rw [hk b o q] at e; cases e
  have neI : ∀ b o, s₁.heap.get? b = some o → b ≠ I := by
    rintro b o e rfl; rw [hI] at e; cases e
  refine ⟨p, R, I, _, _, _, _, hR, rfl, W, hlen, hlive, hst, hfp, fun i v s₁ Q E x hq => letOwned_tup x.1 hq, fun C i v s₃ m₃ hC hv _ hn hk' => turn C v s₃ m₃ (List.mem_of_getElem? hv) ⟨hn, fun b o e => hk' b o (neI b o e) (hk b o e), Nat.le_trans hle hC⟩, fun D h' tk ys vs hD hpl hlen' hP hF hk' => ?_⟩
  obtain ⟨n, hn⟩ := hpl
  have e : vs = its := List.ext_getElem? fun j => by
    cases q : vs[j]? with
    | some v => exact (hP j v q).symm
    | none =>
      have : its.length ≤ j := by rw [← hlen']; exact List.getElem?_eq_none_iff.mp q
      exact (List.getElem?_eq_none this).symm
  subst e
  have hF' : Paired (fun v y => ∃ foot, R h' v y foot ∧ ∀ b ∈ foot, b ≠ D ∧ s₁.heap.get? b = none) (vs.filter p) ys.toList := hF.mono fun _ _ ⟨foot, r, hf⟩ => ⟨foot, r, fun b hb => ⟨(hf b hb).1, up b (hf b hb).2⟩⟩
  have := hQ D h' tk n ys.toList (up D hD) (by simpa using hn) hF' fun b o e => hk' b o (neI b o e) (hk b o e)
  rw [es]
  exact this
end
section
variable {prog : Program} {w : World} {mg mb : Str → Option Value} {dp un : Nat} {fr : Option (List Env)} {gd : Option (List Code)} {E : Value → Shared → Prop} {s : Shared} {hB : Heap} {Q : Value → Shared → Prop}
theorem paired_has {α γ : Type} {R : α → γ → Prop} {xs : List α} {ys : List γ} {y : γ} (p : Paired R xs ys) (h : y ∈ ys) : ∃ x ∈ xs, R x y := by
  obtain ⟨j, hj, e⟩ := List.getElem_of_mem h
  obtain ⟨x, hx, r⟩ := paired_getR p (y := y) (j := j) (by rw [List.getElem?_eq_getElem hj, e])
  exact ⟨x, List.mem_of_getElem? hx, r⟩
example : True := by
  k_with "call ref" => ((fail_if_success (have := @off25)); ((k_here; (with_reducible show wpAny _ _ (call (Value.ref 202) _) _ _ _); k_dflt (refine' is_up_to_date_spec (v := v) (b := b) ?Bw102 ?stw102 ?hrw102 ?huw102 (hv.keeps (Fr.keep (by k_asm))) (hb.keeps (Fr.keep (by k_asm))) hvb hfr ?_; (case Bw102 => assumption); (case stw102 => exact Fr.keep (by k_asm)); (case hrw102 => walk_at "room"); (case huw102 => walk_at "room"); (intro h' tk' he'; walk_at "after0"; clear he')))))
  exact trivial
example : True := by
  k_with "call ref" => ((fail_if_success (have := @off25)); ((k_here; (with_reducible show wpAny _ _ (call (Value.ref 121) _) _ _ _); k_dflt (first
  | (refine' told_spec (v := v) ?Bw103 ?stw103 ?hrw103 (hv.keeps (Fr.keep (by k_asm))) ?_; (case Bw103 => assumption); (case stw103 => exact Fr.keep (by k_asm)); (case hrw103 => walk_at "room"); (intro D' h' tk' ys' hD' hO' hT' he'; have hO8 := hO'; have hT8 := hT'; have he8 := he'; walk_at "afterD"))
  | (refine' told_spec (v := f) ?Bw103 ?stw103 ?hrw103 (hf.keeps (Fr.keep (by k_asm))) ?_; (case Bw103 => assumption); (case stw103 => exact Fr.keep (by k_asm)); (case hrw103 => walk_at "room"); (intro D' h' tk' ys' hD' hO' hT' he'; have hO9 := hO'; have hT9 := hT'; have he9 := he'; walk_at "afterD"))))))
  exact trivial
example : True := by
  k_with "newTuple" => ((fail_if_success (have := @off25)); ((k_here; (with_reducible show wpAny _ _ (newTuple [Value.int _ _, Value.ref _]) _ _ _); k_dflt (refine' new_tup ?Fw104 ?zw104 ?_; (case Fw104 => k_asm); (case zw104 => simp)); (intro D' h' hD' hk' hO' F'))))
  exact trivial
example : True := by
  k_with "compareOp NotEq ref ref" => ((fail_if_success (have := @off25)); ((k_here; k_dflt (first
  | (refine' ne_same R1 R2 (pairD_shaped _ _) ?uw105 ?_; (case uw105 => rw [cLine_is']; walk_at "room"); k_whole)
  | (refine' ne_same (Reads.keeps (fun b o e => he9.nil b o e) (told_reads hO8 hT8)) (hTr (by assumption) ▸ told_reads hO9 hT9) (tripD_shaped _ _ _) ?uw105 ?_; (case uw105 => rw [cLine_is']; walk_at "room"); k_whole)
  | (refine' ne_same (ints_reads hO7 hI7) (ints_reads (vs := f.uvs) (Fr.keep (by k_asm) _ _ hf.list) hfiv) (ke_shaped_ints _) ?uw105 ?_; (case uw105 => rw [cLine_is']; walk_at "room"); k_whole)
  | (refine' ne_same (ints_reads (ns := v.us) (vs := v.uvs) (Fr.keep (by k_asm) _ _ hv.list) hv.ivs) (ints_reads (vs := f.uvs) (Fr.keep (by k_asm) _ _ hf.list) hfiv) (ke_shaped_ints _) ?uw105 ?_; (case uw105 => rw [cLine_is']; walk_at "room"); k_whole)
  | (refine' ne_nil (its := f.uvs) ?k1w105 ?k2w105 ?k4w105 ?_; (case k1w105 => exact ⟨_, Fr.keep (by k_asm) _ _ hf.list, rfl, _, rfl⟩); (case k2w105 => exact ⟨_, News.get (by k_asm) (.head _), rfl, _, rfl⟩); (case k4w105 => rw [cLine_is']; walk_at "room"); k_whole)))))
  exact trivial
theorem news_none {g h : Heap} {L : Addr} {news : List (Addr × Obj)} {a : Addr} {o : Obj} (N : News g L h news) (hm : (a, o) ∈ news) : g.get? a = none := (N _ hm).2.2
theorem us_ne {vs : List Value} {us : List Int} (hi : IntsAre vs us) (h : vs.isEmpty = false) : us ≠ [] := by
  rintro rfl
  cases hi; simp at h
example : True := by
  k_with "call ref" => ((fail_if_success (have := @off25)); ((k_here; (with_reducible show wpAny _ _ (call (Value.ref 109) _) _ _ _); k_dflt (refine' uids_in_spec (v := v) ?Bw106 ?stw106 ?hrw106 (hv.keeps (Fr.keep (by k_asm))) ?h0w106 ?haw106 ?hbw106 ?b1w106 ?b2w106 ?_; (case Bw106 => assumption); (case stw106 => exact Fr.keep (by k_asm)); (case hrw106 => walk_at "room"); (case h0w106 => exact us_ne hfiv (by assumption)); (case hbw106 => exact News.get (by k_asm) (by k_mem)); (case haw106 => exact News.get (by k_asm) (by k_mem)); (case b1w106 => exact news_none (by k_asm) (by k_mem)); (case b2w106 => exact news_none (by k_asm) (by k_mem)); (intro D' h' tk' n' ys' hD' hO' hI' he'; have hO7 := hO'; have hI7 := hI'; walk_at "afterD")))))
  exact trivial
example : True := by
  k_with "call ref" => ((fail_if_success (have := @off25)); ((k_here; (with_reducible show wpAny _ _ (call (Value.ref 97) _) _ _ _); k_dflt (first | (refine' number_at (v := v) (BedKeep Bg F1) (Fr.keep (by k_asm)) ?hrw107 (hv2.keeps (Fr.keep (by k_asm))) ?_) | (refine' number_at (v := f) (BedKeep Bg F1) (Fr.keep (by k_asm)) ?hrw107 (hf2.keeps (Fr.keep (by k_asm))) ?_)); (case hrw107 => walk_at "room"); (intro t' h' tk' he'))))
  exact trivial
example : True := by
  k_with "compareOp Eq ref ref" => ((fail_if_success (have := @off25)); ((k_here; k_dflt (refine' eq_same (ints_reads (ns := (upTo 13).map (numOf v.us)) (News.get (by k_asm) (by k_mem)) hI5) (ints_reads (News.get (by k_asm) (by k_mem)) hI6) (ke_shaped_ints _) ?uw108 ?_; (case uw108 => rw [cLine_is']; walk_at "room"); k_whole))))
  exact trivial
theorem law_like_spec {v f : Vw} {b : Bx} {uses : Bool}
    (B : Bed w mg mb hB) (st : hB.StaysIn s.heap) (hr : dp < 850) (hun : un < 7700) (hv : ViewAt prog w s.heap v) (hf : ViewAt prog w s.heap f) (hb : BoxAt w s.heap b) (hvb : v.bx = b.x) (hfr : Fresh b v) (hus : v.uses = uses)
    (g1 : f.us = v.us) (g2 : ∀ u ∈ v.us, f.fl u = v.fl u) (g3 : uses = true → ∀ u ∈ v.us, f.ms u = v.ms u)
    (h : ∀ h' tk, Ext [] s.heap h' → Q (.bool true) { s with heap := h', toks := tk }) :
    wpAny (model prog w) (AT dp un fr gd) (call (.ref 400) [.ref v.x, .ref f.x, .bool uses]) Q E s := by
  have hW : ∀ p ∈ ([] : List (Addr × Obj)), s.heap.get? p.1 = some p.2 ∧ hB.get? p.1 = none := List.forall_mem_nil _
  walk_at "enterC"
  replace hv : ViewAt prog w g v := hg ▸ hv
  replace hf : ViewAt prog w g f := hg ▸ hf
  replace hb : BoxAt w g b := hg ▸ hb
  have hI := hv.inst
  have hIf := hf.inst
  have hfiv : IntsAre f.uvs v.us := g1 ▸ hf.ivs
  have hlen := hv.len
  have hlenf : f.us.length ≤ 100 := hf.len
  have hPr : f.us.map (pairD f.fl) = v.us.map (pairD v.fl) := by
    rw [g1]; exact List.map_congr_left fun u hu => by unfold pairD; rw [g2 u hu]
  have hTr : uses = true → f.us.map (tripD f.fl f.ms) = v.us.map (tripD v.fl v.ms) := fun q => by
    rw [g1]; exact List.map_congr_left fun u hu => by unfold tripD; rw [g2 u hu, g3 q u hu]
  walk_at "go"
  refine comp_tupR (cl := _) rfl rfl (by decide) rfl (by decide) ?_
  walk_at "go"
  rename Fr g _ _ _ => F1
  rename News g _ _ _ => N1
  refine ⟨fun _ => true, RelB (PairOf h'), D', ys', relB_stable, rfl, ⟨_, hO', rfl, _, rfl⟩, by have := hT'.length; omega, fun C x s₃ m₃ hx FC => ?_, fun D1 h1 tk1 n1 zs1 hD1 hys1 hP1 hk1 => ?_⟩
  · obtain ⟨u, hu, T, t, a, k, m, t', rfl, e2, _, _, _⟩ := paired_has hT' hx
    refine cassign3 rfl FC e2 (fun h2 tk2 F2 k2 => ctest0 ?_) rfl rfl rfl rfl _
    rw [if_pos rfl]
    walk_at "go"
    exact ⟨rfl, CompStep.of F' (fun b o h1 e => hk' b o (k2 b o h1 e)), [D'], ⟨D', _, rfl, rfl, hO', T, u, t, a, m, t', rfl, e2, rfl⟩, foot_new F2 k2 hD'⟩
  rw [filt] at hP1
  have R1 : Reads h1 (.ref D1) (.list (v.us.map (pairD v.fl))) [D1] := reads_list_at hys1 rfl rfl (by simpa using pairs_readsAll hT' hk1 hP1)
  have F2 := Ext.fr (.of_keeps hk1) F1 (List.forall_mem_nil _) List.not_mem_nil
  have N2 := Ext.news (.of_keeps hk1) N1 (fun _ _ => List.not_mem_nil)
  clear F1 N1
  dsimp only
  walk_at "go"
  refine comp_tupR (cl := _) rfl rfl (by decide) rfl (by decide) ?_
  walk_at "go"
  rename Fr g _ _ _ => F1
  rename News g _ _ _ => N1
  refine ⟨fun _ => true, RelB (PairOf h'), D', ys', relB_stable, rfl, ⟨_, hO', rfl, _, rfl⟩, by have := hT'.length; omega, fun C x s₃ m₃ hx FC => ?_, fun D2 h2 tk2 n2 zs2 hD2 hys2 hP2 hk2 => ?_⟩
  · obtain ⟨u, hu, T, t, a, k, m, t', rfl, e2, _, _, _⟩ := paired_has hT' hx
    refine cassign3 rfl FC e2 (fun h2 tk2 F2 k2 => ctest0 ?_) rfl rfl rfl rfl _
    rw [if_pos rfl]
    walk_at "go"
    exact ⟨rfl, CompStep.of F' (fun b o h1 e => hk' b o (k2 b o h1 e)), [D'], ⟨D', _, rfl, rfl, hO', T, u, t, a, m, t', rfl, e2, rfl⟩, foot_new F2 k2 hD'⟩
  rw [filt] at hP2
  have R2 : Reads h2 (.ref D2) (.list (f.us.map (pairD f.fl))) [D2] := reads_list_at hys2 rfl rfl (by simpa using pairs_readsAll hT' hk2 hP2)
  rw [hPr] at R2
  replace R1 := Reads.keeps (fun b o e => hk2 b o (he9.nil b o e)) R1
  have F2 := Ext.fr (.of_keeps hk2) F1 (List.forall_mem_nil _) List.not_mem_nil
  have N2 := Ext.news (.of_keeps hk2) N1 (fun _ _ => List.not_mem_nil)
  clear F1 N1
  dsimp only
  walk_at "go"
  all_goals (
    rename Obj.data _ = Data.cell (bindC _ _ _ _) => dv0
    replace dv0 : Obj.data _ = Data.cell (some (.ref v.x)) := dv0
    rename Obj.data _ = Data.cell (bindC _ _ _ _) => df0
    replace df0 : Obj.data _ = Data.cell (some (.ref f.x)) := df0
    refine comp_rng (cl := _) (numOf v.us) 13 rfl rfl (by decide) rfl (by decide) (by omega) ?_
    walk_at "go"
    rename IsRange _ _ _ _ _ _ _ _ => hrng
    rename Fr g _ _ _ => F1
    rename News g _ _ _ => N1
    refine ⟨_, _, _, _, rfl, hrng, fun C i t s₃ m₃ q1 q2 FC => ?_, fun D5 h5 tk5 n5 zs5 hD5 hys5 hI5 hk5 => ?_⟩
    · have hv2 := hv.keeps F1.keep
      have hf2 := hf.keeps F1.keep
      have hI2 := hv2.inst
      have hcell := News.get (a := L + 1) N1 (by k_mem)
      refine cassign FC (fun h2 F2 k2 => ctest0 ?_) rfl rfl
      rw [if_pos rfl]
      have X1 := X.keeps F1.keep
      have T1 := T.keeps F1.keep
      walk_at "go"
      have F3 := Ext.fr he' F2 (List.forall_mem_nil _) List.not_mem_nil
      exact ⟨rfl, CompStep.of F3 fun b o h1 e => he'.nil b o (k2 b o h1 e), [], ⟨rfl, i, t, _, rfl, by rfl⟩, by simp⟩
    have F2 := Ext.fr (.of_keeps hk5) F1 (List.forall_mem_nil _) List.not_mem_nil
    have N2 := news_add (m := fun _ => none) (Ext.news (.of_keeps hk5) N1 (fun _ _ => List.not_mem_nil)) hys5 (fr_none F1 hD5) (fr_ne F1 hD5)
    clear F1 N1 hrng
    dsimp only
    walk_at "go"
    refine comp_rng (cl := _) (numOf v.us) 13 rfl rfl (by decide) rfl (by decide) (by omega) ?_
    walk_at "go"
    rename IsRange _ _ _ _ _ _ _ _ => hrng
    rename Fr g _ _ _ => F1
    rename News g _ _ _ => N1
    refine ⟨_, _, _, _, rfl, hrng, fun C i t s₃ m₃ q1 q2 FC => ?_, fun D6 h6 tk6 n6 zs6 hD6 hys6 hI6 hk6 => ?_⟩
    · have hv2 := hv.keeps F1.keep
      have hf2 := hf.keeps F1.keep
      have hI2 := hf2.inst
      have hcell := News.get (a := L + 1 + 1) N1 (by k_mem)
      refine cassign FC (fun h2 F2 k2 => ctest0 ?_) rfl rfl
      rw [if_pos rfl]
      have X1 := X.keeps F1.keep
      have T1 := T.keeps F1.keep
      walk_at "go"
      have F3 := Ext.fr he' F2 (List.forall_mem_nil _) List.not_mem_nil
      exact ⟨rfl, CompStep.of F3 fun b o h1 e => he'.nil b o (k2 b o h1 e), [], ⟨rfl, i, t, _, rfl, by rw [g1]⟩, by simp⟩
    have F2 := Ext.fr (.of_keeps hk6) F1 (List.forall_mem_nil _) List.not_mem_nil
    have N2 := news_add (m := fun _ => none) (Ext.news (.of_keeps hk6) N1 (fun _ _ => List.not_mem_nil)) hys6 (fr_none F1 hD6) (fr_ne F1 hD6)
    clear F1 N1 hrng
    dsimp only
    walk_at "go"
    rename Fr _ _ _ _ => F9
    exact h _ _ (ext_of hg F9))
theorem off25 : True := trivial
end
/-! T7 -/
section
variable {prog : Program} {w : World} {mg mb : Str → Option Value} {dp un : Nat} {fr : Option (List Env)} {gd : Option (List Code)} {E : Value → Shared → Prop} {s : Shared} {hB : Heap} {Q : Value → Shared → Prop}
theorem some_ints {h' : Heap} {P : Addr → Prop} : ∀ {xs ys : List Value}, Paired (fun v y => ∃ foot, RelA (fun _ y => ∃ i t, y = .int i t) h' v y foot ∧ ∀ b ∈ foot, P b) xs ys → ∃ ms, IntsAre ys ms
  | _, _, .nil => ⟨[], .nil⟩
  | _, _, .cons a r => by
    obtain ⟨_, ⟨_, i, t, rfl⟩, _⟩ := a
    obtain ⟨ms, hm⟩ := some_ints r
    exact ⟨i :: ms, .cons i t hm⟩
theorem law_deck_spec {a : Addr} {vs : List Value} {ns : List Int}
    (B : Bed w mg mb hB) (st : hB.StaysIn s.heap) (hr : dp < 870) (hl : s.heap.IsList a vs.toArray) (hv : IntsAre vs ns) (hlen : ns.length ≤ 63)
    (h : ∀ d c h' tk n ys ms t n2, s.heap.get? d = none → s.heap.get? c = none → c ≠ d → h'.get? d = some (listOf #[.ref c, .int 0 t] n) → h'.get? c = some (listOf (List.toArray ys) n2) → IntsAre ys ms → ms.length ≤ 63 → Ext [] s.heap h' → Q (.ref d) { s with heap := h', toks := tk }) :
    wpAny (model prog w) (AT dp un fr gd) (call (.ref 381) [.ref a]) Q E s := by
  have hW : ∀ p ∈ ([] : List (Addr × Obj)), s.heap.get? p.1 = some p.2 ∧ hB.get? p.1 = none := List.forall_mem_nil _
  walk_at "enter"
  replace hl : g.IsList a vs.toArray := hg ▸ hl
  walk_at "go"
  refine comp_list (cl := []) (fun _ => true) (RelA fun x y => ∃ i t, y = .int i t) rfl rfl (by decide) rfl (by decide) relA_stable ?_
  walk_at "go"
  refine slice_list (s := { s with heap := h₁, toks := tk₁ + 1 }) (items := vs.toArray) (hsz := by rw [sizeLine_eq]; simp; have := ints_length hv; omega) F N (hl.at fun o e => F.keep _ o e) .none (.int _ _) ?_
  intro h' F1 N1
  walk_at "go"
  have hsl : IntsAre (slicePick vs.toArray none (some 50) none).toList (ns.take 50) := slice_ints_uptoW hv (by decide)
  have hl50 := ints_length hsl
  rw [List.length_take] at hl50
  refine ⟨_, (slicePick vs.toArray none (some 50) none).toList, rfl, ⟨_, (N1 _ (.head _)).1, rfl, 0, by simp⟩, by omega, fun C x s₃ m₃ hx FC => ?_, fun D1 h1 tk1 n1 ys1 hD1 hys1 hP1 hk1 => ?_⟩
  · obtain ⟨i, t, rfl, hi⟩ := ints_mem hsl x hx
    refine cassign FC (fun h2 F2 k2 => ctest0 ?_) rfl rfl
    rw [if_pos rfl]
    have X1 := X.keeps F1.keep
    have T1 := T.keeps F1.keep
    walk_at "go"
    exact ⟨rfl, ⟨_, _, _, rfl, F2.ns, k2⟩, [], ⟨rfl, _, _, rfl⟩, by simp⟩
  rw [filt] at hP1
  have F2 := Ext.fr (.of_keeps hk1) F1 (List.forall_mem_nil _) List.not_mem_nil
  have N2 := news_add (m := fun _ => none) (Ext.news (.of_keeps hk1) N1 (fun _ _ => List.not_mem_nil)) hys1 (fr_none F1 hD1) (fr_ne F1 hD1)
  clear F1 N1
  dsimp only
  walk_at "go"
  rename Fr _ _ _ _ => F9
  rename News _ _ _ _ => N9
  obtain ⟨ms, hms⟩ := some_ints hP1
  have zd := N9 _ (.head _)
  have zc := N9 _ (.tail _ (.head _))
  have up : ∀ {a : Addr}, g.get? a = none → s.heap.get? a = none := fun {a} e => by rw [hg] at e; exact e
  refine h _ D1 _ _ 0 ys1 ms _ n1 (up zd.2.2) (up zc.2.2) ?_ zd.1 zc.1 hms ?_ (ext_of hg F9)
  · intro e; have e' := (show @Eq Nat _ _ from e); omega
  · have q1 := ints_length hms
    have q2 := hP1.length
    omega
end
/-! U1 -/
section
variable {prog : Program} {w : World} {mg mb : Str → Option Value} {dp un : Nat} {fr : Option (List Env)} {gd : Option (List Code)} {E : Value → Shared → Prop} {s : Shared} {g H : Heap} {L : Addr} {m : Str → Option Value} {rest wl own : List (Addr × Obj)} {Q : Value → Shared → Prop}
/-- the law's frame and ledger: the rows of `rest` are known, the rows of `wl` bear what the heap H holds beyond the base -/
structure At (g : Heap) (L : Addr) (h : Heap) (m : Str → Option Value) (rest wl : List (Addr × Obj)) (H : Heap) : Prop where
  F : Fr g L h m
  N : News g L h (rest ++ wl)
  off : OwnOff wl (rest.map (·.1))
  nt : ∀ p ∈ rest, p.2.cls ≠ .type "tuple"
  sub : ∀ b o, H.get? b = some o → g.get? b = some o ∨ (b, o) ∈ wl
theorem At.stays {h : Heap} (A : At g L h m rest wl H) : ∀ b o, H.get? b = some o → h.get? b = some o := fun b o e => (A.sub b o e).elim (A.F.keep b o) fun hm => (A.N (b, o) (List.mem_append_right _ hm)).1
theorem At.offH {h : Heap} (A : At g L h m rest wl H) {a : Addr} {o : Obj} (e : H.get? a = some o) : a ∉ L :: rest.map (·.1) := by
  intro hm
  rcases A.sub a o e with q | q
  · rcases List.mem_cons.mp hm with rfl | hm
    · exact absurd (Heap.lt_size q) (Nat.not_lt.mpr A.F.above)
    · obtain ⟨p, hp, rfl⟩ := List.mem_map.mp hm
      rw [(A.N p (List.mem_append_left _ hp)).2.2] at q; cases q
  · rcases List.mem_cons.mp hm with rfl | hm
    · exact (A.N _ (List.mem_append_right _ q)).2.1 rfl
    · exact A.off _ q _ hm rfl
theorem At.offN {h : Heap} (A : At g L h m rest wl H) {a : Addr} (e : h.get? a = none) : a ∉ L :: rest.map (·.1) := by
  intro hm
  rcases List.mem_cons.mp hm with rfl | hm
  · obtain ⟨o, _, _, ho, _⟩ := A.F.ns; rw [e] at ho; cases ho
  · obtain ⟨p, hp, rfl⟩ := List.mem_map.mp hm
    rw [(A.N p (List.mem_append_left _ hp)).1] at e; cases e
theorem At.noneH {h : Heap} (A : At g L h m rest wl H) {a : Addr} (e : h.get? a = none) : H.get? a = none := none_keeps A.stays e
theorem At.noneG {h : Heap} (A : At g L h m rest wl H) {a : Addr} (e : h.get? a = none) : g.get? a = none := none_keeps A.F.keep e
theorem At.mv {h h' : Heap} {m' : Str → Option Value} {news : List (Addr × Obj)} (A : At g L h m rest wl H) (F : Fr g L h' m') (N : News g L h' news) (hs : ∀ p ∈ rest ++ wl, p ∈ news) : At g L h' m' rest wl H := ⟨F, fun p hp => N p (hs p hp), A.off, A.nt, A.sub⟩
theorem At.pure {h h' : Heap} (A : At g L h m rest wl H) (e : Ext [] h h') : At g L h' m rest wl H := ⟨e.fr A.F (List.forall_mem_nil _) List.not_mem_nil, e.news A.N (fun _ _ => List.not_mem_nil), A.off, A.nt, A.sub⟩
theorem freeze (g h' : Heap) (X : List Addr) : ∃ wl : List (Addr × Obj), (∀ p ∈ wl, h'.get? p.1 = some p.2 ∧ g.get? p.1 = none ∧ p.1 ∉ X) ∧ ∀ b o, (hideAll h' X).get? b = some o → g.get? b = none → (b, o) ∈ wl := by
  refine ⟨(List.range h'.objs.size).filterMap fun a => if (g.get? a).isNone = true then ((hideAll h' X).get? a).map (fun o => (a, o)) else none, fun p hp => ?_, fun b o e eg => ?_⟩
  · obtain ⟨a, _, hf⟩ := List.mem_filterMap.mp hp
    split at hf
    · rename_i hg
      cases q : (hideAll h' X).get? a with
      | none => rw [q] at hf; cases hf
      | some o =>
        rw [q] at hf
        cases hf
        refine ⟨of_hideAll _ q, by simpa using hg, fun hx => ?_⟩
        rw [hideAll_none _ hx] at q; cases q
    · cases hf
  · refine List.mem_filterMap.mpr ⟨b, List.mem_range.mpr (Heap.lt_size (of_hideAll _ e)), ?_⟩
    rw [if_pos (by simp [eg]), e]; rfl
/-- behind a call that turned the addresses W: the world is what the new heap holds beside the frame and the known rows -/
theorem At.next {h h' : Heap} {W : List Addr} (A : At g L h m rest wl H) (e : Ext W h h') (hW : ∀ a ∈ W, (∃ o, H.get? a = some o) ∧ g.get? a = none) : ∃ wl', At g L h' m rest wl' (hideAll h' (L :: rest.map (·.1))) ∧ Ext W H (hideAll h' (L :: rest.map (·.1))) := by
  have F' : Fr g L h' m := e.fr A.F (fun b hb => (hW b hb).2) fun hb => let ⟨o, ho⟩ := (hW L hb).1; A.offH ho (.head _)
  obtain ⟨wl', h1, h2⟩ := freeze g h' (L :: rest.map (·.1))
  refine ⟨wl', ⟨F', fun p hp => ?_, fun p hp b hb q => (h1 p hp).2.2 (by rw [q]; exact .tail _ hb), A.nt, fun b o q => ?_⟩, fun b o hb q => ?_⟩
  · rcases List.mem_append.mp hp with hp | hp
    · have z := A.N p (List.mem_append_left _ hp)
      refine ⟨e _ _ (fun hw => ?_) z.1, z.2⟩
      obtain ⟨o, ho⟩ := (hW _ hw).1
      exact A.offH ho (.tail _ (List.mem_map_of_mem hp))
    · obtain ⟨z1, z2, z3⟩ := h1 p hp
      exact ⟨z1, fun q => z3 (by rw [q]; exact .head _), z2⟩
  · cases q2 : g.get? b with
    | none => exact .inr (h2 b o q q2)
    | some o' =>
      have := of_hideAll _ q
      rw [F'.keep b o' q2] at this
      cases this; exact .inl rfl
  · exact hideAll_get _ (e b o hb (A.stays b o q)) (A.offH q)
/-- the same, a new object D known by name behind the call -/
theorem At.nextD {h h' : Heap} {W : List Addr} {D : Addr} {oD : Obj} (A : At g L h m rest wl H) (e : Ext W h h') (hW : ∀ a ∈ W, (∃ o, H.get? a = some o) ∧ g.get? a = none) (hD : h.get? D = none) (hO : h'.get? D = some oD) (hc : oD.cls ≠ .type "tuple") :
    ∃ wl', At g L h' m ((D, oD) :: rest) wl' (hideAll h' (L :: D :: rest.map (·.1))) ∧ Ext W H (hideAll h' (L :: D :: rest.map (·.1))) := by
  have F' : Fr g L h' m := e.fr A.F (fun b hb => (hW b hb).2) fun hb => let ⟨o, ho⟩ := (hW L hb).1; A.offH ho (.head _)
  obtain ⟨wl', h1, h2⟩ := freeze g h' (L :: D :: rest.map (·.1))
  have nD : ∀ {b : Addr} {o : Obj}, H.get? b = some o → b ≠ D := fun q e => by rw [e, A.noneH hD] at q; cases q
  refine ⟨wl', ⟨F', fun p hp => ?_, fun p hp b hb q => (h1 p hp).2.2 (by rw [q]; exact .tail _ hb), fun p hp => ?_, fun b o q => ?_⟩, fun b o hb q => ?_⟩
  · rcases List.mem_append.mp hp with hp | hp
    · rcases List.mem_cons.mp hp with rfl | hp
      · exact ⟨hO, fr_ne A.F hD, fr_none A.F hD⟩
      · have z := A.N p (List.mem_append_left _ hp)
        refine ⟨e _ _ (fun hw => ?_) z.1, z.2⟩
        obtain ⟨o, ho⟩ := (hW _ hw).1
        exact A.offH ho (.tail _ (List.mem_map_of_mem hp))
    · obtain ⟨z1, z2, z3⟩ := h1 p hp
      exact ⟨z1, fun q => z3 (by rw [q]; exact .head _), z2⟩
  · rcases List.mem_cons.mp hp with rfl | hp
    · exact hc
    · exact A.nt p hp
  · cases q2 : g.get? b with
    | none => exact .inr (h2 b o q q2)
    | some o' =>
      have := of_hideAll _ q
      rw [F'.keep b o' q2] at this
      cases this; exact .inl rfl
  · refine hideAll_get _ (e b o hb (A.stays b o q)) fun hm => ?_
    rcases List.mem_cons.mp hm with r | hm
    · exact A.offH q (by rw [r]; exact .head _)
    · rcases List.mem_cons.mp hm with r | hm
      · exact nD q r
      · exact A.offH q (.tail _ hm)
theorem At.tup {h : Heap} (A : At g L h m rest wl H) : ∀ a ∈ L :: rest.map (·.1), ∀ k, ¬ FlagsAt h a k := by
  intro a ha k x
  rcases List.mem_cons.mp ha with rfl | ha
  · exact flags_neL A.F x rfl
  · obtain ⟨p, hp, rfl⟩ := List.mem_map.mp ha
    obtain ⟨_, o, n, vs, e1, e2, _⟩ := x
    rw [(A.N p (List.mem_append_left _ hp)).1] at e1; cases e1
    exact A.nt p hp e2
theorem FlagsAt.hide {h : Heap} {X : List Addr} {a : Addr} {k : Nat} (x : FlagsAt h a k) (nt : ∀ a ∈ X, ∀ k, ¬ FlagsAt h a k) : FlagsAt (hideAll h X) a k := x.at fun o e => hideAll_get _ e fun hm => nt a hm k x
theorem LetterAt.hide {h : Heap} {X : List Addr} {l : Lt} (x : LetterAt w h l) (n1 : l.x ∉ X) (n2 : l.dx ∉ X) (nt : ∀ a ∈ X, ∀ k, ¬ FlagsAt h a k) : LetterAt w (hideAll h X) l :=
  ⟨inst_at x.inst (fun _ e => hideAll_get _ e n1) (fun _ e => hideAll_get _ e n2), x.fl.hide nt, x.hh⟩
abbrev four (b : Bx) : List Addr := [b.x, b.dx, b.lb, b.gb]
theorem ViewAt.hide {h : Heap} {X : List Addr} {v : Vw} (x : ViewAt prog w h v) (n : ∀ a ∈ five v, a ∉ X) (nt : ∀ a ∈ X, ∀ k, ¬ FlagsAt h a k) : ViewAt prog w (hideAll h X) v := by
  have y : VAt prog w h (hideAll h X) v := x.v.at fun a ha o e => hideAll_get _ e (n a ha)
  exact ⟨y.inst, y.list, y.ivs, let ⟨kvs, d, f⟩ := y.flags; ⟨kvs, d, f.keep fun a k q => q.hide nt⟩, let ⟨kvs, d, f⟩ := y.mods; ⟨kvs, d, f⟩, y.fdom, y.mdom, y.sorted, y.pos, y.len, y.apart, y.lo⟩
theorem ViewAt.ext {h h' : Heap} {W : List Addr} {v : Vw} (x : ViewAt prog w h v) (mt : ∀ b ∈ W, Mut h b) (e : Ext W h h') (n : ∀ a ∈ five v, a ∉ W) : ViewAt prog w h' v := by
  have y : VAt prog w h h' v := x.v.at fun a ha o q => e a o (n a ha) q
  exact ⟨y.inst, y.list, y.ivs, let ⟨kvs, d, f⟩ := y.flags; ⟨kvs, d, f.keep (flags_ext mt e)⟩, let ⟨kvs, d, f⟩ := y.mods; ⟨kvs, d, f⟩, y.fdom, y.mdom, y.sorted, y.pos, y.len, y.apart, y.lo⟩
theorem BoxAt.has {h : Heap} {b : Bx} (x : BoxAt w h b) : ∀ a ∈ four b, ∃ o, h.get? a = some o := by
  intro a ha
  simp only [four, List.mem_cons, List.not_mem_nil, or_false] at ha
  rcases ha with rfl | rfl | rfl | rfl
  · exact ⟨_, x.inst.at_⟩
  · exact ⟨_, x.inst.dict⟩
  · exact ⟨_, x.list⟩
  · exact ⟨_, x.gone⟩
theorem ViewAt.has {h : Heap} {v : Vw} (x : ViewAt prog w h v) : ∀ a ∈ five v, ∃ o, h.get? a = some o := by
  obtain ⟨kvF, hF1, _⟩ := x.flags
  obtain ⟨kvM, hM1, _⟩ := x.mods
  obtain ⟨oF, hoF, _⟩ := Heap.dictOf_iff.mp hF1
  obtain ⟨oM, hoM, _⟩ := Heap.dictOf_iff.mp hM1
  intro a ha
  simp only [five, List.mem_cons, List.not_mem_nil, or_false] at ha
  rcases ha with rfl | rfl | rfl | rfl | rfl
  · exact ⟨_, x.inst.at_⟩
  · exact ⟨_, x.inst.dict⟩
  · exact ⟨_, x.list⟩
  · exact ⟨_, hoF⟩
  · exact ⟨_, hoM⟩
theorem BoxAt.hide5 {h : Heap} {b : Bx} {v : Vw} (x : BoxAt w h b) (y : ViewAt prog w h v) (hsep : ∀ a ∈ five v, a ∉ four b) (nt5 : ∀ a ∈ five v, ∀ k, ¬ FlagsAt h a k) : BoxAt w (hideAll h (five v)) b := by
  have n4 : ∀ a ∈ four b, a ∉ five v := fun a ha hb => hsep a hb ha
  obtain ⟨kvF, hF1, _⟩ := y.flags
  obtain ⟨kvM, hM1, _⟩ := y.mods
  have mt : ∀ a ∈ [v.dx, v.ul, v.fv, v.mv], Mut h a := by
    intro a ha
    simp only [List.mem_cons, List.not_mem_nil, or_false] at ha
    rcases ha with rfl | rfl | rfl | rfl
    · refine ⟨_, y.inst.dict, ?_⟩
      show (!(("box" : Str) == "uid")) = true
      decide
    · exact mut_list y.list
    · exact mut_dict hF1
    · exact mut_dict hM1
  refine ⟨inst_at x.inst (fun _ e => hideAll_get _ e (n4 _ (by simp))) (fun _ e => hideAll_get _ e (n4 _ (by simp))), hideAll_get _ x.list (n4 _ (by simp)), hideAll_get _ x.gone (n4 _ (by simp)), fun l hl => ?_, x.sorted, x.pos, x.len, x.glen⟩
  have lo := x.lets l hl
  have i1 := lo.inst.at_
  have i2 : h.get? l.dx = some (dictOf (letterEs w l) 5) := lo.inst.dict
  have out : ∀ c ∈ [l.x, l.dx], c ∉ five v := by
    intro c hc hm
    rcases List.mem_cons.mp hm with rfl | hm
    · simp only [List.mem_cons, List.not_mem_nil, or_false] at hc
      rcases hc with e | e
      · rw [← e, y.inst.at_] at i1; injection i1 with i1; injection i1 with i1; injection i1 with i1; exact absurd i1 (by decide)
      · rw [← e, y.inst.at_] at i2; cases i2
    · exact lo.off (mt c hm) (by simp only [List.mem_cons, List.not_mem_nil, or_false] at hc ⊢; rcases hc with q | q <;> simp [q])
  exact lo.hide (out _ (.head _)) (out _ (.tail _ (.head _))) nt5
theorem uids_snoc {ls : List Lt} {l : Lt} : uidsOf (ls ++ [l]) = uidsOf ls ++ [l.uid] := by simp [uidsOf]
theorem card_deed {d c : Addr} {at' many : Int} {t t2 : Tok} {n : Nat} {vs : List Value} {ns : List Int} (Bg : Bed w mg mb g) (A : At g L s.heap m ((d, listOf #[.ref c, .int at' t] n) :: own) wl H) (hc : H.IsList c vs.toArray) (hr : dp < 900) (hv : IntsAre vs ns) (hlen : ns.length ≤ 63) (h0 : 0 ≤ at') (h1 : at' ≤ 1000) (hm : 2 ≤ many) (hm2 : many ≤ 100) (hown : ∀ p ∈ own, p.1 ≠ d)
    (h : ∀ r t' t3 h' tk, 0 ≤ r → r < many → Ext [d] s.heap h' → At g L h' m ((d, listOf #[.ref c, .int (at' + 1) t'] n) :: own) wl H → Q (.int r t3) { s with heap := h', toks := tk }) :
    wpAny (model prog w) (AT dp un fr gd) (call (.ref 388) [.ref d, .int many t2]) Q E s := by
  have zd := A.N _ (.head _)
  obtain ⟨oc, hoc, hoc2⟩ := id hc
  have hcd : c ≠ d := fun e => A.offH hoc (.tail _ (by rw [e]; exact .head _))
  refine card_spec Bg A.F.keep hr zd.1 zd.2.2 (hc.at fun o e => A.stays _ o e) hv hlen h0 h1 hm hm2 hcd fun r t' t3 h' tk r0 r1 he hd' => ?_
  refine h r t' t3 h' tk r0 r1 he ⟨he.fr A.F (by intro b hb; rw [List.mem_singleton.mp hb]; exact zd.2.2) (by rw [List.mem_singleton]; exact fun e => zd.2.1 e.symm), fun p hp => ?_, A.off, ?_, A.sub⟩
  · rcases List.mem_cons.mp hp with rfl | hp
    · exact ⟨hd', zd.2⟩
    · have z := A.N p (.tail _ hp)
      refine ⟨he _ _ ?_ z.1, z.2⟩
      rw [List.mem_singleton]
      rcases List.mem_append.mp hp with hp | hp
      · exact hown p hp
      · exact A.off p hp _ (.head _)
  · intro p hp
    rcases List.mem_cons.mp hp with rfl | hp
    · simp
    · exact A.nt p (.tail _ hp)
end
/-! U2 -/
section
variable {prog : Program} {w : World} {mg mb : Str → Option Value} {dp un : Nat} {fr : Option (List Env)} {gd : Option (List Code)} {E : Value → Shared → Prop} {s : Shared} {g H : Heap} {L : Addr} {m : Str → Option Value} {rest wl own : List (Addr × Obj)} {Q : Value → Shared → Prop}
theorem letter_deed {b : Bx} {u : Int} {tu : Tok} (Bg : Bed w mg mb g) (A : At g L s.heap m rest wl H) (hb : BoxAt w H b) (hr : dp < 890)
    (h1 : ∀ (i : Nat) (l : Lt) h' tk, b.ls[i]? = some l → l.uid = u → At g L h' m rest wl H → Q (.ref l.x) { s with heap := h', toks := tk })
    (h2 : (∀ l ∈ b.ls, l.uid ≠ u) → ∀ h' tk, At g L h' m rest wl H → Q .none { s with heap := h', toks := tk }) :
    wpAny (model prog w) (AT dp un fr gd) (call (.ref 326) [.ref b.x, .int u tu]) Q E s :=
  box_letter_spec Bg A.F.keep hr (hb.keeps A.stays) (fun i l h' tk hi hu he => h1 i l h' tk hi hu (A.pure he)) fun hn h' tk he => h2 hn h' tk (A.pure he)
theorem sorts_deed (Bg : Bed w mg mb g) (A : At g L s.heap m rest wl H) (hr : dp < 890)
    (h : ∀ D h' tk its n, s.heap.get? D = none → h'.get? D = some (listOf its n) → its.size = 4 → (∀ k, k < 4 → ∃ a t t2, its[k]? = some (.ref a) ∧ h'.get? a = some (tupObj (sortVs k t t2)) ∧ s.heap.get? a = none) → At g L h' m rest wl H → Q (.ref D) { s with heap := h', toks := tk }) :
    wpAny (model prog w) (AT dp un fr gd) (call (.ref 395) []) Q E s :=
  law_sorts_spec Bg A.F.keep hr fun D h' tk ⟨e1, its, n, e2, e3, e4⟩ he => h D h' tk its n e1 e2 e3 e4 (A.pure he)
theorem BoxAt.off_mut {h : Heap} {b : Bx} (x : BoxAt w h b) : (∀ c ∈ [b.dx, b.lb], Mut h c) := by
  intro c hc
  simp only [List.mem_cons, List.not_mem_nil, or_false] at hc
  rcases hc with rfl | rfl
  · exact x.mut.2.2
  · exact x.mut.1
theorem add_deed {b : Bx} {a : Addr} {k : Nat} {t t2 : Tok} {oc ins : Value} (Bg : Bed w mg mb g) (A : At g L s.heap m rest wl H) (hb : BoxAt w H b) (hn : ∀ x ∈ four b, g.get? x = none) (hgl : b.gb ≠ b.lb) (hr : dp < 850) (hk : k < 4) (ha : s.heap.get? a = some (tupObj (sortVs k t t2))) (ga : g.get? a = none) (hoc : handedIn oc = true) (hoi : handedIn ins = true) (hl : b.ls.length ≤ 90) (hn1 : 1 ≤ b.nxt)
    (h : ∀ (l : Lt) (b' : Bx) h' tk wl' H', BoxAt w H' b' → four b' = four b → b'.ls = b.ls ++ [l] → b'.gs = b.gs → l.uid = b.nxt → b'.nxt = b.nxt + 1 → Ext [b.dx, b.lb] H H' → At g L h' m rest wl' H' → Q (.ref l.x) { s with heap := h', toks := tk }) :
    wpAny (model prog w) (AT dp un fr gd) (call (.ref 364) [.ref b.x, oc, .ref a, ins]) Q E s := by
  have hbs := hb.keeps A.stays
  refine add_letter_spec Bg A.F.keep hr hbs (hn _ (by simp)) (hn _ (by simp)) (hn _ (by simp)) hk ha ga hoc hoi fun l ln tn tt h' tk hu hms hs hx hdx hl' he hI hlb => ?_
  have hW : ∀ x ∈ [b.dx, b.lb], (∃ o, H.get? x = some o) ∧ g.get? x = none := by
    intro x hx
    simp only [List.mem_cons, List.not_mem_nil, or_false] at hx
    rcases hx with rfl | rfl
    · exact ⟨hb.has _ (by simp), hn _ (by simp)⟩
    · exact ⟨hb.has _ (by simp), hn _ (by simp)⟩
  obtain ⟨wl', A', e'⟩ := A.next he hW
  have nt := A'.mv (m' := m) A'.F A'.N (fun _ hp => hp)
  have ntX : ∀ a ∈ L :: rest.map (·.1), ∀ k, ¬ FlagsAt h' a k := A'.tup
  have offo : ∀ x ∈ four b, x ∉ L :: rest.map (·.1) := fun x hx => let ⟨o, ho⟩ := hb.has x hx; A.offH ho
  have mt := hb.off_mut
  obtain ⟨a1, a2, a3, a4, a5⟩ := hb.apart
  refine h l { b with nxt := b.nxt + 1, top := b.top + 1, ls := b.ls ++ [l], ln := ln, tn := tn, tt := tt } h' tk wl' _ ⟨?_, ?_, ?_, ?_, ?_, ?_, ?_, hb.glen⟩ rfl rfl rfl hu rfl e' A'
  · exact inst_at hI (fun _ e => hideAll_get _ e (offo _ (by simp))) (fun _ e => hideAll_get _ e (offo _ (by simp)))
  · exact hideAll_get _ hlb (offo _ (by simp))
  · exact e' _ _ (by simp only [List.mem_cons, List.not_mem_nil, or_false, not_or]; exact ⟨a4, hgl⟩) hb.gone
  · intro l0 hl0
    rcases List.mem_append.mp hl0 with q | q
    · exact (hb.lets l0 q).ext mt e'
    · rw [List.mem_singleton.mp q]
      exact hl'.hide (A.offN hx) (A.offN hdx) ntX
  · show Sorted (uidsOf (b.ls ++ [l]))
    rw [uids_snoc]
    unfold Sorted
    rw [List.pairwise_append]
    refine ⟨hb.sorted, List.pairwise_singleton _ _, fun x hx y hy => ?_⟩
    rw [List.mem_singleton.mp hy, hu]
    obtain ⟨l0, hl0, rfl⟩ := List.mem_map.mp hx
    exact (hb.pos l0 hl0).2
  · intro l0 hl0
    rcases List.mem_append.mp hl0 with q | q
    · have := hb.pos l0 q
      exact ⟨this.1, by show l0.uid < b.nxt + 1; omega⟩
    · rw [List.mem_singleton.mp q, hu]
      exact ⟨hn1, by show b.nxt < b.nxt + 1; omega⟩
  · show (b.ls ++ [l]).length ≤ 100
    rw [List.length_append]; simp; omega
theorem set_uids {ls : List Lt} {i : Nat} {l0 l : Lt} (h : ls[i]? = some l0) (e : l.uid = l0.uid) : uidsOf (ls.set i l) = uidsOf ls := by
  unfold uidsOf
  rw [List.map_set]
  have hi := (List.getElem?_eq_some_iff.mp h).1
  apply List.ext_getElem?
  intro j
  rw [List.getElem?_set]
  split
  · rename_i q
    subst q
    rw [if_pos (by simpa using hi), List.getElem?_map, h, e]; rfl
  · rfl
theorem set_deed {b : Bx} {a : Addr} {k : Nat} {u : Int} {t t2 tu : Tok} (Bg : Bed w mg mb g) (A : At g L s.heap m rest wl H) (hb : BoxAt w H b) (hn : ∀ x ∈ four b, g.get? x = none) (hgl : b.gb ≠ b.lb) (hr : dp < 850) (hun : un < 8000) (hk : k < 4) (ha : s.heap.get? a = some (tupObj (sortVs k t t2))) (ga : g.get? a = none) (ha0 : H.get? a = none) (hin : ∃ l ∈ b.ls, l.uid = u)
    (h : ∀ (r : Bool) (b' : Bx) h' tk wl' H', BoxAt w H' b' → four b' = four b → uidsOf b'.ls = uidsOf b.ls → b'.gs = b.gs → b'.nxt = b.nxt → Ext [b.dx, b.lb] H H' → At g L h' m rest wl' H' → Q (.bool r) { s with heap := h', toks := tk }) :
    wpAny (model prog w) (AT dp un fr gd) (call (.ref 371) [.ref b.x, .int u tu, .ref a]) Q E s := by
  have hbs := hb.keeps A.stays
  refine set_flags_spec Bg A.F.keep hr hun hbs (hn _ (by simp)) (hn _ (by simp)) (hn _ (by simp)) hk ha ga hin (fun l hl e => ?_) (fun h' tk he => ?_) fun i l0 l ln tt h' tk hi hu0 hu hms hs hx hdx hl' he hI hlb => ?_
  · obtain ⟨_, o, n, vs, e1, _⟩ := (hb.lets l hl).fl
    rw [e, ha0] at e1; cases e1
  · exact h false b h' tk wl H hb rfl rfl rfl rfl .refl (A.pure he)
  have hW : ∀ x ∈ [b.dx, b.lb], (∃ o, H.get? x = some o) ∧ g.get? x = none := by
    intro x hx
    simp only [List.mem_cons, List.not_mem_nil, or_false] at hx
    rcases hx with rfl | rfl
    · exact ⟨hb.has _ (by simp), hn _ (by simp)⟩
    · exact ⟨hb.has _ (by simp), hn _ (by simp)⟩
  obtain ⟨wl', A', e'⟩ := A.next he hW
  have ntX : ∀ a ∈ L :: rest.map (·.1), ∀ k, ¬ FlagsAt h' a k := A'.tup
  have offo : ∀ x ∈ four b, x ∉ L :: rest.map (·.1) := fun x hx => let ⟨o, ho⟩ := hb.has x hx; A.offH ho
  have mt := hb.off_mut
  obtain ⟨a1, a2, a3, a4, a5⟩ := hb.apart
  have hl0 : l0 ∈ b.ls := List.mem_of_getElem? hi
  have hus := set_uids hi (hu.trans hu0.symm)
  refine h true { b with top := b.top + 1, ls := b.ls.set i l, ln := ln, tt := tt } h' tk wl' _ ⟨?_, ?_, ?_, ?_, ?_, ?_, ?_, hb.glen⟩ rfl hus rfl rfl e' A'
  · exact inst_at hI (fun _ e => hideAll_get _ e (offo _ (by simp))) (fun _ e => hideAll_get _ e (offo _ (by simp)))
  · exact hideAll_get _ hlb (offo _ (by simp))
  · exact e' _ _ (by simp only [List.mem_cons, List.not_mem_nil, or_false, not_or]; exact ⟨a4, hgl⟩) hb.gone
  · intro l1 hl1
    rcases List.mem_or_eq_of_mem_set hl1 with q | q
    · exact (hb.lets l1 q).ext mt e'
    · rw [q]
      exact hl'.hide (A.offN hx) (A.offN hdx) ntX
  · show Sorted (uidsOf (b.ls.set i l))
    rw [hus]; exact hb.sorted
  · intro l1 hl1
    rcases List.mem_or_eq_of_mem_set hl1 with q | q
    · exact hb.pos l1 q
    · rw [q, hu, ← hu0]; exact hb.pos l0 hl0
  · show (b.ls.set i l).length ≤ 100
    rw [List.length_set]; exact hb.len
theorem expunge_deed {b : Bx} {a : Addr} {u u2 : Int} {t t2 : Tok} {n : Nat} (Bg : Bed w mg mb g) (A : At g L s.heap m rest wl H) (hb : BoxAt w H b) (hn : ∀ x ∈ four b, g.get? x = none) (hr : dp < 850) (hun : un < 8000) (ha : s.heap.get? a = some (listOf #[.int u t, .int u2 t2] n)) (ga : g.get? a = none) (ha0 : H.get? a = none) (hgl : b.gb ≠ b.lb) (hsum : b.gs.length + b.ls.length ≤ 100)
    (h : ∀ D (b' : Bx) h' tk wl' H' (q : Int → Bool), BoxAt w H' b' → b'.x = b.x → b'.dx = b.dx → b'.gb ≠ b'.lb → (b'.lb = b.lb ∨ s.heap.get? b'.lb = none) → (∀ x ∈ four b', g.get? x = none) → (b'.gb = b.gb ∨ s.heap.get? b'.gb = none) → b'.ls = b.ls.filter (fun l => q l.uid) → b'.gs.length + b'.ls.length ≤ b.gs.length + b.ls.length → b'.nxt = b.nxt → Ext [b.dx] H H' → At g L h' m rest wl' H' → Q (.ref D) { s with heap := h', toks := tk }) :
    wpAny (model prog w) (AT dp un fr gd) (call (.ref 376) [.ref b.x, .ref a]) Q E s := by
  have hbs := hb.keeps A.stays
  have nab : ∀ x ∈ four b, a ≠ x := fun x hx e => by obtain ⟨o, ho⟩ := hb.has x hx; rw [← e, ha0] at ho; cases ho
  refine expunge_spec Bg A.F.keep hr hun hbs (hn _ (by simp)) (hn _ (by simp)) ha ga (nab _ (by simp)) (nab _ (by simp)) (fun hno D h' tk he => ?_) fun D h' tk lb' ln gb' gn gs' tt hlb hgb hne he hI hl' hg' hsz => ?_
  · exact h D b h' tk wl H (fun _ => true) hb rfl rfl hgl (.inl rfl) hn (.inl rfl) (filt b.ls).symm (Nat.le_refl _) rfl .refl (A.pure he)
  have hW : ∀ x ∈ [b.dx], (∃ o, H.get? x = some o) ∧ g.get? x = none := by
    intro x hx
    rw [List.mem_singleton.mp hx]
    exact ⟨hb.has _ (by simp), hn _ (by simp)⟩
  obtain ⟨wl', A', e'⟩ := A.next he hW
  have ntX : ∀ a ∈ L :: rest.map (·.1), ∀ k, ¬ FlagsAt h' a k := A'.tup
  have offo : ∀ x ∈ four b, x ∉ L :: rest.map (·.1) := fun x hx => let ⟨o, ho⟩ := hb.has x hx; A.offH ho
  have mt : ∀ c ∈ [b.dx], Mut H c := fun c hc => by rw [List.mem_singleton.mp hc]; exact hb.mut.2.2
  have hfl : (b.ls.filter fun l => !inW u u2 l.uid).length ≤ b.ls.length := List.length_filter_le _ _
  refine h D { b with top := b.top + 1, ls := b.ls.filter fun l => !inW u u2 l.uid, lb := lb', gb := gb', gs := gs', ln := ln, gn := gn, tt := tt } h' tk wl' _ (fun v => !inW u u2 v) ⟨?_, ?_, ?_, ?_, ?_, ?_, ?_, ?_⟩ rfl rfl (fun e => hne e.symm) (.inr hlb) ?_ (.inr hgb) rfl hsz rfl e' A'
  · exact inst_at hI (fun _ e => hideAll_get _ e (offo _ (by simp))) (fun _ e => hideAll_get _ e (offo _ (by simp)))
  · exact hideAll_get _ hl' (A.offN hlb)
  · exact hideAll_get _ hg' (A.offN hgb)
  · intro l hl
    exact (hb.lets l (List.mem_filter.mp hl).1).ext mt e'
  · show Sorted (uidsOf (b.ls.filter _))
    exact List.Pairwise.sublist (List.Sublist.map _ List.filter_sublist) hb.sorted
  · intro l hl
    exact hb.pos l (List.mem_filter.mp hl).1
  · show (b.ls.filter _).length ≤ 100
    have := hb.len; omega
  · show gs'.length ≤ 1000
    omega
  · intro x hx
    simp only [four, List.mem_cons, List.not_mem_nil, or_false] at hx
    rcases hx with rfl | rfl | rfl | rfl
    · exact hn _ (by simp)
    · exact hn _ (by simp)
    · exact A.noneG hlb
    · exact A.noneG hgb
theorem view_deed {b : Bx} {u va : Bool} (Bg : Bed w mg mb g) (A : At g L s.heap m rest wl H) (hb : BoxAt w H b) (hr : dp < 870)
    (h : ∀ (v : Vw) h' tk wl' H', ViewAt prog w H' v → (∀ a ∈ five v, s.heap.get? a = none) → v.bx = b.x → v.uses = u → v.van = va → v.us = uidsOf b.ls → v.fl = flOf b.ls → v.ms = msOf b.ls → Ext [] H H' → At g L h' m rest wl' H' → Q (.ref v.x) { s with heap := h', toks := tk }) :
    wpAny (model prog w) (AT dp un fr gd) (call (.ref 124) [.ref b.x, .bool false, .bool u, .bool va]) Q E s := by
  refine view_make Bg A.F.keep hr (hb.keeps A.stays) fun v h' tk h5 e1 e2 e3 e4 e5 e6 hv he => ?_
  obtain ⟨wl', A', e'⟩ := A.next he (List.forall_mem_nil _)
  exact h v h' tk wl' _ (hv.hide (fun a ha => A.offN (h5 a ha)) A'.tup) h5 e1 e2 e3 e4 e5 e6 e' A'
theorem like_deed {v f : Vw} {b : Bx} {uses : Bool} (Bg : Bed w mg mb g) (A : At g L s.heap m rest wl H) (hr : dp < 850) (hun : un < 7700) (hv : ViewAt prog w H v) (hf : ViewAt prog w H f) (hb : BoxAt w H b) (hvb : v.bx = b.x) (hfr : Fresh b v) (hus : v.uses = uses)
    (g1 : f.us = v.us) (g2 : ∀ u ∈ v.us, f.fl u = v.fl u) (g3 : uses = true → ∀ u ∈ v.us, f.ms u = v.ms u)
    (h : ∀ h' tk, At g L h' m rest wl H → Q (.bool true) { s with heap := h', toks := tk }) :
    wpAny (model prog w) (AT dp un fr gd) (call (.ref 400) [.ref v.x, .ref f.x, .bool uses]) Q E s :=
  law_like_spec Bg A.F.keep hr hun (hv.keeps A.stays) (hf.keeps A.stays) (hb.keeps A.stays) hvb hfr hus g1 g2 g3 fun h' tk he => h h' tk (A.pure he)
theorem news_deed {v : Vw} {b : Bx} {me : Bool} (Bg : Bed w mg mb g) (A : At g L s.heap m rest wl H) (hr : dp < 780) (hun : un < 7800) (hv : ViewAt prog w H v) (hb : BoxAt w H b) (hvb : v.bx = b.x) (hg5 : ∀ a ∈ five v, g.get? a = none) (hsep : ∀ a ∈ five v, a ∉ four b) (hsum : v.us.length + b.ls.length ≤ 100)
    (h : ∀ D h' tk n ys v' wl' H', ViewAt prog w H' v' → NewsRel b v me v' ys.length → v'.x = v.x → v'.dx = v.dx → v'.fv = v.fv → v'.mv = v.mv → v'.bx = v.bx → v'.uses = v.uses → v'.van = v.van → (v'.ul = v.ul ∨ s.heap.get? v'.ul = none) → Ext [v.dx, v.ul, v.fv, v.mv] H H' → At g L h' m ((D, listOf (List.toArray ys) n) :: rest) wl' H' → Q (.ref D) { s with heap := h', toks := tk }) :
    wpAny (model prog w) (AT dp un fr gd) (call (.ref 197) [.ref v.x, .bool me]) Q E s := by
  have hvs := hv.keeps A.stays
  have hbs := hb.keeps A.stays
  have nt5 : ∀ a ∈ five v, ∀ k, ¬ FlagsAt s.heap a k := by
    obtain ⟨kvF, hF1, _⟩ := hvs.flags
    obtain ⟨kvM, hM1, _⟩ := hvs.mods
    obtain ⟨oF, hoF, dF⟩ := Heap.dictOf_iff.mp hF1
    obtain ⟨oM, hoM, dM⟩ := Heap.dictOf_iff.mp hM1
    have cF : oF.cls = .type "dict" := let ⟨_, _, hc, _⟩ := dF; hc.1
    have cM : oM.cls = .type "dict" := let ⟨_, _, hc, _⟩ := dM; hc.1
    have no : ∀ {a : Addr} {o : Obj} {k : Nat}, s.heap.get? a = some o → o.cls ≠ .type "tuple" → ¬ FlagsAt s.heap a k := fun e hc ⟨_, o', _, _, e1, e2, _⟩ => by
      rw [e] at e1; cases e1; exact hc e2
    intro a ha k
    simp only [five, List.mem_cons, List.not_mem_nil, or_false] at ha
    rcases ha with rfl | rfl | rfl | rfl | rfl
    · exact no hvs.inst.at_ (by simp)
    · exact no (show s.heap.get? v.dx = some (dictOf (viewEs w v) 7) from hvs.inst.dict) (by simp)
    · exact no hvs.list (by simp)
    · exact no hoF (by rw [cF]; simp)
    · exact no hoM (by rw [cM]; simp)
  have k5 : ∀ b o, s.heap.get? b = some o → b ∉ five v → (hideAll s.heap (five v)).get? b = some o := fun b o e n => hideAll_get _ e n
  have st : (hideAll s.heap (five v)).StaysIn s.heap := fun b o e => of_hideAll _ e
  have B2 : Bed w mg mb (hideAll s.heap (five v)) := Bg.keeps fun b o e => k5 b o (A.F.keep b o e) fun hm => by rw [hg5 b hm] at e; cases e
  have hbx : BoxAt w (hideAll s.heap (five v)) b := hbs.hide5 hvs hsep nt5
  have hv2 : VAt prog w (hideAll s.heap (five v)) s.heap v := ⟨hvs.inst, hvs.list, hvs.ivs, let ⟨kvs, d, f⟩ := hvs.flags; ⟨kvs, d, FlagKv.keep f fun a k q => q.hide nt5⟩, let ⟨kvs, d, f⟩ := hvs.mods; ⟨kvs, d, f⟩, hvs.fdom, hvs.mdom, hvs.sorted, hvs.pos, hvs.len, hvs.apart, hvs.lo⟩
  have hnone : ∀ a ∈ five v, (hideAll s.heap (five v)).get? a = none := fun a ha => hideAll_none _ ha
  have fin : ∀ D h' tk n ys v', s.heap.get? D = none → D ≠ v'.ul → h'.get? D = some (listOf (List.toArray ys) n) → NewsRel b v me v' ys.length → v'.x = v.x → v'.dx = v.dx → v'.fv = v.fv → v'.mv = v.mv → v'.bx = v.bx → v'.uses = v.uses → v'.van = v.van → (v'.ul = v.ul ∨ s.heap.get? v'.ul = none) → Ext [v.dx, v.ul, v.fv, v.mv] s.heap h' → VAt prog w (hideAll s.heap (five v)) h' v' → Q (.ref D) { s with heap := h', toks := tk } := by
    intro D h' tk n ys v' hD hDu hO rel e1 e2 e3 e4 e5 e6 e7 hul he V'
    have hW : ∀ a ∈ [v.dx, v.ul, v.fv, v.mv], (∃ o, H.get? a = some o) ∧ g.get? a = none := fun a ha => ⟨hv.has a (.tail _ ha), hg5 a (.tail _ ha)⟩
    obtain ⟨wl', A', e'⟩ := A.nextD he hW hD hO (by simp)
    have stB : (hideAll s.heap (five v)).StaysIn h' := fun b o e => he b o (fun hm => by rw [hnone b (.tail _ hm)] at e; cases e) (st b o e)
    have V2 := V'.view stB
    have nD : ∀ a ∈ five v, a ≠ D := fun a ha q => by obtain ⟨o, ho⟩ := hv.has a ha; rw [q, A.noneH hD] at ho; cases ho
    have off5 : ∀ a ∈ five v, a ∉ L :: D :: rest.map (·.1) := fun a ha hm => by
      obtain ⟨o, ho⟩ := hv.has a ha
      rcases List.mem_cons.mp hm with r | hm
      · exact A.offH ho (by rw [r]; exact .head _)
      · rcases List.mem_cons.mp hm with r | hm
        · exact nD a ha r
        · exact A.offH ho (.tail _ hm)
    refine h D h' tk n ys v' wl' _ (V2.hide ?_ A'.tup) rel e1 e2 e3 e4 e5 e6 e7 hul e' A'
    intro a ha
    simp only [five, List.mem_cons, List.not_mem_nil, or_false] at ha
    rcases ha with q | q | q | q | q
    · rw [q, e1]; exact off5 _ (by simp)
    · rw [q, e2]; exact off5 _ (by simp)
    · rcases hul with r | r
      · rw [q, r]; exact off5 _ (by simp)
      · intro hm
        have := A.offN r
        rw [← q] at this
        rcases List.mem_cons.mp hm with r2 | hm
        · exact this (by rw [r2]; exact .head _)
        · rcases List.mem_cons.mp hm with r2 | hm
          · exact hDu (r2.symm.trans q)
          · exact this (.tail _ hm)
    · rw [q, e3]; exact off5 _ (by simp)
    · rw [q, e4]; exact off5 _ (by simp)
  cases me with
  | true => exact news_true B2 st hr hun (fun _ _ e => e) hbx hvb hv2 hnone hsum fin
  | false => exact news_false B2 st hr hun (fun _ _ e => e) hbx hvb hv2 hnone hsum fin
end
/-! U3 -/
section
variable {prog : Program} {w : World} {mg mb : Str → Option Value} {dp un : Nat} {fr : Option (List Env)} {gd : Option (List Code)} {E : Value → Shared → Prop} {s : Shared} {g H : Heap} {L : Addr} {m : Str → Option Value} {rest wl own : List (Addr × Obj)} {Q : Value → Shared → Prop}
theorem deck_deed {a : Addr} {vs : List Value} {ns : List Int} (Bg : Bed w mg mb g) (A : At g L s.heap m [] wl H) (hr : dp < 870) (hl : s.heap.IsList a vs.toArray) (hv : IntsAre vs ns) (hlen : ns.length ≤ 63)
    (h : ∀ d c h' tk n ys ms t wl' H', H'.IsList c (List.toArray ys) → IntsAre ys ms → ms.length ≤ 63 → At g L h' m [(d, listOf #[.ref c, .int 0 t] n)] wl' H' → Q (.ref d) { s with heap := h', toks := tk }) :
    wpAny (model prog w) (AT dp un fr gd) (call (.ref 381) [.ref a]) Q E s := by
  refine law_deck_spec Bg A.F.keep hr hl hv hlen fun d c h' tk n ys ms t n2 hd hc hcd hOd hOc hi hlm he => ?_
  obtain ⟨wl', A', e'⟩ := A.nextD he (List.forall_mem_nil _) hd hOd (by simp)
  refine h d c h' tk n ys ms t wl' _ ⟨_, hideAll_get _ hOc ?_, rfl, _, rfl⟩ hi hlm A'
  have := A.offN hc
  simp only [List.map_nil, List.mem_cons, List.not_mem_nil, or_false] at this ⊢
  exact fun q => q.elim this hcd
theorem box_deed {t1 t : Tok} (Bg : Bed w mg mb g) (A : At g L s.heap m rest wl H) (hr : dp < 870)
    (h : ∀ (b : Bx) h' tk wl' H', BoxAt w H' b → (∀ x ∈ four b, s.heap.get? x = none) → b.gb ≠ b.lb → b.nxt = 1 → b.ls = [] → b.gs = [] → Ext [] H H' → At g L h' m rest wl' H' → Q (.ref b.x) { s with heap := h', toks := tk }) :
    wpAny (model prog w) (AT dp un fr gd) (call (.ref 339) [.str "b" t1, .int 2 t]) Q E s := by
  refine box_make Bg A.F.keep hr fun b h' tk n1 n2 n3 n4 hne e1 _ e2 e3 hb he => ?_
  obtain ⟨wl', A', e'⟩ := A.next he (List.forall_mem_nil _)
  have hn : ∀ x ∈ four b, s.heap.get? x = none := by
    intro x hx
    simp only [four, List.mem_cons, List.not_mem_nil, or_false] at hx
    rcases hx with rfl | rfl | rfl | rfl <;> assumption
  have ho : ∀ x ∈ four b, x ∉ L :: rest.map (·.1) := fun x hx => A.offN (hn x hx)
  refine h b h' tk wl' _ ⟨inst_at hb.inst (fun _ e => hideAll_get _ e (ho _ (by simp))) (fun _ e => hideAll_get _ e (ho _ (by simp))), hideAll_get _ hb.list (ho _ (by simp)), hideAll_get _ hb.gone (ho _ (by simp)), fun l hl => ?_, hb.sorted, hb.pos, hb.len, hb.glen⟩ hn hne.symm e1 e2 e3 e' A'
  rw [e2] at hl; cases hl
theorem range_inv2 {A : Around} {h₀ : Heap} {env : Env} {x : Str} {body : List Stmt} {Q : Flow → Shared → Prop} {r : Addr} {n : Nat} {t u v : Tok} {m₀ : Str → Option Value} {news : List (Addr × Obj)} (J : Nat → (Str → Option Value) → List (Addr × Obj) → Prop)
    (hh : A.handled = none) (hr : IsRange s.heap r 0 (n : Int) 1 t u v) (hn : n ≤ 1000) (F : Fr h₀ env.locals s.heap m₀) (N : News h₀ env.locals s.heap news) (hj : J 0 m₀ news)
    (turn : ∀ i t m₁ nx h tk own, i < n → OwnOff own (nx.map (·.1)) → (∀ p ∈ own, p.2.cls ≠ .type "tuple") → J i m₁ nx → Fr h₀ env.locals h (fun y => if y = x then some (.int (i : Nat) t) else m₁ y) → News h₀ env.locals h (nx ++ own) →
      wpAny (model prog w) A (execs body env) (InvPostG h₀ env.locals (J (i + 1)) own { s with heap := h, toks := tk } Q) E { s with heap := h, toks := tk })
    (done : ∀ m₁ nx h tk, J n m₁ nx → Fr h₀ env.locals h m₁ → News h₀ env.locals h nx → Q .next { s with heap := h, toks := tk }) :
    wpAny (model prog w) A (pyIter (.ref r)) (fun it s₂ => LoopAtV prog w A h₀ env x body Q E it s₂) E s := by
  have hsz : Builtin.Range.rangeSize 0 (n : Int) 1 = n := by
    unfold Builtin.Range.rangeSize
    rw [if_pos (by decide)]
    split <;> omega
  refine wpAny_pyIter_range hr (by
    unfold Builtin.Range.small Builtin.Range.rangeFitsLong
    rw [hsz, if_pos (by decide)]
    simp only [Bool.and_eq_true, Bool.or_eq_true, decide_eq_true_eq, beq_iff_eq]
    refine ⟨⟨⟨⟨⟨?_, ?_⟩, ⟨?_, ?_⟩⟩, ⟨?_, ?_⟩⟩, ⟨?_, ?_⟩⟩, .inr ⟨?_, ?_⟩⟩ <;> omega) ?_
  have W := Walks.range (prog := prog) (w := w) hh s.heap.objs.size 0 1 n
  have hLI : env.locals ∉ [s.heap.objs.size] := fun hm => absurd F.ns.lt ((List.mem_singleton.mp hm) ▸ Nat.lt_irrefl _)
  have hI0 : ∀ b ∈ [s.heap.objs.size], h₀.get? b = none := fun b hb => by rw [List.mem_singleton.mp hb]; exact next_is_new F
  have hnI : ∀ p ∈ news, p.1 ∉ [s.heap.objs.size] := fun p hp hI => absurd (Heap.lt_size (N p hp).1) ((List.mem_singleton.mp hI) ▸ Nat.lt_irrefl _)
  refine ⟨s.heap.objs.size, [s.heap.objs.size], [s.heap.objs.size], n, _, _, m₀, news, J, rfl, W, hLI, hI0, hnI, ?_, F.push _, (fun p hp => ⟨Heap.get?_push_of_some _ (N p hp).1, (N p hp).2⟩), hj, ?_, ?_⟩
  · rw [hsz]
    exact Heap.get?_push_size _ rfl
  · rintro i x' m₁ nx s₁ own' ⟨h', tk', rfl⟩ hin ⟨t', rfl⟩ hJ hoff hown hown2 hmem hst' F₁ N₁
    have hsep : OwnOff own' (nx.map (·.1)) := by
      intro p hp b hb e
      obtain ⟨q, hq, rfl⟩ := List.mem_map.mp hb
      exact hoff q hq (e ▸ hown p hp)
    have hcl : ∀ p ∈ own', p.2.cls ≠ .type "tuple" := fun p hp hc => by
      have h1 := (N₁ p (List.mem_append_left _ hp)).1
      have h2 := hown p hp
      rw [List.mem_singleton] at h2
      obtain ⟨o, ho, hcc⟩ : ∃ o, h'.get? s.heap.objs.size = some o ∧ o.cls = .type "range_iterator" := ⟨_, hst', rfl⟩
      rw [h2, ho] at h1; cases h1
      rw [hcc] at hc; exact absurd hc (by simp)
    have e0 : (0 : Int) + (i : Nat) * 1 = (i : Nat) := by omega
    rw [e0] at F₁
    have N₂ : News h₀ env.locals h' (nx ++ own') := fun p hp => N₁ p ((List.mem_append.mp hp).elim (fun h => List.mem_append.mpr (.inr h)) fun h => List.mem_append.mpr (.inl h))
    refine wpAny_mono (turn i t' m₁ nx h' tk' own' hin hsep hcl hJ F₁ N₂) (fun f s₂ p => ?_) fun _ _ e => e
    have fin : InvEndG h₀ env.locals (J (i + 1)) own' { s with heap := h', toks := tk' } s₂ → LoopStepU h₀ env.locals [s.heap.objs.size] own' (J (i + 1)) { s with heap := h', toks := tk' } .next s₂ := by
      rintro ⟨h2, tk2, m2, news2, nx2, e, F2, N2, hn2, ho2, ha2, hm2⟩
      refine ⟨rfl, h2, tk2, m2, nx2, e, F2, fun p hp => N2 p ((List.mem_append.mp hp).elim (ho2 p) (hn2 p)), fun p hp hq => ?_, hm2⟩
      have hIo := hmem _ (.head _) (hI0 _ (.head _)) _ hst'
      exact ha2 _ hIo p.1 (List.mem_map.mpr ⟨p, hp, rfl⟩) (List.mem_singleton.mp hq).symm
    cases f with
    | ret v => exact .ret p
    | brk => exact .brk p
    | next => exact .next (fin p)
    | cont => exact .cont (fin p)
  · rintro h' tk m' news' F' N' _ hJ
    exact done m' news' h' tk hJ F' N'
end
/-! U5 -/
section
theorem sorted_same : ∀ {a b : List Int}, Sorted a → Sorted b → (∀ x, x ∈ a ↔ x ∈ b) → a = b
  | [], [], _, _, _ => rfl
  | [], y :: b, _, _, h => absurd ((h y).mpr (.head _)) List.not_mem_nil
  | x :: a, [], _, _, h => absurd ((h x).mp (.head _)) List.not_mem_nil
  | x :: a, y :: b, ha, hb, h => by
    unfold Sorted at ha hb
    rw [List.pairwise_cons] at ha hb
    have e : x = y := by
      rcases List.mem_cons.mp ((h x).mp (.head _)) with e | e
      · exact e
      · rcases List.mem_cons.mp ((h y).mpr (.head _)) with e2 | e2
        · exact e2.symm
        · have := ha.1 y e2; have := hb.1 x e; omega
    subst e
    refine congrArg (x :: ·) (sorted_same ha.2 hb.2 fun z => ⟨fun hz => ?_, fun hz => ?_⟩)
    · rcases List.mem_cons.mp ((h z).mp (.tail _ hz)) with e | e
      · have := ha.1 z hz; omega
      · exact e
    · rcases List.mem_cons.mp ((h z).mpr (.tail _ hz)) with e | e
      · have := hb.1 z hz; omega
      · exact e
theorem has_uid {ls : List Lt} {u : Int} : (uidsOf ls).contains u = true ↔ ∃ l ∈ ls, l.uid = u := by
  simp [uidsOf]
/-- each letter of the box is known to the view or comes behind all that the view knows -/
def Behind (b : Bx) (v : Vw) : Prop := ∀ l ∈ b.ls, l.uid ∈ v.us ∨ ∀ u ∈ v.us, u < l.uid
theorem last_lt {us : List Int} {z : Int} (h0 : 0 < z) (h : ∀ u ∈ us, u < z) : us.getLast?.getD 0 < z := by
  cases e : us.getLast? with
  | none => simpa using h0
  | some x => exact h x (List.mem_of_getLast? e)
theorem filter_both (c : Int → Bool) : ∀ us : List Int, (us.filter c).length + (us.filter fun u => !c u).length = us.length
  | [] => rfl
  | u :: r => by
    have := filter_both c r
    cases h : c u <;> simp [h] <;> omega
theorem not_some {α : Type} {o : Option α} (h : ¬ o.isSome = true) : o = none := by cases o <;> simp_all
/-- what one call of news makes, told of a letter of the box -/
theorem news_letter {b : Bx} {v v' : Vw} {me : Bool} {n : Nat} (hs : Sorted (uidsOf b.ls)) (hp : ∀ l ∈ b.ls, 1 ≤ l.uid) (hd : ∀ u, (v.fl u).isSome = true ↔ u ∈ v.us) (hm : ∀ u, (v.ms u).isSome = true ↔ u ∈ v.us) (hb : Behind b v) (r : NewsRel b v me v' n) :
    (∀ l ∈ b.ls, l.uid ∈ v'.us ∧ v'.fl l.uid = some l.srt ∧ (v.uses = true → v'.ms l.uid = some l.ms)) ∧ (me = true → ∀ u ∈ v'.us, ∃ l ∈ b.ls, l.uid = u) ∧
      (me = true → n ≤ v.us.length + (if ∀ l ∈ b.ls, l.uid ∈ v.us then 0 else 1)) := by
  obtain ⟨us, fl1, fl, ms1, ms, ⟨t1, t2, t3⟩, hus, hfl, hms, e1, ⟨g1, g2⟩, hk⟩ := r
  have memb : ∀ l ∈ b.ls, (uidsOf b.ls).contains l.uid = true := fun l hl => mem_uids hl
  have hfl' : ∀ l ∈ b.ls, fl l.uid = fl1 l.uid := fun l hl => by rw [hfl, if_pos (.inr (memb l hl))]
  have hms' : ∀ l ∈ b.ls, ms l.uid = ms1 l.uid := fun l hl => by rw [hms, if_pos (.inr (memb l hl))]
  have husv : ∀ u ∈ us, u ∈ v.us := fun u hu => by
    rw [hus] at hu
    split at hu
    · exact (List.mem_filter.mp hu).1
    · exact hu
  have hin : ∀ l ∈ b.ls, l.uid ∈ v.us → l.uid ∈ us := fun l hl h => by
    rw [hus]
    split
    · exact List.mem_filter.mpr ⟨h, memb l hl⟩
    · exact h
  have fnd : ∀ l ∈ b.ls, flOf b.ls l.uid = some l.srt := fun l hl => flOf_found hs hl
  have fndm : ∀ l ∈ b.ls, msOf b.ls l.uid = some l.ms := fun l hl => flOf_found hs hl
  have nw : ∀ l ∈ b.ls, isNew { v with us := us, fl := fl } l.uid = decide (l.uid ∉ v.us) := fun l hl => by
    unfold isNew
    dsimp only
    rw [hfl' l hl, t1]
    by_cases h : l.uid ∈ v.us
    · rw [if_pos h, fnd l hl]
      simp [h]
    · rw [if_neg h, not_some fun q => h ((hd _).mp q)]
      have hz := hp l hl
      rcases hb l hl with q | q
      · exact absurd q h
      · have := last_lt (us := us) (z := l.uid) (by omega) fun u hu => q u (husv u hu)
        simp [h, this]
  have hN : (b.ls.filter fun l => isNew { v with us := us, fl := fl } l.uid) = b.ls.filter fun l => decide (l.uid ∉ v.us) := List.filter_congr nw
  rw [hN] at e1 g1 g2 hk
  have hsN : Sorted (uidsOf (b.ls.filter fun l => decide (l.uid ∉ v.us))) := List.Pairwise.sublist (List.Sublist.map _ List.filter_sublist) hs
  refine ⟨fun l hl => ?_, fun hme u hu => ?_, fun hme => ?_⟩
  · by_cases h : l.uid ∈ v.us
    · have miss : ∀ l' ∈ (b.ls.filter fun l => decide (l.uid ∉ v.us)), l'.uid ≠ l.uid := fun l' hl' e => by
        have := (List.mem_filter.mp hl').2
        simp only [decide_eq_true_eq] at this
        exact this (e ▸ h)
      refine ⟨by rw [e1]; exact List.mem_append_left _ (hin l hl h), ?_, fun hu => ?_⟩
      · have q : flOf (b.ls.filter fun l => decide (l.uid ∉ v.us)) l.uid = none := flOf_miss miss
        rw [g1, q]
        show fl l.uid = _
        rw [hfl' l hl, t1, if_pos h, fnd l hl]; rfl
      · have q : msOf (b.ls.filter fun l => decide (l.uid ∉ v.us)) l.uid = none := flOf_miss miss
        rw [g2, q]
        show ms l.uid = _
        rw [hms' l hl, t3 hu, if_pos h, fndm l hl]; rfl
    · have hl' : l ∈ b.ls.filter fun l => decide (l.uid ∉ v.us) := List.mem_filter.mpr ⟨hl, by simpa using h⟩
      refine ⟨by rw [e1]; exact List.mem_append_right _ (List.mem_map_of_mem hl'), ?_, fun hu => ?_⟩
      · have q : flOf (b.ls.filter fun l => decide (l.uid ∉ v.us)) l.uid = some l.srt := flOf_found hsN hl'
        rw [g1, q]; rfl
      · have q : msOf (b.ls.filter fun l => decide (l.uid ∉ v.us)) l.uid = some l.ms := flOf_found hsN hl'
        rw [g2, q]; rfl
  · rw [e1] at hu
    rcases List.mem_append.mp hu with q | q
    · rw [hus, if_pos hme] at q
      exact has_uid.mp (List.mem_filter.mp q).2
    · obtain ⟨l, hl, e⟩ := List.mem_map.mp q
      exact ⟨l, (List.mem_filter.mp hl).1, e⟩
  · rw [if_pos hme] at hk
    have hsum : (v.us.filter fun u => (uidsOf b.ls).contains u).length + (v.us.filter fun u => !(uidsOf b.ls).contains u).length = v.us.length := by
      exact filter_both _ _
    have hle : (if (b.ls.filter fun l => decide (l.uid ∉ v.us)) = [] then 0 else 1) ≤ (if ∀ l ∈ b.ls, l.uid ∈ v.us then 0 else 1) := by
      by_cases q : ∀ l ∈ b.ls, l.uid ∈ v.us
      · rw [if_pos q, if_pos]
        · exact Nat.le_refl _
        · rw [List.filter_eq_nil_iff]
          intro l hl
          simpa using q l hl
      · rw [if_neg q]
        split <;> omega
    omega
theorem news_fresh {b : Bx} {v v' : Vw} {n : Nat} (hs : Sorted (uidsOf b.ls)) (hp : ∀ l ∈ b.ls, 1 ≤ l.uid) (hd : ∀ u, (v.fl u).isSome = true ↔ u ∈ v.us) (hm : ∀ u, (v.ms u).isSome = true ↔ u ∈ v.us) (hb : Behind b v) (hs' : Sorted v'.us) (hu : v'.uses = v.uses) (r : NewsRel b v true v' n) :
    Fresh b v' := by
  obtain ⟨h1, h2, _⟩ := news_letter hs hp hd hm hb r
  refine ⟨sorted_same hs' hs fun x => ⟨fun hx => ?_, fun hx => ?_⟩, fun l hl => (h1 l hl).2.1, fun q l hl => (h1 l hl).2.2 (hu ▸ q)⟩
  · obtain ⟨l, hl, e⟩ := h2 rfl x hx
    exact e ▸ List.mem_map_of_mem hl
  · obtain ⟨l, hl, e⟩ := List.mem_map.mp hx
    exact e ▸ (h1 l hl).1
/-- a view of which the box's letters are all known is like one that is begun now -/
theorem fresh_like {b : Bx} {v f : Vw} (hs : Sorted (uidsOf b.ls)) (hf : Fresh b v) (e1 : f.us = uidsOf b.ls) (e2 : f.fl = flOf b.ls) (e3 : f.ms = msOf b.ls) :
    f.us = v.us ∧ (∀ u ∈ v.us, f.fl u = v.fl u) ∧ (v.uses = true → ∀ u ∈ v.us, f.ms u = v.ms u) := by
  obtain ⟨a1, a2, a3⟩ := hf
  refine ⟨e1.trans a1.symm, fun u hu => ?_, fun q u hu => ?_⟩
  · rw [a1] at hu
    obtain ⟨l, hl, rfl⟩ := List.mem_map.mp hu
    rw [a2 l hl, e2]
    exact flOf_found hs hl
  · rw [a1] at hu
    obtain ⟨l, hl, rfl⟩ := List.mem_map.mp hu
    rw [a3 q l hl, e3]
    exact flOf_found hs hl
theorem mem_upTo {k : Nat} {u : Int} : u ∈ upTo k ↔ 1 ≤ u ∧ u ≤ k := by
  simp only [upTo, List.mem_map, List.mem_range]
  constructor
  · rintro ⟨i, hi, rfl⟩; omega
  · rintro ⟨h1, h2⟩; exact ⟨(u - 1).toNat, by omega, by omega⟩
theorem behind_upTo {b : Bx} {v : Vw} {k : Nat} (h : v.us = upTo k) (hp : ∀ l ∈ b.ls, 1 ≤ l.uid) : Behind b v := fun l hl => by
  rw [h, mem_upTo]
  by_cases q : l.uid ≤ k
  · exact .inl ⟨hp l hl, q⟩
  · refine .inr fun u hu => ?_
    rw [mem_upTo] at hu; omega
end
/-! U6 -/
section
variable {prog : Program} {w : World} {mg mb : Str → Option Value} {dp un : Nat} {fr : Option (List Env)} {gd : Option (List Code)} {E : Value → Shared → Prop} {s : Shared} {g H : Heap} {L : Addr} {m : Str → Option Value} {rest wl own : List (Addr × Obj)} {Q : Value → Shared → Prop}
abbrev turned4 (v : Vw) : List Addr := [v.dx, v.ul, v.fv, v.mv]
theorem ViewAt.muts {h : Heap} {v : Vw} (y : ViewAt prog w h v) : ∀ a ∈ turned4 v, Mut h a := by
  obtain ⟨kvF, hF1, _⟩ := y.flags
  obtain ⟨kvM, hM1, _⟩ := y.mods
  intro a ha
  simp only [turned4, List.mem_cons, List.not_mem_nil, or_false] at ha
  rcases ha with rfl | rfl | rfl | rfl
  · refine ⟨_, y.inst.dict, ?_⟩
    show (!(("box" : Str) == "uid")) = true
    decide
  · exact mut_list y.list
  · exact mut_dict hF1
  · exact mut_dict hM1
theorem four_off {v : Vw} {b : Bx} (h : ∀ a ∈ five v, a ∉ four b) : ∀ a ∈ four b, a ∉ turned4 v := fun a ha hm => h a (.tail _ hm) ha
theorem five_off {v u : Vw} (h : ∀ a ∈ five u, a ∉ five v) : ∀ a ∈ five u, a ∉ turned4 v := fun a ha hm => h a ha (.tail _ hm)
theorem five_off' {v u : Vw} (h : ∀ a ∈ five u, a ∉ five v) : ∀ a ∈ five v, a ∉ turned4 u := fun a ha hm => h a (.tail _ hm) ha
/-- a view behind news: its objects -/
theorem five_next {v v' : Vw} {P : Addr → Prop} (e1 : v'.x = v.x) (e2 : v'.dx = v.dx) (e3 : v'.fv = v.fv) (e4 : v'.mv = v.mv) (hul : v'.ul = v.ul ∨ P v'.ul) (h : ∀ a ∈ five v, P a) : ∀ a ∈ five v', P a := by
  intro a ha
  simp only [five, List.mem_cons, List.not_mem_nil, or_false] at ha
  rcases ha with rfl | rfl | rfl | rfl | rfl
  · rw [e1]; exact h _ (by simp)
  · rw [e2]; exact h _ (by simp)
  · rcases hul with q | q
    · rw [q]; exact h _ (by simp)
    · exact q
  · rw [e3]; exact h _ (by simp)
  · rw [e4]; exact h _ (by simp)
theorem news_len {b : Bx} {v v' : Vw} {me : Bool} {n : Nat} (r : NewsRel b v me v' n) : v'.us.length ≤ v.us.length + b.ls.length := by
  obtain ⟨us, fl1, fl, ms1, ms, _, hus, _, _, e1, _⟩ := r
  rw [e1, List.length_append, uids_len]
  have h1 : us.length ≤ v.us.length := by
    rw [hus]
    split
    · exact List.length_filter_le _ _
    · exact Nat.le_refl _
  have h2 : (b.ls.filter fun l => isNew { v with us := us, fl := fl } l.uid).length ≤ b.ls.length := List.length_filter_le _ _
  omega
theorem like_at {v f : Vw} {b : Bx} {uses : Bool} {x fx : Addr} (hx : x = v.x) (hfx : fx = f.x) (Bg : Bed w mg mb g) (A : At g L s.heap m rest wl H) (hr : dp < 850) (hun : un < 7700) (hv : ViewAt prog w H v) (hf : ViewAt prog w H f) (hb : BoxAt w H b) (hvb : v.bx = b.x) (hfr : Fresh b v) (hus : v.uses = uses)
    (e1 : f.us = uidsOf b.ls) (e2 : f.fl = flOf b.ls) (e3 : f.ms = msOf b.ls)
    (h : ∀ h' tk, At g L h' m rest wl H → Q (.bool true) { s with heap := h', toks := tk }) :
    wpAny (model prog w) (AT dp un fr gd) (call (.ref 400) [.ref x, .ref fx, .bool uses]) Q E s := by
  subst hx hfx
  obtain ⟨g1, g2, g3⟩ := fresh_like hb.sorted hfr e1 e2 e3
  exact like_deed Bg A hr hun hv hf hb hvb hfr hus g1 g2 (fun q => g3 (hus.trans q)) h
theorem news_at {v : Vw} {b : Bx} {me : Bool} {x : Addr} (hx : x = v.x) (Bg : Bed w mg mb g) (A : At g L s.heap m rest wl H) (hr : dp < 780) (hun : un < 7800) (hv : ViewAt prog w H v) (hb : BoxAt w H b) (hvb : v.bx = b.x) (hg5 : ∀ a ∈ five v, g.get? a = none) (hsep : ∀ a ∈ five v, a ∉ four b) (hsum : v.us.length + b.ls.length ≤ 100)
    (h : ∀ D h' tk n ys v' wl' H', ViewAt prog w H' v' → NewsRel b v me v' ys.length → v'.x = v.x → v'.bx = v.bx → v'.uses = v.uses → (∀ P : Addr → Prop, (s.heap.get? v'.ul = none → P v'.ul) → (∀ a ∈ five v, P a) → ∀ a ∈ five v', P a) → Ext (turned4 v) H H' → At g L h' m ((D, listOf (List.toArray ys) n) :: rest) wl' H' → Q (.ref D) { s with heap := h', toks := tk }) :
    wpAny (model prog w) (AT dp un fr gd) (call (.ref 197) [.ref x, .bool me]) Q E s := by
  subst hx
  refine news_deed Bg A hr hun hv hb hvb hg5 hsep hsum fun D h' tk n ys v' wl' H' hv' rel e1 e2 e3 e4 e5 e6 _ hul e A' => ?_
  exact h D h' tk n ys v' wl' H' hv' rel e1 e5 e6 (fun P hP h5 => five_next e1 e2 e3 e4 (hul.imp id hP) h5) e A'
/-- how many answers there were -/
theorem news_count {b : Bx} {v v' : Vw} {k n : Nat} {came : Int} (hs : Sorted (uidsOf b.ls)) (hp : ∀ l ∈ b.ls, 1 ≤ l.uid ∧ l.uid < b.nxt) (hd : ∀ u, (v.fl u).isSome = true ↔ u ∈ v.us) (hm : ∀ u, (v.ms u).isSome = true ↔ u ∈ v.us) (hv : v.us = upTo k) (hnx : b.nxt = (k : Int) + 1 + came) (r : NewsRel b v true v' n) :
    n ≤ k + (if 0 < came then 1 else 0) := by
  have hk := (news_letter hs (fun l hl => (hp l hl).1) hd hm (behind_upTo hv fun l hl => (hp l hl).1) r).2.2 rfl
  rw [hv, upTo_len] at hk
  refine Nat.le_trans hk (Nat.add_le_add_left ?_ _)
  by_cases q : 0 < came
  · rw [if_pos q]; split <;> omega
  · rw [if_neg q, if_pos]
    · exact Nat.le_refl _
    · intro l hl
      have := hp l hl
      rw [mem_upTo]; omega
end
/-! U4 -/
section
variable {prog : Program} {w : World} {mg mb : Str → Option Value} {dp un : Nat} {fr : Option (List Env)} {gd : Option (List Code)} {E : Value → Shared → Prop} {s : Shared} {hB : Heap} {Q : Value → Shared → Prop}
example : True := by
  k_with "stopC" => ((fail_if_success (have := @off26)); (first
  | (with_reducible show wpAny _ _ (call (Value.ref _) _) _ _ _)
  | (with_reducible show wpAny _ _ (call (Value.builtin "len") [Value.ref _]) _ _ _)
  | (with_reducible show wpAny _ _ (subscriptTail _ _ (Value.ref _) (Value.int _ _)) _ _ _)
  | (with_reducible show wpAny _ _ (execs (Stmt.For _ _ _ _ _ :: _) _) _ _ _)))
  exact trivial
example : True := by
  k_with "goC" => ((fail_if_success (have := @off26)); (((try dsimp only); (repeat' ((fail_if_success walk_at "stopC"); (first | (walk1; (try dsimp only)) | (dsimp only; walk1; (try dsimp only))))); (all_goals (try dsimp only)))))
  exact trivial
/-- between the turns of the first loop -/
inductive J1 (w : World) (g : Heap) (d c : Addr) (vs : List Value) (i : Nat) (m : Str → Option Value) (nx : List (Addr × Obj)) : Prop
  | mk (at' : Int) (t : Tok) (n : Nat) (wl : List (Addr × Obj)) (H : Heap) (b : Bx) (z1 : nx = (d, listOf #[.ref c, .int at' t] n) :: wl) (z2 : (∀ b o, H.get? b = some o → g.get? b = some o ∨ (b, o) ∈ wl)) (z3 : OwnOff wl [d]) (z4 : 0 ≤ at') (z5 : at' ≤ 1 + 2 * (i : Int)) (z6 : H.IsList c vs.toArray) (z7 : BoxAt w H b) (z8 : (∀ x ∈ four b, g.get? x = none)) (z9 : b.gb ≠ b.lb) (z10 : c ∉ four b) (z11 : b.gs = []) (z12 : uidsOf b.ls = upTo i) (z13 : b.nxt = (i : Int) + 1) (z14 : m "deck" = some (.ref d)) (z15 : m "box" = some (.ref b.x)) : J1 w g d c vs i m nx
theorem At.start {g h : Heap} {L : Addr} {m : Str → Option Value} (F : Fr g L h m) : At g L h m [] [] g := ⟨F, List.forall_mem_nil _, List.forall_mem_nil _, List.forall_mem_nil _, fun _ _ e => Or.inl e⟩
theorem item_at {A : Around} {value slice : PySem.Expr} {D : Addr} {its : Array Value} {n : Nat} {k : Int} {u : Tok} {x : Value} (hD : s.heap.get? D = some (listOf its n)) (h0 : 0 ≤ k) (h1 : k ≤ 1000) (hx : its[k.toNat]? = some x) (h : Q x s)
    (hs : subscripted slice false (.ref D) (.int k u) = operate [.ref D, .int k u] (getItem (.ref D) (.int k u)) := by with_unfolding_all rfl) :
    wpAny (model prog w) A (subscriptTail value slice (.ref D) (.int k u)) Q E s :=
  have hL : s.heap.IsList D its := ⟨_, hD, rfl, _, rfl⟩
  tail_any hL.typeIs slot_list_getitem.lookup (wpAny_getItem_list hL h0 (by omega) hx h) hs
theorem At.loop {g h : Heap} {L d : Addr} {m : Str → Option Value} {o : Obj} {wl own : List (Addr × Obj)} {H : Heap} (F : Fr g L h m) (N : News g L h (((d, o) :: wl) ++ own)) (hoff : OwnOff own (((d, o) :: wl).map (·.1))) (hofd : OwnOff wl [d]) (hc : o.cls ≠ .type "tuple") (hcl : ∀ p ∈ own, p.2.cls ≠ .type "tuple") (hsub : ∀ b o, H.get? b = some o → g.get? b = some o ∨ (b, o) ∈ wl) :
    At g L h m ((d, o) :: own) wl H := by
  refine ⟨F, fun p hp => N p ?_, fun p hp b hb => ?_, fun p hp => ?_, hsub⟩
  · rcases List.mem_append.mp hp with hp | hp
    · rcases List.mem_cons.mp hp with rfl | hp
      · exact .head _
      · exact List.mem_append_right _ hp
    · exact List.mem_append_left _ (.tail _ hp)
  · rcases List.mem_cons.mp hb with rfl | hb
    · exact hofd p hp _ (.head _)
    · obtain ⟨q, hq, rfl⟩ := List.mem_map.mp hb
      exact fun e => hoff q hq p.1 (List.mem_map.mpr ⟨p, .tail _ hp, rfl⟩) e.symm
  · rcases List.mem_cons.mp hp with rfl | hp
    · exact hc
    · exact hcl p hp
theorem At.turnEnd {g h : Heap} {L d : Addr} {m : Str → Option Value} {o : Obj} {wl own : List (Addr × Obj)} {H : Heap} (A : At g L h m ((d, o) :: own) wl H) (hd : ∀ p ∈ own, p.1 ≠ d) : OwnOff own (((d, o) :: wl).map (·.1)) := by
  intro p hp b hb
  rcases List.mem_cons.mp hb with rfl | hb
  · exact hd p hp
  · obtain ⟨q, hq, rfl⟩ := List.mem_map.mp hb
    exact fun e => A.off q hq p.1 (.tail _ (List.mem_map_of_mem hp)) e.symm
theorem upTo_succ (i : Nat) : upTo (i + 1) = upTo i ++ [(i : Int) + 1] := by simp [upTo, List.range_succ]
def Small (n k : Nat) : Prop := n < k
/-- between the turns of the second loop -/
inductive J2 (prog : Program) (w : World) (g : Heap) (d c : Addr) (vs : List Value) (bx : Addr) (k : Nat) (v1 v2 : Vw) (bu bv : Bool) (kn : Int) (i : Nat) (m : Str → Option Value) (nx : List (Addr × Obj)) : Prop
  | mk (at' : Int) (t : Tok) (n : Nat) (wl : List (Addr × Obj)) (H : Heap) (b : Bx) (came : Int) (tc tk : Tok) (z1 : nx = (d, listOf #[.ref c, .int at' t] n) :: wl) (z2 : (∀ b o, H.get? b = some o → g.get? b = some o ∨ (b, o) ∈ wl)) (z3 : OwnOff wl [d]) (z4 : 0 ≤ at') (z5 : at' ≤ 12 + 3 * (i : Int)) (z6 : H.IsList c vs.toArray) (z7 : BoxAt w H b) (z8 : (∀ x ∈ four b, g.get? x = none)) (z9 : b.gb ≠ b.lb) (z10 : c ∉ four b) (z11 : b.gs.length + b.ls.length ≤ k + i) (z12 : ViewAt prog w H v1) (z13 : ViewAt prog w H v2) (z14 : (∀ a ∈ five v1, a ∉ four b)) (z15 : (∀ a ∈ five v2, a ∉ four b)) (z16 : b.x = bx) (z17 : 0 ≤ came) (z18 : came ≤ (i : Int)) (z19 : b.nxt = (k : Int) + 1 + came) (z20 : m "deck" = some (.ref d)) (z21 : m "box" = some (.ref bx)) (z22 : m "came" = some (.int came tc)) (z23 : m "uses" = some (.bool bu)) (z24 : m "vanishes" = some (.bool bv)) (z25 : m "one" = some (.ref v1.x)) (z26 : m "other" = some (.ref v2.x)) (z27 : m "known" = some (.int kn tk)) : J2 prog w g d c vs bx k v1 v2 bu bv kn i m nx
theorem At.push {g h h' : Heap} {L D : Addr} {m m' : Str → Option Value} {o : Obj} {rest wl : List (Addr × Obj)} {H : Heap} (A : At g L h m rest wl H) (F : Fr g L h' m') (N : News g L h' ((D, o) :: (rest ++ wl))) (lt : ∀ p ∈ rest ++ wl, @LT.lt Nat _ p.1 D) (hc : o.cls ≠ .type "tuple") : At g L h' m' ((D, o) :: rest) wl H := by
  refine ⟨F, N, fun p hp b hb => ?_, fun p hp => ?_, A.sub⟩
  · rcases List.mem_cons.mp hb with rfl | hb
    · exact fun e => absurd (lt p (List.mem_append_right _ hp)) (by rw [e]; exact Nat.lt_irrefl _)
    · exact A.off p hp b hb
  · rcases List.mem_cons.mp hp with rfl | hp
    · exact hc
    · exact A.nt p hp
theorem At.less {g h : Heap} {L : Addr} {m : Str → Option Value} {rest rest' wl : List (Addr × Obj)} {H : Heap} (A : At g L h m rest wl H) (hs : ∀ p ∈ rest', p ∈ rest) : At g L h m rest' wl H :=
  ⟨A.F, fun p hp => A.N p ((List.mem_append.mp hp).elim (fun q => List.mem_append_left _ (hs p q)) (List.mem_append_right _)), fun p hp b hb => (by
    obtain ⟨q, hq, rfl⟩ := List.mem_map.mp hb
    exact A.off p hp _ (List.mem_map_of_mem (hs q hq))), fun p hp => A.nt p (hs p hp), A.sub⟩
theorem At.restH {g h : Heap} {L : Addr} {m : Str → Option Value} {rest wl : List (Addr × Obj)} {H : Heap} (A : At g L h m rest wl H) {p : Addr × Obj} (hp : p ∈ rest) : H.get? p.1 = none := by
  cases e : H.get? p.1 with
  | none => rfl
  | some o => exact absurd (List.mem_cons_of_mem _ (List.mem_map_of_mem hp)) (A.offH e)
theorem At.staysN {g h h' : Heap} {L : Addr} {m m' : Str → Option Value} {rest wl news : List (Addr × Obj)} {H : Heap} (A : At g L h m rest wl H) (F : Fr g L h' m') (N : News g L h' news) (hs : ∀ p ∈ wl, p ∈ news) : ∀ b o, H.get? b = some o → h'.get? b = some o := fun b o e => (A.sub b o e).elim (F.keep b o) fun hm => (N (b, o) (hs _ hm)).1
theorem off_new {h : Heap} {xs ys : List Addr} (h1 : ∀ a ∈ xs, h.get? a = none) (h2 : ∀ a ∈ ys, ∃ o, h.get? a = some o) : ∀ a ∈ xs, a ∉ ys := fun a ha hb => by
  obtain ⟨o, ho⟩ := h2 a hb
  rw [h1 a ha] at ho; cases ho
theorem has_keeps {h h' : Heap} {xs : List Addr} (k : ∀ b o, h.get? b = some o → h'.get? b = some o) (h1 : ∀ a ∈ xs, ∃ o, h.get? a = some o) : ∀ a ∈ xs, ∃ o, h'.get? a = some o := fun a ha => let ⟨o, e⟩ := h1 a ha; ⟨o, k _ _ e⟩
set_option hygiene false in
local macro_rules | `(tactic| k_inst) => `(tactic| exact inst_keeps hI9 (At.staysN A9 (by k_asm) (by k_asm) (fun p hp => by first | exact hp | exact .tail _ hp | exact List.mem_append_right _ hp | exact .tail _ (List.mem_append_right _ hp))))
theorem law_spec {a : Addr} {vs : List Value} {ns : List Int}
    (B : Bed w mg mb hB) (st : hB.StaysIn s.heap) (hr : dp < 700) (hun : un < 7000) (hl : s.heap.IsList a vs.toArray) (hv : IntsAre vs ns) (hlen : ns.length ≤ 63)
    (h : ∀ h' tk, Ext [] s.heap h' → Q (.bool true) { s with heap := h', toks := tk }) :
    wpAny (model prog w) (AT dp un fr gd) (call (.ref 407) [.ref a]) Q E s := by
  have hW : ∀ p ∈ ([] : List (Addr × Obj)), s.heap.get? p.1 = some p.2 ∧ hB.get? p.1 = none := List.forall_mem_nil _
  walk_at "enter"
  replace hl : g.IsList a vs.toArray := hg ▸ hl
  walk_at "goC"
  rename Fr _ _ _ _ => F1
  have A0 : At g L _ _ [] [] g := At.start F1
  refine deck_deed Bg A0 (by walk_at "room") (hl.at fun o e => F1.keep _ o e) hv hlen fun d c h1 tk1 n1 ys ms t1 wl1 H1 hc hi hlm A1 => ?_
  clear F1 A0
  have F1 := A1.F
  have N1 := A1.N
  walk_at "goC"
  rename Fr _ _ _ _ => Fz
  rename News _ _ _ _ => Nz
  have A2 := A1.mv Fz Nz (fun _ hp => hp)
  clear A1 Fz Nz
  refine box_deed Bg A2 (by walk_at "room") fun b h2 tk2 wl2 H2 hb hb00 hgl hnxt hls hgs e2 A3 => ?_
  have hb0 : ∀ x ∈ four b, g.get? x = none := fun x hx => A2.noneG (hb00 x hx)
  have hcb : c ∉ four b := fun hx => by
    obtain ⟨o, ho, _⟩ := hc
    rw [A2.noneH (hb00 c hx)] at ho; cases ho
  replace hc : H2.IsList c ys.toArray := hc.at fun o e => e2.nil _ o e
  have F1 := A3.F
  have N1 := A3.N
  clear A2
  walk_at "goC"
  refine wpAny_execs_cons ?_
  rename Fr _ _ _ _ => Fz
  rename News _ _ _ _ => Nz
  have A2 := A3.mv Fz Nz (fun _ hp => hp)
  clear A3
  with_unfolding_all refine' For_invVF Fz ?k1 ?k2 ?_
  case k1 => exact rfl
  case k2 => exact rfl
  clear Nz Fz
  have F1 := A2.F
  have N1 := A2.N
  walk_at "goC"
  rename Fr _ _ _ _ => Fz
  rename News _ _ _ _ => Nz
  have A3 := A2.mv Fz Nz (fun _ hp => hp)
  clear A2 Fz Nz
  refine card_deed (own := []) Bg A3 hc (by walk_at "room") hi hlm (by omega) (by omega) (by omega) (by omega) (List.forall_mem_nil _) fun r t' t3 h3 tk3 r0 r1 e3 A4 => ?_
  have F1 := A4.F
  have N1 := A4.N
  clear A3
  obtain ⟨rn, hrn, rfl⟩ : ∃ rn : Nat, Small rn 5 ∧ r = (rn : Int) := ⟨r.toNat, by unfold Small; omega, by omega⟩
  clear r0 r1
  walk_at "goI"
  rename IsRange _ _ _ _ _ _ _ _ => hrng
  rename Fr _ _ _ _ => Fz
  rename News _ _ _ _ => Nz
  have A5 := A4.mv Fz Nz (fun _ hp => hp)
  clear A4 Fz Nz
  have hrn5 : rn < 5 := hrn
  refine range_inv2 (J1 w g d c ys) rfl hrng (by omega) A5.F A5.N ⟨_, _, _, wl2, H2, b, rfl, A5.sub, A5.off, by omega, by omega, hc, hb, hb0, hgl, hcb, hgs, by rw [hls]; rfl, by rw [hnxt]; rfl, rfl, rfl⟩ ?_ ?_
  · clear A5 hrng hc hb hb00 hb0 hgl hcb hgs hls hnxt
    rintro i t mm nx h4 tk4 own hin hoff hcl ⟨at', t5, n5, wl, H, b, rfl, hsub, hofd, a0, a1, hc, hb, hb0, hgl, hcb, hgs, hus, hnx, e1, e2⟩ F2 N2
    have F3 := over_fr (st := []) (ps := [("turn", .int (i : Nat) t), ("deck", .ref d), ("box", .ref b.x)]) (m₀ := _) F2 (by
      intro p hp
      simp only [List.mem_cons, List.not_mem_nil, or_false] at hp
      rcases hp with rfl | rfl | rfl
      · exact if_pos rfl
      · exact (if_neg (show ¬ (Str.ofString "deck" = Str.ofString "turn") by decide)).trans e1
      · exact (if_neg (show ¬ (Str.ofString "box" = Str.ofString "turn") by decide)).trans e2) (fun _ _ _ => rfl)
    have hdo : ∀ p ∈ own, p.1 ≠ d := fun p hp => hoff p hp d (.head _)
    have hblen : b.ls.length = i := by have := congrArg List.length hus; rw [uids_len, upTo_len] at this; exact this
    have A1 := At.loop F3 N2 hoff hofd (by simp) hcl hsub
    clear F2 N2 F3
    have F1 := A1.F
    have N1 := A1.N
    walk_at "goC"
    rename Fr _ _ _ _ => Fz
    rename News _ _ _ _ => Nz
    have A2 := A1.mv Fz Nz (fun _ hp => hp)
    clear Fz Nz A1
    refine sorts_deed Bg A2 (by walk_at "room") fun D h5 tk5 its n6 hD hO hsz hso A3 => ?_
    have hDd : D ≠ d := fun e => by have := (A2.N _ (.head _)).1; rw [← e, hD] at this; cases this
    have F1 := A3.F
    have N1 := A3.N
    walk_at "goC"
    rename Fr _ _ _ _ => Fz
    rename News _ _ _ _ => Nz
    have A4 := A3.mv Fz Nz (fun _ hp => hp)
    clear Fz Nz A3
    refine card_deed Bg A4 hc (by walk_at "room") hi hlm a0 (by omega) (by omega) (by omega) hdo fun r t' t3 h6 tk6 r0 r1 e6 A5 => ?_
    obtain ⟨k, hk4, rfl⟩ : ∃ k : Nat, k < 4 ∧ r = (k : Int) := ⟨r.toNat, by omega, by omega⟩
    clear r0 r1 A4
    obtain ⟨ad, q1, q2, hx, hat, hfr⟩ := hso k hk4
    have hadd : ad ≠ d := fun e => by have := (A2.N _ (.head _)).1; rw [← e, hfr] at this; cases this
    have had := e6 _ _ (by simpa using hadd) hat
    refine item_at (e6 _ _ (by simpa using hDd) hO) (by omega) (by omega) (x := .ref ad) (by simpa using hx) ?_
    have ga : g.get? ad = none := A2.noneG hfr
    clear hso hat e6
    have F1 := A5.F
    have N1 := A5.N
    walk_at "goC"
    rename Fr _ _ _ _ => Fz
    rename News _ _ _ _ => Nz
    have A6 := A5.mv Fz Nz (fun _ hp => hp)
    clear Fz Nz A5
    refine add_deed Bg A6 hb hb0 hgl (by walk_at "room") hk4 had ga rfl rfl (by omega) (by omega) fun l b' h7 tk7 wl7 H7 hb7 f4 hls7 hgs7 hlu hnx7 e7 A7 => ?_
    have hx7 : b'.x = b.x := by simp only [four, List.cons.injEq] at f4; exact f4.1
    have hd7 : b'.gb = b.gb ∧ b'.lb = b.lb := by simp only [four, List.cons.injEq] at f4; exact ⟨f4.2.2.2.1, f4.2.2.1⟩
    have F1 := A7.F
    have N1 := A7.N
    walk_at "goC"
    rename Fr _ _ _ _ => Fz
    rename News _ _ _ _ => Nz
    refine InvEndG.intro (nx := (d, listOf #[.ref c, .int (at' + 1) t'] n5) :: wl7) Fz Nz ⟨_, _, _, wl7, H7, b', rfl, A7.sub, fun p hp x hx => (by rw [List.mem_singleton.mp hx]; exact A7.off p hp _ (.head _)), by omega, by omega, hc.at fun o e => e7 _ o (fun hm => hcb (by simp only [four, List.mem_cons, List.not_mem_nil, or_false] at hm ⊢; rcases hm with q | q <;> simp [q])) e, hb7, by rw [f4]; exact hb0, by rw [hd7.1, hd7.2]; exact hgl, by rw [f4]; exact hcb, hgs7.trans hgs, by rw [hls7, uids_snoc, hus, hlu, hnx, upTo_succ], by rw [hnx7, hnx]; rfl, rfl, by rw [hx7]; rfl⟩ (A7.turnEnd hdo) ?_ ?_
    · intro p hp
      rcases List.mem_cons.mp hp with rfl | hp
      · exact .head _
      · exact List.mem_append_right _ hp
    · intro p hp
      exact .tail _ (List.mem_append_left _ hp)
  · rintro mm nx h4 tk4 ⟨at', t5, n5, wl, H, b, rfl, hsub, hofd, a0, a1, hc, hb, hb0, hgl, hcb, hgs, hus, hnx, e1, e2⟩ F2 N2
    have F3 := over_fr (st := []) (ps := [("deck", .ref d), ("box", .ref b.x)]) (m₀ := _) F2 (by
      intro p hp
      simp only [List.mem_cons, List.not_mem_nil, or_false] at hp
      rcases hp with rfl | rfl
      · exact e1
      · exact e2) (fun _ _ _ => rfl)
    have N3 : News g L h4 (((d, listOf #[.ref c, .int at' t5] n5) :: wl) ++ []) := by rw [List.append_nil]; exact N2
    have A1 : At g L _ _ _ _ _ := At.loop (own := []) F3 N3 (List.forall_mem_nil _) hofd (by simp) (List.forall_mem_nil _) hsub
    clear F2 N2 N3 F3 A5 hrng
    have F1 := A1.F
    have N1 := A1.N
    walk_at "goC"
    rename Fr _ _ _ _ => Fz
    rename News _ _ _ _ => Nz
    have A2 := A1.mv Fz Nz (fun _ hp => hp)
    clear Fz Nz A1
    refine card_deed (own := []) Bg A2 hc (by walk_at "room") hi hlm a0 (by omega) (by omega) (by omega) (List.forall_mem_nil _) fun c1 t6 t7 h5 tk5 r0 r1 e5 A3 => ?_
    clear r0 r1 e5 A2
    have F1 := A3.F
    have N1 := A3.N
    walk_at "goC"
    rename Fr _ _ _ _ => Fz
    rename News _ _ _ _ => Nz
    have A2 := A3.mv Fz Nz (fun _ hp => hp)
    clear Fz Nz A3
    refine card_deed (own := []) Bg A2 hc (by walk_at "room") hi hlm (by omega) (by omega) (by omega) (by omega) (List.forall_mem_nil _) fun c2 t8 t9 h6 tk6 r0 r1 e6 A3 => ?_
    clear r0 r1 e6 A2
    have F1 := A3.F
    have N1 := A3.N
    walk_at "goC"
    rename Fr _ _ _ _ => Fz
    rename News _ _ _ _ => Nz
    have A2 := A3.mv Fz Nz (fun _ hp => .tail _ hp)
    clear Fz Nz A3; (try clear F1); (try clear N1)
    generalize (c1 == 1) = bu at *
    generalize (c2 == 1) = bv at *
    refine view_deed Bg A2 hb (by walk_at "room") fun v1 h7 tk7 wl7 H7 w1 w1n w1b w1u w1v w1s w1f w1m e7 A3 => ?_
    have hb7 : BoxAt w H7 b := hb.keeps e7.nil
    have hc7 : H7.IsList c ys.toArray := hc.at fun o e => e7.nil _ o e
    have sep1 : ∀ a ∈ five v1, a ∉ four b := off_new w1n (has_keeps A2.stays hb.has)
    have cv1 : c ∉ five v1 := fun hx => by obtain ⟨o, ho, _⟩ := hc.at fun o e => A2.stays _ o e; rw [w1n c hx] at ho; cases ho
    have g1 : ∀ a ∈ five v1, g.get? a = none := fun a ha => A2.noneG (w1n a ha)
    clear w1n A2 e7 hb hc
    have F1 := A3.F
    have N1 := A3.N
    walk_at "goC"
    rename Fr _ _ _ _ => Fz
    rename News _ _ _ _ => Nz
    have A2 := A3.mv Fz Nz (fun _ hp => hp)
    clear Fz Nz A3; (try clear F1); (try clear N1)
    refine view_deed Bg A2 hb7 (by walk_at "room") fun v2 h8 tk8 wl8 H8 w2 w2n w2b w2u w2v w2s w2f w2m e8 A3 => ?_
    have hb8 : BoxAt w H8 b := hb7.keeps e8.nil
    have hc8 : H8.IsList c ys.toArray := hc7.at fun o e => e8.nil _ o e
    have sep2 : ∀ a ∈ five v2, a ∉ four b := off_new w2n (has_keeps A2.stays hb7.has)
    have sep12 : ∀ a ∈ five v2, a ∉ five v1 := off_new w2n (has_keeps A2.stays w1.has)
    have g2 : ∀ a ∈ five v2, g.get? a = none := fun a ha => A2.noneG (w2n a ha)
    replace w1 : ViewAt prog w H8 v1 := w1.keeps e8.nil
    clear w2n A2 e8 hb7 hc7
    have F1 := A3.F
    have N1 := A3.N
    have hI9 := w1.inst
    have A9 := A3
    walk_at "goC"
    rename Fr _ _ _ _ => Fz
    rename News _ _ _ _ => Nz
    have A2 := A3.mv Fz Nz (fun _ hp => .tail _ hp)
    clear Fz Nz A3 A9 hI9; (try clear F1); (try clear N1)
    have kl := ints_length w1.ivs
    have kll := w1.len
    refine call_len_list (items := v1.uvs.toArray) ⟨_, A2.stays _ _ w1.list, rfl, _, rfl⟩ (by simp; omega) ?_
    have F1 := A2.F
    have N1 := A2.N
    walk_at "goC"
    refine wpAny_execs_cons ?_
    rename Fr _ _ _ _ => Fz
    rename News _ _ _ _ => Nz
    have A3 := A2.mv Fz Nz (fun _ hp => hp)
    clear A2; (try clear F1); (try clear N1)
    with_unfolding_all refine' For_invVF Fz ?k1 ?k2 ?_
    case k1 => exact rfl
    case k2 => exact rfl
    clear Nz Fz
    have F1 := A3.F
    have N1 := A3.N
    walk_at "goC"
    rename Fr _ _ _ _ => Fz
    rename News _ _ _ _ => Nz
    have A2 := A3.mv Fz Nz (fun _ hp => hp)
    clear A3 Fz Nz
    refine card_deed (own := []) Bg A2 hc8 (by walk_at "room") hi hlm (by omega) (by omega) (by omega) (by omega) (List.forall_mem_nil _) fun r t' t3 h3 tk3 r0 r1 e3 A4 => ?_
    clear e3 A2; (try clear F1); (try clear N1)
    have F1 := A4.F
    have N1 := A4.N
    obtain ⟨rm, hrm, rfl⟩ : ∃ rm : Nat, Small rm 7 ∧ r = (rm : Int) := ⟨r.toNat, by unfold Small; omega, by omega⟩
    clear r0 r1
    walk_at "goI"
    rename IsRange _ _ _ _ _ _ _ _ => hrng
    rename Fr _ _ _ _ => Fz
    rename News _ _ _ _ => Nz
    have A5 := A4.mv Fz Nz (fun _ hp => hp)
    clear A4 Fz Nz; (try clear F1); (try clear N1)
    have hrm7 : rm < 7 := hrm
    have hblen : b.ls.length = rn := by have := congrArg List.length hus; rw [uids_len, upTo_len] at this; exact this
    refine range_inv2 (J2 prog w g d c ys b.x rn v1 v2 bu bv _) rfl hrng (by omega) A5.F A5.N ⟨_, _, _, wl8, H8, b, 0, _, _, rfl, A5.sub, A5.off, by omega, by omega, hc8, hb8, hb0, hgl, hcb, by rw [hgs, hblen]; simp, w1, w2, sep1, sep2, rfl, by omega, by omega, by omega, rfl, rfl, rfl, rfl, rfl, rfl, rfl, rfl⟩ ?_ ?_
    · clear A5 hrng hc8 hb8 hb0 hgl hcb hgs hus hnx w1 w2 sep1 sep2 hblen w1b w1u w1v w1s w1f w1m w2b w2u w2v w2s w2f w2m kl kll e1 e2
      rintro i t mm nx h4 tk4 own hin hoff hcl ⟨at', t5, n5, wl, H, b1, came, tc, tkn, rfl, hsub, hofd, a0, a1, hc, hb, hb0, hgl, hcb, hsz, w1, w2, sep1, sep2, hbx, cm0, cm1, hnx, e1, e2, e3, e4, e5, e6, e7, e8⟩ F2 N2
      rw [← hbx] at e2
      have F3 := over_fr (st := []) (ps := [("turn", .int (i : Nat) t), ("deck", .ref d), ("box", .ref b1.x), ("came", .int came tc), ("uses", .bool bu), ("vanishes", .bool bv), ("one", .ref v1.x), ("other", .ref v2.x), ("known", .int _ tkn)]) (m₀ := _) F2 (by
        intro p hp
        simp only [List.mem_cons, List.not_mem_nil, or_false] at hp
        rcases hp with rfl | rfl | rfl | rfl | rfl | rfl | rfl | rfl | rfl
        · exact if_pos rfl
        · exact (if_neg (show ¬ (Str.ofString "deck" = Str.ofString "turn") by decide)).trans e1
        · exact (if_neg (show ¬ (Str.ofString "box" = Str.ofString "turn") by decide)).trans e2
        · exact (if_neg (show ¬ (Str.ofString "came" = Str.ofString "turn") by decide)).trans e3
        · exact (if_neg (show ¬ (Str.ofString "uses" = Str.ofString "turn") by decide)).trans e4
        · exact (if_neg (show ¬ (Str.ofString "vanishes" = Str.ofString "turn") by decide)).trans e5
        · exact (if_neg (show ¬ (Str.ofString "one" = Str.ofString "turn") by decide)).trans e6
        · exact (if_neg (show ¬ (Str.ofString "other" = Str.ofString "turn") by decide)).trans e7
        · exact (if_neg (show ¬ (Str.ofString "known" = Str.ofString "turn") by decide)).trans e8) (fun _ _ _ => rfl)
      have hdo : ∀ p ∈ own, p.1 ≠ d := fun p hp => hoff p hp d (.head _)
      have A1 : At g L _ _ _ _ _ := At.loop F3 N2 hoff hofd (by simp) hcl hsub
      clear F2 N2 F3
      have F1 := A1.F
      have N1 := A1.N
      walk_at "goC"
      rename Fr _ _ _ _ => Fz
      rename News _ _ _ _ => Nz
      have A2 := A1.mv Fz Nz (fun _ hp => hp)
      clear Fz Nz A1; (try clear F1); (try clear N1)
      refine card_deed Bg A2 hc (by walk_at "room") hi hlm a0 (by omega) (by omega) (by omega) hdo fun way tw1 tw2 h5 tk5 r0 r1 e9 A3 => ?_
      clear e9 A2
      have F1 := A3.F
      have N1 := A3.N
      walk_at "goC"
      rename Fr _ _ _ _ => Fz
      rename News _ _ _ _ => Nz
      have A2 := A3.mv Fz Nz (fun _ hp => hp)
      clear Fz Nz A3; (try clear F1); (try clear N1)
      refine card_deed Bg A2 hc (by walk_at "room") hi hlm (by omega) (by omega) (by omega) (by omega) hdo fun uu tw3 tw4 h6 tk6 q0 q1 e9 A3 => ?_
      clear e9 A2
      have F1 := A3.F
      have N1 := A3.N
      have hI9 := hb.inst
      have A9 := A3
      walk_at "goC"
      · rename_i hway
        rename Fr _ _ _ _ => Fz
        rename News _ _ _ _ => Nz
        have A4 := A3.mv Fz Nz (fun _ hp => hp)
        clear Fz Nz A3 A9 hI9; (try clear F1); (try clear N1)
        refine sorts_deed Bg A4 (by walk_at "room") fun D h7 tk7 its n6 hD hO hsz4 hso A3 => ?_
        have hDd : D ≠ d := fun e => by have := (A4.N _ (.head _)).1; rw [← e, hD] at this; cases this
        have F1 := A3.F
        have N1 := A3.N
        walk_at "goC"
        rename Fr _ _ _ _ => Fz
        rename News _ _ _ _ => Nz
        have A5 := A3.mv Fz Nz (fun _ hp => hp)
        clear Fz Nz A3; (try clear F1); (try clear N1)
        refine card_deed Bg A5 hc (by walk_at "room") hi hlm (by omega) (by omega) (by omega) (by omega) hdo fun r t' t3 h8 tk8 r3 r4 e8' A6 => ?_
        obtain ⟨k, hk4, rfl⟩ : ∃ k : Nat, k < 4 ∧ r = (k : Int) := ⟨r.toNat, by omega, by omega⟩
        clear r3 r4
        obtain ⟨ad, p1, p2, hx, hat, hfr⟩ := hso k hk4
        have hadd : ad ≠ d := fun e => by have := (A4.N _ (.head _)).1; rw [← e, hfr] at this; cases this
        have had := e8' _ _ (by simpa using hadd) hat
        have ga : g.get? ad = none := A4.noneG hfr
        have gh : H.get? ad = none := A4.noneH hfr
        refine item_at (e8' _ _ (by simpa using hDd) hO) (by omega) (by omega) (x := .ref ad) (by simpa using hx) ?_
        clear hso hat e8' hO hD hsz4 hx hfr A4 A5
        have F1 := A6.F
        have N1 := A6.N
        walk_at "goC"
        rename Fr _ _ _ _ => Fz
        rename News _ _ _ _ => Nz
        have A7 := A6.mv Fz Nz (fun _ hp => hp)
        clear Fz Nz A6; (try clear F1); (try clear N1)
        refine add_deed Bg A7 hb hb0 hgl (by walk_at "room") hk4 had ga rfl rfl (by omega) (by omega) fun l b' h9 tk9 wl9 H9 hb9 f4 hls9 hgs9 hlu hnx9 e9 A8 => ?_
        have hx9 : b'.x = b1.x ∧ b'.gb = b1.gb ∧ b'.lb = b1.lb := by simp only [four, List.cons.injEq] at f4; exact ⟨f4.1, f4.2.2.2.1, f4.2.2.1⟩
        have hW2 : ∀ v : Vw, (∀ a ∈ five v, a ∉ four b1) → ∀ a ∈ five v, a ∉ [b1.dx, b1.lb] := fun v hv a ha hm => hv a ha (by simp only [four, List.mem_cons, List.not_mem_nil, or_false] at hm ⊢; rcases hm with q | q <;> simp [q])
        have F1 := A8.F
        have N1 := A8.N
        walk_at "goC"
        rename Fr _ _ _ _ => Fz
        rename News _ _ _ _ => Nz
        refine InvEndG.intro (nx := (d, listOf #[.ref c, .int (at' + 1 + 1 + 1) t'] n5) :: wl9) Fz Nz ⟨_, _, _, wl9, H9, b', came + 1, _, _, rfl, A8.sub, fun p hp x hx => (by rw [List.mem_singleton.mp hx]; exact A8.off p hp _ (.head _)), by omega, by omega, hc.at fun o e => e9 _ o (fun hm => hcb (by simp only [four, List.mem_cons, List.not_mem_nil, or_false] at hm ⊢; rcases hm with q | q <;> simp [q])) e, hb9, by rw [f4]; exact hb0, by rw [hx9.2.1, hx9.2.2]; exact hgl, by rw [f4]; exact hcb, by rw [hls9, hgs9, List.length_append]; simp only [List.length_cons, List.length_nil]; omega, w1.ext hb.off_mut e9 (hW2 v1 sep1), w2.ext hb.off_mut e9 (hW2 v2 sep2), by rw [f4]; exact sep1, by rw [f4]; exact sep2, hx9.1.trans hbx, by omega, by omega, by rw [hnx9, hnx]; omega, rfl, by rw [← hbx]; rfl, rfl, rfl, rfl, rfl, rfl, rfl⟩ (A8.turnEnd hdo) ?_ ?_
        · intro p hp
          rcases List.mem_cons.mp hp with rfl | hp
          · exact .head _
          · exact List.mem_append_right _ hp
        · intro p hp
          exact .tail _ (List.mem_append_left _ hp)
      · rename_i hway hway3
        rename Fr _ _ _ _ => Fz
        rename News _ _ _ _ => Nz
        have A4 := A3.mv Fz Nz (fun _ hp => hp)
        clear Fz Nz A3 A9 hI9; (try clear F1); (try clear N1)
        refine letter_deed Bg A4 hb (by walk_at "room") (fun il l0 h7 tk7 hil hlu A3 => ?_) (fun hno h7 tk7 A3 => ?_)
        · have F1 := A3.F
          have N1 := A3.N
          clear A4
          walk_at "goC"
          rename Fr _ _ _ _ => Fz
          rename News _ _ _ _ => Nz
          have A4 := A3.mv Fz Nz (fun _ hp => hp)
          clear Fz Nz A3; (try clear F1); (try clear N1)
          refine sorts_deed Bg A4 (by walk_at "room") fun D h7 tk7 its n6 hD hO hsz4 hso A3 => ?_
          have hDd : D ≠ d := fun e => by have := (A4.N _ (.head _)).1; rw [← e, hD] at this; cases this
          have F1 := A3.F
          have N1 := A3.N
          walk_at "goC"
          rename Fr _ _ _ _ => Fz
          rename News _ _ _ _ => Nz
          have A5 := A3.mv Fz Nz (fun _ hp => hp)
          clear Fz Nz A3; (try clear F1); (try clear N1)
          refine card_deed Bg A5 hc (by walk_at "room") hi hlm (by omega) (by omega) (by omega) (by omega) hdo fun r t' t3 h8 tk8 r3 r4 e8' A6 => ?_
          obtain ⟨k, hk4, rfl⟩ : ∃ k : Nat, k < 4 ∧ r = (k : Int) := ⟨r.toNat, by omega, by omega⟩
          clear r3 r4
          obtain ⟨ad, p1, p2, hx, hat, hfr⟩ := hso k hk4
          have hadd : ad ≠ d := fun e => by have := (A4.N _ (.head _)).1; rw [← e, hfr] at this; cases this
          have had := e8' _ _ (by simpa using hadd) hat
          have ga : g.get? ad = none := A4.noneG hfr
          have gh : H.get? ad = none := A4.noneH hfr
          refine item_at (e8' _ _ (by simpa using hDd) hO) (by omega) (by omega) (x := .ref ad) (by simpa using hx) ?_
          clear hso hat e8' hO hD hsz4 hx hfr A4 A5
          have F1 := A6.F
          have N1 := A6.N
          walk_at "goC"
          rename Fr _ _ _ _ => Fz
          rename News _ _ _ _ => Nz
          have A7 := A6.mv Fz Nz (fun _ hp => hp)
          clear Fz Nz A6; (try clear F1); (try clear N1)
          refine set_deed Bg A7 hb hb0 hgl (by walk_at "room") (by walk_at "room") hk4 had ga gh ⟨l0, List.mem_of_getElem? hil, hlu⟩ fun r9 b' h9 tk9 wl9 H9 hb9 f4 hus9 hgs9 hnx9 e9 A8 => ?_
          have hx9 : b'.x = b1.x ∧ b'.gb = b1.gb ∧ b'.lb = b1.lb := by simp only [four, List.cons.injEq] at f4; exact ⟨f4.1, f4.2.2.2.1, f4.2.2.1⟩
          have hW2 : ∀ v : Vw, (∀ a ∈ five v, a ∉ four b1) → ∀ a ∈ five v, a ∉ [b1.dx, b1.lb] := fun v hv a ha hm => hv a ha (by simp only [four, List.mem_cons, List.not_mem_nil, or_false] at hm ⊢; rcases hm with q | q <;> simp [q])
          have hlen9 : b'.ls.length = b1.ls.length := by have := congrArg List.length hus9; rwa [uids_len, uids_len] at this
          have F1 := A8.F
          have N1 := A8.N
          walk_at "goC"
          rename Fr _ _ _ _ => Fz
          rename News _ _ _ _ => Nz
          refine InvEndG.intro (nx := (d, listOf #[.ref c, .int (at' + 1 + 1 + 1) t'] n5) :: wl9) Fz Nz ⟨_, _, _, wl9, H9, b', came, _, _, rfl, A8.sub, fun p hp x hx => (by rw [List.mem_singleton.mp hx]; exact A8.off p hp _ (.head _)), by omega, by omega, hc.at fun o e => e9 _ o (fun hm => hcb (by simp only [four, List.mem_cons, List.not_mem_nil, or_false] at hm ⊢; rcases hm with q | q <;> simp [q])) e, hb9, by rw [f4]; exact hb0, by rw [hx9.2.1, hx9.2.2]; exact hgl, by rw [f4]; exact hcb, by rw [hlen9, hgs9]; omega, w1.ext hb.off_mut e9 (hW2 v1 sep1), w2.ext hb.off_mut e9 (hW2 v2 sep2), by rw [f4]; exact sep1, by rw [f4]; exact sep2, hx9.1.trans hbx, by omega, by omega, by rw [hnx9, hnx], rfl, by rw [← hbx]; rfl, rfl, rfl, rfl, rfl, rfl, rfl⟩ (A8.turnEnd hdo) ?_ ?_
          · intro p hp
            rcases List.mem_cons.mp hp with rfl | hp
            · exact .head _
            · exact List.mem_append_right _ hp
          · intro p hp
            exact .tail _ (List.mem_append_left _ hp)
        · have F1 := A3.F
          have N1 := A3.N
          clear A4
          walk_at "goC"
          all_goals (first | omega | skip)
          rename Fr _ _ _ _ => Fz
          rename News _ _ _ _ => Nz
          have A8 := A3
          refine InvEndG.intro (nx := (d, listOf #[.ref c, .int (at' + 1 + 1) tw3] n5) :: wl) Fz Nz ⟨_, _, _, wl, H, b1, came, _, _, rfl, A8.sub, fun p hp x hx => (by rw [List.mem_singleton.mp hx]; exact A8.off p hp _ (.head _)), by omega, by omega, hc, hb, hb0, hgl, hcb, by omega, w1, w2, sep1, sep2, hbx, by omega, by omega, by exact hnx, rfl, by rw [← hbx]; rfl, rfl, rfl, rfl, rfl, rfl, rfl⟩ (A8.turnEnd hdo) ?_ ?_
          · intro p hp
            rcases List.mem_cons.mp hp with rfl | hp
            · exact .head _
            · exact List.mem_append_right _ hp
          · intro p hp
            exact .tail _ (List.mem_append_left _ hp)
      · rename_i hway _ hway3 _ hway4 l7 _ Fz Nz l1
        have A4 := A3.push Fz Nz l1 (by simp)
        clear Fz Nz A3 A9 hI9; (try clear F1); (try clear N1)
        refine expunge_deed Bg A4 hb hb0 (by walk_at "room") (by walk_at "room") (A4.N _ (.head _)).1 (A4.N _ (.head _)).2.2 (A4.restH (.head _)) hgl (by omega) fun D b' h9 tk9 wl9 H9 qf hb9 hx9 hdx9 hgl9 hlb9 hn9 hgb9 hls9 hsz9 hnx9 e9 A8 => ?_
        have offb : ∀ x, (∃ o, H.get? x = some o) → x ∉ four b1 → x ∉ four b' := by
          rintro x ⟨o, ho⟩ hx hm
          simp only [four, List.mem_cons, List.not_mem_nil, or_false] at hm
          have hs := A4.stays _ _ ho
          rcases hm with q | q | q | q
          · exact hx (by rw [q, hx9]; simp)
          · exact hx (by rw [q, hdx9]; simp)
          · rcases hlb9 with r | r
            · exact hx (by rw [q, r]; simp)
            · rw [q, r] at hs; cases hs
          · rcases hgb9 with r | r
            · exact hx (by rw [q, r]; simp)
            · rw [q, r] at hs; cases hs
        have hmt : ∀ c ∈ [b1.dx], Mut H c := fun c hc => by rw [List.mem_singleton.mp hc]; exact hb.mut.2.2
        have hW2 : ∀ v : Vw, (∀ a ∈ five v, a ∉ four b1) → ∀ a ∈ five v, a ∉ [b1.dx] := fun v hv a ha hm => hv a ha (by rw [List.mem_singleton.mp hm]; simp)
        have F1 := A8.F
        have N1 := A8.N
        walk_at "goC"
        rename Fr _ _ _ _ => Fz
        rename News _ _ _ _ => Nz
        replace A8 := A8.less (rest' := (d, listOf #[.ref c, .int (at' + 1 + 1) tw3] n5) :: own) (fun p hp => .tail _ hp)
        refine InvEndG.intro (nx := (d, listOf #[.ref c, .int (at' + 1 + 1) tw3] n5) :: wl9) Fz Nz ⟨_, _, _, wl9, H9, b', came, _, _, rfl, A8.sub, fun p hp x hx => (by rw [List.mem_singleton.mp hx]; exact A8.off p hp _ (.head _)), by omega, by omega, hc.at fun o e => e9 _ o (fun hm => hcb (by rw [List.mem_singleton.mp hm]; simp)) e, hb9, hn9, hgl9, offb c (let ⟨o, ho, _⟩ := hc; ⟨o, ho⟩) hcb, by omega, w1.ext hmt e9 (hW2 v1 sep1), w2.ext hmt e9 (hW2 v2 sep2), fun a ha => offb a (w1.has a ha) (sep1 a ha), fun a ha => offb a (w2.has a ha) (sep2 a ha), hx9.trans hbx, by omega, by omega, by rw [hnx9, hnx], rfl, by rw [← hbx]; rfl, rfl, rfl, rfl, rfl, rfl, rfl⟩ (A8.turnEnd hdo) ?_ ?_
        · intro p hp
          rcases List.mem_cons.mp hp with rfl | hp
          · exact .tail _ (.head _)
          · exact List.mem_append_right _ hp
        · intro p hp
          exact .tail _ (.tail _ (List.mem_append_left _ hp))
      · rename_i hway hway3 _ hway4 _
        rename Fr _ _ _ _ => Fz
        rename News _ _ _ _ => Nz
        have A8 := A3
        refine InvEndG.intro (nx := (d, listOf #[.ref c, .int (at' + 1 + 1) tw3] n5) :: wl) Fz Nz ⟨_, _, _, wl, H, b1, came, _, _, rfl, A8.sub, fun p hp x hx => (by rw [List.mem_singleton.mp hx]; exact A8.off p hp _ (.head _)), by omega, by omega, hc, hb, hb0, hgl, hcb, by omega, w1, w2, sep1, sep2, hbx, by omega, by omega, by exact hnx, rfl, by rw [← hbx]; rfl, rfl, rfl, rfl, rfl, rfl, rfl⟩ (A8.turnEnd hdo) ?_ ?_
        · intro p hp
          rcases List.mem_cons.mp hp with rfl | hp
          · exact .head _
          · exact List.mem_append_right _ hp
        · intro p hp
          exact .tail _ (List.mem_append_left _ hp)
    · have hkn : (v1.uvs.toArray.size : Int) = (rn : Int) := by
        have e := congrArg List.length (w1s.trans hus)
        rw [upTo_len] at e
        simp only [List.size_toArray]; omega
      have hv1us : v1.us = upTo rn := w1s.trans hus
      have hv2us : v2.us = upTo rn := w2s.trans hus
      clear A5 hrng hc8 hb8 hb0 hgl hcb hgs hus hnx w1 w2 sep1 sep2 hblen e1 e2
      rintro mm nx h4 tk4 ⟨at', t5, n5, wl, H, b1, came, tc, tkn, rfl, hsub, hofd, a0, a1, hc, hb, hb0, hgl, hcb, hsz, w1, w2, sep1, sep2, hbx, cm0, cm1, hnx, e1, e2, e3, e4, e5, e6, e7, e8⟩ F2 N2
      rw [← hbx] at e2
      have F3 := over_fr (st := []) (ps := [("box", .ref b1.x), ("came", .int came tc), ("uses", .bool bu), ("vanishes", .bool bv), ("one", .ref v1.x), ("other", .ref v2.x), ("known", .int _ tkn)]) (m₀ := _) F2 (by
        intro p hp
        simp only [List.mem_cons, List.not_mem_nil, or_false] at hp
        rcases hp with rfl | rfl | rfl | rfl | rfl | rfl | rfl <;> assumption) (fun _ _ _ => rfl)
      have N3 : News g L h4 (((d, listOf #[.ref c, .int at' t5] n5) :: wl) ++ []) := by rw [List.append_nil]; exact N2
      have A1 : At g L _ _ _ _ _ := (At.loop (own := []) F3 N3 (List.forall_mem_nil _) hofd (by simp) (List.forall_mem_nil _) hsub).less (rest' := []) (List.forall_mem_nil _)
      clear F2 N2 N3 F3
      have F1 := A1.F
      have N1 := A1.N
      walk_at "goC"
      rename Fr _ _ _ _ => Fz
      rename News _ _ _ _ => Nz
      have A2 := A1.mv Fz Nz (fun _ hp => hp)
      clear Fz Nz A1; (try clear F1); (try clear N1)
      refine view_deed Bg A2 hb (by walk_at "room") fun f h5 tk5 wl5 H5 f1 f1n f1b f1u f1v f1s f1f f1m e9 A3 => ?_
      have hb5 : BoxAt w H5 b1 := hb.keeps e9.nil
      have sepf1 : ∀ a ∈ five f, a ∉ five v1 := off_new f1n (has_keeps A2.stays w1.has)
      have sepf2 : ∀ a ∈ five f, a ∉ five v2 := off_new f1n (has_keeps A2.stays w2.has)
      replace w1 : ViewAt prog w H5 v1 := w1.keeps e9.nil
      replace w2 : ViewAt prog w H5 v2 := w2.keeps e9.nil
      clear e9 A2 hb f1n
      have F1 := A3.F
      have N1 := A3.N
      walk_at "goC"
      rename Fr _ _ _ _ => Fz
      rename News _ _ _ _ => Nz
      have A2 := A3.mv Fz Nz (fun _ hp => hp)
      clear Fz Nz A3; (try clear F1); (try clear N1)
      have hbx1 : v1.bx = b1.x := w1b.trans hbx.symm
      have hbx2 : v2.bx = b1.x := w2b.trans hbx.symm
      have hl1 : v1.us.length = rn := by rw [hv1us, upTo_len]
      have hl2 : v2.us.length = rn := by rw [hv2us, upTo_len]
      refine news_at (v := v1) rfl Bg A2 (by walk_at "room") (by walk_at "room") w1 hb5 hbx1 g1 sep1 (by omega) fun D h6 tk6 n6 ys6 v1' wl6 H6 w1' rel1 x1 bx1 us1 five1 e9 A3 => ?_
      have hb6 : BoxAt w H6 b1 := hb5.at w1.muts e9 (four_off sep1)
      have f6 : ViewAt prog w H6 f := f1.ext w1.muts e9 (five_off sepf1)
      have w26 : ViewAt prog w H6 v2 := w2.ext w1.muts e9 (five_off sep12)
      have hfr1 : Fresh b1 v1' := news_fresh hb5.sorted (fun l hl => (hb5.pos l hl).1) w1.fdom w1.mdom (behind_upTo hv1us fun l hl => (hb5.pos l hl).1) w1'.sorted us1 rel1
      have hcnt : ys6.length ≤ rn + (if 0 < came then 1 else 0) := news_count hb5.sorted hb5.pos w1.fdom w1.mdom hv1us hnx rel1
      have hys : ys6.length ≤ 100 := by split at hcnt <;> omega
      clear e9 A2 hb5 f1 w2 rel1
      have F1 := A3.F
      have N1 := A3.N
      walk_at "goC"
      rename Fr _ _ _ _ => Fz
      rename News _ _ _ _ => Nz
      have A2 := A3.mv Fz Nz (fun _ hp => hp)
      clear Fz Nz A3; (try clear F1); (try clear N1)
      refine call_len_list (items := ys6.toArray) ⟨_, (A2.N _ (.head _)).1, rfl, _, rfl⟩ (by simp; omega) ?_
      replace A2 := A2.less (rest' := []) (List.forall_mem_nil _)
      have F1 := A2.F
      have N1 := A2.N
      walk_at "goC"
      · rename_i hlt
        exfalso
        simp only [List.size_toArray, decide_eq_true_eq] at hlt hkn
        by_cases q : 0 < came
        · rw [if_pos q] at hlt hcnt; omega
        · rw [if_neg q] at hlt hcnt; omega
      rename Fr _ _ _ _ => Fz
      rename News _ _ _ _ => Nz
      have A3 := A2.mv Fz Nz (fun _ hp => hp)
      clear Fz Nz A2; (try clear F1); (try clear N1)
      refine like_at (v := v1') (f := f) x1.symm rfl Bg A3 (by walk_at "room") (by walk_at "room") w1' f6 hb6 (bx1.trans hbx1) hfr1 (us1.trans w1u) f1s f1f f1m fun h7 tk7 A2 => ?_
      clear A3 w1' hfr1 five1
      have F1 := A2.F
      have N1 := A2.N
      walk_at "goC"
      rename Fr _ _ _ _ => Fz
      rename News _ _ _ _ => Nz
      have A3 := A2.mv Fz Nz (fun _ hp => hp)
      clear Fz Nz A2; (try clear F1); (try clear N1)
      refine news_at (v := v2) rfl Bg A3 (by walk_at "room") (by walk_at "room") w26 hb6 hbx2 g2 sep2 (by omega) fun D2 h8 tk8 n8 ys8 v2' wl8 H8 w2' rel2 x2 bx2 us2 five2 e9 A2 => ?_
      have hb7 : BoxAt w H8 b1 := hb6.at w26.muts e9 (four_off sep2)
      have f7 : ViewAt prog w H8 f := f6.ext w26.muts e9 (five_off sepf2)
      have g2' : ∀ a ∈ five v2', g.get? a = none := five2 (fun a => g.get? a = none) (fun q => A3.noneG q) g2
      have sep2' : ∀ a ∈ five v2', a ∉ four b1 := five2 (fun a => a ∉ four b1) (fun q hm => by obtain ⟨o, ho⟩ := has_keeps A3.stays hb6.has _ hm; rw [q] at ho; cases ho) sep2
      have sepf2' : ∀ a ∈ five v2', a ∉ five f := five2 (fun a => a ∉ five f) (fun q hm => by obtain ⟨o, ho⟩ := has_keeps A3.stays f6.has _ hm; rw [q] at ho; cases ho) (fun a ha hm => sepf2 a hm ha)
      have hbeh : Behind b1 v2' := fun l hl => .inl ((news_letter hb6.sorted (fun l hl => (hb6.pos l hl).1) w26.fdom w26.mdom (behind_upTo hv2us fun l hl => (hb6.pos l hl).1) rel2).1 l hl).1
      have hlen2 := news_len rel2
      clear e9 A3 hb6 f6 five2
      have F1 := A2.F
      have N1 := A2.N
      walk_at "goC"
      rename Fr _ _ _ _ => Fz
      rename News _ _ _ _ => Nz
      have A3 := (A2.mv Fz Nz (fun _ hp => hp)).less (rest' := []) (List.forall_mem_nil _)
      clear Fz Nz A2; (try clear F1); (try clear N1)
      refine news_at (v := v2') x2.symm Bg A3 (by walk_at "room") (by walk_at "room") w2' hb7 (bx2.trans hbx2) g2' sep2' (by omega) fun D3 h9 tk9 n9 ys9 v3 wl9 H9 w3 rel3 x3 bx3 us3 five3 e9 A2 => ?_
      have hb9 : BoxAt w H9 b1 := hb7.at w2'.muts e9 (four_off sep2')
      have f9 : ViewAt prog w H9 f := f7.ext w2'.muts e9 (five_off' sepf2')
      have hfr3 : Fresh b1 v3 := news_fresh hb7.sorted (fun l hl => (hb7.pos l hl).1) w2'.fdom w2'.mdom hbeh w3.sorted us3 rel3
      clear e9 A3 hb7 f7 five3
      have F1 := A2.F
      have N1 := A2.N
      walk_at "goC"
      rename Fr _ _ _ _ => Fz
      rename News _ _ _ _ => Nz
      have A3 := (A2.mv Fz Nz (fun _ hp => hp)).less (rest' := []) (List.forall_mem_nil _)
      clear Fz Nz A2; (try clear F1); (try clear N1)
      refine like_at (v := v3) (f := f) (x3.trans x2).symm rfl Bg A3 (by walk_at "room") (by walk_at "room") w3 f9 hb9 (bx3.trans (bx2.trans hbx2)) hfr3 (us3.trans (us2.trans w2u)) f1s f1f f1m fun h10 tk10 A2 => ?_
      have F1 := A2.F
      have N1 := A2.N
      walk_at "goC"
      rename Fr _ _ _ _ => F9
      exact h _ _ (ext_of hg F9)
theorem off26 : True := trivial
end
/-! U7 -/
theorem claim_dev : PySem.Challenge.rw_or0061_01.Holds := by
  refine hd.main ?_
  have hFill := fill_row
  revert hFill
  k_fill
  intro hFill
  clear hFill
  intro w s₀ s₁ mg mb G Y fa o pm cd doc dV kV ho hd' hcd hD hmg hg args vals as hpre hlay hrd hwl hlo
  have KX := kIn_of Y
  refine Ground.open G ?_
  intro T B D TE TW
  have hfa : fa = 407 := by
    have e := mg_of (n := "law") (v := .ref 407) KX T.g (by k_is)
    rw [hd.named] at hmg
    have e2 := hmg.symm.trans e
    injection e2 with e2
    injection e2
  subst hfa
  clear hmg ho hd' hcd hD B D TE TW
  wrow_args hpre hlay hrd hwl hlo
  rename Heap.IsList _ _ _ => hl
  rename IntsAre _ _ => hi
  rename ¬ _ => hc
  refine law_spec (dp := 1 + claimMargin) (un := 4) (fr := some []) (gd := some []) (hB := s₁.heap) ⟨KX, topRead_of T⟩ (fun _ _ e => e) (by decide) (by decide) hl hi (by omega) fun h' tk he => ?_
  refine GoodW.toG ⟨.inl ⟨.bool true, .bool true, [], rfl, ?_, .bool true, ?_, unshared_nil⟩, he.nil, rfl, hg⟩
  · intro cls; rfl
  · wrow_post
end Mine
theorem PySem.Challenge.cw_or0061_01_holds : PySem.Challenge.rw_or0061_01.Holds :=
  Mine.claim_dev
