import PyProof.Rows.All
import Wide.All
import OpenK.AllK
import Wide.FinOn
import PySem.Challenge.RW_nn0323_01
set_option Elab.async false
set_option linter.all false
set_option maxRecDepth 100000
set_option genSizeOf false
set_option genInjectivity false
set_option tactic.hygienic false
namespace Mine
theorem nb {n m:Nat} (h:Nat.ble n m=true):n≤m:=Nat.le_of_ble_eq_true h
section
open PySem PySem.W PyProof.Rows
open Str (ofString)
noncomputable def keep:List Nat:=[0,2,3,5,6,7,8,9,10,11,12,14,15,16,17,18,19,20,21,23,24,25,26,27,28,29,30,31,32]
noncomputable def vw:Program:=view PySem.Challenge.pw_nn0323_01 keep
noncomputable def stAt (i:Nat):Stmt:=(PySem.Challenge.pw_nn0323_01.main.body[i]?).getD (.Pass default)
noncomputable def clAt (i j:Nat):Stmt:=match stAt i with|.ClassDef _ _ _ b _ _ _ _ _ _ _=>(b[j]?).getD (.Pass default)|_=>.Pass default
noncomputable def fPar:Stmt→Arguments|.FunctionDef _ a _ _ _ _ _ _ _ _=>a|_=>⟨[],[],none,[],[],none,[]⟩
noncomputable def fBod:Stmt→List Stmt|.FunctionDef _ _ b _ _ _ _ _ _ _=>b|_=>[]
noncomputable def fSco:Stmt→Scope|.FunctionDef _ _ _ _ _ _ s _ _ _=>s|_=>default
noncomputable def fd36:FuncData:=fnOf (ofString "__init__") (ofString "GateloomError.__init__") (fPar (clAt 2 0)) (fBod (clAt 2 0)) (fSco (clAt 2 0)) (.ref 29) (.none) (.none) (.str (ofString "gateloom.errors") 194) none (.ref 35) (.none)
noncomputable def fd61:FuncData:=fnOf (ofString "is_state_kind") (ofString "is_state_kind") (fPar (stAt 7)) (fBod (stAt 7)) (fSco (stAt 7)) (.none) (.none) (.none) (.str (ofString "gateloom.netlist") 248) none (.ref 60) (.none)
noncomputable def fd75:FuncData:=fnOf (ofString "__init__") (ofString "Netlist.__init__") (fPar (clAt 8 0)) (fBod (clAt 8 0)) (fSco (clAt 8 0)) (.none) (.none) (.none) (.str (ofString "gateloom.netlist") 248) none (.ref 74) (.none)
noncomputable def fd82:FuncData:=fnOf (ofString "new_net") (ofString "Netlist.new_net") (fPar (clAt 8 1)) (fBod (clAt 8 1)) (fSco (clAt 8 1)) (.none) (.none) (.none) (.str (ofString "gateloom.netlist") 248) none (.ref 81) (.none)
noncomputable def fd87:FuncData:=fnOf (ofString "new_nets") (ofString "Netlist.new_nets") (fPar (clAt 8 2)) (fBod (clAt 8 2)) (fSco (clAt 8 2)) (.none) (.none) (.none) (.str (ofString "gateloom.netlist") 248) none (.ref 86) (.none)
noncomputable def fd94:FuncData:=fnOf (ofString "add_input") (ofString "Netlist.add_input") (fPar (clAt 8 3)) (fBod (clAt 8 3)) (fSco (clAt 8 3)) (.none) (.none) (.none) (.str (ofString "gateloom.netlist") 248) none (.ref 93) (.none)
noncomputable def fd101:FuncData:=fnOf (ofString "add_output") (ofString "Netlist.add_output") (fPar (clAt 8 4)) (fBod (clAt 8 4)) (fSco (clAt 8 4)) (.none) (.none) (.none) (.str (ofString "gateloom.netlist") 248) none (.ref 100) (.none)
noncomputable def fd109:FuncData:=fnOf (ofString "add_cell") (ofString "Netlist.add_cell") (fPar (clAt 8 5)) (fBod (clAt 8 5)) (fSco (clAt 8 5)) (.ref 102) (.none) (.none) (.str (ofString "gateloom.netlist") 248) none (.ref 108) (.none)
noncomputable def fd117:FuncData:=fnOf (ofString "drive") (ofString "Netlist.drive") (fPar (clAt 8 6)) (fBod (clAt 8 6)) (fSco (clAt 8 6)) (.ref 110) (.none) (.none) (.str (ofString "gateloom.netlist") 248) none (.ref 116) (.none)
noncomputable def fd124:FuncData:=fnOf (ofString "sources") (ofString "Netlist.sources") (fPar (clAt 8 7)) (fBod (clAt 8 7)) (fSco (clAt 8 7)) (.none) (.none) (.none) (.str (ofString "gateloom.netlist") 248) none (.ref 123) (.none)
noncomputable def fd131:FuncData:=fnOf (ofString "sinks") (ofString "Netlist.sinks") (fPar (clAt 8 8)) (fBod (clAt 8 8)) (fSco (clAt 8 8)) (.none) (.none) (.none) (.str (ofString "gateloom.netlist") 248) none (.ref 130) (.none)
noncomputable def fd145:FuncData:=fnOf (ofString "state_cells") (ofString "state_cells") (fPar (stAt 9)) (fBod (stAt 9)) (fSco (stAt 9)) (.none) (.none) (.none) (.str (ofString "gateloom.netlist") 248) none (.ref 144) (.none)
noncomputable def fd152:FuncData:=fnOf (ofString "drivers") (ofString "drivers") (fPar (stAt 10)) (fBod (stAt 10)) (fSco (stAt 10)) (.none) (.none) (.none) (.str (ofString "gateloom.netlist") 248) none (.ref 151) (.none)
noncomputable def fd159:FuncData:=fnOf (ofString "ordered_cells") (ofString "ordered_cells") (fPar (stAt 11)) (fBod (stAt 11)) (fSco (stAt 11)) (.none) (.none) (.none) (.str (ofString "gateloom.netlist") 248) none (.ref 158) (.none)
noncomputable def fd166:FuncData:=fnOf (ofString "comb_order") (ofString "comb_order") (fPar (stAt 12)) (fBod (stAt 12)) (fSco (stAt 12)) (.none) (.none) (.none) (.str (ofString "gateloom.netlist") 248) none (.ref 165) (.none)
noncomputable def fd180:FuncData:=fnOf (ofString "__init__") (ofString "Aig.__init__") (fPar (clAt 14 0)) (fBod (clAt 14 0)) (fSco (clAt 14 0)) (.none) (.none) (.none) (.str (ofString "gateloom.aig") 418) none (.ref 179) (.none)
noncomputable def fd187:FuncData:=fnOf (ofString "add_input") (ofString "Aig.add_input") (fPar (clAt 14 1)) (fBod (clAt 14 1)) (fSco (clAt 14 1)) (.none) (.none) (.none) (.str (ofString "gateloom.aig") 418) none (.ref 186) (.none)
noncomputable def fd194:FuncData:=fnOf (ofString "add_output") (ofString "Aig.add_output") (fPar (clAt 14 2)) (fBod (clAt 14 2)) (fSco (clAt 14 2)) (.none) (.none) (.none) (.str (ofString "gateloom.aig") 418) none (.ref 193) (.none)
noncomputable def fd208:FuncData:=fnOf (ofString "land") (ofString "Aig.land") (fPar (clAt 14 4)) (fBod (clAt 14 4)) (fSco (clAt 14 4)) (.none) (.none) (.none) (.str (ofString "gateloom.aig") 418) none (.ref 207) (.none)
noncomputable def fd215:FuncData:=fnOf (ofString "lor") (ofString "Aig.lor") (fPar (clAt 14 5)) (fBod (clAt 14 5)) (fSco (clAt 14 5)) (.none) (.none) (.none) (.str (ofString "gateloom.aig") 418) none (.ref 214) (.none)
noncomputable def fd222:FuncData:=fnOf (ofString "lxor") (ofString "Aig.lxor") (fPar (clAt 14 6)) (fBod (clAt 14 6)) (fSco (clAt 14 6)) (.none) (.none) (.none) (.str (ofString "gateloom.aig") 418) none (.ref 221) (.none)
noncomputable def fd229:FuncData:=fnOf (ofString "lmux") (ofString "Aig.lmux") (fPar (clAt 14 7)) (fBod (clAt 14 7)) (fSco (clAt 14 7)) (.none) (.none) (.none) (.str (ofString "gateloom.aig") 418) none (.ref 228) (.none)
noncomputable def fd272:FuncData:=fnOf (ofString "used_nodes") (ofString "used_nodes") (fPar (stAt 15)) (fBod (stAt 15)) (fSco (stAt 15)) (.none) (.none) (.none) (.str (ofString "gateloom.aig") 418) none (.ref 271) (.none)
noncomputable def fd279:FuncData:=fnOf (ofString "table_literal") (ofString "table_literal") (fPar (stAt 16)) (fBod (stAt 16)) (fSco (stAt 16)) (.none) (.none) (.none) (.str (ofString "gateloom.aig") 418) none (.ref 278) (.none)
noncomputable def fd286:FuncData:=fnOf (ofString "cell_literal") (ofString "cell_literal") (fPar (stAt 17)) (fBod (stAt 17)) (fSco (stAt 17)) (.none) (.none) (.none) (.str (ofString "gateloom.aig") 418) none (.ref 285) (.none)
noncomputable def fd293:FuncData:=fnOf (ofString "literal_of") (ofString "literal_of") (fPar (stAt 18)) (fBod (stAt 18)) (fSco (stAt 18)) (.none) (.none) (.none) (.str (ofString "gateloom.aig") 418) none (.ref 292) (.none)
noncomputable def fd300:FuncData:=fnOf (ofString "from_netlist") (ofString "from_netlist") (fPar (stAt 19)) (fBod (stAt 19)) (fSco (stAt 19)) (.none) (.none) (.none) (.str (ofString "gateloom.aig") 418) none (.ref 299) (.none)
noncomputable def fd314:FuncData:=fnOf (ofString "__init__") (ofString "NetMaker.__init__") (fPar (clAt 20 0)) (fBod (clAt 20 0)) (fSco (clAt 20 0)) (.none) (.none) (.none) (.str (ofString "gateloom.aig") 418) none (.ref 313) (.none)
noncomputable def fd321:FuncData:=fnOf (ofString "net") (ofString "NetMaker.net") (fPar (clAt 20 1)) (fBod (clAt 20 1)) (fSco (clAt 20 1)) (.none) (.none) (.none) (.str (ofString "gateloom.aig") 418) none (.ref 320) (.none)
noncomputable def fd335:FuncData:=fnOf (ofString "to_netlist") (ofString "to_netlist") (fPar (stAt 21)) (fBod (stAt 21)) (fSco (stAt 21)) (.none) (.none) (.none) (.str (ofString "gateloom.aig") 418) none (.ref 334) (.none)
noncomputable def fd342:FuncData:=fnOf (ofString "_law_pick") (ofString "_law_pick") (fPar (stAt 23)) (fBod (stAt 23)) (fSco (stAt 23)) (.none) (.none) (.none) (.str (ofString "law_nn0323_01") 677) none (.ref 341) (.none)
noncomputable def fd349:FuncData:=fnOf (ofString "_law_table") (ofString "_law_table") (fPar (stAt 24)) (fBod (stAt 24)) (fSco (stAt 24)) (.none) (.none) (.none) (.str (ofString "law_nn0323_01") 677) none (.ref 348) (.none)
noncomputable def fd356:FuncData:=fnOf (ofString "_law_near") (ofString "_law_near") (fPar (stAt 25)) (fBod (stAt 25)) (fSco (stAt 25)) (.none) (.none) (.none) (.str (ofString "law_nn0323_01") 677) none (.ref 355) (.none)
noncomputable def fd361:FuncData:=fnOf (ofString "_law_netlist") (ofString "_law_netlist") (fPar (stAt 26)) (fBod (stAt 26)) (fSco (stAt 26)) (.none) (.none) (.none) (.str (ofString "law_nn0323_01") 677) none (.ref 360) (.none)
noncomputable def fd366:FuncData:=fnOf (ofString "_law_states") (ofString "_law_states") (fPar (stAt 27)) (fBod (stAt 27)) (fSco (stAt 27)) (.none) (.none) (.none) (.str (ofString "law_nn0323_01") 677) none (.ref 365) (.none)
noncomputable def fd371:FuncData:=fnOf (ofString "_law_patterns") (ofString "_law_patterns") (fPar (stAt 28)) (fBod (stAt 28)) (fSco (stAt 28)) (.none) (.none) (.none) (.str (ofString "law_nn0323_01") 677) none (.ref 370) (.none)
noncomputable def fd378:FuncData:=fnOf (ofString "_law_word") (ofString "_law_word") (fPar (stAt 29)) (fBod (stAt 29)) (fSco (stAt 29)) (.none) (.none) (.none) (.str (ofString "law_nn0323_01") 677) none (.ref 377) (.none)
noncomputable def fd383:FuncData:=fnOf (ofString "_law_words") (ofString "_law_words") (fPar (stAt 30)) (fBod (stAt 30)) (fSco (stAt 30)) (.none) (.none) (.none) (.str (ofString "law_nn0323_01") 677) none (.ref 382) (.none)
noncomputable def fd388:FuncData:=fnOf (ofString "_law_sinks") (ofString "_law_sinks") (fPar (stAt 31)) (fBod (stAt 31)) (fSco (stAt 31)) (.none) (.none) (.none) (.str (ofString "law_nn0323_01") 677) none (.ref 387) (.none)
noncomputable def KF (P:Params):Frag:=[
 (3,⟨.type "dict",none,.dict #[⟨PyData.keyHash P (ofString "__name__"),.str (ofString "__name__") 165,.str (ofString "law_nn0323_01") 677⟩,⟨PyData.keyHash P (ofString "__doc__"),.str (ofString "__doc__") 166,.none⟩,⟨PyData.keyHash P (ofString "__package__"),.str (ofString "__package__") 167,.none⟩,⟨PyData.keyHash P (ofString "__loader__"),.str (ofString "__loader__") 168,.builtin "__main__.__loader__#opaque"⟩,⟨PyData.keyHash P (ofString "__spec__"),.str (ofString "__spec__") 169,.none⟩,⟨PyData.keyHash P (ofString "__annotations__"),.str (ofString "__annotations__") 170,.ref 6⟩,⟨PyData.keyHash P (ofString "__builtins__"),.str (ofString "__builtins__") 171,.ref 4⟩,⟨PyData.keyHash P (ofString "__file__"),.str (ofString "__file__") 173,.str (ofString "/claim/cut.py") 172⟩,⟨PyData.keyHash P (ofString "__cached__"),.str (ofString "__cached__") 174,.none⟩,⟨PyData.keyHash P (ofString "_wall"),.str (ofString "_wall") 193,.ref 21⟩,⟨PyData.keyHash P (ofString "GateloomError"),.str (ofString "GateloomError") 231,.ref 39⟩,⟨PyData.keyHash P (ofString "SynthError"),.str (ofString "SynthError") 247,.ref 52⟩,⟨PyData.keyHash P (ofString "CONST0"),.str (ofString "CONST0") 251,.int (0) 250⟩,⟨PyData.keyHash P (ofString "CONST1"),.str (ofString "CONST1") 253,.int (1) 252⟩,⟨PyData.keyHash P (ofString "is_state_kind"),.str (ofString "is_state_kind") 260,.ref 61⟩,⟨PyData.keyHash P (ofString "Netlist"),.str (ofString "Netlist") 370,.ref 134⟩,⟨PyData.keyHash P (ofString "state_cells"),.str (ofString "state_cells") 379,.ref 145⟩,⟨PyData.keyHash P (ofString "drivers"),.str (ofString "drivers") 392,.ref 152⟩,⟨PyData.keyHash P (ofString "ordered_cells"),.str (ofString "ordered_cells") 409,.ref 159⟩,⟨PyData.keyHash P (ofString "comb_order"),.str (ofString "comb_order") 417,.ref 166⟩,⟨PyData.keyHash P (ofString "Aig"),.str (ofString "Aig") 550,.ref 261⟩,⟨PyData.keyHash P (ofString "used_nodes"),.str (ofString "used_nodes") 561,.ref 272⟩,⟨PyData.keyHash P (ofString "table_literal"),.str (ofString "table_literal") 577,.ref 279⟩,⟨PyData.keyHash P (ofString "cell_literal"),.str (ofString "cell_literal") 587,.ref 286⟩,⟨PyData.keyHash P (ofString "literal_of"),.str (ofString "literal_of") 595,.ref 293⟩,⟨PyData.keyHash P (ofString "from_netlist"),.str (ofString "from_netlist") 611,.ref 300⟩,⟨PyData.keyHash P (ofString "NetMaker"),.str (ofString "NetMaker") 649,.ref 324⟩,⟨PyData.keyHash P (ofString "to_netlist"),.str (ofString "to_netlist") 676,.ref 335⟩,⟨PyData.keyHash P (ofString "_law_pick"),.str (ofString "_law_pick") 688,.ref 342⟩,⟨PyData.keyHash P (ofString "_law_table"),.str (ofString "_law_table") 696,.ref 349⟩,⟨PyData.keyHash P (ofString "_law_near"),.str (ofString "_law_near") 704,.ref 356⟩,⟨PyData.keyHash P (ofString "_law_netlist"),.str (ofString "_law_netlist") 710,.ref 361⟩,⟨PyData.keyHash P (ofString "_law_states"),.str (ofString "_law_states") 716,.ref 366⟩,⟨PyData.keyHash P (ofString "_law_patterns"),.str (ofString "_law_patterns") 722,.ref 371⟩,⟨PyData.keyHash P (ofString "_law_word"),.str (ofString "_law_word") 735,.ref 378⟩,⟨PyData.keyHash P (ofString "_law_words"),.str (ofString "_law_words") 741,.ref 383⟩,⟨PyData.keyHash P (ofString "_law_sinks"),.str (ofString "_law_sinks") 747,.ref 388⟩,⟨PyData.keyHash P (ofString "law"),.str (ofString "law") 753,.ref 393⟩] 38,#[]⟩),
 (38,⟨.type "dict",none,.dict #[⟨PyData.keyHash P (ofString "__module__"),.str (ofString "__module__") 203,.str (ofString "gateloom.errors") 194⟩,⟨PyData.keyHash P (ofString "__firstlineno__"),.str (ofString "__firstlineno__") 207,.int (5) 206⟩,⟨PyData.keyHash P (ofString "__init__"),.str (ofString "__init__") 220,.ref 36⟩,⟨PyData.keyHash P (ofString "__static_attributes__"),.str (ofString "__static_attributes__") 224,.ref 37⟩,⟨PyData.keyHash P (ofString "__weakref__"),.str (ofString "__weakref__") 226,.ref 40⟩,⟨PyData.keyHash P (ofString "__doc__"),.str (ofString "__doc__") 227,.none⟩] 3,#[]⟩),
 (51,⟨.type "dict",none,.dict #[⟨PyData.keyHash P (ofString "__module__"),.str (ofString "__module__") 239,.str (ofString "gateloom.errors") 194⟩,⟨PyData.keyHash P (ofString "__firstlineno__"),.str (ofString "__firstlineno__") 243,.int (11) 242⟩,⟨PyData.keyHash P (ofString "__static_attributes__"),.str (ofString "__static_attributes__") 244,.ref 50⟩,⟨PyData.keyHash P (ofString "__doc__"),.str (ofString "__doc__") 245,.none⟩] 2,#[]⟩),
 (133,⟨.type "dict",none,.dict #[⟨PyData.keyHash P (ofString "__module__"),.str (ofString "__module__") 268,.str (ofString "gateloom.netlist") 248⟩,⟨PyData.keyHash P (ofString "__firstlineno__"),.str (ofString "__firstlineno__") 272,.int (18) 271⟩,⟨PyData.keyHash P (ofString "__init__"),.str (ofString "__init__") 280,.ref 75⟩,⟨PyData.keyHash P (ofString "new_net"),.str (ofString "new_net") 288,.ref 82⟩,⟨PyData.keyHash P (ofString "new_nets"),.str (ofString "new_nets") 294,.ref 87⟩,⟨PyData.keyHash P (ofString "add_input"),.str (ofString "add_input") 304,.ref 94⟩,⟨PyData.keyHash P (ofString "add_output"),.str (ofString "add_output") 313,.ref 101⟩,⟨PyData.keyHash P (ofString "add_cell"),.str (ofString "add_cell") 324,.ref 109⟩,⟨PyData.keyHash P (ofString "drive"),.str (ofString "drive") 335,.ref 117⟩,⟨PyData.keyHash P (ofString "sources"),.str (ofString "sources") 346,.ref 124⟩,⟨PyData.keyHash P (ofString "sinks"),.str (ofString "sinks") 357,.ref 131⟩,⟨PyData.keyHash P (ofString "__static_attributes__"),.str (ofString "__static_attributes__") 363,.ref 132⟩,⟨PyData.keyHash P (ofString "__dict__"),.str (ofString "__dict__") 365,.ref 135⟩,⟨PyData.keyHash P (ofString "__weakref__"),.str (ofString "__weakref__") 367,.ref 136⟩,⟨PyData.keyHash P (ofString "__doc__"),.str (ofString "__doc__") 368,.none⟩] 4,#[]⟩),
 (260,⟨.type "dict",none,.dict #[⟨PyData.keyHash P (ofString "__module__"),.str (ofString "__module__") 427,.str (ofString "gateloom.aig") 418⟩,⟨PyData.keyHash P (ofString "__firstlineno__"),.str (ofString "__firstlineno__") 431,.int (122) 430⟩,⟨PyData.keyHash P (ofString "__init__"),.str (ofString "__init__") 438,.ref 180⟩,⟨PyData.keyHash P (ofString "add_input"),.str (ofString "add_input") 446,.ref 187⟩,⟨PyData.keyHash P (ofString "add_output"),.str (ofString "add_output") 454,.ref 194⟩,⟨PyData.keyHash P (ofString "is_and"),.str (ofString "is_and") 462,.ref 201⟩,⟨PyData.keyHash P (ofString "land"),.str (ofString "land") 472,.ref 208⟩,⟨PyData.keyHash P (ofString "lor"),.str (ofString "lor") 481,.ref 215⟩,⟨PyData.keyHash P (ofString "lxor"),.str (ofString "lxor") 493,.ref 222⟩,⟨PyData.keyHash P (ofString "lmux"),.str (ofString "lmux") 503,.ref 229⟩,⟨PyData.keyHash P (ofString "levels"),.str (ofString "levels") 510,.ref 236⟩,⟨PyData.keyHash P (ofString "users"),.str (ofString "users") 521,.ref 243⟩,⟨PyData.keyHash P (ofString "uses"),.str (ofString "uses") 528,.ref 250⟩,⟨PyData.keyHash P (ofString "value"),.str (ofString "value") 538,.ref 258⟩,⟨PyData.keyHash P (ofString "__static_attributes__"),.str (ofString "__static_attributes__") 543,.ref 259⟩,⟨PyData.keyHash P (ofString "__dict__"),.str (ofString "__dict__") 545,.ref 262⟩,⟨PyData.keyHash P (ofString "__weakref__"),.str (ofString "__weakref__") 547,.ref 263⟩,⟨PyData.keyHash P (ofString "__doc__"),.str (ofString "__doc__") 548,.none⟩] 4,#[]⟩),
 (323,⟨.type "dict",none,.dict #[⟨PyData.keyHash P (ofString "__module__"),.str (ofString "__module__") 619,.str (ofString "gateloom.aig") 418⟩,⟨PyData.keyHash P (ofString "__firstlineno__"),.str (ofString "__firstlineno__") 623,.int (255) 622⟩,⟨PyData.keyHash P (ofString "__init__"),.str (ofString "__init__") 631,.ref 314⟩,⟨PyData.keyHash P (ofString "net"),.str (ofString "net") 639,.ref 321⟩,⟨PyData.keyHash P (ofString "__static_attributes__"),.str (ofString "__static_attributes__") 642,.ref 322⟩,⟨PyData.keyHash P (ofString "__dict__"),.str (ofString "__dict__") 644,.ref 325⟩,⟨PyData.keyHash P (ofString "__weakref__"),.str (ofString "__weakref__") 646,.ref 326⟩,⟨PyData.keyHash P (ofString "__doc__"),.str (ofString "__doc__") 647,.none⟩] 4,#[]⟩),
 (39,⟨.type "type",none,.cls { name:=(ofString "GateloomError"),bases:=[.type "Exception"],mro:=[.ref 39,.type "Exception",.type "BaseException",.type "object"],ns:=38,qualname:=(ofString "GateloomError"),hasDict:=true,slotNames:=[],subclasses:=[.ref 52],abstract:=false,collection:=none,hasDel:=false },#[some (.ref 22),none,some (.str (ofString "GateloomError") 196),some (.str (ofString "GateloomError") 204),some (.builtin "Exception.__new__"),some (.bool true)]⟩),
 (52,⟨.type "type",none,.cls { name:=(ofString "SynthError"),bases:=[.ref 39],mro:=[.ref 52,.ref 39,.type "Exception",.type "BaseException",.type "object"],ns:=51,qualname:=(ofString "SynthError"),hasDict:=true,slotNames:=[],subclasses:=[],abstract:=false,collection:=none,hasDel:=false },#[some (.ref 43),none,some (.str (ofString "SynthError") 232),some (.str (ofString "SynthError") 240),some (.builtin "Exception.__new__"),some (.bool true)]⟩),
 (134,⟨.type "type",none,.cls { name:=(ofString "Netlist"),bases:=[.type "object"],mro:=[.ref 134,.type "object"],ns:=133,qualname:=(ofString "Netlist"),hasDict:=true,slotNames:=[],subclasses:=[],abstract:=false,collection:=none,hasDel:=false },#[none,none,some (.str (ofString "Netlist") 261),some (.str (ofString "Netlist") 269),some (.builtin "object.__new__"),some (.bool true)]⟩),
 (261,⟨.type "type",none,.cls { name:=(ofString "Aig"),bases:=[.type "object"],mro:=[.ref 261,.type "object"],ns:=260,qualname:=(ofString "Aig"),hasDict:=true,slotNames:=[],subclasses:=[],abstract:=false,collection:=none,hasDel:=false },#[none,none,some (.str (ofString "Aig") 420),some (.str (ofString "Aig") 428),some (.builtin "object.__new__"),some (.bool true)]⟩),
 (324,⟨.type "type",none,.cls { name:=(ofString "NetMaker"),bases:=[.type "object"],mro:=[.ref 324,.type "object"],ns:=323,qualname:=(ofString "NetMaker"),hasDict:=true,slotNames:=[],subclasses:=[],abstract:=false,collection:=none,hasDel:=false },#[none,none,some (.str (ofString "NetMaker") 612),some (.str (ofString "NetMaker") 620),some (.builtin "object.__new__"),some (.bool true)]⟩),
 (29,⟨.type "tuple",none,.seq #[.int (-1) 209,.str (ofString "") 210] 0,#[]⟩),
 (102,⟨.type "tuple",none,.seq #[.none] 0,#[]⟩),
 (110,⟨.type "tuple",none,.seq #[.none] 0,#[]⟩),
 (36,⟨.type "function",none,.func fd36,#[]⟩),
 (61,⟨.type "function",none,.func fd61,#[]⟩),
 (75,⟨.type "function",none,.func fd75,#[]⟩),
 (82,⟨.type "function",none,.func fd82,#[]⟩),
 (87,⟨.type "function",none,.func fd87,#[]⟩),
 (94,⟨.type "function",none,.func fd94,#[]⟩),
 (101,⟨.type "function",none,.func fd101,#[]⟩),
 (109,⟨.type "function",none,.func fd109,#[]⟩),
 (117,⟨.type "function",none,.func fd117,#[]⟩),
 (124,⟨.type "function",none,.func fd124,#[]⟩),
 (131,⟨.type "function",none,.func fd131,#[]⟩),
 (145,⟨.type "function",none,.func fd145,#[]⟩),
 (152,⟨.type "function",none,.func fd152,#[]⟩),
 (159,⟨.type "function",none,.func fd159,#[]⟩),
 (166,⟨.type "function",none,.func fd166,#[]⟩),
 (180,⟨.type "function",none,.func fd180,#[]⟩),
 (187,⟨.type "function",none,.func fd187,#[]⟩),
 (194,⟨.type "function",none,.func fd194,#[]⟩),
 (208,⟨.type "function",none,.func fd208,#[]⟩),
 (215,⟨.type "function",none,.func fd215,#[]⟩),
 (222,⟨.type "function",none,.func fd222,#[]⟩),
 (229,⟨.type "function",none,.func fd229,#[]⟩),
 (272,⟨.type "function",none,.func fd272,#[]⟩),
 (279,⟨.type "function",none,.func fd279,#[]⟩),
 (286,⟨.type "function",none,.func fd286,#[]⟩),
 (293,⟨.type "function",none,.func fd293,#[]⟩),
 (300,⟨.type "function",none,.func fd300,#[]⟩),
 (314,⟨.type "function",none,.func fd314,#[]⟩),
 (321,⟨.type "function",none,.func fd321,#[]⟩),
 (335,⟨.type "function",none,.func fd335,#[]⟩),
 (342,⟨.type "function",none,.func fd342,#[]⟩),
 (349,⟨.type "function",none,.func fd349,#[]⟩),
 (356,⟨.type "function",none,.func fd356,#[]⟩),
 (361,⟨.type "function",none,.func fd361,#[]⟩),
 (366,⟨.type "function",none,.func fd366,#[]⟩),
 (371,⟨.type "function",none,.func fd371,#[]⟩),
 (378,⟨.type "function",none,.func fd378,#[]⟩),
 (383,⟨.type "function",none,.func fd383,#[]⟩),
 (388,⟨.type "function",none,.func fd388,#[]⟩),
 (35,⟨.type "code",none,.fields #[.str (ofString "__init__") 211,.str (ofString "GateloomError.__init__") 212,.str (ofString "/claim/cut.py") 213,.int (7) 0,.int (4) 0,.int (0) 0,.int (0) 0,.int (3) 0,.ref 30,.bool true,.int (181) 0,.ref 31,.none,.ref 32,.ref 33,.ref 34,.int (218) 0,.int (7) 0,.str (ofString "/claim/cut.py") 219],#[]⟩),
 (60,⟨.type "code",none,.fields #[.str (ofString "is_state_kind") 254,.str (ofString "is_state_kind") 255,.str (ofString "/claim/cut.py") 256,.int (16) 0,.int (1) 0,.int (0) 0,.int (0) 0,.int (3) 0,.ref 55,.bool true,.int (181) 0,.ref 56,.none,.ref 57,.ref 58,.ref 59,.int (258) 0,.int (16) 0,.str (ofString "/claim/cut.py") 259],#[]⟩),
 (74,⟨.type "code",none,.fields #[.str (ofString "__init__") 273,.str (ofString "Netlist.__init__") 274,.str (ofString "/claim/cut.py") 275,.int (20) 0,.int (2) 0,.int (0) 0,.int (0) 0,.int (3) 0,.ref 69,.bool true,.int (181) 0,.ref 70,.none,.ref 71,.ref 72,.ref 73,.int (278) 0,.int (20) 0,.str (ofString "/claim/cut.py") 279],#[]⟩),
 (81,⟨.type "code",none,.fields #[.str (ofString "new_net") 281,.str (ofString "Netlist.new_net") 282,.str (ofString "/claim/cut.py") 283,.int (27) 0,.int (1) 0,.int (0) 0,.int (0) 0,.int (3) 0,.ref 76,.bool true,.int (181) 0,.ref 77,.none,.ref 78,.ref 79,.ref 80,.int (286) 0,.int (27) 0,.str (ofString "/claim/cut.py") 287],#[]⟩),
 (86,⟨.type "code",none,.fields #[.str (ofString "new_nets") 289,.str (ofString "Netlist.new_nets") 290,.str (ofString "/claim/cut.py") 291,.int (32) 0,.int (2) 0,.int (0) 0,.int (0) 0,.int (3) 0,.ref 83,.bool true,.int (181) 0,.ref 84,.none,.none,.none,.ref 85,.int (292) 0,.int (32) 0,.str (ofString "/claim/cut.py") 293],#[]⟩),
 (93,⟨.type "code",none,.fields #[.str (ofString "add_input") 295,.str (ofString "Netlist.add_input") 296,.str (ofString "/claim/cut.py") 297,.int (35) 0,.int (3) 0,.int (0) 0,.int (0) 0,.int (3) 0,.ref 88,.bool true,.int (181) 0,.ref 89,.none,.ref 90,.ref 91,.ref 92,.int (302) 0,.int (35) 0,.str (ofString "/claim/cut.py") 303],#[]⟩),
 (100,⟨.type "code",none,.fields #[.str (ofString "add_output") 305,.str (ofString "Netlist.add_output") 306,.str (ofString "/claim/cut.py") 307,.int (40) 0,.int (3) 0,.int (0) 0,.int (0) 0,.int (3) 0,.ref 95,.bool true,.int (181) 0,.ref 96,.none,.ref 97,.ref 98,.ref 99,.int (311) 0,.int (40) 0,.str (ofString "/claim/cut.py") 312],#[]⟩),
 (108,⟨.type "code",none,.fields #[.str (ofString "add_cell") 314,.str (ofString "Netlist.add_cell") 315,.str (ofString "/claim/cut.py") 316,.int (43) 0,.int (4) 0,.int (0) 0,.int (0) 0,.int (3) 0,.ref 103,.bool true,.int (181) 0,.ref 104,.none,.ref 105,.ref 106,.ref 107,.int (322) 0,.int (43) 0,.str (ofString "/claim/cut.py") 323],#[]⟩),
 (116,⟨.type "code",none,.fields #[.str (ofString "drive") 325,.str (ofString "Netlist.drive") 326,.str (ofString "/claim/cut.py") 327,.int (48) 0,.int (5) 0,.int (0) 0,.int (0) 0,.int (3) 0,.ref 111,.bool true,.int (181) 0,.ref 112,.none,.ref 113,.ref 114,.ref 115,.int (333) 0,.int (48) 0,.str (ofString "/claim/cut.py") 334],#[]⟩),
 (123,⟨.type "code",none,.fields #[.str (ofString "sources") 336,.str (ofString "Netlist.sources") 337,.str (ofString "/claim/cut.py") 338,.int (51) 0,.int (1) 0,.int (0) 0,.int (0) 0,.int (3) 0,.ref 118,.bool true,.int (181) 0,.ref 119,.none,.ref 120,.ref 121,.ref 122,.int (344) 0,.int (51) 0,.str (ofString "/claim/cut.py") 345],#[]⟩),
 (130,⟨.type "code",none,.fields #[.str (ofString "sinks") 347,.str (ofString "Netlist.sinks") 348,.str (ofString "/claim/cut.py") 349,.int (60) 0,.int (1) 0,.int (0) 0,.int (0) 0,.int (3) 0,.ref 125,.bool true,.int (181) 0,.ref 126,.none,.ref 127,.ref 128,.ref 129,.int (355) 0,.int (60) 0,.str (ofString "/claim/cut.py") 356],#[]⟩),
 (144,⟨.type "code",none,.fields #[.str (ofString "state_cells") 371,.str (ofString "state_cells") 372,.str (ofString "/claim/cut.py") 373,.int (68) 0,.int (1) 0,.int (0) 0,.int (0) 0,.int (3) 0,.ref 139,.bool true,.int (181) 0,.ref 140,.none,.ref 141,.ref 142,.ref 143,.int (377) 0,.int (68) 0,.str (ofString "/claim/cut.py") 378],#[]⟩),
 (151,⟨.type "code",none,.fields #[.str (ofString "drivers") 380,.str (ofString "drivers") 381,.str (ofString "/claim/cut.py") 382,.int (74) 0,.int (1) 0,.int (0) 0,.int (0) 0,.int (3) 0,.ref 146,.bool true,.int (181) 0,.ref 147,.none,.ref 148,.ref 149,.ref 150,.int (390) 0,.int (74) 0,.str (ofString "/claim/cut.py") 391],#[]⟩),
 (158,⟨.type "code",none,.fields #[.str (ofString "ordered_cells") 393,.str (ofString "ordered_cells") 394,.str (ofString "/claim/cut.py") 395,.int (89) 0,.int (2) 0,.int (0) 0,.int (0) 0,.int (3) 0,.ref 153,.bool true,.int (181) 0,.ref 154,.none,.ref 155,.ref 156,.ref 157,.int (407) 0,.int (89) 0,.str (ofString "/claim/cut.py") 408],#[]⟩),
 (165,⟨.type "code",none,.fields #[.str (ofString "comb_order") 410,.str (ofString "comb_order") 411,.str (ofString "/claim/cut.py") 412,.int (116) 0,.int (1) 0,.int (0) 0,.int (0) 0,.int (3) 0,.ref 160,.bool true,.int (181) 0,.ref 161,.none,.ref 162,.ref 163,.ref 164,.int (415) 0,.int (116) 0,.str (ofString "/claim/cut.py") 416],#[]⟩),
 (179,⟨.type "code",none,.fields #[.str (ofString "__init__") 432,.str (ofString "Aig.__init__") 433,.str (ofString "/claim/cut.py") 434,.int (124) 0,.int (1) 0,.int (0) 0,.int (0) 0,.int (3) 0,.ref 174,.bool true,.int (181) 0,.ref 175,.none,.ref 176,.ref 177,.ref 178,.int (436) 0,.int (124) 0,.str (ofString "/claim/cut.py") 437],#[]⟩),
 (186,⟨.type "code",none,.fields #[.str (ofString "add_input") 439,.str (ofString "Aig.add_input") 440,.str (ofString "/claim/cut.py") 441,.int (130) 0,.int (1) 0,.int (0) 0,.int (0) 0,.int (3) 0,.ref 181,.bool true,.int (181) 0,.ref 182,.none,.ref 183,.ref 184,.ref 185,.int (444) 0,.int (130) 0,.str (ofString "/claim/cut.py") 445],#[]⟩),
 (193,⟨.type "code",none,.fields #[.str (ofString "add_output") 447,.str (ofString "Aig.add_output") 448,.str (ofString "/claim/cut.py") 449,.int (136) 0,.int (2) 0,.int (0) 0,.int (0) 0,.int (3) 0,.ref 188,.bool true,.int (181) 0,.ref 189,.none,.ref 190,.ref 191,.ref 192,.int (452) 0,.int (136) 0,.str (ofString "/claim/cut.py") 453],#[]⟩),
 (207,⟨.type "code",none,.fields #[.str (ofString "land") 463,.str (ofString "Aig.land") 464,.str (ofString "/claim/cut.py") 465,.int (142) 0,.int (3) 0,.int (0) 0,.int (0) 0,.int (3) 0,.ref 202,.bool true,.int (181) 0,.ref 203,.none,.ref 204,.ref 205,.ref 206,.int (470) 0,.int (142) 0,.str (ofString "/claim/cut.py") 471],#[]⟩),
 (214,⟨.type "code",none,.fields #[.str (ofString "lor") 473,.str (ofString "Aig.lor") 474,.str (ofString "/claim/cut.py") 475,.int (156) 0,.int (3) 0,.int (0) 0,.int (0) 0,.int (3) 0,.ref 209,.bool true,.int (181) 0,.ref 210,.none,.ref 211,.ref 212,.ref 213,.int (479) 0,.int (156) 0,.str (ofString "/claim/cut.py") 480],#[]⟩),
 (221,⟨.type "code",none,.fields #[.str (ofString "lxor") 482,.str (ofString "Aig.lxor") 483,.str (ofString "/claim/cut.py") 484,.int (159) 0,.int (3) 0,.int (0) 0,.int (0) 0,.int (3) 0,.ref 216,.bool true,.int (181) 0,.ref 217,.none,.ref 218,.ref 219,.ref 220,.int (491) 0,.int (159) 0,.str (ofString "/claim/cut.py") 492],#[]⟩),
 (228,⟨.type "code",none,.fields #[.str (ofString "lmux") 494,.str (ofString "Aig.lmux") 495,.str (ofString "/claim/cut.py") 496,.int (165) 0,.int (4) 0,.int (0) 0,.int (0) 0,.int (3) 0,.ref 223,.bool true,.int (181) 0,.ref 224,.none,.ref 225,.ref 226,.ref 227,.int (501) 0,.int (165) 0,.str (ofString "/claim/cut.py") 502],#[]⟩),
 (271,⟨.type "code",none,.fields #[.str (ofString "used_nodes") 551,.str (ofString "used_nodes") 552,.str (ofString "/claim/cut.py") 553,.int (188) 0,.int (1) 0,.int (0) 0,.int (0) 0,.int (3) 0,.ref 266,.bool true,.int (181) 0,.ref 267,.none,.ref 268,.ref 269,.ref 270,.int (559) 0,.int (188) 0,.str (ofString "/claim/cut.py") 560],#[]⟩),
 (278,⟨.type "code",none,.fields #[.str (ofString "table_literal") 562,.str (ofString "table_literal") 563,.str (ofString "/claim/cut.py") 564,.int (198) 0,.int (3) 0,.int (0) 0,.int (0) 0,.int (3) 0,.ref 273,.bool true,.int (181) 0,.ref 274,.none,.ref 275,.ref 276,.ref 277,.int (575) 0,.int (198) 0,.str (ofString "/claim/cut.py") 576],#[]⟩),
 (285,⟨.type "code",none,.fields #[.str (ofString "cell_literal") 578,.str (ofString "cell_literal") 579,.str (ofString "/claim/cut.py") 580,.int (213) 0,.int (4) 0,.int (0) 0,.int (0) 0,.int (3) 0,.ref 280,.bool true,.int (181) 0,.ref 281,.none,.ref 282,.ref 283,.ref 284,.int (585) 0,.int (213) 0,.str (ofString "/claim/cut.py") 586],#[]⟩),
 (292,⟨.type "code",none,.fields #[.str (ofString "literal_of") 588,.str (ofString "literal_of") 589,.str (ofString "/claim/cut.py") 590,.int (237) 0,.int (2) 0,.int (0) 0,.int (0) 0,.int (3) 0,.ref 287,.bool true,.int (181) 0,.ref 288,.none,.ref 289,.ref 290,.ref 291,.int (593) 0,.int (237) 0,.str (ofString "/claim/cut.py") 594],#[]⟩),
 (299,⟨.type "code",none,.fields #[.str (ofString "from_netlist") 596,.str (ofString "from_netlist") 597,.str (ofString "/claim/cut.py") 598,.int (241) 0,.int (1) 0,.int (0) 0,.int (0) 0,.int (3) 0,.ref 294,.bool true,.int (181) 0,.ref 295,.none,.ref 296,.ref 297,.ref 298,.int (609) 0,.int (241) 0,.str (ofString "/claim/cut.py") 610],#[]⟩),
 (313,⟨.type "code",none,.fields #[.str (ofString "__init__") 624,.str (ofString "NetMaker.__init__") 625,.str (ofString "/claim/cut.py") 626,.int (257) 0,.int (2) 0,.int (0) 0,.int (0) 0,.int (3) 0,.ref 308,.bool true,.int (181) 0,.ref 309,.none,.ref 310,.ref 311,.ref 312,.int (629) 0,.int (257) 0,.str (ofString "/claim/cut.py") 630],#[]⟩),
 (320,⟨.type "code",none,.fields #[.str (ofString "net") 632,.str (ofString "NetMaker.net") 633,.str (ofString "/claim/cut.py") 634,.int (261) 0,.int (2) 0,.int (0) 0,.int (0) 0,.int (3) 0,.ref 315,.bool true,.int (181) 0,.ref 316,.none,.ref 317,.ref 318,.ref 319,.int (637) 0,.int (261) 0,.str (ofString "/claim/cut.py") 638],#[]⟩),
 (334,⟨.type "code",none,.fields #[.str (ofString "to_netlist") 650,.str (ofString "to_netlist") 651,.str (ofString "/claim/cut.py") 652,.int (265) 0,.int (2) 0,.int (0) 0,.int (0) 0,.int (3) 0,.ref 329,.bool true,.int (181) 0,.ref 330,.none,.ref 331,.ref 332,.ref 333,.int (674) 0,.int (265) 0,.str (ofString "/claim/cut.py") 675],#[]⟩),
 (341,⟨.type "code",none,.fields #[.str (ofString "_law_pick") 679,.str (ofString "_law_pick") 680,.str (ofString "/claim/cut.py") 681,.int (300) 0,.int (2) 0,.int (0) 0,.int (0) 0,.int (3) 0,.ref 336,.bool true,.int (181) 0,.ref 337,.none,.ref 338,.ref 339,.ref 340,.int (686) 0,.int (300) 0,.str (ofString "/claim/cut.py") 687],#[]⟩),
 (348,⟨.type "code",none,.fields #[.str (ofString "_law_table") 689,.str (ofString "_law_table") 690,.str (ofString "/claim/cut.py") 691,.int (311) 0,.int (2) 0,.int (0) 0,.int (0) 0,.int (3) 0,.ref 343,.bool true,.int (181) 0,.ref 344,.none,.ref 345,.ref 346,.ref 347,.int (694) 0,.int (311) 0,.str (ofString "/claim/cut.py") 695],#[]⟩),
 (355,⟨.type "code",none,.fields #[.str (ofString "_law_near") 697,.str (ofString "_law_near") 698,.str (ofString "/claim/cut.py") 699,.int (317) 0,.int (2) 0,.int (0) 0,.int (0) 0,.int (3) 0,.ref 350,.bool true,.int (181) 0,.ref 351,.none,.ref 352,.ref 353,.ref 354,.int (702) 0,.int (317) 0,.str (ofString "/claim/cut.py") 703],#[]⟩),
 (360,⟨.type "code",none,.fields #[.str (ofString "_law_netlist") 705,.str (ofString "_law_netlist") 706,.str (ofString "/claim/cut.py") 707,.int (321) 0,.int (4) 0,.int (0) 0,.int (0) 0,.int (3) 0,.ref 357,.bool true,.int (181) 0,.ref 358,.none,.none,.none,.ref 359,.int (708) 0,.int (321) 0,.str (ofString "/claim/cut.py") 709],#[]⟩),
 (365,⟨.type "code",none,.fields #[.str (ofString "_law_states") 711,.str (ofString "_law_states") 712,.str (ofString "/claim/cut.py") 713,.int (347) 0,.int (1) 0,.int (0) 0,.int (0) 0,.int (3) 0,.ref 362,.bool true,.int (181) 0,.ref 363,.none,.none,.none,.ref 364,.int (714) 0,.int (347) 0,.str (ofString "/claim/cut.py") 715],#[]⟩),
 (370,⟨.type "code",none,.fields #[.str (ofString "_law_patterns") 717,.str (ofString "_law_patterns") 718,.str (ofString "/claim/cut.py") 719,.int (349) 0,.int (1) 0,.int (0) 0,.int (0) 0,.int (3) 0,.ref 367,.bool true,.int (181) 0,.ref 368,.none,.none,.none,.ref 369,.int (720) 0,.int (349) 0,.str (ofString "/claim/cut.py") 721],#[]⟩),
 (377,⟨.type "code",none,.fields #[.str (ofString "_law_word") 723,.str (ofString "_law_word") 724,.str (ofString "/claim/cut.py") 725,.int (357) 0,.int (3) 0,.int (0) 0,.int (0) 0,.int (3) 0,.ref 372,.bool true,.int (181) 0,.ref 373,.none,.ref 374,.ref 375,.ref 376,.int (733) 0,.int (357) 0,.str (ofString "/claim/cut.py") 734],#[]⟩),
 (382,⟨.type "code",none,.fields #[.str (ofString "_law_words") 736,.str (ofString "_law_words") 737,.str (ofString "/claim/cut.py") 738,.int (366) 0,.int (3) 0,.int (0) 0,.int (0) 0,.int (3) 0,.ref 379,.bool true,.int (181) 0,.ref 380,.none,.none,.none,.ref 381,.int (739) 0,.int (366) 0,.str (ofString "/claim/cut.py") 740],#[]⟩),
 (387,⟨.type "code",none,.fields #[.str (ofString "_law_sinks") 742,.str (ofString "_law_sinks") 743,.str (ofString "/claim/cut.py") 744,.int (383) 0,.int (3) 0,.int (0) 0,.int (0) 0,.int (3) 0,.ref 384,.bool true,.int (181) 0,.ref 385,.none,.none,.none,.ref 386,.int (745) 0,.int (383) 0,.str (ofString "/claim/cut.py") 746],#[]⟩)]
noncomputable def KA:List Addr:=[3,38,51,133,260,323,39,52,134,261,324,29,102,110,36,61,75,82,87,94,101,109,117,124,131,145,152,159,166,180,187,194,208,215,222,229,272,279,286,293,300,314,321,335,342,349,356,361,366,371,378,383,388,35,60,74,81,86,93,100,108,116,123,130,144,151,158,165,179,186,193,207,214,221,228,271,278,285,292,299,313,320,334,341,348,355,360,365,370,377,382,387]
noncomputable def HK:Hook:=kHook KF KA (fun zz=>by kernel_rfl)
noncomputable def toT:List Obj→BT→Nat→Option (BT × Nat)
 | [],t,n=>some (t,n)
 | o::l,t,n=>match ((t.ins n o).get n).isSome with
  | true=>toT l (t.ins n o) (n+1)
  | false=>none
theorem toT_abs (life:Life):∀ {l:List Obj}{t t':BT}{n n':Nat},toT l t n=some (t',n')→absHeap t' n' life=⟨((absHeap t n life).objs.toList++l).toArray,life⟩
 | [],t,t',n,n',h=>by
  cases h
  rw [List.append_nil];rfl
 | o::l,t,t',n,n',h=>by
  unfold toT at h
  cases g:((t.ins n o).get n).isSome with
  | false=>rw [g] at h;cases h
  | true =>
   rw [g] at h
   rw [toT_abs life h,absHeap_ins g]
   show Heap.mk (((absHeap t n life).objs.push o).toList++l).toArray life=_
   rw [Array.toList_push,List.append_assoc];rfl
section
variable {tb:String→Option Builtin}{p:Program}{w:World}
noncomputable def topT (st:Program→World→SharedT→Thread→Option (SharedT × Thread)) (ok:Nat→Option Value→Thread→Bool) (p:Program) (w:World) (n₀:Nat) (ann:Option Value):Nat→SharedT→Thread→Option SharedT
 | 0,_,_=>none
 | n+1,s,t=>match through t with
  | true=>some s
  | false=>match ok n₀ ann t with
   | false=>none
   | true=>match st p w s t with
    | some r=>topT st ok p w n₀ ann n r.1 r.2
    | none=>none
theorem topT_of {n₀:Nat}{ann:Option Value}:∀ {n:Nat}{s s':SharedT}{t:Thread},topT (stepT (denote tb)) stepOk p w n₀ ann n s t=some s'→topRun tb p w n₀ ann n s.abs t=some s'.abs
 | 0,_,_,_,h=>nomatch h
 | n+1,s,s',t,h=>by
  unfold topT at h
  unfold topRun
  cases ht:through t with
  | true=>rw [ht] at h;cases h;rfl
  | false =>
   rw [ht] at h
   cases hk:stepOk n₀ ann t with
   | false=>rw [hk] at h;cases h
   | true =>
    rw [hk] at h
    cases hs:stepT (denote tb) p w s t with
    | none=>rw [hs] at h;cases h
    | some r=>rw [hs] at h;dsimp only;rw [stepT_spec (s':=r.1) (t':=r.2) hs];exact topT_of h
theorem bguard {α β:Type}{b:Bool}{x:Option α}{y:Option β}{S:α}{T:β} (h:(match b with|true=>x|false=>none)=some S) (k:x=some S→y=some T):(match (generalizing:=false) b with|true=>y|false=>none)=some T:=by
 cases b with
 | true=>exact k h
 | false=>exact nomatch h
noncomputable def topFromT (tb:String→Option Builtin) (p:Program) (w:World) (N:Nat) (s₀:Shared):Option SharedT :=
 match s₀.heap.isNs mainGlobals&&s₀.gens.size==0 with
 | true=>(toT s₀.heap.objs.toList .nil 0).bind fun r=>(topT (stepT (denote tb)) stepOk p w s₀.heap.objs.size (s₀.heap.nsMap mainGlobals "__annotations__") N ⟨r.1,r.2,s₀.heap.life,s₀.gens,s₀.drawn,s₀.toks,s₀.os⟩ (topStub p)).bind fun S =>
  match staticsOk (importedModules p.main.body) s₀.heap S.abs.heap&&namesBound p S.abs.heap&&gensDone S.abs&&laidKept s₀.heap S.abs.heap with
  | true=>some S
  | false=>none
 | false=>none
theorem topFrom_of {N:Nat}{s₀:Shared}{S:SharedT} (h:topFromT tb p w N s₀=some S):topFrom tb p w N s₀=some S.abs :=
 bguard (y:=(topRun tb p w s₀.heap.objs.size (s₀.heap.nsMap mainGlobals "__annotations__") N s₀ (topStub p)).bind fun s₁=>match staticsOk (importedModules p.main.body) s₀.heap s₁.heap&&namesBound p s₁.heap&&gensDone s₁&&laidKept s₀.heap s₁.heap with|true=>some s₁|false=>none) h fun h=>by
  obtain ⟨r,h2,h⟩:=Option.bind_eq_some_iff.mp h
  obtain ⟨S',h3,h4⟩:=Option.bind_eq_some_iff.mp h
  have e:SharedT.abs ⟨r.1,r.2,s₀.heap.life,s₀.gens,s₀.drawn,s₀.toks,s₀.os⟩=s₀:=congrArg (fun h=>Shared.mk h s₀.gens s₀.drawn s₀.toks s₀.os) (toT_abs (t':=r.1) (n':=r.2) s₀.heap.life h2)
  have h5:=topT_of h3
  rw [e] at h5
  exact Option.bind_eq_some_iff.mpr ⟨S'.abs,h5,bguard (y:=some S'.abs) h4 fun q=>congrArg (fun s=>some (SharedT.abs s)) (Option.some.inj q)⟩
theorem left_of {q:Program}{loose:List Str}{Xt:Shared→Bool}{α:Type}{Yf:Shared→α}{Ya:World→α}{N:Nat}{g0:Bool}
  (h:∀ w,((fencedOpening treeTable p w N).bind (topFromT treeTable p w N)).map (fun S=>(openSeen q loose (importedModules p.main.body) Xt g0 S.abs,Yf S.abs))=some (openGood q loose,Ya w)):LeftO p q loose Xt Yf Ya N g0:=fun w=>by
 obtain ⟨S,hS,e⟩:=Option.map_eq_some_iff.mp (h w)
 obtain ⟨s₀,h0,h1⟩:=Option.bind_eq_some_iff.mp hS
 unfold openEnds
 rw [h0,Option.bind_some,topFrom_of h1]
 exact congrArg some e
end
theorem tt_eq:topT (stepT (denote treeTable)) stepOk=topT (Fast.tw10156331382660048174 (Fast.tw11892475500146522536 Fast.tw14364793385576792824)) Fast.tw6613529449190102663:=by
 rw [Fast.te10156331382660048174,Fast.te11892475500146522536,Fast.te14364793385576792824,Fast.te6613529449190102663]
set_option maxHeartbeats 0 in
theorem left:LeftO PySem.Challenge.pw_nn0323_01 vw [ofString "GateloomError"] (fun s=>xlAt vw [] s&&recOk (RowW.records (OpenRow.toRowW (OpenLaw.row PySem.Challenge.rw_nn0323_01))) s) (Hook.obs HK) (Hook.val HK) 5210:=by
 refine left_of fun w=>?_
 unfold topFromT
 show _=_
 rw [tt_eq,Fast.te4187177175401517315]
 kernel_rfl
set_option maxHeartbeats 0
theorem sd1:Fast.tw2436336058641802641 (Fast.tw2368527892694137696 PySem.Challenge.rw_nn0323_01)=true:=by kernel_rfl
theorem said:PySem.Challenge.rw_nn0323_01.wellSaid=true:=by
 rw [Fast.te9446332074065402090]
 delta Fast.tw9446332074065402090 Fast.tw17960256430627541270
 rw [sd1]
 kernel_rfl
noncomputable def fPos:Stmt→Pos|.FunctionDef _ _ _ _ _ _ _ _ _ p=>p|_=>default
noncomputable def lawD:DefRec:=⟨ofString "law",fPar (stAt 32),fBod (stAt 32),fSco (stAt 32),fPos (stAt 32)⟩
abbrev Walk:Prop:=WalkO vw [ofString "GateloomError"] (XL vw []) (Hook.says HK) (OpenRow.toRowW (OpenLaw.row PySem.Challenge.rw_nn0323_01)) lawD [] (fun f vs=>PySem.call f vs)
set_option maxHeartbeats 0 in
theorem head (walk:Walk):PySem.Challenge.rw_nn0323_01.Holds:=by
 refine holds_law said fun said'=>?_
 refine holds_open (q:=vw) (loose:=[ofString "GateloomError"]) (XP:=XL vw []) (d:=lawD) (kwd:=[]) left (Hook.of HK) (Hook.keeps HK) (fun s e=>xl_of s (Bool.and_eq_true_iff.mp e).1) XL.keeps (by kernel_rfl) (by kernel_rfl) (by kernel_rfl) (fun s e=>recFacts_of (Bool.and_eq_true_iff.mp e).2) (by rfl) said' (by decide +kernel) ⟨rfl,rfl,rfl,rfl,rfl,by decide +kernel⟩ ?_ walk
 exact ⟨[.list []],by decide +kernel,by decide +kernel⟩
end
section
open PySem PySem.W PyProof.Rows PySem.Calls
open Str (ofString)
theorem lo {a b c:Nat} (h:a≤b) (q:Nat.ble c a=true):c≤b:=Nat.le_trans (nb q) h
theorem hi {a b c:Nat} (h:a≤b) (q:Nat.ble b c=true):a≤c:=Nat.le_trans h (nb q)
theorem hi1 {a b c:Nat} (h:a<b) (q:Nat.ble b c=true):a≤c:=Nat.le_of_lt (Nat.le_trans h (nb q))
theorem hi2 {a b c:Nat} (h:a≤b) (q:Nat.blt b c=true):a<c:=Nat.lt_of_le_of_lt h (nb q)
theorem pd {a r:Nat} (h:a≤r) (q:Nat.ble 1 a=true):r=r - 1+1:=(Nat.sub_add_cancel (Nat.le_trans (nb q) h)).symm
theorem ne2 {a b c:Nat} (h:a≤b) (q:Nat.blt c a=true):b≠c:=fun e=>Nat.lt_irrefl _ (Nat.lt_of_lt_of_le (nb q) (e▸h))
theorem ltA {a b:Nat} (h:¬a<b):b≤a:=Nat.not_lt.mp h
theorem e4 {a b c:Nat} (h:a=b) (g:c≤a):c≤b:=h▸g
theorem e5 {a b c d:Nat} (h:a=b) (g:b≤c) (q:Nat.ble c d=true):a≤d:=Nat.le_trans (h▸g) (nb q)
theorem ndec {p:Prop} [Decidable p] (h:decide p=true):p:=of_decide_eq_true h
noncomputable abbrev PW:Program:=PySem.Challenge.pw_nn0323_01
noncomputable abbrev MW (w:World):Model:=model PW w
set_option genInjectivity true in
inductive V where
 | none|bool (b:Bool)|int (i:Int)|str (x:Str)|ref (a:Addr)|oth (v:Value)
noncomputable def vof:Value→V
 | .none=>.none
 | .bool b=>.bool b
 | .int i _=>.int i
 | .str x _=>.str x
 | .ref a=>.ref a
 | v=>.oth v
noncomputable def vbk:V→Tok→Value
 | .none,_=>.none
 | .bool b,_=>.bool b
 | .int i,t=>.int i t
 | .str x,t=>.str x t
 | .ref a,_=>.ref a
 | .oth v,_=>v
theorem vof_bk (v:Value):∃ t,v=vbk (vof v) t:=by cases v <;> first|exact ⟨_,rfl⟩|exact ⟨0,rfl⟩
theorem vof_none {v:Value} (h:vof v=.none):v=.none:=(vof_bk v).elim fun t e=>e.trans (congrArg (vbk · t) h)
theorem vof_bool {v:Value}{b:Bool} (h:vof v=.bool b):v=.bool b:=(vof_bk v).elim fun t e=>e.trans (congrArg (vbk · t) h)
theorem vof_int {v:Value}{i:Int} (h:vof v=.int i):∃ t,v=.int i t:=(vof_bk v).elim fun t e=>⟨t,e.trans (congrArg (vbk · t) h)⟩
theorem vof_str {v:Value}{x:Str} (h:vof v=.str x):∃ t,v=.str x t:=(vof_bk v).elim fun t e=>⟨t,e.trans (congrArg (vbk · t) h)⟩
theorem vof_ref {v:Value}{a:Addr} (h:vof v=.ref a):v=.ref a:=(vof_bk v).elim fun t e=>e.trans (congrArg (vbk · t) h)
set_option genInjectivity true in
inductive At where
 | int (i:Int)|str (x:Str)
deriving DecidableEq
set_option genInjectivity true in
inductive K where
 | at (a:At)|tup (as:List At)
deriving DecidableEq
noncomputable abbrev K.int (i:Int):K:=.at (.int i)
noncomputable abbrev K.str (x:Str):K:=.at (.str x)
inductive Att where
 | name|count|inputs|outputs|cells|nodes|table|netlist|nets|kind|at|detail
deriving DecidableEq
noncomputable def Att.str:Att→Str
 | .name=>ofString "name"|.count=>ofString "count"|.inputs=>ofString "inputs"|.outputs=>ofString "outputs"|.cells=>ofString "cells"
 | .nodes=>ofString "nodes"|.table=>ofString "table"|.netlist=>ofString "netlist"|.nets=>ofString "nets"
 | .kind=>ofString "kind"|.at=>ofString "at"|.detail=>ofString "detail"
noncomputable def Att.all:List Att:=[.name,.count,.inputs,.outputs,.cells,.nodes,.table,.netlist,.nets,.kind,.at,.detail]
theorem Att.inj:∀ a b:Att,a.str=b.str→a=b:=by
 have h:(Att.all.all fun a=>Att.all.all fun b=>decide (a.str=b.str→a=b))=true:=by decide +kernel
 intro a b
 have m:∀ x:Att,x∈Att.all:=by intro x;cases x <;> decide
 exact of_decide_eq_true (List.all_eq_true.mp (List.all_eq_true.mp h a (m a)) b (m b))
set_option genInjectivity true in
inductive MO where
 | list (xs:List V)
 | tup (xs:List V)
 | dict (es:List (K × V))
 | inst (C d:Addr)
 | attrs (es:List (Att × V))
 | range (a b c:Int)
abbrev Mem:=Addr→Option MO
noncomputable def upd (m:Mem) (a:Addr) (o:MO):Mem:=fun b=>if b=a then some o else m b
@[simp] theorem upd_same (m:Mem) (a:Addr) (o:MO):upd m a o a=some o:=if_pos rfl
theorem upd_ne {m:Mem}{a b:Addr}{o:MO} (h:b≠a):upd m a o b=m b:=if_neg h
noncomputable def Same (fp:List Addr) (m m':Mem):Prop:=∀ a o,a∉fp→m a=some o→m' a=some o
theorem Same.refl (fp:List Addr) (m:Mem):Same fp m m:=fun zz zz zz h=>h
theorem Same.trans {fp:List Addr}{m m' m'':Mem} (x:Same fp m m') (y:Same fp m' m''):Same fp m m'':=fun a o h e=>y a o h (x a o h e)
theorem Same.mono {fp fp':List Addr}{m m':Mem} (x:Same fp m m') (h:∀ a∈fp,a∈fp'):Same fp' m m':=fun a o n e=>x a o (fun q=>n (h a q)) e
noncomputable def atIs:At→Value→Bool
 | .int i,v=>Value.isInt i v
 | .str x,v=>Value.isStrOf x v
theorem atIs_shape {a:At}{v:Value} (h:atIs a v=true):(∃ i t,a=.int i∧v=.int i t)∨∃ x t,a=.str x∧v=.str x t:=by
 cases a with
 | int i=>obtain ⟨t,rfl⟩:=Value.isInt_shape h;exact .inl ⟨i,t,rfl,rfl⟩
 | str x=>obtain ⟨t,rfl⟩:=Value.isStrOf_shape h;exact .inr ⟨x,t,rfl,rfl⟩
section
variable {w:World}{A:Around}{E:Value→Shared→Prop}{s:Shared}
noncomputable def atHash (w:World):At→Int
 | .int i=>hashInt i
 | .str x=>hashStr w x
theorem eqBool_of_rich {a b:Value}{r:Bool}{Q:Bool→Shared→Prop} (hab:(a==b)=false) (hf:∀ x t,a≠.float x t) (h:wpAny (MW w) A (richCompare .Eq a b) (fun v s'=>v=.bool r∧Q r s') E s):wpAny (MW w) A (eqBool a b) Q E s:=by
 unfold eqBool
 refine wpAny_holding ?_
 rw [if_neg (by rw [hab];exact Bool.false_ne_true)]
 have tail:wpAny (MW w) A (richCompare .Eq a b>>=truthOfDropped) Q E s :=
  wpAny_bind (wpAny_mono h (fun v s' hv=>by obtain ⟨rfl,hv⟩:=hv;exact wpAny_truthy_bool hv) fun zz zz x=>x)
 cases a <;> first|exact tail|exact absurd rfl (hf _ _)
theorem eqBool_int_str {a:Int}{t:Tok}{b:Str}{u:Tok}{Q:Bool→Shared→Prop} (h:Q false s):wpAny (MW w) A (eqBool (.int a t) (.str b u)) Q E s :=
 eqBool_of_rich (beq_eq_false_iff_ne.mpr (fun e=>nomatch e)) (fun zz zz e=>nomatch e) (EqMixed.eq_int_str (prog:=PW) ⟨rfl,h⟩)
theorem eqBool_str_int {a:Str}{t:Tok}{b:Int}{u:Tok}{Q:Bool→Shared→Prop} (h:Q false s):wpAny (MW w) A (eqBool (.str a t) (.int b u)) Q E s :=
 eqBool_of_rich (beq_eq_false_iff_ne.mpr (fun e=>nomatch e)) (fun zz zz e=>nomatch e) (EqMixed.eq_str_int (prog:=PW) ⟨rfl,h⟩)
theorem rich_decline {a b:Value}{Ta Tb ida idb:String}{Q:Value→Shared→Prop} (hu:A.units<cLine) (ha:s.TypeIs a Ta) (hb:s.TypeIs b Tb) (h1T:oneThing? .Eq a b=none)
  (hne:(Value.type Ta != Value.type Tb)=true) (hsub:isSubtype (.type Tb) (.type Ta)=pure false) (h1:Slot Ta (cmpInfo .Eq).2.1 ida) (h2:Slot Tb (cmpInfo .Eq).2.2 idb) (hk:isSame a b=pure false)
  (hc:wpAny (MW w) A (call (.builtin ida) [a,b]) (fun v s₁=>v=.notImplemented∧s₁.TypeIs b Tb∧wpAny (MW w) A (call (.builtin idb) [b,a]) (fun v s₂=>v=.notImplemented∧Q (.bool false) s₂) E s₁) E s) :
  wpAny (MW w) A (richCompare .Eq a b) Q E s:=by
 unfold richCompare
 refine wpAny_holding (wpAny_bind (wpAny_cRoomFor hu ?_))
 rw [h1T]
 refine wpAny_bind (wpAny_typeOf ha (wpAny_bind (wpAny_typeOf hb ?_)))
 simp only [hne,if_true]
 refine wpAny_bind (wpAny_of_eq hsub ?_)
 simp only [Bool.false_eq_true,if_false,Bool.not_false,if_true]
 refine wpAny_bind (m:=tryCompare a _ b) (wpAny_tryCompare_declines ha h1 (wpAny_mono hc (fun v s₁ h₁=>⟨h₁.1,?_⟩) fun zz zz x=>x))
 refine wpAny_bind (m:=tryCompare b _ a) (wpAny_tryCompare_declines h₁.2.1 h2 (wpAny_mono h₁.2.2 (fun v s₂ h₂=>⟨h₂.1,?_⟩) fun zz zz x=>x))
 exact wpAny_bind (wpAny_rule (wpAny_bind (wpAny_of_eq hk (wpAny_pure h₂.2))))
end
noncomputable def atKind (w:World):KeyKind PW w At where
 is:=atIs
 hash:=atHash w
 inj:=fun v a b h1 h2=>by
  rcases atIs_shape h1 with ⟨i,t,rfl,rfl⟩|⟨x,t,rfl,rfl⟩ <;> rcases atIs_shape h2 with ⟨j,u,rfl,h⟩|⟨y,u,rfl,h⟩ <;> cases h <;> rfl
 byValue:=fun k v h=>by rcases atIs_shape h with ⟨i,t,rfl,rfl⟩|⟨x,t,rfl,rfl⟩ <;> rfl
 pyHash:=fun hv h=>by
  rcases atIs_shape hv with ⟨i,t,rfl,rfl⟩|⟨x,t,rfl,rfl⟩
  ·exact wpAny_pyHash_int h
  ·exact wpAny_pyHash_str h
 eqBool:=fun hu hv h=>by
  rcases atIs_shape hu with ⟨i,t,rfl,rfl⟩|⟨x,t,rfl,rfl⟩ <;> rcases atIs_shape hv with ⟨j,u,rfl,rfl⟩|⟨y,u,rfl,rfl⟩
  ·exact wpAny_eqBool_int (by rw [decide_eq_decide.mpr ⟨At.int.inj,congrArg At.int⟩] at h;exact h)
  ·exact eqBool_int_str (decide_eq_false (p:=At.int i=At.str y) (fun e=>nomatch e)▸h)
  ·exact eqBool_str_int (decide_eq_false (p:=At.str x=At.int j) (fun e=>nomatch e)▸h)
  ·exact wpAny_eqBool_str (by rw [decide_eq_decide.mpr ⟨At.str.inj,congrArg At.str⟩] at h;exact h)
 «strs»:=fun k x t v h=>by
  rcases atIs_shape h with ⟨i,t,rfl,h'⟩|⟨x,t,rfl,h'⟩
  ·cases h'
  ·cases h';cases v <;> rfl
abbrev TupK (w:World) (h:Heap) (ks:List At) (a:Addr):Prop:=IsTupleKey (atKind w) h ks a
noncomputable def KIs (w:World) (h:Heap) (v:Value):K→Prop
 | .at a=>atIs a v=true
 | .tup ks=>∃ a,v=.ref a∧TupK w h ks a
noncomputable def khash (w:World):K→Int
 | .at a=>atHash w a
 | .tup ks=>tupleKeyHash (atKind w) ks
theorem KIs.inj {w:World}{h:Heap}{v:Value}{x y:K} (h1:KIs w h v x) (h2:KIs w h v y):x=y:=by
 cases x with
 | «at» a =>
  cases y with
  | «at» b=>rw [(atKind w).inj v a b h1 h2]
  | tup ks =>
   obtain ⟨b,rfl,_⟩:=h2
   rcases atIs_shape h1 with ⟨_,_,_,q⟩|⟨_,_,_,q⟩ <;> cases q
 | tup ks =>
  obtain ⟨b,rfl,h1⟩:=h1
  cases y with
  | «at» a=>rcases atIs_shape h2 with ⟨_,_,_,q⟩|⟨_,_,_,q⟩ <;> cases q
  | tup ks' =>
   obtain ⟨c,e,h2⟩:=h2
   cases e
   rw [h1.inj h2]
noncomputable def Sees (w:World) {α:Type} (A:Around) (t:Sem α) (r:α) (s:Shared):Prop :=
 ∀ (Q:α→Shared→Prop) (E:Value→Shared→Prop),(∀ tk,Q r { s with toks:=tk })→wpAny (MW w) A t Q E s
section
variable {w:World}{A:Around}{s:Shared}
theorem sees_hash {v:Value}{k:K} (hu:A.units<cLine) (h:KIs w s.heap v k):Sees w A (pyHash v) (khash w k) s:=by
 intro Q E q
 cases k with
 | «at» a=>exact (atKind w).pyHash h (q _)
 | tup ks=>obtain ⟨b,rfl,h⟩:=h;exact wpAny_pyHash_tuple hu h (q _)
end
section
variable {w:World}{A:Around}{E:Value→Shared→Prop}{s:Shared}
theorem TupK.ty {ks:List At}{a:Addr} (x:TupK w s.heap ks a):s.TypeIs (.ref a) "tuple":=x.typeIs
theorem sub_int_tuple':isSubtype (.type "int") (.type "tuple")=pure false:=by rw [isSubtype_type];kernel_rfl
theorem sub_str_tuple':isSubtype (.type "str") (.type "tuple")=pure false:=by rw [isSubtype_type];kernel_rfl
theorem sub_tuple_int':isSubtype (.type "tuple") (.type "int")=pure false:=by rw [isSubtype_type];kernel_rfl
theorem sub_tuple_str':isSubtype (.type "tuple") (.type "str")=pure false:=by rw [isSubtype_type];kernel_rfl
theorem tuple_eq_declines {a:Addr}{v:Value}{T:String}{Q:Value→Shared→Prop} (ha:s.TypeIs (.ref a) "tuple") (hv:s.TypeIs v T) (hs:isSubtype (.type T) (.type "tuple")=pure false) (h:Q .notImplemented s) :
  wpAny (MW w) A (call (.builtin "tuple.__eq__") [.ref a,v]) Q E s:=by
 refine wpAny_call_entry F.slot_tuple_eq ha F.entry_tuple_eq ?_ (F.args_tuple_eq_2 _ _)
 show wpAny _ _ (isInstance v (.type "tuple")>>=_) _ _ s
 refine wpAny_bind (wpAny_isInstance hv hs ?_)
 simp only [Bool.not_false,if_true]
 exact wpAny_pure ⟨_,rfl,h⟩
theorem str_eq_declines {x:Str}{t:Tok}{ks:List At}{a:Addr}{Q:Value→Shared→Prop} (ha:TupK w s.heap ks a) (h:Q .notImplemented s) :
  wpAny (MW w) A (call (.builtin "str.__eq__") [.str x t,.ref a]) Q E s:=by
 obtain ⟨o,items,n,ho,hc,hd,hi⟩:=ha
 refine wpAny_call_entry F.slot_str_eq (by rfl) F.entry_str_eq ?_ (F.args_str_eq_2 _ _)
 show wpAny _ _ (asStr? (.ref a)>>=_) _ _ s
 refine wpAny_bind (wpAny_bind (wpAny_load ho ?_))
 rw [hd]
 refine wpAny_pure ?_
 exact wpAny_bind (wpAny_rule (wpAny_pure ⟨_,rfl,h⟩))
theorem int_eq_declines {x:Int}{t:Tok}{ks:List At}{a:Addr}{Q:Value→Shared→Prop} (ha:TupK w s.heap ks a) (h:Q .notImplemented s) :
  wpAny (MW w) A (call (.builtin "int.__eq__") [.int x t,.ref a]) Q E s:=by
 obtain ⟨o,items,n,ho,hc,hd,hi⟩:=ha
 refine wpAny_call_entry F.slot_int_eq (by rfl) F.entry_int_eq ?_ (F.args_int_eq_2 _ _)
 show wpAny _ _ (asInt? (.ref a)>>=_) _ _ s
 refine wpAny_bind (wpAny_bind (wpAny_load ho ?_))
 rw [hd]
 refine wpAny_pure ?_
 exact wpAny_bind (wpAny_rule (wpAny_pure ⟨_,rfl,h⟩))
theorem eqBool_tup_at {ks:List At}{a:Addr}{v:Value}{x:At}{Q:Bool→Shared→Prop} (hu:A.units<cLine) (ha:TupK w s.heap ks a) (hx:atIs x v=true) (h:Q false s):wpAny (MW w) A (eqBool (.ref a) v) Q E s:=by
 rcases atIs_shape hx with ⟨i,t,rfl,rfl⟩|⟨y,t,rfl,rfl⟩
 ·refine eqBool_of_rich (r:=false) (beq_eq_false_iff_ne.mpr (fun e=>nomatch e)) (fun zz zz e=>nomatch e) ?_
  exact rich_decline hu ha.ty (Tb:="int") rfl rfl (by decide) sub_int_tuple' F.slot_tuple_eq F.slot_int_eq_refl rfl
   (tuple_eq_declines ha.ty (T:="int") rfl sub_int_tuple' ⟨rfl,rfl,int_eq_declines ha ⟨rfl,rfl,h⟩⟩)
 ·refine eqBool_of_rich (r:=false) (beq_eq_false_iff_ne.mpr (fun e=>nomatch e)) (fun zz zz e=>nomatch e) ?_
  exact rich_decline hu ha.ty (Tb:="str") rfl rfl (by decide) sub_str_tuple' F.slot_tuple_eq F.slot_str_eq_refl rfl
   (tuple_eq_declines ha.ty (T:="str") rfl sub_str_tuple' ⟨rfl,rfl,str_eq_declines ha ⟨rfl,rfl,h⟩⟩)
theorem eqBool_at_tup {ks:List At}{a:Addr}{v:Value}{x:At}{Q:Bool→Shared→Prop} (hu:A.units<cLine) (ha:TupK w s.heap ks a) (hx:atIs x v=true) (h:Q false s):wpAny (MW w) A (eqBool v (.ref a)) Q E s:=by
 rcases atIs_shape hx with ⟨i,t,rfl,rfl⟩|⟨y,t,rfl,rfl⟩
 ·refine eqBool_of_rich (r:=false) (beq_eq_false_iff_ne.mpr (fun e=>nomatch e)) (fun zz zz e=>nomatch e) ?_
  exact rich_decline hu (Ta:="int") rfl ha.ty rfl (by decide) sub_tuple_int' F.slot_int_eq F.slot_tuple_eq_refl rfl
   (int_eq_declines ha ⟨rfl,ha.ty,tuple_eq_declines ha.ty (T:="int") rfl sub_int_tuple' ⟨rfl,rfl,h⟩⟩)
 ·refine eqBool_of_rich (r:=false) (beq_eq_false_iff_ne.mpr (fun e=>nomatch e)) (fun zz zz e=>nomatch e) ?_
  exact rich_decline hu (Ta:="str") rfl ha.ty rfl (by decide) sub_tuple_str' F.slot_str_eq F.slot_tuple_eq_refl rfl
   (str_eq_declines ha ⟨rfl,ha.ty,tuple_eq_declines ha.ty (T:="str") rfl sub_str_tuple' ⟨rfl,rfl,h⟩⟩)
theorem eqBool_K {u v:Value}{x y:K}{Q:Bool→Shared→Prop} (hu:A.units<cLine) (h1:KIs w s.heap u x) (h2:KIs w s.heap v y) (h:Q (decide (x=y)) s):wpAny (MW w) A (eqBool u v) Q E s:=by
 cases x with
 | «at» a =>
  cases y with
  | «at» b=>exact (atKind w).eqBool h1 h2 (by rw [decide_eq_decide.mpr ⟨K.at.inj,congrArg K.at⟩] at h;exact h)
  | tup ks =>
   obtain ⟨b,rfl,h2⟩:=h2
   exact eqBool_at_tup hu h2 h1 (decide_eq_false (p:=K.at a=K.tup ks) (fun e=>nomatch e)▸h)
 | tup ks =>
  obtain ⟨b,rfl,h1⟩:=h1
  cases y with
  | «at» a=>exact eqBool_tup_at hu h1 h2 (decide_eq_false (p:=K.tup ks=K.at a) (fun e=>nomatch e)▸h)
  | tup ks' =>
   obtain ⟨c,rfl,h2⟩:=h2
   exact wpAny_eqBool_tuple hu h1 h2 (by rw [decide_eq_decide.mpr ⟨K.tup.inj,congrArg K.tup⟩] at h;exact h)
theorem quiet_K {v:Value}{k:K}{Q:Bool→Shared→Prop} (h:KIs w s.heap v k) (q:Q true s):wpAny (MW w) A (eqIsQuiet 8 v) Q E s:=by
 cases k with
 | «at» a=>rw [eqIsQuiet_byValue 8 ((atKind w).byValue _ _ h)];exact wpAny_pure q
 | tup ks=>obtain ⟨b,rfl,h⟩:=h;exact wpAny_eqIsQuiet_tuple h q
structure Ents (w:World) (h:Heap) (es:List DictEntry) (ks:List K):Prop where
 len:es.length=ks.length
 key:∀ (i:Nat) e k,es[i]?=some e→ks[i]?=some k→e.hash=khash w k∧KIs w h e.key k
 nd:ks.Nodup
end
section
variable {w:World}{A:Around}{E:Value→Shared→Prop}{s:Shared}
theorem tableMayTell_K {key:Value}{k:K}{stored:List Value}{Q:Bool→Shared→Prop} (hkey:KIs w s.heap key k)
  (hst:∀ v∈stored,∃ k',KIs w s.heap v k') (h:Q false s):wpAny (MW w) A (tableMayTell key stored) Q E s:=by
 unfold tableMayTell
 split
 ·exact wpAny_pure h
 ·refine wpAny_bind (quiet_K hkey ?_)
  simp only [Bool.not_true,Bool.false_eq_true,if_false]
  refine wpAny_bind ?_
  refine wpAny_forIn_list _ (fun rest r s'=>s'=s∧r=(none,())∧∀ v∈rest,∃ k',KIs w s.heap v k') _ ?_ ?_ _ _ ⟨rfl,rfl,hst⟩
  ·rintro x rest r s' ⟨rfl,rfl,hr⟩
   obtain ⟨k',hb⟩:=hr x List.mem_cons_self
   refine wpAny_bind (quiet_K hb ?_)
   simp only [Bool.not_true,Bool.false_eq_true,if_false]
   exact wpAny_pure ⟨rfl,rfl,fun v hv=>hr v (List.mem_cons_of_mem _ hv)⟩
  ·rintro r s' ⟨rfl,rfl,_⟩
   exact wpAny_pure h
theorem Ents.at {h:Heap}{es:Array DictEntry}{ks:List K} (he:Ents w h es.toList ks) {j:Nat} (hj:j<es.size):∃ e k,es[j]?=some e∧ks[j]?=some k∧e.hash=khash w k∧KIs w h e.key k:=by
 have hl:j<ks.length:=by rw [←he.len,Array.length_toList];exact hj
 refine ⟨es[j],ks[j],Array.getElem?_eq_getElem hj,List.getElem?_eq_getElem hl,?_⟩
 exact he.key j _ _ (by rw [Array.getElem?_toList,Array.getElem?_eq_getElem hj]) (List.getElem?_eq_getElem hl)
theorem Ents.uniq {h:Heap}{es:List DictEntry}{ks:List K} (he:Ents w h es ks) {i j:Nat}{k:K} (hi:ks[i]?=some k) (hj:ks[j]?=some k):i=j :=
 (List.getElem?_inj (List.getElem?_eq_some_iff.mp hi).1 he.nd).mp (hi.trans hj.symm)
inductive FindI (Y:Prop) (ans:Option Nat) (rest:List Nat):Option Nat→Prop
 | no (h:∀ j,ans=some j→j∈rest):FindI Y ans rest none
 | yes (y:Y) (j:Nat) (e:ans=some j) (h:j∉rest):FindI Y ans rest (some j)
theorem find_loop {β:Type}{f:Nat→β→Sem (ForInStep β)}{g:β→Sem (Option Nat)}{b0:Option Nat→β}{ans:Option Nat}{Q:Option Nat→Shared→Prop}{Y:Prop} (hg:Q none s→wpAny (MW w) A (g (b0 none)) Q E s) (hy:Y→∀ j,Q (some j) s→wpAny (MW w) A (g (b0 (some j))) Q E s) (hQ:Q ans s):∀ {l:List Nat}{hit:Option Nat},
  (∀ x∈l,∀ hit P,ans≠some x→P (.yield (b0 hit)) s→wpAny (MW w) A (f x (b0 hit)) P E s) →
  (∀ x∈l,∀ P,ans=some x→(∀ b,wpAny (MW w) A (g b) Q E s→P (.done b) s)→(Y→P (.yield (b0 (some x))) s)→wpAny (MW w) A (f x (b0 none)) P E s) →
  l.Nodup→FindI Y ans l hit→wpAny (MW w) A (forIn l (b0 hit) f) (fun r s'=>wpAny (MW w) A (g r) Q E s') E s
 | [],hit,_,_,_,h=>by
  rw [List.forIn_nil]
  cases h with
  | no h =>
   cases ans with
   | none=>exact wpAny_pure (hg hQ)
   | some j=>exact nomatch h j rfl
  | yes y j e _=>exact wpAny_pure (hy y j (e▸hQ))
 | x::l,hit,miss,found,nd,h=>by
  rw [List.forIn_cons]
  have ih:=fun hit=>find_loop (hit:=hit) hg hy hQ (fun y hy=>miss y (.tail _ hy)) (fun y hy=>found y (.tail _ hy)) (List.nodup_cons.mp nd).2
  refine wpAny_bind ?_
  by_cases e:ans=some x
  ·cases h with
   | no h=>exact found x (.head _) _ e (fun b hb=>wpAny_pure hb) fun y=>ih _ (.yes y x e (List.nodup_cons.mp nd).1)
   | yes y j ej h=>exact absurd (Option.some.inj (ej.symm.trans e)▸.head _) h
  ·refine miss x (.head _) hit _ e (ih _ ?_)
   cases h with
   | no h=>exact .no fun j ej=>(List.mem_cons.mp (h j ej)).resolve_left fun q=>e (q▸ej)
   | yes y j ej h=>exact .yes y j ej fun z=>h (.tail _ z)
inductive AnsIs (ks:List K) (k:K) (Q:Option Nat→Shared→Prop) (s:Shared):Prop
 | mk (ans:Option Nat) (h:Q ans s) (e:∀ j:Nat,ks[j]?=some k↔ans=some j)
inductive PlaceIs (w:World) (h:Heap) (es:Array DictEntry) (ks:List K) (k:K) (x:Nat):Prop
 | mk (e:DictEntry) (k':K) (h1:es[x]?=some e) (h2:(e.hash==khash w k)=true) (h3:KIs w h e.key k') (h4:ks[x]?=some k')
theorem key_split {key:Value}{F:Str→Sem (Option Nat)}{R:Sem (Option Nat)}{c:Prop} [Decidable c] {Q:Option Nat→Shared→Prop} (h1:∀ x t,key=.str x t→c→wpAny (MW w) A (F x) Q E s) (h2:wpAny (MW w) A R Q E s) :
  wpAny (MW w) A (match key with|.str x _=>if c then F x else R|_=>R) Q E s:=by
 cases key with
 | str x t=>exact wpAny_ite_split (h1 x t rfl) fun zz=>h2
 | _=>exact h2
theorem tells_split {x y:Sem Bool}{J:Bool→Sem (Option Nat)}{c:Prop} [Decidable c] {Q:Option Nat→Shared→Prop} (hx:∀ Q':Bool→Shared→Prop,Q' false s→wpAny (MW w) A x Q' E s) (hy:∀ Q':Bool→Shared→Prop,Q' false s→wpAny (MW w) A y Q' E s) (h:wpAny (MW w) A (J false) Q E s) :
  wpAny (MW w) A (if c then x>>=fun t=>J t else y>>=fun t=>J t) Q E s :=
 wpAny_ite_split (fun zz=>wpAny_bind (hx _ h)) fun zz=>wpAny_bind (hy _ h)
theorem ref_split {key:Value}{u R:Sem (Option Nat)}{c:Prop} [Decidable c] {Q:Option Nat→Shared→Prop} (hc:¬c) (h2:wpAny (MW w) A R Q E s) :
  wpAny (MW w) A (match key with|.ref _=>if c then u else R|_=>R) Q E s:=by
 cases key with
 | ref x=>exact wpAny_ite_split (fun h=>absurd h hc) fun zz=>h2
 | _=>exact h2
set_option tactic.hygienic true in
theorem dictFind_K {d:Addr}{o:Obj}{es:Array DictEntry}{ep:Nat}{ks:List K}{key:Value}{k:K}{Q:Option Nat→Shared→Prop} (hu:A.units<cLine) (hkey:KIs w s.heap key k)
  (ho:s.heap.get? d=some o) (hd:o.data=.dict es ep) (he:Ents w s.heap es.toList ks)
  (hnone:k∉ks→Q none s) (hsome:∀ (j:Nat),ks[j]?=some k→Q (some j) s):wpAny (MW w) A (dictFind d key (khash w k)) Q E s:=by
 have hsz:es.size=ks.length:=by rw [←he.len,Array.length_toList]
 have hA:AnsIs ks k Q s:=by
  by_cases hm:k∈ks
  ·obtain ⟨j,hj⟩:=List.mem_iff_getElem?.mp hm
   exact ⟨some j,hsome j hj,fun i=>⟨fun e=>congrArg some (he.uniq hj e),fun e=>Option.some.inj e▸hj⟩⟩
  ·exact ⟨none,hnone hm,fun i=>⟨fun e=>absurd (List.mem_of_getElem? e) hm,fun e=>nomatch e⟩⟩
 obtain ⟨ans,hQ,hans⟩:=hA
 have hpl:∀ x∈placesWithHash es.size (fun (i:Nat)=>es[i]?.map DictEntry.hash) (khash w k),PlaceIs w s.heap es ks k x:=fun x hx=>by
  obtain ⟨h1,h2⟩:=List.mem_filter.mp hx
  obtain ⟨e,k',g1,g2,g3,g4⟩:=he.at (List.mem_range.mp h1)
  have h2:(es[x]?.map DictEntry.hash==some (khash w k))=true:=h2
  rw [g1] at h2
  exact ⟨e,k',g1,h2,g4,g2⟩
 have hin:∀ Y,FindI Y ans (placesWithHash es.size (fun (i:Nat)=>es[i]?.map DictEntry.hash) (khash w k)) none:=fun Y=>.no fun j e=>by
  have hj:=(hans j).mpr e
  have hl:j<es.size:=by rw [hsz];exact (List.getElem?_eq_some_iff.mp hj).1
  obtain ⟨e,k',g1,g2,g3,g4⟩:=he.at hl
  rw [hj] at g2;cases g2
  exact List.mem_filter.mpr ⟨List.mem_range.mpr hl,by show (es[j]?.map DictEntry.hash==some (khash w k))=true;rw [g1,Option.map_some,g3];exact beq_self_eq_true _⟩
 have hnd:(placesWithHash es.size (fun (i:Nat)=>es[i]?.map DictEntry.hash) (khash w k)).Nodup:=List.nodup_range.filter _
 have hst:∀ v∈(placesWithHash es.size (fun (i:Nat)=>es[i]?.map DictEntry.hash) (khash w k)).filterMap (fun (i:Nat)=>es[i]?.map DictEntry.key),∃ k',KIs w s.heap v k':=fun v hv=>by
  obtain ⟨i,hx,hi⟩:=List.mem_filterMap.mp hv
  obtain ⟨e,k',h1,_,h3,_⟩:=hpl i hx
  rw [h1] at hi
  exact ⟨k',Option.some.inj hi▸h3⟩
 have hep:decide ((ep != ep)=true)=false:=by rw [bne_self_eq_false];rfl
 have isE:∀ {x k':_},ks[x]?=some k'→(ans=some x↔k'=k):=fun {x k'} e=>by rw [←hans x,e];exact Option.some_inj
 unfold dictFind
 refine wpAny_holding (wpAny_bind (wpAny_dictEntries ho hd (key_split (fun x t ex hall=>?_) (wpAny_ite_split (fun zz=>wpAny_bind (find_loop (b0:=fun zz=>(none,())) (fun h=>wpAny_pure h) (fun y=>False.elim y) hQ (fun x hx hit P hne hP=>?_) (fun x hx P e hP zz=>?_) hnd (hin _))) fun zz=>ref_split ?_ ?_))))
 rotate_left
 ·obtain ⟨e,k',h1,h2,h3,h4⟩:=hpl x hx
  rw [h1]
  exact wpAny_ite_true (decide_eq_true h2) (wpAny_bind (wpAny_dictEpoch ho hd (wpAny_bind (eqBool_K hu h3 hkey (wpAny_bind (wpAny_dictEpoch ho hd (wpAny_ite_false hep (wpAny_ite_false (decide_eq_false fun q=>hne ((isE h4).mpr (of_decide_eq_true q))) (wpAny_bind (wpAny_rule (wpAny_pure hP)))))))))))
 ·obtain ⟨e',k',h1,h2,h3,h4⟩:=hpl x hx
  rw [h1]
  have hk:=(isE h4).mp e
  exact wpAny_ite_true (decide_eq_true h2) (wpAny_bind (wpAny_dictEpoch ho hd (wpAny_bind (eqBool_K hu h3 hkey (wpAny_bind (wpAny_dictEpoch ho hd (wpAny_ite_false hep (wpAny_ite_true (decide_eq_true (decide_eq_true hk)) (wpAny_bind (wpAny_rule (wpAny_pure (hP _ (wpAny_pure (e▸hQ))))))))))))))
 ·rw [Array.any_eq_true]
  rintro ⟨j,hj,hc⟩
  obtain ⟨e,k',h1,_,h3,h4⟩:=he.at hj
  rw [Array.getElem?_eq_getElem hj] at h1
  cases h1
  have hc:=Bool.and_eq_true_iff.mp hc
  rw [eq_of_beq hc.1] at h4
  rw [h3,h4.inj hkey,bne_self_eq_false] at hc
  exact absurd hc.2 Bool.false_ne_true
 ·refine tells_split (fun zz h=>wpAny_pure h) (fun zz h=>tableMayTell_K hkey hst h) (wpAny_ite_false rfl (wpAny_bind (find_loop (b0:=fun h=>(none,h)) (Y:=True) (fun h=>wpAny_pure h) (fun zz zz h=>wpAny_pure h) hQ (fun x hx hit P hne hP=>?_) (fun x hx P e hP hy=>?_) hnd (hin _))))
  ·obtain ⟨e,k',h1,h2,h3,h4⟩:=hpl x hx
   rw [h1]
   exact wpAny_ite_true (decide_eq_true h2) (wpAny_bind (wpAny_dictEpoch ho hd (wpAny_bind (eqBool_K hu h3 hkey (wpAny_bind (wpAny_dictEpoch ho hd (wpAny_ite_false hep (wpAny_ite_false (decide_eq_false fun q=>hne ((isE h4).mpr (of_decide_eq_true q))) (wpAny_bind (wpAny_rule (wpAny_ite_false rfl (wpAny_pure hP))))))))))))
  ·obtain ⟨e',k',h1,h2,h3,h4⟩:=hpl x hx
   rw [h1]
   have hk:=(isE h4).mp e
   exact wpAny_ite_true (decide_eq_true h2) (wpAny_bind (wpAny_dictEpoch ho hd (wpAny_bind (eqBool_K hu h3 hkey (wpAny_bind (wpAny_dictEpoch ho hd (wpAny_ite_false hep (wpAny_ite_true (decide_eq_true (decide_eq_true hk)) (wpAny_ite_false rfl (wpAny_bind (wpAny_rule (wpAny_ite_split (fun zz=>wpAny_pure (hP _ (wpAny_pure (e▸hQ)))) fun zz=>wpAny_pure (hy trivial)))))))))))))
 ·subst ex
  have hk:k=.at (.str x):=by
   cases k with
   | «at» a=>rcases atIs_shape hkey with ⟨_,_,_,q⟩|⟨_,_,rfl,q⟩ <;> cases q;rfl
   | tup l=>obtain ⟨b,q,_⟩:=hkey;cases q
  subst hk
  have isat:∀ j (hj:j<es.size),es[j].key.isStr x=decide (ans=some j):=by
   intro j hj
   obtain ⟨e,k',h1,h2,h3,h4⟩:=he.at hj
   rw [Array.getElem?_eq_getElem hj] at h1
   cases h1
   have hs:=Array.all_eq_true.mp hall j hj
   cases hq:es[j].key <;> rw [hq] at hs <;> first|cases hs|skip
   rename_i y u
   rw [hq] at h4
   have:k'=.at (.str y):=h4.inj (show KIs w s.heap (.str y u) (.at (.str y)) from by simp [KIs,atIs,Value.isStrOf])
   subst this
   show (y==x)=_
   rw [Bool.eq_iff_iff,beq_iff_eq,decide_eq_true_iff,isE h2]
   exact ⟨fun e=>congrArg (fun z=>K.at (.str z)) e,fun e=>At.str.inj (K.at.inj e)⟩
  unfold foundByValue
  cases hf:es.findIdx? (fun e=>e.key.isStr x) with
  | none =>
   have e:ans=none:=by
    cases ha:ans with
    | none=>rfl
    | some j =>
     have hj:=(hans j).mpr ha
     have hl:j<es.size:=by rw [hsz];exact (List.getElem?_eq_some_iff.mp hj).1
     have:=Array.findIdx?_eq_none_iff.mp hf es[j] (Array.getElem_mem hl)
     rw [isat j hl,decide_eq_true ha] at this
     exact nomatch this
   exact wpAny_pure (e▸hQ)
  | some i =>
   obtain ⟨hlt,hi,_⟩:=Array.findIdx?_eq_some_iff_getElem.mp hf
   rw [isat i hlt] at hi
   have hi:=of_decide_eq_true hi
   obtain ⟨e,k',h1,h2,h3,h4⟩:=he.at hlt
   have hk:=(isE h2).mp hi
   show wpAny _ _ (match es[i]? with|some e=>_|_=>_) _ _ _
   rw [h1]
   exact (wpAny_bind (wpAny_dictEpoch ho hd (wpAny_bind (eqBool_K hu h4 hkey (wpAny_bind (wpAny_dictEpoch ho hd (wpAny_ite_false hep (wpAny_ite_true (decide_eq_true (decide_eq_true hk)) (wpAny_bind (wpAny_rule (wpAny_pure (hi▸hQ))))))))))))
end
noncomputable def DictH (w:World) (h:Heap) (o:Obj) (es:List (K × V)):Prop :=
 o.ExactDict∧∃ ents ep,o.data=.dict ents ep∧Ents w h ents.toList (es.map (·.1))∧ents.toList.map (fun e=>vof e.val)=es.map (·.2)
noncomputable def AttE:List DictEntry→List (Att × V)→Prop
 | [],[]=>True
 | e::r,f::fs=>(∃ t,e.key=.str f.1.str t)∧vof e.val=f.2∧AttE r fs
 | _,_=>False
noncomputable def aget (n:Att):List (Att × V)→Option V
 | []=>none
 | f::fs=>if f.1=n then some f.2 else aget n fs
noncomputable def aput (n:Att) (v:V):List (Att × V)→List (Att × V)
 | []=>[(n,v)]
 | f::fs=>if f.1=n then (n,v)::fs else f::aput n v fs
theorem isStr_att {e:DictEntry}{a n:Att}{t:Tok} (h:e.key=.str a.str t):e.key.isStr n.str=decide (a=n):=by
 rw [h]
 show (a.str==n.str)=_
 by_cases q:a=n
 ·subst q;simp
 ·rw [decide_eq_false q];exact beq_eq_false_iff_ne.mpr fun e=>q (Att.inj _ _ e)
theorem AttE.ind {p:List DictEntry→List (Att × V)→Prop} (h0:p [] []) (h1:∀ e es f fs t,e.key=.str f.1.str t→vof e.val=f.2→AttE es fs→p es fs→p (e::es) (f::fs)):∀ {es fs},AttE es fs→p es fs:=by
 intro es
 induction es with
 | nil=>intro fs h;cases fs with
  | nil=>exact h0
  | cons=>exact h.elim
 | cons e es ih=>intro fs h;cases fs with
  | nil=>exact h.elim
  | cons f fs=>exact h.1.elim fun t q=>h1 e es f fs t q h.2.1 h.2.2 (ih h.2.2)
theorem AttE.norefs {es:List DictEntry}{fs:List (Att × V)}:AttE es fs→es.any (·.refKey)=false :=
 AttE.ind (p:=fun es zz=>es.any (·.refKey)=false) rfl fun e es f fs t q zz zz ih=>by rw [List.any_cons,ih,Bool.or_false];unfold DictEntry.refKey;rw [q]
theorem getL_ne {n:Str}{e:DictEntry}{es:List DictEntry} (h:e.key.isStr n=false) (q:e.refKey=false):getL n (e::es)=getL n es:=by
 unfold getL
 rw [List.find?_cons,h,List.any_cons,q];rfl
theorem AttE.get {n:Att}{es:List DictEntry}{fs:List (Att × V)}:AttE es fs→(getL n.str es).map (·.map vof)=some (aget n fs) :=
 AttE.ind (p:=fun es fs=>(getL n.str es).map (·.map vof)=some (aget n fs)) rfl fun e es f fs t q h2 zz ih=>by
  unfold aget
  by_cases k:f.1=n
  ·rw [if_pos k,←h2]
   unfold getL
   rw [List.find?_cons,isStr_att q,decide_eq_true k];rfl
  ·rw [if_neg k,getL_ne (by rw [isStr_att q];exact decide_eq_false k) (by unfold DictEntry.refKey;rw [q])];exact ih
theorem AttE.get_some {n:Att}{v:V}{es:List DictEntry}{fs:List (Att × V)} (h:AttE es fs) (q:aget n fs=some v):∃ x,getL n.str es=some (some x)∧vof x=v:=by
 have g:=h.get (n:=n)
 rw [q] at g
 obtain ⟨o,e1,e2⟩:=Option.map_eq_some_iff.mp g
 obtain ⟨x,rfl,e3⟩:=Option.map_eq_some_iff.mp e2
 exact ⟨x,e1,e3⟩
theorem AttE.put {n:Att}{hs:Int}{t:Tok}{x:Value}{es:List DictEntry}{fs:List (Att × V)}:AttE es fs→AttE (putL n.str hs (.str n.str t) x es) (aput n (vof x) fs) :=
 AttE.ind (p:=fun es fs=>AttE (putL n.str hs (.str n.str t) x es) (aput n (vof x) fs)) ⟨⟨t,rfl⟩,rfl,trivial⟩ fun e es f fs u h1 h2 h3 ih=>by
  unfold putL aput
  rw [isStr_att h1]
  by_cases q:f.1=n
  ·rw [if_pos (decide_eq_true q),if_pos q];exact ⟨⟨u,by rw [h1,q]⟩,rfl,h3⟩
  ·rw [if_neg (by simp [q]),if_neg q];exact ⟨⟨u,h1⟩,h2,ih⟩
theorem AttE.len {es:List DictEntry}{fs:List (Att × V)}:AttE es fs→es.length=fs.length :=
 AttE.ind (p:=fun es fs=>es.length=fs.length) rfl fun zz zz zz zz zz zz zz zz ih=>congrArg (·+1) ih
noncomputable def ORel (w:World) (h:Heap) (o:Obj):MO→Prop
 | .list xs=>∃ items n,o={ cls:=.type "list",data:=.seq items n }∧items.toList.map vof=xs∧items.size≤sizeLine
 | .tup xs=>∃ items n,o={ cls:=.type "tuple",data:=.seq items n }∧items.toList.map vof=xs∧items.size≤sizeLine
 | .dict es=>DictH w h o es
 | .inst C d=>o=instObj C d
 | .attrs fs=>∃ (es:List DictEntry) (n:Nat),o=dictOf es n∧AttE es fs
 | .range a b c=>∃ t u v,o={ cls:=.type "range",data:=.fields #[.int a t,.int b u,.int c v] }
noncomputable def MO.isTup:MO→Bool
 | .tup _=>true
 | _=>false
noncomputable def tupO (o:Obj):Prop:=o.cls=.type "tuple"∧∃ xs n,o.data=.seq xs n
theorem ORel.notTup {w:World}{h:Heap}{o:Obj}{mo:MO} (r:ORel w h o mo) (q:mo.isTup=false):¬tupO o:=by
 intro z
 have e:=z.1
 cases mo with
 | list xs=>obtain ⟨_,_,rfl,_⟩:=r;exact absurd (Value.type.inj e) (by decide)
 | tup xs=>cases q
 | dict es=>rw [r.1.1] at e;exact absurd (Value.type.inj e) (by decide)
 | inst C d=>rw [show o=instObj C d from r] at e;cases e
 | attrs fs=>obtain ⟨_,_,rfl,_⟩:=r;exact absurd (Value.type.inj e) (by decide)
 | range a b c=>obtain ⟨_,_,_,rfl⟩:=r;exact absurd (Value.type.inj e) (by decide)
theorem TupK.keep {w:World}{h h':Heap}{ks:List At}{a:Addr} (x:TupK w h ks a) (k:∀ b o,h.get? b=some o→tupO o→h'.get? b=some o):TupK w h' ks a :=
 let ⟨o,items,n,ho,hc,r⟩:=x;⟨o,items,n,k a o ho ⟨hc,items,n,r.1⟩,hc,r⟩
theorem KIs.keep {w:World}{h h':Heap}{v:Value}{key:K} (x:KIs w h v key) (k:∀ b o,h.get? b=some o→tupO o→h'.get? b=some o):KIs w h' v key:=by
 cases key with
 | «at» a=>exact x
 | tup ks=>obtain ⟨a,e,x⟩:=x;exact ⟨a,e,x.keep k⟩
theorem Ents.keep {w:World}{h h':Heap}{es:List DictEntry}{ks:List K} (x:Ents w h es ks) (k:∀ b o,h.get? b=some o→tupO o→h'.get? b=some o):Ents w h' es ks :=
 ⟨x.len,fun i e key h1 h2=>⟨(x.key i e key h1 h2).1,(x.key i e key h1 h2).2.keep k⟩,x.nd⟩
theorem ORel.keep {w:World}{h h':Heap}{o:Obj}{mo:MO} (r:ORel w h o mo) (k:∀ b o,h.get? b=some o→tupO o→h'.get? b=some o):ORel w h' o mo:=by
 cases mo with
 | dict es=>obtain ⟨a,ents,ep,b,c,d⟩:=r;exact ⟨a,ents,ep,b,c.keep k,d⟩
 | _=>exact r
abbrev Keep:=Addr→Option Obj
structure RelM (w:World) (k:Keep) (m:Mem) (h:Heap):Prop where
 rep:∀ a mo,m a=some mo→∃ o,h.get? a=some o∧ORel w h o mo
 keep:∀ a o,k a=some o→h.get? a=some o
 apart:∀ a o,k a=some o→m a=none
section
variable {w:World}{k:Keep}{m:Mem}{h h':Heap}
theorem RelM.fresh (R:RelM w k m h) {a:Addr} (ha:h.get? a=none):m a=none∧k a=none:=by
 constructor
 ·cases q:m a with
  | none=>rfl
  | some mo=>obtain ⟨o,ho,_⟩:=R.rep a mo q;rw [ha] at ho;cases ho
 ·cases q:k a with
  | none=>rfl
  | some o=>have:=R.keep a o q;rw [ha] at this;cases this
theorem RelM.newAt (R:RelM w k m h):m h.objs.size=none∧k h.objs.size=none:=R.fresh (by
 cases q:h.get? h.objs.size with
 | none=>rfl
 | some o=>exact absurd (Heap.lt_size q) (Nat.lt_irrefl _))
theorem RelM.off (R:RelM w k m h) {a:Addr} (x:∀ b o,b≠a→h.get? b=some o→h'.get? b=some o) (hm:m a=none) (hk:k a=none) (ht:∀ o,h.get? a=some o→¬tupO o):RelM w k m h':=by
 have kt:∀ b o,h.get? b=some o→tupO o→h'.get? b=some o:=fun b o e q=>x b o (fun z=>by subst z;exact ht o e q) e
 refine ⟨fun b mo e=>?_,fun b o e=>?_,R.apart⟩
 ·obtain ⟨o,ho,r⟩:=R.rep b mo e
  exact ⟨o,x b o (fun z=>by subst z;rw [hm] at e;cases e) ho,r.keep kt⟩
 ·exact x b o (fun z=>by subst z;rw [hk] at e;cases e) (R.keep b o e)
theorem RelM.push (R:RelM w k m h) (o:Obj):RelM w k m (h.push o) :=
 ⟨fun b mo e=>let ⟨o',ho,r⟩:=R.rep b mo e;⟨o',Heap.get?_push_of_some _ ho,r.keep fun zz zz e zz=>Heap.get?_push_of_some _ e⟩,fun b o' e=>Heap.get?_push_of_some _ (R.keep b o' e),R.apart⟩
theorem RelM.alloc (R:RelM w k m h) {o:Obj}{mo:MO} (hf:o.isFreed=false) (r:ORel w (h.push o) o mo):RelM w k (upd m h.objs.size mo) (h.push o):=by
 have P:=R.push o
 refine ⟨fun b mo' e=>?_,P.keep,fun b o' e=>?_⟩
 ·by_cases q:b=h.objs.size
  ·subst q;rw [upd_same] at e;cases e;exact ⟨o,Heap.get?_push_size _ hf,r⟩
  ·rw [upd_ne q] at e;exact P.rep b mo' e
 ·by_cases q:b=h.objs.size
  ·subst q;rw [R.newAt.2] at e;cases e
  ·rw [upd_ne q];exact R.apart b o' e
theorem RelM.set (R:RelM w k m h) {a:Addr}{mo mo':MO}{o':Obj} (hm:m a=some mo) (ht:mo.isTup=false) (x:∀ b o,b≠a→h.get? b=some o→h'.get? b=some o) (ho:h'.get? a=some o') (r:ORel w h' o' mo') :
  RelM w k (upd m a mo') h':=by
 obtain ⟨oa,hoa,ra⟩:=R.rep a mo hm
 have kt:∀ b o,h.get? b=some o→tupO o→h'.get? b=some o:=fun b o e q=>x b o (fun z=>by subst z;rw [hoa] at e;cases e;exact ra.notTup ht q) e
 refine ⟨fun b mo'' e=>?_,fun b o e=>?_,fun b o e=>?_⟩
 ·by_cases q:b=a
  ·subst q;rw [upd_same] at e;cases e;exact ⟨o',ho,r⟩
  ·rw [upd_ne q] at e
   obtain ⟨ob,hob,rb⟩:=R.rep b mo'' e
   exact ⟨ob,x b ob q hob,rb.keep kt⟩
 ·exact x b o (fun z=>by subst z;rw [R.apart b o e] at hm;cases hm) (R.keep b o e)
 ·by_cases q:b=a
  ·subst q;rw [R.apart b o e] at hm;cases hm
  ·rw [upd_ne q];exact R.apart b o e
end
structure GC where
 w:World
 h0:Heap
 d:Drawn
 os:OsState
 Fly:Around→Keep→Mem→Addr→Shared→Prop
noncomputable def FramesK (A:Around) (k:Keep):Prop:=∃ l,A.frames=some l∧∀ env∈l,env.scope.kind≠.module∧∃ L o,env.frame=some L∧k L=some o∧∀ vs,o.data≠.fields vs
structure GC.Ok (G:GC):Prop where
 leave:∀ (A:Around) (env:Env) (k k':Keep) (m:Mem) (ea:Addr) (s:Shared) (L:Addr),FramesK A k→env.scope.kind=.function→env.frame=some L→k L=none→(∀ a o,k a=some o→k' a=some o)→(∃ o,k' L=some o∧∀ vs,o.data≠.fields vs) →
  G.Fly (A.deeper env) k' m ea s→wpAny (model PW G.w) (A.deeper env) (leaving env (.ref ea)) (fun zz s'=>G.Fly A k m ea s') (fun zz zz=>False) s
 K:Frag.In (KF G.w.params) G.h0
 nolim:G.h0.NoLimit
 glob:∃ mg,G.h0.Ns mainGlobals mg
 blt:∃ mb,G.h0.Ns builtinsNs mb∧∀ x:Str,x≠("__name__":Str)→mb x=bootBuiltins x
structure St where
 ρ:List (Option V)
 m:Mem
noncomputable def look:List (Option V)→Nat→Option V
 | [],_=>none
 | x::_,0=>x
 | _::r,n+1=>look r n
noncomputable def put:List (Option V)→Nat→V→List (Option V)
 | [],_,_=>[]
 | _::r,0,v=>some v::r
 | x::r,n+1,v=>x::put r n v
theorem put_len:∀ (ρ:List (Option V)) (i:Nat) (v:V),(put ρ i v).length=ρ.length
 | [],_,_=>rfl
 | _::_,0,_=>rfl
 | _::r,i+1,v=>by simp [put,put_len r i v]
theorem look_put:∀ (ρ:List (Option V)) (i j:Nat) (v u:V),look (put ρ i v) j=some u→(j=i∧u=v)∨(j≠i∧look ρ j=some u)
 | [],_,_,_,_,h=>by cases h
 | _::_,0,0,_,_,h=>by cases h;exact .inl ⟨rfl,rfl⟩
 | _::_,0,j+1,_,_,h=>.inr ⟨by exact Nat.succ_ne_zero _,h⟩
 | x::_,i+1,0,_,_,h=>.inr ⟨by exact (Nat.succ_ne_zero _).symm,h⟩
 | x::r,i+1,j+1,v,u,h=>by
  rcases look_put r i j v u h with ⟨h1,h2⟩|⟨h1,h2⟩
  ·exact .inl ⟨by exact congrArg _ h1,h2⟩
  ·exact .inr ⟨by lia,h2⟩
structure RelS (G:GC) (k:Keep) (m:Mem) (s:Shared):Prop where
 gens:s.gens=#[]
 drawn:s.drawn=G.d
 os:s.os=G.os
 mem:RelM G.w k m s.heap
 lo:∀ a mo,m a=some mo→2<a
structure PX where
 G:GC
 r:Nat
 Ψ:Addr→Mem→Prop
noncomputable def ownLike (o:Obj):Bool:=match o.data with
 | .dict ..=>true
 | .cell _=>true
 | _=>false
theorem ownLike.notTup {o:Obj} (h:ownLike o=true):¬tupO o:=fun ⟨_,xs,n,e⟩=>by unfold ownLike at h;rw [e] at h;cases h
theorem ownLike.notF {o:Obj} (h:ownLike o=true):∀ vs,o.data≠.fields vs:=fun vs e=>by unfold ownLike at h;rw [e] at h;cases h
set_option genInjectivity true in
structure FC where
 X:PX
 A:Around
 env:Env
 k:Keep
 names:List Str
 own:List Addr
 E:Value→Shared→Prop
 fn:Bool
noncomputable def Room (A:Around) (r:Nat):Prop:=A.depth+10*r+20<690∧A.units+30*r+60<cLine
noncomputable def Base (G:GC) (k:Keep):Prop:=∀ a o,G.h0.get? a=some o→k a=some o
structure FC.Ok (c:FC):Prop where
 G:c.X.G.Ok
 base:Base c.X.G c.k
 kind:c.env.scope.kind=.function
 glb:c.env.globals=mainGlobals
 blt:c.env.builtins=builtinsNs
 loc:c.env.locals∈c.own
 room:Room c.A c.X.r
 hnd:c.A.handled=none
 cells:∀ x ca,c.env.cells.lookup x=some ca→ca∈c.own∨(c.k ca).isSome=true
 inj:∀ x y ca,c.env.cells.lookup x=some ca→c.env.cells.lookup y=some ca→x=y
 lne:∀ x ca,c.env.cells.lookup x=some ca→ca≠c.env.locals
 cown:c.fn=true→∀ x ca,c.env.cells.lookup x=some ca→ca∈c.own
 frames:∃ l,c.A.frames=some l∧∀ env∈l,env.scope.kind≠.module∧∃ L,env.frame=some L∧(L∈c.own∨∃ o,c.k L=some o∧∀ vs,o.data≠.fields vs)
 pass:PassesOwn (MW c.X.G.w) c.A c.env c.E
 cdom:∀ x,(c.env.kindOf x=some .cell∨c.env.kindOf x=some .free)→∃ ca,c.env.cells.lookup x=some ca
 fly:∀ ea m k' s',(∀ a o,c.k a=some o→k' a=some o)→(∀ a∈c.own,∃ o,k' a=some o∧ownLike o=true)→c.X.G.Fly c.A k' m ea s'→c.X.Ψ ea m→c.E (.ref ea) s'
structure Fra (c:FC) (ρ:List (Option V)) (h:Heap):Prop where
 loc:∃ nm,h.Ns c.env.locals nm∧∀ i x v,c.names[i]?=some x→c.env.kindOf x=some .local→look ρ i=some v→∃ u,nm x=some u∧vof u=v
 cel:∀ (i:Nat) x v,c.names[i]?=some x→(c.env.kindOf x=some .cell∨c.env.kindOf x=some .free)→look ρ i=some v→∃ ca u,c.env.cells.lookup x=some ca∧h.IsCell ca (some u)∧vof u=v
 len:ρ.length=c.names.length
structure Rel (c:FC) (σ:St) (s:Shared):Prop where
 S:RelS c.X.G c.k σ.m s
 F:Fra c σ.ρ s.heap
 O:∀ a∈c.own,σ.m a=none∧c.k a=none
 B:∀ a∈c.own,∃ o,s.heap.get? a=some o∧ownLike o=true
 C:∀ x ca,c.env.cells.lookup x=some ca→∃ v,s.heap.IsCell ca v
section
variable {c:FC}{σ:St}{s:Shared}
theorem Rel.toks (R:Rel c σ s) (tk:Nat):Rel c σ { s with toks:=tk }:=⟨⟨R.S.gens,R.S.drawn,R.S.os,R.S.mem,R.S.lo⟩,R.F,R.O,R.B,R.C⟩
theorem Rel.h0 (R:Rel c σ s) (O:c.Ok) {a:Addr}{o:Obj} (e:c.X.G.h0.get? a=some o):s.heap.get? a=some o:=R.S.mem.keep a o (O.base a o e)
theorem Rel.kf (R:Rel c σ s) (O:c.Ok):Frag.In (KF c.X.G.w.params) s.heap:=O.G.K.keeps fun zz zz e=>R.h0 O e
theorem Rel.nolim (R:Rel c σ s) (O:c.Ok):s.heap.NoLimit:=O.G.nolim.keeps fun zz zz e=>R.h0 O e
theorem Rel.fresh (R:Rel c σ s):s.heap.objs.size∉c.own:=fun h=>by
 obtain ⟨o,ho,_⟩:=R.B _ h
 exact absurd (Heap.lt_size ho) (Nat.lt_irrefl _)
theorem Fra.keep {ρ:List (Option V)}{h h':Heap} (F:Fra c ρ h) (hl:∀ o,h.get? c.env.locals=some o→h'.get? c.env.locals=some o)
  (hc:∀ x ca,c.env.cells.lookup x=some ca→∀ o,h.get? ca=some o→h'.get? ca=some o):Fra c ρ h':=by
 obtain ⟨⟨nm,⟨o,es,ep,ho,r⟩,h2⟩,h3,h4'⟩:=F
 refine ⟨⟨nm,⟨o,es,ep,hl o ho,r⟩,h2⟩,fun i x v e q l=>?_,h4'⟩
 obtain ⟨ca,u,e1,⟨oc,h4,h5⟩,e2⟩:=h3 i x v e q l
 exact ⟨ca,u,e1,⟨oc,hc x ca e1 oc h4,h5⟩,e2⟩
theorem Rel.cellK (R:Rel c σ s) (O:c.Ok) {x:Str}{ca:Addr} (e:c.env.cells.lookup x=some ca):ca∈c.own∨∃ o,c.k ca=some o:=by
 rcases O.cells x ca e with h|h
 ·exact .inl h
 ·exact .inr (Option.isSome_iff_exists.mp h)
theorem Rel.off (R:Rel c σ s) (O:c.Ok) {h':Heap}{a:Addr} (x:∀ b o,b≠a→s.heap.get? b=some o→h'.get? b=some o) (hm:σ.m a=none) (hk:c.k a=none) (ho:a∉c.own)
  (ht:∀ o,s.heap.get? a=some o→¬tupO o) (tk:Nat):Rel c σ { s with heap:=h',toks:=tk }:=by
 have nc:∀ y ca,c.env.cells.lookup y=some ca→ca≠a:=fun y ca e z=>by
  subst z
  rcases R.cellK O e with q|⟨o,q⟩
  ·exact ho q
  ·rw [hk] at q;cases q
 refine ⟨⟨R.S.gens,R.S.drawn,R.S.os,R.S.mem.off x hm hk ht,R.S.lo⟩,R.F.keep (fun o e=>x _ o (fun z=>ho (z▸O.loc)) e) (fun y ca e o eo=>x ca o (nc y ca e) eo),R.O,fun b hb=>?_,fun y ca e=>?_⟩
 ·obtain ⟨o,h1,h2⟩:=R.B b hb
  exact ⟨o,x b o (fun z=>ho (z▸hb)) h1,h2⟩
 ·obtain ⟨v,o,h1,h2⟩:=R.C y ca e
  exact ⟨v,o,x ca o (nc y ca e) h1,h2⟩
theorem Rel.push (R:Rel c σ s) (o:Obj) (tk:Nat):Rel c σ { s with heap:=s.heap.push o,toks:=tk } :=
 ⟨⟨R.S.gens,R.S.drawn,R.S.os,R.S.mem.push o,R.S.lo⟩,R.F.keep (fun zz e=>Heap.get?_push_of_some _ e) (fun zz zz zz zz e=>Heap.get?_push_of_some _ e),R.O,
  fun b hb=>let ⟨o',h1,h2⟩:=R.B b hb;⟨o',Heap.get?_push_of_some _ h1,h2⟩,fun y ca e=>let ⟨v,o',h1,h2⟩:=R.C y ca e;⟨v,o',Heap.get?_push_of_some _ h1,h2⟩⟩
theorem Rel.size (R:Rel c σ s) (O:c.Ok):2<s.heap.objs.size:=by
 obtain ⟨mc,hn,_⟩:=R.nolim O
 exact hn.lt
theorem Rel.alloc (R:Rel c σ s) (O:c.Ok) {o:Obj}{mo:MO} (hf:o.isFreed=false) (r:ORel c.X.G.w (s.heap.push o) o mo) (tk:Nat):Rel c ⟨σ.ρ,upd σ.m s.heap.objs.size mo⟩ { s with heap:=s.heap.push o,toks:=tk }:=by
 have P:=R.push o tk
 exact ⟨⟨R.S.gens,R.S.drawn,R.S.os,R.S.mem.alloc hf r,fun a mo' e=>by
  by_cases q:a=s.heap.objs.size
  ·rw [q];exact R.size O
  ·exact R.S.lo a mo' ((upd_ne (m:=σ.m) (o:=mo) q).symm.trans e)⟩,P.F,fun a ha=>⟨by show upd _ _ _ a=none;rw [upd_ne fun (z:a=s.heap.objs.size)=>R.fresh (z▸ha)];exact (R.O a ha).1,(R.O a ha).2⟩,P.B,P.C⟩
theorem Rel.newAt (R:Rel c σ s):σ.m s.heap.objs.size=none:=R.S.mem.newAt.1
theorem Rel.set (R:Rel c σ s) (O:c.Ok) {h':Heap}{a:Addr}{mo mo':MO}{o':Obj} (hm:σ.m a=some mo) (ht:mo.isTup=false) (x:∀ b o,b≠a→s.heap.get? b=some o→h'.get? b=some o) (ho:h'.get? a=some o') (r:ORel c.X.G.w h' o' mo')
  (tk:Nat):Rel c ⟨σ.ρ,upd σ.m a mo'⟩ { s with heap:=h',toks:=tk }:=by
 have no:a∉c.own:=fun q=>by rw [(R.O a q).1] at hm;cases hm
 have nc:∀ y ca,c.env.cells.lookup y=some ca→ca≠a:=fun y ca e z=>by
  subst z
  rcases R.cellK O e with q|⟨o,q⟩
  ·exact no q
  ·rw [R.S.mem.apart ca o q] at hm;cases hm
 refine ⟨⟨R.S.gens,R.S.drawn,R.S.os,R.S.mem.set hm ht x ho r,fun b mo'' e=>by
  by_cases q:b=a
  ·rw [q];exact R.S.lo a mo hm
  ·exact R.S.lo b mo'' ((upd_ne (m:=σ.m) (o:=mo') q).symm.trans e)⟩,R.F.keep (fun o e=>x _ o (fun z=>no (z▸O.loc)) e) (fun y ca e o eo=>x ca o (nc y ca e) eo),fun b hb=>⟨?_,(R.O b hb).2⟩,fun b hb=>?_,fun y ca e=>?_⟩
 ·show upd _ _ _ b=none
  rw [upd_ne fun (z:b=a)=>no (z▸hb)];exact (R.O b hb).1
 ·obtain ⟨o,h1,h2⟩:=R.B b hb
  exact ⟨o,x b o (fun z=>no (z▸hb)) h1,h2⟩
 ·obtain ⟨v,o,h1,h2⟩:=R.C y ca e
  exact ⟨v,o,x ca o (nc y ca e) h1,h2⟩
theorem Rel.at (R:Rel c σ s) {a:Addr}{mo:MO} (h:σ.m a=some mo):∃ o,s.heap.get? a=some o∧ORel c.X.G.w s.heap o mo:=R.S.mem.rep a mo h
inductive SeqH (h:Heap) (T:String) (a:Addr) (xs:List V):Prop
 | mk (items:Array Value) (n:Nat) (ho:h.get? a=some { cls:=.type T,data:=.seq items n }) (e:items.toList.map vof=xs) (hz:items.size≤sizeLine)
theorem Rel.list (R:Rel c σ s) {a:Addr}{xs:List V} (h:σ.m a=some (.list xs)):SeqH s.heap "list" a xs:=by
 obtain ⟨o,ho,items,n,rfl,e⟩:=R.at h
 exact ⟨items,n,ho,e.1,e.2⟩
theorem Rel.tup (R:Rel c σ s) {a:Addr}{xs:List V} (h:σ.m a=some (.tup xs)):SeqH s.heap "tuple" a xs:=by
 obtain ⟨o,ho,items,n,rfl,e⟩:=R.at h
 exact ⟨items,n,ho,e.1,e.2⟩
end
abbrev PT (α:Type):=St→(α→St→Prop)→Prop
inductive Met (c:FC) (P:St→Prop) (s:Shared):Prop
 | mk (σ:St) (R:Rel c σ s) (q:P σ)
noncomputable def post (c:FC) (Φ:V→St→Prop):Value→Shared→Prop:=fun v s'=>Met c (Φ (vof v)) s'
noncomputable def postU (c:FC) (Φ:St→Prop):Unit→Shared→Prop:=fun zz s'=>Met c Φ s'
noncomputable def postB (c:FC) (Φ:Bool→St→Prop):Bool→Shared→Prop:=fun b s'=>Met c (Φ b) s'
theorem got_mono {α:Type}{M:Model}{A:Around}{c:FC}{x:Sem α}{P:α→St→Prop}{Q:α→Shared→Prop}{E:Value→Shared→Prop}{s:Shared} (h:wpAny M A x (fun v s'=>Met c (P v) s') E s) (k:∀ v s' σ',Rel c σ' s'→P v σ'→Q v s'):wpAny M A x Q E s :=
 wpAny_mono h (fun v s' g=>g.rec (k v s')) fun zz zz e=>e
noncomputable def EvE (c:FC) (e:PySem.Expr) (t:PT V):Prop:=∀ (σ:St) (s:Shared) (Φ:V→St→Prop),Rel c σ s→t σ Φ →
 wpAny (MW c.X.G.w) c.A (eval e c.env) (post c Φ) c.E s
noncomputable def EvT (c:FC) (e:PySem.Expr) (t:PT Bool):Prop:=∀ (σ:St) (s:Shared) (Φ:Bool→St→Prop),Rel c σ s→t σ Φ →
 wpAny (MW c.X.G.w) c.A (isTrue e c.env (eval e c.env)) (postB c Φ) c.E s
noncomputable def EvL (c:FC) (es:List PySem.Expr) (t:PT (List V)):Prop:=∀ (pos:Pos) (σ:St) (s:Shared) (Φ:List V→St→Prop),Rel c σ s→t σ Φ →
 wpAny (MW c.X.G.w) c.A (spliced (backTo pos (starEach es c.env))) (fun vs s'=>Met c (Φ (vs.map vof)) s') c.E s
noncomputable def PT.lit (v:V):PT V:=fun σ Φ=>Φ v σ
noncomputable def PT.var (i:Nat):PT V:=fun σ Φ=>match look σ.ρ i with|some v=>Φ v σ|none=>False
section
variable {c:FC}
theorem ev_int {i:Int}{k:Nat}{pos:Pos}:EvE c (.Constant (.int i) k pos) (PT.lit (.int i)):=fun σ s Φ R h=>wpAny_Constant_int ⟨σ,R.toks _,h⟩
theorem ev_str {x:Str}{k:Nat}{pos:Pos}:EvE c (.Constant (.str x) k pos) (PT.lit (.str x)):=fun σ s Φ R h=>wpAny_mkText ⟨σ,R.toks _,h⟩
theorem ev_none {k:Nat}{pos:Pos}:EvE c (.Constant .none k pos) (PT.lit .none):=fun σ s Φ R h=>wpAny_pure ⟨σ,R,h⟩
theorem ev_bool {b:Bool}{k:Nat}{pos:Pos}:EvE c (.Constant (.bool b) k pos) (PT.lit (.bool b)):=fun σ s Φ R h=>wpAny_pure ⟨σ,R,h⟩
noncomputable def slot (c:FC) (x:Str) (i:Nat):Bool:=decide (c.names[i]?=some x)&&!(x==("__debug__":Str))&&(match c.env.kindOf x with|some .local|some .cell|some .free=>!(x==("__classdict__":Str))|_=>false)
theorem slot_load {x:Str}{i:Nat}{σ:St}{s:Shared}{A:Around}{E:Value→Shared→Prop}{Φ:V→St→Prop} (R:Rel c σ s) (O:c.Ok) (h:slot c x i=true) (ht:PT.var i σ Φ):wpAny (MW c.X.G.w) A (loadName c.env x) (post c Φ) E s:=by
 have h1:=of_decide_eq_true (Bool.and_eq_true_iff.mp (Bool.and_eq_true_iff.mp h).1).1
 have h3:=(Bool.and_eq_true_iff.mp h).2
 unfold PT.var at ht
 cases hv:look σ.ρ i with
 | none=>rw [hv] at ht;exact ht.elim
 | some v =>
  rw [hv] at ht
  cases q:c.env.kindOf x with
  | none=>rw [q] at h3;exact nomatch h3
  | some k =>
   rw [q] at h3
   cases k with
   | «local» =>
    obtain ⟨nm,hn,hl⟩:=R.F.loc
    obtain ⟨u,e1,e2⟩:=hl i x v h1 q hv
    exact wpAny_loadName_local O.kind q hn e1 ⟨σ,R,by rw [e2];exact ht⟩
   | cell =>
    obtain ⟨ca,u,e1,e2,e3⟩:=R.F.cel i x v h1 (.inl q) hv
    exact wpAny_loadName_cell O.kind q e1 e2 ⟨σ,R,by rw [e3];exact ht⟩
   | free =>
    obtain ⟨ca,u,e1,e2,e3⟩:=R.F.cel i x v h1 (.inr q) hv
    exact wpAny_loadName_free O.kind q e1 e2 ⟨σ,R,by rw [e3];exact ht⟩ (Bool.not_eq_true' _▸h3)
   | _=>exact nomatch h3
theorem ev_name {x:Str}{pos:Pos}{i:Nat} (O:c.Ok) (h:slot c x i=true):EvE c (.Name x pos) (PT.var i):=fun σ s Φ R ht =>
 wpAny_Name (slot_load R O h ht) (Bool.not_eq_true' _▸(Bool.and_eq_true_iff.mp (Bool.and_eq_true_iff.mp h).1).2)
end
noncomputable def natAnd (i j:Int):Int:=((i.toNat &&& j.toNat:Nat):Int)
noncomputable def natOr (i j:Int):Int:=((i.toNat ||| j.toNat:Nat):Int)
noncomputable def natXor (i j:Int):Int:=((i.toNat ^^^ j.toNat:Nat):Int)
theorem bitAnd_nat {i j:Int} (hi:0≤i) (hj:0≤j):Builtin.bitAnd i j=natAnd i j:=by
 unfold Builtin.bitAnd natAnd
 rw [decide_eq_true hi,decide_eq_true hj]
theorem bitNot_toNat {i:Int} (hi:0≤i):Builtin.bitNot i<0∧Builtin.bitNot (Builtin.bitNot i)=i:=by
 unfold Builtin.bitNot;lia
theorem bitOr_nat {i j:Int} (hi:0≤i) (hj:0≤j):Builtin.bitOr i j=natOr i j:=by
 unfold Builtin.bitOr Builtin.bitAnd natOr
 rw [decide_eq_false (by have:=(bitNot_toNat hi).1;lia),decide_eq_false (by have:=(bitNot_toNat hj).1;lia)]
 simp only [(bitNot_toNat hi).2,(bitNot_toNat hj).2]
 exact (bitNot_toNat (Int.natCast_nonneg _)).2
theorem nat_or_split:∀ (n a b:Nat),a≤n→(a ||| b)=(a ^^^ b)+(a &&& b)
 | 0,a,b,h=>by
  have:a=0:=by exact Nat.eq_zero_of_le_zero h
  subst this
  rw [Nat.zero_or,Nat.zero_xor,Nat.zero_and];rfl
 | n+1,a,b,h=>by
  by_cases h0:a=0
  ·subst h0;rw [Nat.zero_or,Nat.zero_xor,Nat.zero_and];rfl
  have ih:=nat_or_split n (a / 2) (b / 2) (by lia)
  rw [←Nat.or_div_two,←Nat.xor_div_two,←Nat.and_div_two] at ih
  have o1:=Nat.or_mod_two_pow (a:=a) (b:=b) (n:=1)
  have x1:=Nat.xor_mod_two_pow (a:=a) (b:=b) (n:=1)
  have a1:=Nat.and_mod_two_pow (a:=a) (b:=b) (n:=1)
  have ea:a%2=0∨a%2=1:=by lia
  have eb:b%2=0∨b%2=1:=by lia
  simp only [Nat.pow_one] at o1 x1 a1
  rcases ea with ea|ea <;> rcases eb with eb|eb <;> rw [ea,eb] at o1 x1 a1
  ·have o2:(a ||| b)%2=0:=o1
   have x2:(a ^^^ b)%2=0:=x1
   have a2:(a &&& b)%2=0:=a1
   lia
  ·have o2:(a ||| b)%2=1:=o1
   have x2:(a ^^^ b)%2=1:=x1
   have a2:(a &&& b)%2=0:=a1
   lia
  ·have o2:(a ||| b)%2=1:=o1
   have x2:(a ^^^ b)%2=1:=x1
   have a2:(a &&& b)%2=0:=a1
   lia
  ·have o2:(a ||| b)%2=1:=o1
   have x2:(a ^^^ b)%2=0:=x1
   have a2:(a &&& b)%2=1:=a1
   lia
theorem bitXor_nat {i j:Int} (hi:0≤i) (hj:0≤j):Builtin.bitXor i j=natXor i j:=by
 unfold Builtin.bitXor
 rw [bitOr_nat hi hj,bitAnd_nat hi hj]
 unfold natOr natAnd natXor
 have:=nat_or_split i.toNat i.toNat j.toNat (Nat.le_refl _)
 lia
noncomputable def binI (op:Operator) (i j:Int) (σ:St) (Φ:V→St→Prop):Prop :=
 match op with
 | .Add=>Φ (.int (i+j)) σ
 | .Sub=>Φ (.int (i - j)) σ
 | .Mult=>(i.natAbs<2^63∨j.natAbs<2^63)∧Φ (.int (i*j)) σ
 | .FloorDiv=>(0<j∧j<2^30)∧Φ (.int (i / j)) σ
 | .Mod=>0<j∧Φ (.int (i%j)) σ
 | .BitAnd=>(0≤i∧0≤j)∧Φ (.int (natAnd i j)) σ
 | .BitOr=>(0≤i∧0≤j)∧Φ (.int (natOr i j)) σ
 | .BitXor=>(0≤i∧0≤j)∧Φ (.int (natXor i j)) σ
 | .LShift=>(0≤j∧j≤1000000∧i.natAbs<2^64)∧Φ (.int (i*2^j.toNat)) σ
 | .RShift=>(0≤j)∧Φ (.int (i / 2^j.toNat)) σ
 | .Pow=>(0≤j∧j≤1000000∧i.natAbs<2^64)∧Φ (.int (i^j.toNat)) σ
 | _=>False
section
variable {c:FC}{σ:St}{s:Shared}{E:Value→Shared→Prop}{A:Around}
theorem mulOk {i j:Int} (h:i.natAbs<2^63∨j.natAbs<2^63):IntMulOk i j:=by
 rcases h with h|h
 ·exact .of_left (intBits_le_64 (by omega) (by omega))
 ·exact .of_right (intBits_le_64 (by omega) (by omega))
theorem abs30 {j:Int} (h:0<j∧j<2^30):j.natAbs<2^30:=by omega
theorem op_int {op:Operator}{i j:Int}{t u:Tok}{Φ:V→St→Prop} (R:Rel c σ s) (h:binI op i j σ Φ) :
  wpAny (MW c.X.G.w) A (binaryOp op (.int i t) (.int j u)) (post c Φ) E s:=by
 cases op with
 | Add=>exact wpAny_add_int ⟨σ,R.toks _,h⟩
 | Sub=>exact PyProof.Rows.sub_int' ⟨σ,R.toks _,h⟩
 | Mult=>exact PyProof.Rows.mul_int ⟨σ,R.toks _,h.2⟩ (mulOk h.1)
 | FloorDiv=>exact PyProof.Rows.floordiv_int (Int.ne_of_gt h.1.1) ⟨σ,R.toks _,by rw [Int.fdiv_eq_ediv_of_nonneg _ (Int.le_of_lt h.1.1)];exact h.2⟩ (.inl (PyProof.noPylong_small (abs30 h.1)))
 | Mod=>exact PyProof.Rows.mod_int' (Int.ne_of_gt h.1) ⟨σ,R.toks _,by rw [Int.fmod_eq_emod_of_nonneg _ (Int.le_of_lt h.1)];exact h.2⟩
 | BitAnd=>exact PyProof.Rows.and_int ⟨σ,R.toks _,by rw [bitAnd_nat h.1.1 h.1.2];exact h.2⟩
 | BitOr=>exact PyProof.Rows.or_int ⟨σ,R.toks _,by rw [bitOr_nat h.1.1 h.1.2];exact h.2⟩
 | BitXor=>exact PyProof.Rows.xor_int ⟨σ,R.toks _,by rw [bitXor_nat h.1.1 h.1.2];exact h.2⟩
 | LShift=>exact PyProof.Rows.lshift_int_small h.1.1 h.1.2.1 h.1.2.2 ⟨σ,R.toks _,h.2⟩
 | RShift=>exact PyProof.Rows.rshift_int h.1 ⟨σ,R.toks _,by rw [Int.fdiv_eq_ediv_of_nonneg _ (Int.le_of_lt (Int.pow_pos (by decide)))];exact h.2⟩
 | Pow=>exact PyProof.Rows.pow_int_small h.1.1 h.1.2.1 h.1.2.2 ⟨σ,R.toks _,h.2⟩
 | _=>exact h.elim
end
section
variable {prog:Program}{w:World}{A:Around}{E:Value→Shared→Prop}{s:Shared}
structure SDict (h:Heap) (d:Addr) (xs:List Str) (vs:List Value):Prop where
 ex:∃ (o:Obj) (es:Array DictEntry) (ep:Nat),h.get? d=some o∧o.cls=.type "dict"∧o.data=.dict es ep∧es.toList.map (fun e=>e.val)=vs∧es.size=xs.length∧∀ (j:Nat) (hj:j<es.size),∃ u,es[j].key=.str (xs[j]?.getD (ofString "")) u
theorem dictFind_str {d:Addr}{o:Obj}{es:Array DictEntry}{ep:Nat}{x:Str}{t:Tok}{hh:Int}{xs:List Str}{j:Nat}{Q:Option Nat→Shared→Prop} (ho:s.heap.get? d=some o) (hd:o.data=.dict es ep) (hsz:es.size=xs.length)
  (hk:∀ (j:Nat) (hj:j<es.size),∃ u,es[j].key=.str (xs[j]?.getD (ofString "")) u) (nd:xs.Nodup) (hj:xs[j]?=some x) (h:Q (some j) s):wpAny (model prog w) A (dictFind d (.str x t) hh) Q E s:=by
 have hall:(es.all fun e=>isExactStrKey e.key)=true:=by
  rw [Array.all_eq_true]
  intro i hi
  obtain ⟨u,e⟩:=hk i hi
  rw [e];rfl
 unfold dictFind
 refine wpAny_holding ?_
 refine wpAny_bind (wpAny_dictEntries ho hd ?_)
 show wpAny _ A (if _ then _ else _) Q E s
 rw [if_pos hall]
 unfold foundByValue
 have hjl:j<es.size:=by rw [hsz];exact (List.getElem?_eq_some_iff.mp hj).1
 have isat:∀ i (hi:i<es.size),es[i].key.isStr x=decide (i=j):=by
  intro i hi
  obtain ⟨u,e⟩:=hk i hi
  have hxi:=List.getElem?_eq_getElem (show i<xs.length by exact e4 hsz hi)
  rw [e,hxi]
  show (xs[i]==x)=_
  by_cases hij:i=j
  ·subst hij
   rw [hxi] at hj;cases hj;simp
  ·rw [decide_eq_false hij]
   refine beq_eq_false_iff_ne.mpr fun q=>hij ?_
   exact (List.getElem?_inj (show i<xs.length by exact e4 hsz hi) nd).mp (by rw [hxi,hj,q])
 cases hf:es.findIdx? (fun e=>e.key.isStr x) with
 | none =>
  have:=Array.findIdx?_eq_none_iff.mp hf es[j] (Array.getElem_mem hjl)
  rw [isat j hjl] at this
  simp at this
 | some i =>
  obtain ⟨hlt,hi,_⟩:=Array.findIdx?_eq_some_iff_getElem.mp hf
  rw [isat i hlt] at hi
  have hi:=of_decide_eq_true hi
  subst hi
  obtain ⟨u,e⟩:=hk i hlt
  simp only [Array.getElem?_eq_getElem hlt]
  have hx:xs[i]?.getD (ofString "")=x:=by rw [hj];rfl
  rw [hx] at e
  refine wpAny_bind (wpAny_dictEpoch ho hd (wpAny_bind ?_))
  rw [e]
  refine SeqAt.EqAt.str_str x u x t prog w E _ ?_
  refine wpAny_bind (wpAny_dictEpoch ho hd ?_)
  show wpAny _ _ (if (ep != ep)=true then _ else _) _ E _
  rw [if_neg (by simp)]
  have:(x==x)=true:=by simp
  rw [this]
  exact wpAny_bind (wpAny_rule (wpAny_pure h))
end
theorem samePairs_str {prog:Program}{w:World}{A:Around}{E:Value→Shared→Prop}{s:Shared}{id:String}{a b:Addr}{xs:List Str}{vs vs':List Value}{Q:Bool→Shared→Prop} (ha:SDict s.heap a xs vs) (hb:SDict s.heap b xs vs') (nd:xs.Nodup) (na:a≠sysModules) (nb:b≠sysModules)
  (hv:∀ (j:Nat) v v',vs[j]?=some v→vs'[j]?=some v'→SeqAt.EqAt A s v v' true) (h:Q true s):wpAny (model prog w) A (Builtin.Dict.samePairs id a b) Q E s:=by
 obtain ⟨o,es,ep,ho,hc,hd,hval,hsz,hk⟩:=ha.ex
 obtain ⟨o',es',ep',ho',hc',hd',hval',hsz',hk'⟩:=hb.ex
 unfold Builtin.Dict.samePairs Builtin.Dict.showsAll
 rw [if_neg (by simpa using na),if_neg (by simpa using nb)]
 refine wpAny_bind (wpAny_pure (wpAny_bind (wpAny_pure ?_)))
 refine wpAny_bind (wpAny_dictEntries ho hd (wpAny_bind (wpAny_dictEntries ho' hd' ?_)))
 dsimp only
 rw [if_neg (by simp [hsz,hsz'])]
 refine wpAny_bind (wpAny_dictEpoch ho hd ?_)
 refine wpAny_bind ?_
 rw [Std.Legacy.Range.forIn_eq_forIn_range']
 simp only [Std.Legacy.Range.size,Nat.sub_zero,Nat.add_sub_cancel,Nat.div_one]
 refine wpAny_forIn_list _ (fun rest r s'=>∃ i,rest=List.range' i (es.size - i)∧i≤es.size∧r=(none,())∧s'=s) _ ?_ ?_ _ _ ⟨0,by simp,Nat.zero_le _,rfl,rfl⟩
 ·rintro x rest r s' ⟨i,hr,hi,rfl,rfl⟩
  have hlt:i<es.size:=by
   rcases Nat.lt_or_ge i es.size with h|h
   ·exact h
   ·rw [Nat.sub_eq_zero_of_le h] at hr;simp at hr
  obtain ⟨rfl,hrest⟩:x=i∧rest=List.range' (i+1) (es.size - (i+1)):=by
   have e:es.size - i=(es.size - (i+1))+1:=by lia
   rw [e,List.range'_succ] at hr
   injection hr with h1 h2
   exact ⟨h1,h2⟩
  refine wpAny_bind (wpAny_dictEntries ho hd ?_)
  rw [Array.getElem?_eq_getElem hlt]
  obtain ⟨u,ek⟩:=hk x hlt
  have hxx:=List.getElem?_eq_getElem (show x<xs.length by exact e4 hsz hlt)
  rw [hxx] at ek
  dsimp only
  refine wpAny_bind (wpAny_holding ?_)
  rw [ek]
  refine wpAny_bind (dictFind_str ho' hd' hsz' hk' nd hxx ?_)
  dsimp only
  refine wpAny_bind (wpAny_dictEntries ho' hd' ?_)
  have hlt':x<es'.size:=by lia
  rw [Array.getElem?_eq_getElem hlt']
  dsimp only
  refine wpAny_holding ?_
  refine hv x _ _ ?_ ?_ prog w _ _ ?_
  ·rw [←hval,List.getElem?_map,Array.getElem?_toList,Array.getElem?_eq_getElem hlt];rfl
  ·rw [←hval',List.getElem?_map,Array.getElem?_toList,Array.getElem?_eq_getElem hlt'];rfl
  ·simp only [Bool.not_true,Bool.false_eq_true,if_false]
   refine wpAny_bind (wpAny_dictEpoch ho hd ?_)
   rw [if_neg (by simp)]
   exact wpAny_pure ⟨x+1,hrest,hlt,rfl,rfl⟩
 ·rintro r s' ⟨i,hr,hi,rfl,rfl⟩
  exact wpAny_pure h
theorem SDict.type {s:Shared}{a:Addr}{xs:List Str}{vs:List Value} (h:SDict s.heap a xs vs):s.TypeIs (.ref a) "dict":=by
 obtain ⟨o,es,ep,ho,hc,_⟩:=h.ex
 exact ⟨o,ho,hc⟩
theorem isSub_dict:isSubtype (.type "dict") (.type "dict")=pure true:=by kernel_rfl
theorem dict_eqAt (a b:Addr) (xs:List Str) (vs vs':List Value):Meets (Builtin.«dict.__eq__» ⟨[.ref a,.ref b],[]⟩)
  (fun A R s=>SDict s.heap a xs vs∧SDict s.heap b xs vs'∧xs.Nodup∧a≠sysModules∧b≠sysModules∧(∀ (j:Nat) v v',vs[j]?=some v→vs'[j]?=some v'→SeqAt.EqAt A.in1 s v v' true)∧R (.ok (.ret (.bool true))) s) :=
 .of_wp fun prog w A R s h=>by
  obtain ⟨ha,hb,nd,na,nb,hv,h⟩:=h
  show wpAny _ _ (Builtin.Dict.dictSlotArgs "__eq__" ⟨[.ref a,.ref b],[]⟩>>=fun x=>match x with
   | (self,other)=>(isInstance other (.type "dict")>>=fun i=>if (!i)=true then (rule s!"dict.{"__eq__"}.not-a-dict">>=fun zz=>ret .notImplemented) else
    (Builtin.Dict.addrOf self>>=fun p=>Builtin.Dict.addrOf other>>=fun q=>Builtin.Dict.samePairs s!"dict.{"__eq__"}" p q>>=fun z=>ret (.bool (z==true))))) _ _ s
  unfold Builtin.Dict.dictSlotArgs
  refine wpAny_bind (wpAny_bind (wpAny_notOrdered_dict ha.type ?_))
  show wpAny _ _ (pure (Value.ref a,Value.ref b)) _ _ s
  refine wpAny_pure ?_
  refine wpAny_bind (wpAny_isInstance (T:="dict") (b:=true) hb.type isSub_dict ?_)
  rw [if_neg (by decide)]
  show wpAny _ _ (Builtin.Dict.samePairs _ a b>>=_) _ _ s
  refine wpAny_bind (samePairs_str ha hb nd na nb hv ?_)
  exact wpAny_pure ⟨_,rfl,h⟩
theorem eqDicts {A:Around}{s:Shared}{a b:Addr}{xs:List Str}{vs vs':List Value} (ha:SDict s.heap a xs vs) (hb:SDict s.heap b xs vs') (nd:xs.Nodup) (na:a≠sysModules) (nb:b≠sysModules) (hu:A.units<cLine)
  (hv:∀ (j:Nat) v v',vs[j]?=some v→vs'[j]?=some v'→SeqAt.EqAt A.in1 s v v' true):SeqAt.RcAt A s (.ref a) (.ref b) true:=fun prog w E Q h =>
 richCompare_meets_room (op:=.Eq) ha.type hb.type F.slot_dict_eq F.entry_dict_eq (F.args_dict_eq_2 _ _) (dict_eqAt a b xs vs vs') ⟨ha,hb,nd,na,nb,hv,⟨(fun x=>nomatch x),h⟩⟩ hu
mutual
inductive RD (m:Mem):V→PyData→Prop
 | none:RD m .none .none
 | bool (b:Bool):RD m (.bool b) (.bool b)
 | int (i:Int):RD m (.int i) (.int i)
 | str (x:Str):RD m (.str x) (.str x)
 | list {a:Addr}{vs:List V}{ds:List PyData}:m a=some (.list vs)→RDs m vs ds→RD m (.ref a) (.list ds)
 | tup {a:Addr}{vs:List V}{ds:List PyData}:m a=some (.tup vs)→RDs m vs ds→RD m (.ref a) (.tuple ds)
inductive RDs (m:Mem):List V→List PyData→Prop
 | nil:RDs m [] []
 | cons {v:V}{d:PyData}{vs:List V}{ds:List PyData}:RD m v d→RDs m vs ds→RDs m (v::vs) (d::ds)
end
theorem RD.ind {m:Mem}{p:V→PyData→Prop}{q:List V→List PyData→Prop} (h1:p .none .none) (h2:∀ b,p (.bool b) (.bool b)) (h3:∀ i,p (.int i) (.int i)) (h4:∀ x,p (.str x) (.str x)) (h5:∀ a vs ds,m a=some (.list vs)→q vs ds→p (.ref a) (.list ds))
  (h6:∀ a vs ds,m a=some (.tup vs)→q vs ds→p (.ref a) (.tuple ds)) (h7:q [] []) (h8:∀ v d vs ds,p v d→q vs ds→q (v::vs) (d::ds)):(∀ {v d},RD m v d→p v d)∧∀ {vs ds},RDs m vs ds→q vs ds :=
 ⟨fun h=>h.rec (motive_1:=fun v d zz=>p v d) (motive_2:=fun vs ds zz=>q vs ds) h1 h2 h3 h4 (fun e zz=>h5 _ _ _ e) (fun e zz=>h6 _ _ _ e) h7 fun zz zz=>h8 _ _ _ _,fun h=>h.rec (motive_1:=fun v d zz=>p v d) (motive_2:=fun vs ds zz=>q vs ds) h1 h2 h3 h4 (fun e zz=>h5 _ _ _ e) (fun e zz=>h6 _ _ _ e) h7 fun zz zz=>h8 _ _ _ _⟩
theorem RD.readsB {w:World}{k:Keep}{m:Mem}{h:Heap} (R:RelM w k m h):(∀ {v d},RD m v d→∀ x:Value,vof x=v→∃ as,Reads h x d as)∧∀ {vs ds},RDs m vs ds→∀ xs:List Value,xs.map vof=vs→∃ as,ReadsAll h xs ds as:=by
 refine RD.ind (fun x e=>?_) (fun b x e=>?_) (fun i x e=>?_) (fun y x e=>?_) (fun a vs ds hm q x e=>?_) (fun a vs ds hm q x e=>?_) (fun xs e=>?_) fun v d vs ds p q xs e=>?_
 ·rw [vof_none e];exact ⟨_,.none⟩
 ·rw [vof_bool e];exact ⟨_,.bool b⟩
 ·obtain ⟨t,rfl⟩:=vof_int e;exact ⟨_,.int i t⟩
 ·obtain ⟨t,rfl⟩:=vof_str e;exact ⟨_,.str y t⟩
 ·rw [vof_ref e]
  obtain ⟨o,ho,items,n,rfl,z,_⟩:=R.rep a _ hm
  obtain ⟨as,r⟩:=q items.toList z
  exact ⟨_,.list ho rfl rfl r⟩
 ·rw [vof_ref e]
  obtain ⟨o,ho,items,n,rfl,z,_⟩:=R.rep a _ hm
  obtain ⟨as,r⟩:=q items.toList z
  exact ⟨_,.tuple ho rfl rfl r⟩
 ·rw [List.map_eq_nil_iff.mp e];exact ⟨_,.nil⟩
 ·obtain ⟨x,xs,rfl,e1,e2⟩:=List.map_eq_cons_iff.mp e
  obtain ⟨as,r⟩:=p x e1
  obtain ⟨bs,r'⟩:=q xs e2
  exact ⟨_,.cons r r'⟩
theorem RD.reads {w:World}{k:Keep}{m:Mem}{h:Heap} (R:RelM w k m h) {v:V}{d:PyData} (q:RD m v d):∀ x:Value,vof x=v→∃ as,Reads h x d as:=(RD.readsB R).1 q
theorem RDs.reads {w:World}{k:Keep}{m:Mem}{h:Heap} (R:RelM w k m h) {vs:List V}{ds:List PyData} (q:RDs m vs ds):∀ xs:List Value,xs.map vof=vs→∃ as,ReadsAll h xs ds as:=(RD.readsB R).2 q
noncomputable def atOf:V→Option At
 | .int i=>some (.int i)
 | .str x=>some (.str x)
 | _=>none
noncomputable def atsOf:List V→Option (List At)
 | []=>some []
 | v::vs=>match atOf v,atsOf vs with
  | some a,some as=>some (a::as)
  | _,_=>none
noncomputable def keyOf (m:Mem):V→Option K
 | .int i=>some (.int i)
 | .str x=>some (.str x)
 | .ref a=>match m a with
  | some (.tup xs)=>match atsOf xs with
   | some as=>some (.tup as)
   | none=>none
  | _=>none
 | _=>none
theorem atIs_of {a:At}{v:Value} (h:atOf (vof v)=some a):atIs a v=true:=by
 cases v <;> simp [vof,atOf] at h <;> subst h <;> simp [atIs,Value.isInt,Value.isStrOf]
set_option tactic.hygienic true in
theorem items_of {w:World}:∀ {xs:List Value}{as:List At},atsOf (xs.map vof)=some as→PySem.ItemsAre (atKind w) as xs
 | [],_,h=>by cases h;exact .nil
 | x::xs,as,h=>by
  rw [List.map_cons] at h
  unfold atsOf at h
  split at h
  ·rename_i a as' h1 h2;cases h;exact .cons (atIs_of h1) (items_of h2)
  ·cases h
set_option tactic.hygienic true in
theorem keyIs {w:World}{k:Keep}{m:Mem}{h:Heap} (R:RelM w k m h) {v:Value}{key:K} (e:keyOf m (vof v)=some key):KIs w h v key:=by
 unfold keyOf at e
 split at e
 ·rename_i i q;cases e;obtain ⟨t,rfl⟩:=vof_int q;exact (by simp [KIs,atIs,Value.isInt])
 ·rename_i x q;cases e;obtain ⟨t,rfl⟩:=vof_str q;exact (by simp [KIs,atIs,Value.isStrOf])
 ·rename_i a q
  split at e
  ·rename_i xs hm
   split at e
   ·rename_i as ha
    cases e
    obtain ⟨o,ho,items,n,rfl,q2,_⟩:=R.rep a _ hm
    refine ⟨a,vof_ref q,_,items,n,ho,rfl,rfl,items_of ?_⟩
    rw [q2];exact ha
   ·cases e
  ·cases e
 ·cases e
noncomputable def dget (k:K):List (K × V)→Option V
 | []=>none
 | e::es=>if e.1=k then some e.2 else dget k es
noncomputable def dput (k:K) (v:V):List (K × V)→List (K × V)
 | []=>[(k,v)]
 | e::es=>if e.1=k then (k,v)::es else e::dput k v es
noncomputable def dhas (k:K) (es:List (K × V)):Bool:=(dget k es).isSome
theorem dget_none {k:K}:∀ {es:List (K × V)},k∉es.map (·.1)→dget k es=none
 | [],_=>rfl
 | e::es,h=>by
  unfold dget
  rw [List.map_cons,List.mem_cons,not_or] at h
  rw [if_neg (fun q=>h.1 q.symm),dget_none h.2]
theorem dget_at {k:K}{v:V}:∀ {es:List (K × V)}{j:Nat},(es.map (·.1)).Nodup→es[j]?=some (k,v)→dget k es=some v
 | [],_,_,h=>by simp at h
 | e::es,0,_,h=>by simp at h;subst h;simp [dget]
 | e::es,j+1,n,h=>by
  rw [List.map_cons,List.nodup_cons] at n
  rw [List.getElem?_cons_succ] at h
  have:k∈es.map (·.1):=List.mem_map.mpr ⟨_,List.mem_of_getElem? h,rfl⟩
  unfold dget
  rw [if_neg (fun (q:e.1=k)=>n.1 (q▸this))]
  exact dget_at n.2 h
theorem dput_new {k:K}{v:V}:∀ {es:List (K × V)},k∉es.map (·.1)→dput k v es=es++[(k,v)]
 | [],_=>rfl
 | e::es,h=>by
  rw [List.map_cons,List.mem_cons,not_or] at h
  unfold dput
  rw [if_neg (fun q=>h.1 q.symm),dput_new h.2];rfl
theorem dput_old {k:K}{v u:V}:∀ {es:List (K × V)}{j:Nat},(es.map (·.1)).Nodup→es[j]?=some (k,u)→dput k v es=es.set j (k,v)
 | [],_,_,h=>by simp at h
 | e::es,0,_,h=>by simp at h;subst h;simp [dput]
 | e::es,j+1,n,h=>by
  rw [List.map_cons,List.nodup_cons] at n
  rw [List.getElem?_cons_succ] at h
  have:k∈es.map (·.1):=List.mem_map.mpr ⟨_,List.mem_of_getElem? h,rfl⟩
  unfold dput
  rw [if_neg (fun (q:e.1=k)=>n.1 (q▸this)),dput_old n.2 h];rfl
inductive NeW (m:Mem) (a b:V) (k:Bool→Prop):Prop
 | int (i j:Int) (ha:a=.int i) (hb:b=.int j) (h:k (decide (i=j)))
 | str (x y:Str) (ha:a=.str x) (hb:b=.str y) (h:k (decide (x=y)))
 | data (d e:PyData) (h1:RD m a d) (h2:RD m b e) (l1:d.canLay0=true) (l2:e.canLay0=true) (l3:d.depth≤40) (h:k (PyData.eqv d e))
noncomputable def DictD (m:Mem) (b:Addr) (E:List (Str × PyData)):Prop:=∃ es,m b=some (.dict es)∧es.map (·.1)=E.map (fun p=>K.str p.1)∧RDs m (es.map (·.2)) (E.map (·.2))
noncomputable def SameT (m:Mem) (u v:V):Prop:=∃ t t' a a' b b' D E,u=.ref t∧v=.ref t'∧m t=some (.tup [a,.ref b])∧m t'=some (.tup [a',.ref b'])∧RD m a D∧RD m a' D∧DictD m b E∧DictD m b' E∧b≠b'∧(E.map (·.1)).Nodup∧(D.canLay0=true∧D.depth≤40)∧∀ p∈E,p.2.canLay0=true∧p.2.depth≤40
inductive InW (m:Mem) (a b:V) (k:Bool→Prop):Prop
 | list (l:Addr) (ys:List V) (d:PyData) (ds:List PyData) (hb:b=.ref l) (hm:m l=some (.list ys)) (h1:RD m a d) (h2:RDs m ys ds) (l1:d.canLay0=true) (l2:PyData.canLayAll0 ds=true) (l3:d.depth≤40) (h:k (ds.any fun y=>PyData.eqv y d))
 | dict (l:Addr) (es:List (K × V)) (key:K) (hb:b=.ref l) (hm:m l=some (.dict es)) (hk:keyOf m a=some key) (h:k (dhas key es))
inductive NoneW (a b:V) (k:Bool→Prop):Prop
 | none (hb:b=.none) (ha:a=.none) (h:k true)
 | ref (l:Addr) (hb:b=.none) (ha:a=.ref l) (h:k false)
inductive IntI (a b:V) (k:Int→Int→Prop):Prop
 | mk (i j:Int) (ha:a=.int i) (hb:b=.int j) (h:k i j)
noncomputable def cmpU (op:CmpOp) (a b:V) (σ:St) (Φ:Bool→St→Prop):Prop :=
 match op with
 | .Eq=>(NeW σ.m a b fun r=>Φ r σ)∨(SameT σ.m a b∧Φ true σ)
 | .NotEq=>NeW σ.m a b fun r=>Φ (!r) σ
 | .Lt=>IntI a b fun i j=>Φ (decide (i<j)) σ
 | .LtE=>IntI a b fun i j=>Φ (decide (i≤j)) σ
 | .Gt=>IntI a b fun i j=>Φ (decide (i > j)) σ
 | .GtE=>IntI a b fun i j=>Φ (decide (i≥j)) σ
 | .In=>InW σ.m a b fun r=>Φ r σ
 | .NotIn=>InW σ.m a b fun r=>Φ (!r) σ
 | .Is=>NoneW a b fun r=>Φ r σ
 | .IsNot=>NoneW a b fun r=>Φ (!r) σ
@[irreducible] noncomputable def cmpW (op:CmpOp) (a b:V) (σ:St) (Φ:Bool→St→Prop):Prop:=cmpU op a b σ Φ
theorem cmpW.i {op:CmpOp}{a b:V}{σ:St}{Φ:Bool→St→Prop} (h:cmpU op a b σ Φ):cmpW op a b σ Φ:=by unfold cmpW;exact h
section
variable {c:FC}{σ:St}{s:Shared}{E:Value→Shared→Prop}
theorem FC.Ok.units (O:c.Ok):c.A.units+50<cLine:=by have:=O.room.2;lia
inductive DictHp (w:World) (h:Heap) (d:Addr) (es:List (K × V)):Prop
 | mk (o:Obj) (ents:Array DictEntry) (ep:Nat) (ho:h.get? d=some o) (hx:o.ExactDict) (hd:o.data=.dict ents ep) (he:Ents w h ents.toList (es.map (·.1))) (hv:ents.toList.map (fun e=>vof e.val)=es.map (·.2))
theorem Rel.dict (R:Rel c σ s) {d:Addr}{es:List (K × V)} (h:σ.m d=some (.dict es)):DictHp c.X.G.w s.heap d es:=by
 obtain ⟨o,ho,hx,ents,ep,h1,h2,h3⟩:=R.at h
 exact ⟨o,ents,ep,ho,hx,h1,h2,h3⟩
theorem dict_get_K {d:Addr}{o:Obj}{ents:Array DictEntry}{ep:Nat}{es:List (K × V)}{w:World}{A:Around}{key:Value}{k:K}{Q:Option Value→Shared→Prop} (hu:A.units<cLine) (hk:KIs w s.heap key k) (ho:s.heap.get? d=some o)
  (hd:o.data=.dict ents ep) (he:Ents w s.heap ents.toList (es.map (·.1))) (hv:ents.toList.map (fun e=>vof e.val)=es.map (·.2))
  (hnone:∀ tk,dget k es=none→Q none { s with toks:=tk }) (hsome:∀ tk v,dget k es=some (vof v)→Q (some v) { s with toks:=tk }):wpAny (MW w) A (dictGet d key) Q E s:=by
 unfold dictGet
 refine wpAny_holding (wpAny_bind (sees_hash hu hk _ _ fun tk=>wpAny_bind ?_))
 refine dictFind_K (s:={ s with toks:=tk }) hu hk ho hd he (fun h=>wpAny_pure (hnone tk (dget_none h))) fun j hj=>?_
 refine wpAny_bind (wpAny_dictEntries (s:={ s with toks:=tk }) ho hd ?_)
 have hl:j<es.length:=by
  have:=(List.getElem?_eq_some_iff.mp hj).1
  simpa using this
 have hl':j<ents.size:=by
  have h1:=congrArg List.length hv
  simp only [List.length_map,Array.length_toList] at h1
  exact h1▸hl
 have e1:es[j]?=some (k,es[j].2):=by
  rw [List.getElem?_map] at hj
  rw [List.getElem?_eq_getElem hl] at hj ⊢
  simp only [Option.map_some,Option.some.injEq] at hj
  rw [←hj]
 have e2:vof ents[j].val=es[j].2:=by
  have:=congrArg (fun l=>l[j]?) hv
  simp only [List.getElem?_map,Array.getElem?_toList,Array.getElem?_eq_getElem hl',List.getElem?_eq_getElem hl,Option.map_some,Option.some.injEq] at this
  exact this
 rw [Array.getElem?_eq_getElem hl']
 exact wpAny_pure (hsome tk _ (by rw [e2];exact dget_at he.nd e1))
theorem in_dict {d:Addr}{es:List (K × V)}{key:Value}{k:K}{A:Around}{Q:Value→Shared→Prop} (hu:A.units+5<cLine) (R:Rel c σ s) (hm:σ.m d=some (.dict es)) (hk:keyOf σ.m (vof key)=some k)
  (h:∀ tk,Q (.bool (dhas k es)) { s with toks:=tk }):wpAny (MW c.X.G.w) A (compareOp .In key (.ref d)) Q E s:=by
 obtain ⟨o,ents,ep,ho,hx,hd,he,hv⟩:=R.dict hm
 have hT:s.TypeIs (.ref d) "dict":=⟨o,ho,hx.1⟩
 have hsys:(d==sysModules)=false:=beq_eq_false_iff_ne.mpr fun e=>by have:=R.S.lo d _ hm;rw [e] at this;exact absurd this (by decide)
 show wpAny _ _ (do return .bool (←contains (.ref d) key)) Q E s
 refine wpAny_bind ?_
 unfold contains
 refine wpAny_holding ?_
 refine wpAny_bind (wpAny_specialOf hT slot_dict_contains.lookup ?_)
 show wpAny _ _ (if (some (Value.builtin "dict.__contains__")==some Value.none)=true then _ else _) _ E s
 rw [if_neg (by rw [beq_builtin_none];exact Bool.false_ne_true)]
 refine wpAny_bind (wpAny_callSpecialUnlessNone?_slot (name:=ofString "__contains__") hT slot_dict_contains
  (wpAny_call_entry slot_dict_contains hT entry_dict_contains ?_ (args_dict_contains _ _)))
 show wpAny _ _ (dictGet d key>>=_) _ _ s
 refine wpAny_bind (dict_get_K (by show A.units+1<cLine;lia) (keyIs R.S.mem hk) ho hd he hv (fun tk hn=>?_) fun tk v hs=>?_)
 ·have z:=h tk
  unfold dhas at z;rw [hn] at z
  show wpAny _ _ (Builtin.Dict.pendingKey? d key>>=_) _ _ _
  exact wpAny_bind (wpAny_pendingKey_other hsys (wpAny_pure ⟨_,rfl,wpAny_truthy_bool (wpAny_pure z)⟩))
 ·have z:=h tk
  unfold dhas at z;rw [hs] at z
  show wpAny _ _ (ret (.bool true)) _ _ _
  exact wpAny_pure ⟨_,rfl,wpAny_truthy_bool (wpAny_pure z)⟩
theorem notin_dict {d:Addr}{es:List (K × V)}{key:Value}{k:K}{A:Around}{Q:Value→Shared→Prop} (hu:A.units+5<cLine) (R:Rel c σ s) (hm:σ.m d=some (.dict es)) (hk:keyOf σ.m (vof key)=some k)
  (h:∀ tk,Q (.bool (!dhas k es)) { s with toks:=tk }):wpAny (MW c.X.G.w) A (compareOp .NotIn key (.ref d)) Q E s:=by
 have:=in_dict (E:=E) (Q:=fun v s'=>match v with|.bool b=>Q (.bool (!b)) s'|_=>False) hu R hm hk h
 have e:∀ (x:Sem Bool),wpAny (MW c.X.G.w) A (x>>=fun b=>pure (Value.bool b)) (fun v s'=>match v with|.bool b=>Q (.bool (!b)) s'|_=>False) E s→wpAny (MW c.X.G.w) A (x>>=fun b=>pure (Value.bool (!b))) Q E s:=by
  intro x hx Γ p hΓ
  have:=hx Γ p hΓ
  rw [Sem.wp_bind'] at this ⊢
  exact this
 exact e _ this
theorem Rel.sdict (R:Rel c σ s) {b:Addr}{E:List (Str × PyData)} (h:DictD σ.m b E):∃ vs as,SDict s.heap b (E.map (·.1)) vs∧ReadsAll s.heap vs (E.map (·.2)) as∧b≠sysModules:=by
 obtain ⟨es,hm,hk,hv⟩:=h
 obtain ⟨o,ents,ep,ho,hx,hd,he,hval⟩:=R.dict hm
 have hsz:ents.size=(E.map (·.1)).length:=by
  have h1:=he.len
  have h2:=congrArg List.length hk
  simp only [List.length_map,Array.length_toList] at h1 h2 ⊢
  exact h1.trans h2
 obtain ⟨as,r⟩:=RDs.reads R.S.mem hv (ents.toList.map (·.val)) (by rw [List.map_map];exact hval)
 refine ⟨_,as,⟨o,ents,ep,ho,hx.1,hd,rfl,hsz,fun j hj=>?_⟩,r,fun e=>by have:=R.S.lo b _ hm;rw [e] at this;exact absurd this (by decide)⟩
 obtain ⟨e,k',h1,h2,h3,h4⟩:=he.at hj
 rw [Array.getElem?_eq_getElem hj] at h1
 cases h1
 rw [hk,List.getElem?_map] at h2
 obtain ⟨p,h5,h6⟩:=Option.map_eq_some_iff.mp h2
 subst h6
 rcases atIs_shape h4 with ⟨_,_,q,_⟩|⟨y,u,q,q2⟩
 ·cases q
 ·injection q with q
  subst q
  exact ⟨u,by rw [q2,List.getElem?_map,h5];rfl⟩
theorem map2 {l:List Value}{a b:V} (e:l.map vof=[a,b]):∃ x y,l=[x,y]∧vof x=a∧vof y=b:=by
 obtain ⟨x,r,rfl,e1,e⟩:=List.map_eq_cons_iff.mp e
 obtain ⟨y,rfl,e2⟩:=List.map_eq_singleton_iff.mp e
 exact ⟨x,y,rfl,e1,e2⟩
theorem same_ok {a b:Value}{Q:Value→Shared→Prop} (O:c.Ok) (R:Rel c σ s) (hS:SameT σ.m (vof a) (vof b)) (h:Q (.bool true) s):wpAny (MW c.X.G.w) c.A (compareOp .Eq a b) Q E s:=by
 have hu:=O.units
 obtain ⟨t,t',u,u',d,d',D,EE,h1,h2,h3,h4,r1,r2,d1,d2,hne,nd,⟨cl,dp⟩,hE⟩:=hS
 have:=vof_ref h1;subst this
 have:=vof_ref h2;subst this
 obtain ⟨items,n,ho,e,hz⟩:=R.tup h3
 obtain ⟨items',n',ho',e',hz'⟩:=R.tup h4
 obtain ⟨l⟩:=items
 obtain ⟨l'⟩:=items'
 obtain ⟨x,y,rfl,ex,ey⟩:=map2 e
 obtain ⟨x',y',rfl,ex',ey'⟩:=map2 e'
 ·have:=vof_ref ey;subst this
  have:=vof_ref ey';subst this
  obtain ⟨as,q1⟩:=RD.reads R.S.mem r1 x ex
  obtain ⟨bs,q2⟩:=RD.reads R.S.mem r2 x' ex'
  obtain ⟨vs,as1,sd,ra,ns⟩:=R.sdict d1
  obtain ⟨vs',as2,sd',ra',ns'⟩:=R.sdict d2
  have eqD:SeqAt.EqAt c.A.in1 s x x' true:=by
   have:=SeqAt.eqAt_reads D D c.A.in1 s x x' as bs q1 q2 cl cl (by show c.A.units+1+_<cLine;lia)
   rwa [SeqAt.eqv_refl D cl] at this
  have eqV:∀ (j:Nat) v v',vs[j]?=some v→vs'[j]?=some v'→SeqAt.EqAt c.A.in1.in1 s v v' true:=fun j v v' g1 g2=>by
   have gen:∀ (ds:List PyData) (vs:List Value) (as:List Addr),ReadsAll s.heap vs ds as→∀ (j:Nat) v,vs[j]?=some v→∃ d as',ds[j]?=some d∧Reads s.heap v d as':=by
    intro ds
    induction ds with
    | nil=>intro vs as r j v g;cases r;simp at g
    | cons d ds ih =>
     intro vs as r j v g
     cases r with
     | cons r1 r2 =>
      cases j with
      | zero=>simp at g;subst g;exact ⟨d,_,rfl,r1⟩
      | succ j=>rw [List.getElem?_cons_succ] at g;exact ih _ _ r2 j v g
   obtain ⟨dd,aa,g3,g4⟩:=gen _ _ _ ra j v g1
   obtain ⟨dd',aa',g5,g6⟩:=gen _ _ _ ra' j v' g2
   rw [g3] at g5;cases g5
   rw [List.getElem?_map] at g3
   obtain ⟨p,g7,g8⟩:=Option.map_eq_some_iff.mp g3
   obtain ⟨cp,dq⟩:=hE p (List.mem_of_getElem? g7)
   rw [g8] at cp dq
   have:=SeqAt.eqAt_reads dd dd c.A.in1.in1 s v v' aa aa' g4 g6 cp cp (by show c.A.units+1+1+_<cLine;lia)
   rwa [SeqAt.eqv_refl dd cp] at this
  have hrc:SeqAt.RcAt c.A s (.ref t) (.ref t') true:=by
   have:=SeqAt.RcAt.tuples (e:=fun zz=>true) (A:=c.A) (s:=s) (items:=#[x,.ref d]) (items2:=#[x',.ref d']) ⟨_,ho,rfl,_,rfl⟩ ⟨_,ho',rfl,_,rfl⟩ (by exact Nat.lt_of_le_of_lt (Nat.le_add_right _ _) hu) fun j j1 j2=>by
    match j,j1,j2 with
    | 0,_,_=>exact eqD
    | 1,_,_=>exact SeqAt.EqAt.of_refs hne (eqDicts sd sd' nd ns ns' (by show c.A.units+1<cLine;lia) eqV)
   exact this
  exact hrc _ _ _ _ h
@[elab_as_elim] theorem IntI.el {a b:Value}{k:Int→Int→Prop}{P:Value→Value→Prop} (h:IntI (vof a) (vof b) k) (q:∀ i t j u,k i j→P (.int i t) (.int j u)):P a b:=by
 obtain ⟨i,j,ha,hb,h⟩:=h
 obtain ⟨t,rfl⟩:=vof_int ha
 obtain ⟨u,rfl⟩:=vof_int hb
 exact q i t j u h
@[elab_as_elim] theorem NoneW.el {a b:Value}{k:Bool→Prop}{P:Value→Value→Prop} (h:NoneW (vof a) (vof b) k) (q:∀ a,PySem.plainIs a .none=true→k (a==.none)→P a .none):P a b:=by
 cases h with
 | none hb ha h=>rw [vof_none hb,vof_none ha];exact q _ rfl h
 | ref l hb ha h=>rw [vof_none hb,vof_ref ha];exact q _ rfl h
theorem compare_ok {op:CmpOp}{a b:Value}{Φ:Bool→St→Prop} (O:c.Ok) (R:Rel c σ s) (h:cmpW op (vof a) (vof b) σ Φ) :
  wpAny (MW c.X.G.w) c.A (compareOp op a b) (fun v s'=>∃ r σ',v=.bool r∧Rel c σ' s'∧Φ r σ') E s:=by
 have hu:=O.units
 unfold cmpW at h
 cases op with
 | Eq =>
  rcases h with h|⟨hS,h⟩
  ·cases h with
   | int i j h1 h2 h =>
    obtain ⟨t,rfl⟩:=vof_int h1;obtain ⟨u,rfl⟩:=vof_int h2
    exact wpAny_eq_int ⟨_,σ,rfl,R,by rw [Bool.beq_eq_decide_eq];exact h⟩
   | str i j h1 h2 h =>
    obtain ⟨t,rfl⟩:=vof_str h1;obtain ⟨u,rfl⟩:=vof_str h2
    exact PyProof.Rows.eq_str ⟨_,σ,rfl,R,by rw [Bool.beq_eq_decide_eq];exact h⟩
   | data d e r1 r2 l1 l2 l3 h =>
    obtain ⟨as,r1⟩:=RD.reads R.S.mem r1 a rfl
    obtain ⟨bs,r2⟩:=RD.reads R.S.mem r2 b rfl
    exact SeqAt.compareEq_reads r1 r2 l1 l2 (by lia) ⟨_,σ,rfl,R,h⟩
  ·exact same_ok O R hS ⟨_,σ,rfl,R,h⟩
 | NotEq =>
  cases h with
  | int i j h1 h2 h =>
   obtain ⟨t,rfl⟩:=vof_int h1;obtain ⟨u,rfl⟩:=vof_int h2
   exact PySem.P.ne_int ⟨_,σ,rfl,R,by rw [bne,Bool.beq_eq_decide_eq];exact h⟩
  | str i j h1 h2 h =>
   obtain ⟨t,rfl⟩:=vof_str h1;obtain ⟨u,rfl⟩:=vof_str h2
   exact PyProof.Rows.ne_str ⟨_,σ,rfl,R,by rw [bne,Bool.beq_eq_decide_eq];exact h⟩
  | data d e r1 r2 l1 l2 l3 h =>
   obtain ⟨as,r1⟩:=RD.reads R.S.mem r1 a rfl
   obtain ⟨bs,r2⟩:=RD.reads R.S.mem r2 b rfl
   exact SeqAt.compareNe_reads r1 r2 l1 l2 (by lia) ⟨_,σ,rfl,R,h⟩
 | Lt=>exact IntI.el h fun i t j u h=>wpAny_lt_int ⟨_,σ,rfl,R,h⟩
 | LtE=>exact IntI.el h fun i t j u h=>PySem.P.le_int ⟨_,σ,rfl,R,h⟩
 | Gt=>exact IntI.el h fun i t j u h=>PySem.P.gt_int ⟨_,σ,rfl,R,h⟩
 | GtE=>exact IntI.el h fun i t j u h=>PySem.P.ge_int ⟨_,σ,rfl,R,h⟩
 | Is=>exact NoneW.el h fun a p h=>wpAny_is_plain p ⟨_,σ,rfl,R,h⟩
 | IsNot=>exact NoneW.el h fun a p h=>wpAny_isNot_plain p ⟨_,σ,rfl,R,h⟩
 | In =>
  cases h with
  | list l ys d ds hb hm r1 r2 l1 l2 l3 h =>
   obtain ⟨as,r1⟩:=RD.reads R.S.mem r1 a rfl
   obtain ⟨bs,r2⟩:=RD.reads R.S.mem (RD.list hm r2) b hb
   rw [vof_ref hb] at r2 ⊢
   exact SeqAt.in_list_reads r2 r1 l2 l1 (by lia) ⟨_,σ,rfl,R,h⟩
  | dict l es key hb hm hk h =>
   rw [vof_ref hb]
   exact in_dict (by lia) R hm hk fun tk=>⟨_,σ,rfl,R.toks tk,h⟩
 | NotIn =>
  cases h with
  | list l ys d ds hb hm r1 r2 l1 l2 l3 h =>
   obtain ⟨as,r1⟩:=RD.reads R.S.mem r1 a rfl
   obtain ⟨bs,r2⟩:=RD.reads R.S.mem (RD.list hm r2) b hb
   rw [vof_ref hb] at r2 ⊢
   exact SeqAt.notIn_list_reads r2 r1 l2 l1 (by lia) ⟨_,σ,rfl,R,h⟩
  | dict l es key hb hm hk h =>
   rw [vof_ref hb]
   exact notin_dict (by lia) R hm hk fun tk=>⟨_,σ,rfl,R.toks tk,h⟩
end
section
variable {c:FC}{σ:St}{s:Shared}{E:Value→Shared→Prop}{A:Around}
theorem RelM.grown {w:World}{k:Keep}{m:Mem}{h h':Heap} (R:RelM w k m h) (g:∀ b o,h.get? b=some o→h'.get? b=some o):RelM w k m h' :=
 ⟨fun b mo e=>let ⟨o,ho,r⟩:=R.rep b mo e;⟨o,g b o ho,r.keep fun b o e zz=>g b o e⟩,fun b o e=>g b o (R.keep b o e),R.apart⟩
theorem Rel.grown (R:Rel c σ s) {h':Heap} (g:∀ b o,s.heap.get? b=some o→h'.get? b=some o) (tk:Nat):Rel c σ { s with heap:=h',toks:=tk } :=
 ⟨⟨R.S.gens,R.S.drawn,R.S.os,R.S.mem.grown g,R.S.lo⟩,R.F.keep (fun o e=>g _ o e) (fun zz zz zz o e=>g _ o e),R.O,
  fun b hb=>let ⟨o,h1,h2⟩:=R.B b hb;⟨o,g b o h1,h2⟩,fun y ca e=>let ⟨v,o,h1,h2⟩:=R.C y ca e;⟨v,o,g ca o h1,h2⟩⟩
@[irreducible] noncomputable def allocW (mo:MO) (σ:St) (Φ:V→St→Prop):Prop:=∀ a,2<a→σ.m a=none→Φ (.ref a) ⟨σ.ρ,upd σ.m a mo⟩
theorem allocW.d {mo:MO}{σ:St}{Φ:V→St→Prop} (h:allocW mo σ Φ):∀ a,2<a→σ.m a=none→Φ (.ref a) ⟨σ.ρ,upd σ.m a mo⟩:=by unfold allocW at h;exact h
theorem allocW.i {mo:MO}{σ:St}{Φ:V→St→Prop} (h:∀ a,2<a→σ.m a=none→Φ (.ref a) ⟨σ.ρ,upd σ.m a mo⟩):allocW mo σ Φ:=by unfold allocW;exact h
theorem Rel.allocd (R:Rel c σ s) (O:c.Ok) {o:Obj}{mo:MO}{Φ:V→St→Prop} (hf:o.isFreed=false) (r:ORel c.X.G.w (s.heap.push o) o mo) (h:allocW mo σ Φ) (tk:Nat):post c Φ (.ref s.heap.objs.size) { s with heap:=s.heap.push o,toks:=tk } :=
 ⟨_,R.alloc O hf r tk,h.d _ (R.size O) R.newAt⟩
theorem Rel.allocG (R:Rel c σ s) (O:c.Ok) {h':Heap}{o:Obj}{mo:MO}{Φ:V→St→Prop} (g:∀ b o,s.heap.get? b=some o→h'.get? b=some o) (hf:o.isFreed=false) (r:ORel c.X.G.w (h'.push o) o mo) (h:allocW mo σ Φ) (tk:Nat) :
  post c Φ (.ref h'.objs.size) { s with heap:=h'.push o,toks:=tk }:=by
 have R':=R.grown g s.toks
 exact Rel.allocd (s:={ s with heap:=h' }) R' O hf r h tk
theorem ORel.list_ {w:World}{h:Heap}{items:Array Value}{n:Nat}{xs:List V} (e:items.toList.map vof=xs) (hz:items.size≤sizeLine):ORel w h { cls:=.type "list",data:=.seq items n } (.list xs):=⟨items,n,rfl,e,hz⟩
theorem ORel.tup_ {w:World}{h:Heap}{items:Array Value}{n:Nat}{xs:List V} (e:items.toList.map vof=xs) (hz:items.size≤sizeLine):ORel w h { cls:=.type "tuple",data:=.seq items n } (.tup xs):=⟨items,n,rfl,e,hz⟩
theorem ORel.range_ {w:World}{h:Heap}{a b d:Int}{t u v:Tok}:ORel w h { cls:=.type "range",data:=.fields #[.int a t,.int b u,.int d v] } (.range a b d):=⟨_,_,_,rfl⟩
theorem noS' {α:Type}{a:Option α}{b:α}{C:Prop} (h:a=none) (q:a=some b):C:=nomatch h.symm.trans q
theorem seq_map {xs:List Value}:(xs.toArray).toList.map vof=xs.map vof:=by simp
theorem ORel.emptyDict {w:World}{h:Heap}:ORel w h emptyDict (.dict []):=⟨⟨rfl,rfl,rfl⟩,_,_,rfl,⟨rfl,(fun i e k h1 h2=>by simp at h1),List.nodup_nil⟩,rfl⟩
inductive lenW (a:V) (σ:St) (Φ:V→St→Prop):Prop
 | list (l:Addr) (xs:List V) (ha:a=.ref l) (hm:σ.m l=some (.list xs)) (h:Φ (.int xs.length) σ)
 | tup (l:Addr) (xs:List V) (ha:a=.ref l) (hm:σ.m l=some (.tup xs)) (h:Φ (.int xs.length) σ)
theorem size_of {items:Array Value}{xs:List V} (e:items.toList.map vof=xs):items.size=xs.length:=by rw [←e,List.length_map,Array.length_toList]
theorem sz_lt {n:Nat} (h:n≤sizeLine):((n:Nat):Int)<2^63:=by rw [sizeLine_eq] at h;lia
theorem len_ok {v:Value}{Φ:V→St→Prop} (R:Rel c σ s) (h:lenW (vof v) σ Φ):wpAny (MW c.X.G.w) A (call (.builtin "len") [v]) (post c Φ) E s:=by
 cases h with
 | list l xs ha hm h =>
  obtain ⟨items,n,ho,e,hz⟩:=R.list hm
  rw [vof_ref ha]
  exact Calls.call_len_list ⟨_,ho,rfl,_,rfl⟩ (sz_lt hz) ⟨σ,R.toks _,by rw [size_of e];exact h⟩
 | tup l xs ha hm h =>
  obtain ⟨items,n,ho,e,hz⟩:=R.tup hm
  rw [vof_ref ha]
  exact PyProof.Rows.len_tuple ⟨_,ho,rfl,_,rfl⟩ (sz_lt hz) ⟨σ,R.toks _,by rw [size_of e];exact h⟩
noncomputable def rangeW (a b d:Int) (σ:St) (Φ:V→St→Prop):Prop:=(a.natAbs<2^30∧b.natAbs<2^30∧d≠0∧d.natAbs<2^30)∧allocW (.range a b d) σ Φ
theorem range1_ok {n:Int}{t:Tok}{Φ:V→St→Prop} (R:Rel c σ s) (O:c.Ok) (h:rangeW 0 n 1 σ Φ):wpAny (MW c.X.G.w) A (call (.type "range") [.int n t]) (post c Φ) E s :=
 PySem.call_range_1 (R.allocd O rfl ORel.range_ h.2 _)
theorem range3_ok {a b d:Int}{t u v:Tok}{Φ:V→St→Prop} (R:Rel c σ s) (O:c.Ok) (h:rangeW a b d σ Φ):wpAny (MW c.X.G.w) A (call (.type "range") [.int a t,.int b u,.int d v]) (post c Φ) E s :=
 PySem.call_range_3 h.1.2.2.1 (R.allocd O rfl ORel.range_ h.2 _) (.inl (PyProof.noPylong_small (by have:=h.1;omega)))
noncomputable def seqOf (m:Mem):V→Option (List V)
 | .ref a=>match m a with
  | some (.list xs)=>some xs
  | some (.tup xs)=>some xs
  | _=>none
 | _=>none
inductive SeqOfH (h:Heap) (v:Value) (xs:List V):Prop
 | mk (a:Addr) (T:String) (items:Array Value) (n:Nat) (e0:v=.ref a) (hT:T="list"∨T="tuple") (ho:h.get? a=some { cls:=.type T,data:=.seq items n }) (e:items.toList.map vof=xs) (hz:items.size≤sizeLine)
theorem Rel.seqOf (R:Rel c σ s) {v:Value}{xs:List V} (h:Mine.seqOf σ.m (vof v)=some xs):SeqOfH s.heap v xs:=by
 unfold Mine.seqOf at h
 cases hv:vof v with
 | ref a =>
  rw [hv] at h
  cases hm:σ.m a with
  | none=>simp only [hm] at h;exact nomatch h
  | some mo =>
   simp only [hm] at h
   cases mo with
   | list ys =>
    cases h
    obtain ⟨items,n,ho,e,hz⟩:=R.list hm
    exact ⟨a,"list",items,n,vof_ref hv,.inl rfl,ho,e,hz⟩
   | tup ys =>
    cases h
    obtain ⟨items,n,ho,e,hz⟩:=R.tup hm
    exact ⟨a,"tuple",items,n,vof_ref hv,.inr rfl,ho,e,hz⟩
   | _=>exact nomatch h
 | _=>rw [hv] at h;exact nomatch h
inductive listW (a:V) (σ:St) (Φ:V→St→Prop):Prop
 | mk (xs:List V) (hx:seqOf σ.m a=some xs) (h:allocW (.list xs) σ Φ)
theorem list_ok {v:Value}{Φ:V→St→Prop} (R:Rel c σ s) (O:c.Ok) (h:listW (vof v) σ Φ):wpAny (MW c.X.G.w) A (call (.type "list") [v]) (post c Φ) E s:=by
 obtain ⟨xs,hx,h⟩:=h
 ·obtain ⟨a,T,items,n,rfl,hT,ho,e,hz⟩:=R.seqOf hx
  refine call_list_seq a hT ho rfl rfl (fun h' c' g hn=>?_) hz
  have R':=R.grown g s.toks
  have hnew:=R.newAt
  refine ⟨⟨σ.ρ,upd σ.m s.heap.objs.size (.list xs)⟩,?_,h.d _ (R.size O) hnew⟩
  have nk:c.k s.heap.objs.size=none:=R.S.mem.newAt.2
  refine ⟨⟨R.S.gens,R.S.drawn,R.S.os,⟨fun b mo eb=>?_,R'.S.mem.keep,fun b o eb=>?_⟩,fun b mo eb=>?_⟩,R'.F,fun b hb=>⟨?_,(R.O b hb).2⟩,R'.B,R'.C⟩
  ·by_cases q:b=s.heap.objs.size
   ·subst q;obtain rfl:=Option.some.inj ((upd_same σ.m _ (.list xs)).symm.trans eb);exact ⟨_,hn,_,_,rfl,e,hz⟩
   ·exact R'.S.mem.rep b mo ((upd_ne (m:=σ.m) q).symm.trans eb)
  ·have q:b≠s.heap.objs.size:=fun q=>by subst q;rw [nk] at eb;cases eb
   show upd _ _ _ b=none;rw [upd_ne q];exact R'.S.mem.apart b o eb
  ·by_cases q:b=s.heap.objs.size
   ·rw [q];exact R.size O
   ·exact R.S.lo b mo ((upd_ne (m:=σ.m) q).symm.trans eb)
  ·have q:b≠s.heap.objs.size:=fun q=>R.fresh (q▸hb)
   show upd _ _ _ b=none;rw [upd_ne q];exact (R.O b hb).1
inductive tupleW (a:V) (σ:St) (Φ:V→St→Prop):Prop
 | list (l:Addr) (xs:List V) (ha:a=.ref l) (hm:σ.m l=some (.list xs)) (h:allocW (.tup xs) σ Φ)
 | tup (l:Addr) (xs:List V) (ha:a=.ref l) (hm:σ.m l=some (.tup xs)) (h:Φ (.ref l) σ)
theorem tuple_ok {v:Value}{Φ:V→St→Prop} (R:Rel c σ s) (O:c.Ok) (h:tupleW (vof v) σ Φ):wpAny (MW c.X.G.w) A (call (.type "tuple") [v]) (post c Φ) E s:=by
 cases h with
 | list l xs ha hm h =>
  obtain ⟨items,n,ho,e,hz⟩:=R.list hm
  rw [vof_ref ha]
  exact call_tuple_list ⟨_,ho,rfl,_,rfl⟩ (fun h' g=>R.allocG O g rfl (ORel.tup_ e hz) h _) hz
 | tup l xs ha hm h =>
  obtain ⟨items,n,ho,e,hz⟩:=R.tup hm
  rw [vof_ref ha]
  exact call_tuple_same ⟨_,ho,rfl,_,rfl⟩ ⟨σ,R,h⟩
theorem min_ok {a b:Int}{t u:Tok}{Φ:V→St→Prop} (R:Rel c σ s) (hh:A.handled=none) (h:Φ (.int (if b<a then b else a)) σ):wpAny (MW c.X.G.w) A (call (.builtin "min") [.int a t,.int b u]) (post c Φ) E s :=
 min_two_ints hh fun h' tk g=>⟨σ,R.grown g tk,by
  by_cases q:b<a
  ·rw [if_pos q] at h ⊢;exact h
  ·rw [if_neg q] at h ⊢;exact h⟩
noncomputable def sumI:List V→Option Int
 | []=>some 0
 | .int i::r=>(sumI r).map (i+·)
 | _=>none
theorem sumI_ints:∀ {xs:List Value}{n:Int},sumI (xs.map vof)=some n→∃ ns:List Int,IntsAre xs ns∧ns.sum=n
 | [],n,h=>⟨[],.nil,Option.some.inj h⟩
 | x::xs,n,h=>by
  rw [List.map_cons] at h
  unfold sumI at h
  cases hv:vof x with
  | int i =>
   rw [hv] at h
   obtain ⟨t,rfl⟩:=vof_int hv
   obtain ⟨n',e,rfl⟩:=Option.map_eq_some_iff.mp h
   obtain ⟨ns,h1,h2⟩:=sumI_ints e
   exact ⟨i::ns,.cons _ _ h1,by rw [List.sum_cons,h2]⟩
  | _=>rw [hv] at h;exact nomatch h
noncomputable def pick (xs:List V) (k:Int):Option V:=if 0≤k then xs[k.toNat]? else if -(xs.length:Int)≤k then xs[(k+xs.length).toNat]? else none
inductive itemW (a i:V) (σ:St) (Φ:V→St→Prop):Prop
 | list (l:Addr) (xs:List V) (k:Int) (v:V) (ha:a=.ref l) (hm:σ.m l=some (.list xs)) (hi:i=.int k) (hp:pick xs k=some v) (h:Φ v σ)
 | tup (l:Addr) (xs:List V) (k:Int) (v:V) (ha:a=.ref l) (hm:σ.m l=some (.tup xs)) (hi:i=.int k) (hp:pick xs k=some v) (h:Φ v σ)
 | dict (l:Addr) (es:List (K × V)) (key:K) (v:V) (ha:a=.ref l) (hm:σ.m l=some (.dict es)) (hk:keyOf σ.m i=some key) (hv:dget key es=some v) (h:Φ v σ)
inductive PickH (items:Array Value) (k:Int) (v:V):Prop
 | pos (x:Value) (hj:items[k.toNat]?=some x) (e:vof x=v) (h0:0≤k)
 | neg (x:Value) (hj:items[(k+items.size).toNat]?=some x) (e:vof x=v) (h0:k<0) (h1:-(items.size:Int)≤k)
theorem pick_some {items:Array Value}{xs:List V}{k:Int}{v:V} (e:items.toList.map vof=xs) (h:pick xs k=some v):PickH items k v:=by
 have get:∀ j,xs[j]?=some v→∃ x,items[j]?=some x∧vof x=v:=fun j hj=>by
  rw [←e,List.getElem?_map,Array.getElem?_toList] at hj
  exact Option.map_eq_some_iff.mp hj
 unfold pick at h
 rw [←size_of e] at h
 by_cases q:0≤k
 ·rw [if_pos q] at h
  obtain ⟨x,h1,h2⟩:=get _ h
  exact .pos x h1 h2 q
 ·rw [if_neg q] at h
  by_cases q':-(items.size:Int)≤k
  ·rw [if_pos q'] at h
   obtain ⟨x,h1,h2⟩:=get _ h
   exact .neg x h1 h2 (Int.not_le.mp q) q'
  ·rw [if_neg q'] at h;exact nomatch h
theorem arA {k:Int}{n:Nat} (h0:0≤k) (h:k.toNat<n) (z:n≤sizeLine):k<2^63∧-(2^63)≤k∧¬k<0∧k<n:=by rw [sizeLine_eq] at z;omega
theorem arB {k:Int}{n:Nat} (h0:k<0) (h1:-(n:Int)≤k) (h:(k+n).toNat<n) (z:n≤sizeLine):k<2^63∧-(2^63)≤k∧0≤k+n∧k+n<n:=by rw [sizeLine_eq] at z;omega
theorem item_ok {u v:Value}{Φ:V→St→Prop} (R:Rel c σ s) (hu:A.units+20<cLine) (h:itemW (vof u) (vof v) σ Φ):wpAny (MW c.X.G.w) A (getItem u v) (post c Φ) E s:=by
 cases h with
 | list l xs k y ha hm hk hp h =>
  obtain ⟨items,n,ho,e,hz⟩:=R.list hm
  obtain ⟨t,rfl⟩:=vof_int hk
  rw [vof_ref ha]
  cases pick_some e hp with
  | pos x hj e h0=>exact wpAny_getItem_list ⟨_,ho,rfl,_,rfl⟩ h0 (arA h0 (Array.getElem?_eq_some_iff.mp hj).1 hz).1 hj ⟨σ,R,e▸h⟩
  | neg x hj e h0 h1=>exact wpAny_getItem_list_neg ⟨_,ho,rfl,_,rfl⟩ h0 h1 (arB h0 h1 (Array.getElem?_eq_some_iff.mp hj).1 hz).2.1 hj ⟨σ,R,e▸h⟩
 | tup l xs k y ha hm hk hp h =>
  obtain ⟨items,n,ho,e,hz⟩:=R.tup hm
  obtain ⟨t,rfl⟩:=vof_int hk
  rw [vof_ref ha]
  cases pick_some e hp with
  | pos x hj e h0 =>
   have q:=arA h0 (Array.getElem?_eq_some_iff.mp hj).1 hz
   exact PyProof.Rows.getItem_tuple ⟨_,ho,rfl,_,rfl⟩ q.2.1 q.1 (by unfold seqIndex?;rw [if_neg q.2.2.1];exact if_pos (Bool.and_eq_true_iff.mpr ⟨decide_eq_true h0,decide_eq_true q.2.2.2⟩)) hj ⟨σ,R,e▸h⟩
  | neg x hj e h0 h1 =>
   have q:=arB h0 h1 (Array.getElem?_eq_some_iff.mp hj).1 hz
   exact PyProof.Rows.getItem_tuple ⟨_,ho,rfl,_,rfl⟩ q.2.1 q.1 (by unfold seqIndex?;rw [if_pos h0];exact if_pos (Bool.and_eq_true_iff.mpr ⟨decide_eq_true q.2.2.1,decide_eq_true q.2.2.2⟩)) hj ⟨σ,R,e▸h⟩
 | dict l es key y ha hm hk hy h =>
  obtain ⟨o,ents,ep,ho,hx,hd,he,hv⟩:=R.dict hm
  have hT:s.TypeIs (.ref l) "dict":=⟨o,ho,hx.1⟩
  rw [vof_ref ha]
  unfold getItem
  refine wpAny_holding (wpAny_bind (wpAny_sequenceKey hT (by decide) (wpAny_bind (wpAny_callSpecial?_slot (name:=ofString "__getitem__") hT slot_dict_getitem
   (wpAny_call_entry slot_dict_getitem hT entry_dict_getitem ?_ (args_dict_getitem _ _))))))
  show wpAny _ _ (dictGet l v>>=_) _ _ s
  exact wpAny_bind (dict_get_K (Nat.lt_of_le_of_lt (Nat.add_le_add_left (nb rfl) _) hu) (keyIs R.S.mem hk) ho hd he hv (fun tk hn=>noS' hn hy) fun tk v' hs=>wpAny_pure ⟨v',rfl,wpAny_pure ⟨σ,R.toks _,by rw [←Option.some.inj (hy.symm.trans hs)];exact h⟩⟩)
end
section
variable {c:FC}{σ:St}{s:Shared}{E:Value→Shared→Prop}{A:Around}
theorem Rel.setList (R:Rel c σ s) (O:c.Ok) {h':Heap}{a:Addr}{xs ys:List V}{items:Array Value}{n:Nat} (hm:σ.m a=some (.list xs)) (x:∀ b o,b≠a→s.heap.get? b=some o→h'.get? b=some o)
  (ho:h'.get? a=some { cls:=.type "list",data:=.seq items n }) (e:items.toList.map vof=ys) (hz:items.size≤sizeLine) (tk:Nat):Rel c ⟨σ.ρ,upd σ.m a (.list ys)⟩ { s with heap:=h',toks:=tk } :=
 R.set O hm rfl x ho (ORel.list_ e hz) tk
inductive appendW (a x:V) (σ:St) (Φ:St→Prop):Prop
 | mk (l:Addr) (xs:List V) (ha:a=.ref l) (hm:σ.m l=some (.list xs)) (hn:xs.length<1000000) (h:Φ ⟨σ.ρ,upd σ.m l (.list (xs++[x]))⟩)
theorem append_ok {u v:Value}{Φ:St→Prop} (R:Rel c σ s) (O:c.Ok) (h:appendW (vof u) (vof v) σ Φ):wpAny (MW c.X.G.w) A (call (.builtin "list.append") [u,v]) (fun r s'=>r=.none∧postU c Φ () s') E s:=by
 obtain ⟨l,xs,ha,hm,hl,h⟩:=h
 obtain ⟨items,n,ho,e,hz⟩:=R.list hm
 rw [vof_ref ha]
 refine wpAny_list_append_plain ⟨n,ho⟩ (fun h' hp hs=>?_) hz
 obtain ⟨n',ho'⟩:=hp
 exact ⟨rfl,_,R.setList O hm (fun b o q eo=>(hs.2 b q).trans eo) ho' (by rw [Array.toList_push,List.map_append,e];rfl) (by rw [sizeLine_eq,Array.size_push,size_of e];exact hi (a:=xs.length+1) hl rfl) s.toks,h⟩
inductive extendW (a x:V) (σ:St) (Φ:St→Prop):Prop
 | mk (l:Addr) (xs ys:List V) (ha:a=.ref l) (hm:σ.m l=some (.list xs)) (hy:seqOf σ.m x=some ys) (hn:xs.length+ys.length<1000000) (h:Φ ⟨σ.ρ,upd σ.m l (.list (xs++ys))⟩)
theorem noI_list_add':seqSlot? (.type "list") (dunderI "add")=pure (some (.builtin "list.__iadd__")):=PySem.seqSlot_of PySem.F.slot_list_iadd.lookup (by decide +kernel)
theorem fillsI_list_add:fillsInplaceSlot (.type "list") "add" (Operator.Add==.Add)=pure false:=by
 unfold fillsInplaceSlot
 show (typeLookup (.type "list") (dunderI "add")>>=fun fi=>pure (fi.isSome&&!isSeqSlot fi))=pure false
 rw [PySem.F.slot_list_iadd.lookup];rfl
theorem not_long {n:Nat} (h:n<1000000):Builtin.List.listTooLong n=false:=by
 unfold Builtin.List.listTooLong
 rw [sizeLine_eq]
 exact decide_eq_false (Nat.not_lt.mpr (hi1 h rfl))
theorem wpAny_seqItems' {M:Model}{a:Addr}{o:Obj}{xs:Array Value}{n:Nat}{Q:Array Value→Shared→Prop} (ho:s.heap.get? a=some o) (hd:o.data=.seq xs n) (h:Q xs s):wpAny M A (Builtin.List.listItems (.ref a)) Q E s:=by
 unfold Builtin.List.listItems
 exact wpAny_bind (wpAny_seqItems ho hd (wpAny_pure h))
theorem extendWith_ok {l:Addr}{v res:Value}{xs ys:List V}{Q:Fin→Shared→Prop} (R:Rel c σ s) (O:c.Ok) (hm:σ.m l=some (.list xs)) (hy:seqOf σ.m (vof v)=some ys) (hl:xs.length+ys.length<1000000)
  (h:∀ h',Rel c ⟨σ.ρ,upd σ.m l (.list (xs++ys))⟩ { s with heap:=h' }→Q (.done (.ret res)) { s with heap:=h' }):wpAny (MW c.X.G.w) A (Builtin.List.listExtendWith (.ref l) v res) Q E s:=by
 obtain ⟨a,T,items2,n2,rfl,hT,ho2,e2,hz2⟩:=R.seqOf hy
 obtain ⟨items,n,ho,e,hz⟩:=R.list hm
 have l3:items.size+items2.size<1000000:=by rw [size_of e,size_of e2];exact hl
 unfold Builtin.List.listExtendWith
 refine wpAny_bind (wpAny_typeOf ⟨_,ho2,rfl⟩ ?_)
 have h1:(Builtin.List.listSameRef (.ref l) (.ref a)||Value.type T==Value.type "list"||Value.type T==Value.type "tuple")=true:=by
  rcases hT with rfl|rfl
  ·exact Bool.or_eq_true_iff.mpr (.inl (Bool.or_eq_true_iff.mpr (.inr (by decide))))
  ·exact Bool.or_eq_true_iff.mpr (.inr (by decide))
 refine wpAny_ite_true (decide_eq_true h1) (wpAny_bind (wpAny_seqItems' ho2 rfl (wpAny_bind (wpAny_seqItems' ho rfl ?_))))
 have hz3:(items++items2).size≤sizeLine:=by rw [sizeLine_eq,Array.size_append];exact hi1 l3 rfl
 rw [not_long l3,Bool.and_false]
 refine wpAny_ite_false rfl ?_
 refine wpAny_bind (m:=Builtin.List.listUpdate (.ref l) _) (wpAny_updateSeq ho rfl ?_ hz (Nat.le_succ_of_le hz3))
 refine wpAny_bind (wpAny_pure (wpAny_pure (h _ ?_)))
 exact R.setList O hm (fun b o q eo=>(Heap.get?_update_other _ _ (Ne.symm q)).trans eo) (Heap.get?_update_self _ ho rfl) (by rw [Array.toList_append,List.map_append,e,e2]) hz3 s.toks
theorem extend_ok {u v:Value}{Φ:St→Prop} (R:Rel c σ s) (O:c.Ok) (h:extendW (vof u) (vof v) σ Φ):wpAny (MW c.X.G.w) A (call (.builtin "list.extend") [u,v]) (fun r s'=>r=.none∧postU c Φ () s') E s:=by
 obtain ⟨l,xs,ys,ha,hm,hy,hl,h⟩:=h
 obtain ⟨items,n,ho,e,hz⟩:=R.list hm
 rw [vof_ref ha]
 refine wpAny_call_entry PySem.F.slot_list_extend ⟨_,ho,rfl⟩ PySem.F.entry_list_extend ?_ (PySem.F.args_list_extend_2 _ _)
 show wpAny _ _ (Builtin.List.listExtendWith (.ref l) v .none) _ _ s
 exact extendWith_ok R O hm hy hl fun h' R'=>⟨_,rfl,rfl,_,R',h⟩
inductive iopW (op:Operator) (a b:V) (σ:St) (Φ:V→St→Prop):Prop
 | add (i j:Int) (e:op=.Add) (ha:a=.int i) (hb:b=.int j) (h:Φ (.int (i+j)) σ)
 | sub (i j:Int) (e:op=.Sub) (ha:a=.int i) (hb:b=.int j) (h:Φ (.int (i - j)) σ)
 | ext (l r:Addr) (xs ys:List V) (e:op=.Add) (ha:a=.ref l) (hb:b=.ref r) (hm:σ.m l=some (.list xs)) (hr:σ.m r=some (.list ys)) (hn:xs.length+ys.length<1000000) (h:Φ (.ref l) ⟨σ.ρ,upd σ.m l (.list (xs++ys))⟩)
theorem iop_ok {op:Operator}{u v:Value}{Φ:V→St→Prop} (R:Rel c σ s) (O:c.Ok) (h:iopW op (vof u) (vof v) σ Φ):wpAny (MW c.X.G.w) A (inplaceOp op u v) (post c Φ) E s:=by
 cases h with
 | add i j e ha hb h =>
  obtain ⟨t,rfl⟩:=vof_int ha
  obtain ⟨t',rfl⟩:=vof_int hb
  rw [e];exact wpAny_iadd_int ⟨σ,R.toks _,h⟩
 | sub i j e ha hb h =>
  obtain ⟨t,rfl⟩:=vof_int ha
  obtain ⟨t',rfl⟩:=vof_int hb
  rw [e];exact PyProof.Rows.isub_int ⟨σ,R.toks _,h⟩
 | ext l r xs ys e0 ha hb hm hr hl h =>
  obtain ⟨items,n,ho,e,hz⟩:=R.list hm
  obtain ⟨items2,n2,ho2,e2,hz2⟩:=R.list hr
  have hTl:s.TypeIs (.ref l) "list":=⟨_,ho,rfl⟩
  have hTr:s.TypeIs (.ref r) "list":=⟨_,ho2,rfl⟩
  rw [e0,vof_ref ha,vof_ref hb]
  unfold inplaceOp
  refine wpAny_holding (wpAny_bind (wpAny_typeOf hTl (wpAny_bind (wpAny_of_eq fillsI_list_add (wpAny_ite_false rfl ?_)))))
  refine wpAny_bind (wpAny_binaryOp1_none (nm:="add") hTl hTr noFill_list_add (wpAny_bind (wpAny_of_eq noI_list_add' (wpAny_bind (wpAny_rule (wpAny_call_entry PySem.F.slot_list_iadd hTl PySem.F.entry_list_iadd ?_ (by unfold argsOk;kernel_rfl)))))))
  show wpAny _ _ (Builtin.List.listExtendWith (.ref l) (.ref r) (.ref l)) _ _ s
  exact extendWith_ok R O hm (by unfold seqOf;simp only [vof,hr]) hl fun h' R'=>⟨_,rfl,_,R',h⟩
inductive binW (op:Operator) (a b:V) (σ:St) (Φ:V→St→Prop):Prop
 | int (i j:Int) (ha:a=.int i) (hb:b=.int j) (h:binI op i j σ Φ)
 | str (x y:Str) (e:op=.Add) (ha:a=.str x) (hb:b=.str y) (hl:x.length+y.length≤1000000) (h:Φ (.str (x++y)) σ)
 | cat (l r:Addr) (xs ys:List V) (e:op=.Add) (ha:a=.ref l) (hb:b=.ref r) (hx:σ.m l=some (.list xs)) (hy:σ.m r=some (.list ys)) (hl:xs.length+ys.length<1000000) (h:allocW (.list (xs++ys)) σ Φ)
 | rep (l:Addr) (n:Int) (x:V) (e:op=.Mult) (ha:a=.ref l) (hb:b=.int n) (hm:σ.m l=some (.list [x])) (hn:0≤n∧n<1000000) (h:allocW (.list (List.replicate n.toNat x)) σ Φ)
theorem list_mul {l:Addr}{items:Array Value}{k:Nat}{x:Int}{u:Tok}{Q:Value→Shared→Prop}
  (hl:s.heap.get? l=some { cls:=.type "list",dict:=none,data:=.seq items k,slots:=#[] })
  (hlo:-(2^63:Int)≤x) (hhi:x<2^63) (hsz:items.size*x.toNat≤2^24)
  (h:Q (.ref s.heap.objs.size) { s with heap:=s.heap.push { cls:=.type "list",data:=.seq (List.foldl (fun x1 x2=>x1++x2) #[] (List.replicate (if items.isEmpty=true then 0 else x.toNat) items)) } }) :
  wpAny (MW c.X.G.w) A (binaryOp .Mult (.ref l) (.int x u)) Q E s :=
 wpAny_binaryOp_repeat_ref (T:="list") (U:="int") (by decide) ⟨_,hl,rfl⟩ (fun s'=>PySem.typeIs_int s' x u) noFill_list_mul PySem.F.fills_int_mul PySem.F.slot_int_rmul repeat_list PySem.F.slot_int_index.lookup
  (call_meets PySem.F.slot_int_rmul (PySem.typeIs_int s x u) PySem.F.entry_int_rmul (PySem.F.args_int_rmul_2 _ _) (int___rmul___int_list x u l items k)
   ⟨hl,rfl,⟨_,hl,rfl⟩,call_meets PySem.F.slot_list_mul ⟨_,hl,rfl⟩ PySem.F.entry_list_mul (PySem.F.args_list_mul_2 _ _) (AutoListH.list___mul___list_int_3 l items k x u (by simp [Builtin.List.listFitsIndex];lia) (by lia) (by simp [Builtin.List.listTooLong,sizeLine];exact hsz)) ⟨hl,h⟩⟩)
theorem fold_rep (x:Value):∀ (n:Nat) (acc:Array Value),(List.foldl (fun x1 x2=>x1++x2) acc (List.replicate n #[x])).toList=acc.toList++List.replicate n x
 | 0,acc=>by simp
 | n+1,acc=>by rw [List.replicate_succ,List.foldl_cons,fold_rep x n,Array.toList_append,List.append_assoc,List.replicate_succ];rfl
theorem arC {n:Int} (h:0≤n∧n<1000000):-(2^63:Int)≤n∧n<2^63∧1*n.toNat≤2^24∧n.toNat≤1000000:=by omega
theorem bin_ok {op:Operator}{u v:Value}{Φ:V→St→Prop} (R:Rel c σ s) (O:c.Ok) (h:binW op (vof u) (vof v) σ Φ):wpAny (MW c.X.G.w) A (binaryOp op u v) (post c Φ) E s:=by
 cases h with
 | int i j ha hb h =>
  obtain ⟨t,rfl⟩:=vof_int ha
  obtain ⟨t',rfl⟩:=vof_int hb
  exact op_int R h
 | str x y e ha hb hl h =>
  obtain ⟨t,rfl⟩:=vof_str ha
  obtain ⟨t',rfl⟩:=vof_str hb
  rw [e]
  exact PyProof.Rows.add_str (fun t' tk=>⟨σ,R.toks _,h⟩) (by rw [sizeLine_eq];exact hi hl rfl)
 | cat l r xs ys e0 ha hb hx hy hl h =>
  obtain ⟨items,n,ho,e,hz⟩:=R.list hx
  obtain ⟨items2,n2,ho2,e2,hz2⟩:=R.list hy
  have hz3:items.size+items2.size≤sizeLine:=by rw [sizeLine_eq,size_of e,size_of e2];exact hi1 hl rfl
  rw [e0,vof_ref ha,vof_ref hb]
  exact PySem.P.add_list ho ho2 (R.allocd O rfl (ORel.list_ (by rw [Array.toList_append,List.map_append,e,e2]) (by rw [Array.size_append];exact hz3)) h _) hz3
 | rep l n x e0 ha hb hm hn h =>
  obtain ⟨t,rfl⟩:=vof_int hb
  obtain ⟨⟨is⟩,k,ho,e,hz⟩:=R.list hm
  obtain ⟨x',rfl,e'⟩:=List.map_eq_singleton_iff.mp e
  have q:=arC hn
  have z:(List.foldl (fun x1 x2=>x1++x2) #[] (List.replicate n.toNat #[x'])).toList=List.replicate n.toNat x':=fold_rep x' n.toNat #[]
  rw [e0,vof_ref ha]
  refine list_mul ho q.1 q.2.1 q.2.2.1 (R.allocd O rfl (ORel.list_ ?_ ?_) h _)
  ·show List.map vof (List.foldl (fun x1 x2=>x1++x2) #[] (List.replicate n.toNat #[x'])).toList=_
   rw [z,List.map_replicate,e']
  ·show (List.foldl (fun x1 x2=>x1++x2) #[] (List.replicate n.toNat #[x'])).size≤_
   rw [←Array.length_toList,z,List.length_replicate,sizeLine_eq]
   exact hi q.2.2.2 rfl
inductive sliceL (xs:List V) (lo hi:Option Int) (ys:List V):Prop
 | upto (n:Nat) (e1:lo=none) (e2:hi=some (n:Int)) (e:ys=xs.take n)
 | but (e1:lo=none) (e2:hi=some (-1)) (e:ys=xs.take (xs.length - 1))
 | run (a b:Nat) (e1:lo=some (a:Int)) (e2:hi=some (b:Int)) (h1:a≤b) (h2:b≤xs.length) (e:ys=(xs.drop a).take (b - a))
theorem sliceL_ok {items:Array Value}{xs ys:List V}{lo hi:Option Int} (e:items.toList.map vof=xs) (h:sliceL xs lo hi ys):(slicePick items lo hi none).toList.map vof=ys∧(slicePick items lo hi none).size≤items.size:=by
 cases h with
 | upto n e1 e2 e3 =>
  rw [e1,e2,slicePick_upto',e3,←e]
  exact ⟨by simp [List.map_take],by simp;lia⟩
 | but e1 e2 e3 =>
  rw [e1,e2,show (-1:Int)=-((1:Nat):Int) from rfl,slicePick_butLast items 1 (Nat.le_refl _),e3,←e]
  exact ⟨by simp [List.map_take],by simp⟩
 | run a b e1 e2 h1 h2 e3 =>
  rw [←size_of e] at h2
  rw [e1,e2,slicePick_run items a b h2 h1,e3,←e]
  exact ⟨by simp [List.map_take,List.map_drop],by simp;lia⟩
inductive partOf (v:V) (p:Option Int):Prop
 | none (e:v=.none) (q:p=Option.none)
 | int (i:Int) (e:v=.int i) (q:p=some i)
theorem isPart {v:Value}{p:Option Int} (h:partOf (vof v) p):IsPart v p:=by
 cases h with
 | none e q=>rw [vof_none e,q];exact .none
 | int i e q=>obtain ⟨t,rfl⟩:=vof_int e;rw [q];exact .int _ _
inductive sliceW (a lo hi:V) (σ:St) (Φ:V→St→Prop):Prop
 | mk (l:Addr) (xs ys:List V) (p q:Option Int) (ha:a=.ref l) (hm:σ.m l=some (.list xs)) (hp:partOf lo p) (hq:partOf hi q) (hy:sliceL xs p q ys) (h:allocW (.list ys) σ Φ)
theorem slice_ok {u vl vu:Value}{sl:Addr}{Φ:V→St→Prop} (R:Rel c σ s) (O:c.Ok) (hs:s.heap.IsSliceOf sl vl vu .none) (h:sliceW (vof u) (vof vl) (vof vu) σ Φ):wpAny (MW c.X.G.w) A (getItem u (.ref sl)) (post c Φ) E s:=by
 obtain ⟨l,xs,ys,p,q,ha,hm,hp,hq,hy,h⟩:=h
 obtain ⟨items,n,ho,e,hz⟩:=R.list hm
 obtain ⟨e2,hz2⟩:=sliceL_ok e hy
 rw [vof_ref ha]
 exact wpAny_getItem_list_slice ⟨_,ho,rfl,_,rfl⟩ hs (isPart hp) (isPart hq) .none (fun e=>nomatch e) (R.allocd O rfl (ORel.list_ e2 (Nat.le_trans hz2 hz)) h _) hz
end
section
variable {c:FC}{σ:St}{s:Shared}{E:Value→Shared→Prop}{A:Around}
theorem Rel.notTup (R:Rel c σ s) {a:Addr}{mo:MO} (hm:σ.m a=some mo) (ht:mo.isTup=false):∀ o,s.heap.get? a=some o→¬tupO o:=fun o ho=>by
 obtain ⟨o',ho',r⟩:=R.at hm
 rw [ho] at ho';cases ho'
 exact r.notTup ht
theorem kt_of {h h':Heap}{a:Addr} (x:∀ b o,b≠a→h.get? b=some o→h'.get? b=some o) (ht:∀ o,h.get? a=some o→¬tupO o):∀ b o,h.get? b=some o→tupO o→h'.get? b=some o :=
 fun b o e q=>x b o (fun z=>by subst z;exact ht o e q) e
theorem set_self {α:Type}{l:List α}{j:Nat}{x:α} (h:l[j]?=some x):l.set j x=l:=by
 apply List.ext_getElem?
 intro i
 rw [List.getElem?_set]
 by_cases q:j=i
 ·subst q;rw [if_pos rfl,if_pos (List.getElem?_eq_some_iff.mp h).1,h]
 ·rw [if_neg q]
theorem dictSet_ok {d:Addr}{es:List (K × V)}{key v:Value}{k:K}{Q:Unit→Shared→Prop} (R:Rel c σ s) (O:c.Ok) (hu:A.units<cLine) (hm:σ.m d=some (.dict es)) (hk:keyOf σ.m (vof key)=some k) (hsz:es.length<1000000)
  (h:∀ s',Rel c ⟨σ.ρ,upd σ.m d (.dict (dput k (vof v) es))⟩ s'→Q () s'):wpAny (MW c.X.G.w) A (dictSet d key v) Q E s:=by
 obtain ⟨o,ents,ep,ho,hx,hd,he,hv⟩:=R.dict hm
 have hl:ents.size=es.length:=by have:=congrArg List.length hv;simpa using this
 have kt:=fun h' (x:∀ b o,b≠d→s.heap.get? b=some o→Heap.get? h' b=some o)=>kt_of x (R.notTup hm rfl)
 unfold dictSet
 refine wpAny_holding (wpAny_bind (sees_hash hu (keyIs R.S.mem hk) _ _ fun tk=>?_))
 unfold dictSetHashed
 refine wpAny_holding (wpAny_bind ?_)
 refine dictFind_K (s:={ s with toks:=tk }) hu (keyIs R.S.mem hk) ho hd he (fun hno=>?_) fun j hj=>?_
 ·refine wpAny_bind (wpAny_rule ?_)
  have x:∀ b o,b≠d→s.heap.get? b=some o→(s.heap.update d (Obj.mapDictKeys (·.push ⟨khash c.X.G.w k,key,v⟩))).get? b=some o:=fun b o q e=>(Heap.get?_update_other _ _ (Ne.symm q)).trans e
  refine wpAny_updateDictKeys (s:={ s with toks:=tk }) ho hd (h _ ?_) (by rw [sizeLine_eq];lia) (by simp)
  refine R.set O hm rfl x (Heap.get?_update_self _ ho (Obj.isFreed_of_dict (Obj.data_mapDictKeys hd _))) ?_ tk
  refine ⟨hx.mapDictKeys _,_,_,Obj.data_mapDictKeys hd _,?_,?_⟩
  ·rw [dput_new hno,List.map_append,Array.toList_push]
   have he':=he.keep (kt _ x)
   refine ⟨by simp [he'.len],fun i e key' h1 h2=>?_,?_⟩
   ·rcases Nat.lt_or_ge i ents.size with q|q
    ·rw [List.getElem?_append_left (by simpa using q)] at h1
     rw [List.getElem?_append_left (by simp;exact e4 hl q)] at h2
     exact he'.key i e key' h1 h2
    ·rw [List.getElem?_append_right (by simpa using q)] at h1
     rw [List.getElem?_append_right (by simp;exact hl▸q)] at h2
     simp only [Array.length_toList] at h1
     simp only [List.length_map] at h2
     have z:i - ents.size=0:=by
      rcases Nat.eq_zero_or_pos (i - ents.size) with z|z
      ·exact z
      ·rw [List.getElem?_eq_none (by simp;exact z)] at h1;cases h1
     rw [z] at h1
     rw [show i - es.length=0 by exact hl▸z] at h2
     simp at h1 h2
     subst h1 h2
     exact ⟨rfl,(keyIs R.S.mem hk).keep (kt _ x)⟩
   ·rw [List.nodup_append]
    refine ⟨he.nd,by simp,fun a ha b hb=>?_⟩
    simp at hb;subst hb
    exact fun q=>hno (q▸ha)
  ·rw [dput_new hno,Array.toList_push];simp [hv]
 ·have x:∀ b o,b≠d→s.heap.get? b=some o→(s.heap.update d (Obj.mapDict (·.modify j fun e=>{ e with val:=v }))).get? b=some o:=fun b o q e=>(Heap.get?_update_other _ _ (Ne.symm q)).trans e
  refine wpAny_bind (wpAny_rule (wpAny_bind (wpAny_updateDict (s:={ s with toks:=tk }) ho hd (wpAny_point (h _ ?_)) (by simp))))
  refine R.set O hm rfl x (Heap.get?_update_self _ ho (Obj.isFreed_of_dict (Obj.data_mapDict hd _))) ?_ tk
  have hjl:j<es.length:=by simpa using (List.getElem?_eq_some_iff.mp hj).1
  have e1:es[j]?=some (k,es[j].2):=by
   rw [List.getElem?_map,List.getElem?_eq_getElem hjl] at hj
   simp only [Option.map_some,Option.some.injEq] at hj
   rw [List.getElem?_eq_getElem hjl,←hj]
  have he':=he.keep (kt _ x)
  have ep':∃ ep',(Obj.mapDict (·.modify j fun e=>{ e with val:=v }) o).data=.dict (ents.modify j fun e=>{ e with val:=v }) ep':=⟨_,Obj.data_mapDict hd _⟩
  obtain ⟨ep',hd'⟩:=ep'
  have mk:∀ i:Nat,(ents.modify j fun e=>{ e with val:=v }).toList[i]?=(ents.toList[i]?).map fun e=>if j=i then { e with val:=v } else e:=fun i=>by
   rw [Array.getElem?_toList,Array.getElem?_modify,Array.getElem?_toList]
   by_cases q:j=i
   ·simp only [if_pos q]
   ·simp only [if_neg q];simp
  have keys:(dput k (vof v) es).map (·.1)=es.map (·.1):=by
   rw [dput_old he.nd e1,List.map_set]
   exact set_self hj
  refine ⟨hx.mapDict _,_,ep',hd',?_,?_⟩
  ·rw [keys]
   refine ⟨by simp [he'.len],fun i e key' h1 h2=>?_,he.nd⟩
   rw [mk] at h1
   obtain ⟨e0,h0,rfl⟩:=Option.map_eq_some_iff.mp h1
   have:=he'.key i e0 key' h0 h2
   by_cases q:j=i
   ·simp only [if_pos q];exact this
   ·simp only [if_neg q];exact this
  ·rw [dput_old he.nd e1]
   apply List.ext_getElem?
   intro i
   have hvi:=congrArg (fun l=>l[i]?) hv
   simp only [List.getElem?_map] at hvi ⊢
   rw [mk,List.getElem?_set]
   by_cases q:j=i
   ·subst q
    simp only [if_true]
    rw [if_pos hjl]
    rw [Array.getElem?_toList,Array.getElem?_eq_getElem (by exact hl▸hjl)]
    simp
   ·simp only [if_neg q]
    rw [Option.map_map,←hvi]
    congr 1
inductive setItemW (a i v:V) (σ:St) (Φ:St→Prop):Prop
 | list (l:Addr) (xs:List V) (k:Int) (ha:a=.ref l) (hm:σ.m l=some (.list xs)) (hi:i=.int k) (h0:0≤k) (h1:k<xs.length) (h:Φ ⟨σ.ρ,upd σ.m l (.list (xs.set k.toNat v))⟩)
 | dict (l:Addr) (es:List (K × V)) (key:K) (ha:a=.ref l) (hm:σ.m l=some (.dict es)) (hk:keyOf σ.m i=some key) (hn:es.length<1000000) (h:Φ ⟨σ.ρ,upd σ.m l (.dict (dput key v es))⟩)
theorem list_setItem {l:Addr}{items:Array Value}{n:Nat}{k:Int}{t:Tok}{v:Value}{Q:Unit→Shared→Prop} (ho:s.heap.get? l=some { cls:=.type "list",data:=.seq items n })
  (h0:0≤k) (hfit:k<2^63) (hn:k<items.size)
  (hQ:∀ h' n',h'.get? l=some { cls:=.type "list",data:=.seq (items.setIfInBounds k.toNat v) n' }→Heap.SameBut l s.heap h'→Q () { s with heap:=h' }) :
  wpAny (MW c.X.G.w) A (setItem (.ref l) (.int k t) v) Q E s:=by
 exact ki_setAt ho h0 hfit hn (hQ _ _ (Heap.get?_update_self _ ho rfl) (Heap.SameBut.update ..))
theorem setItem_ok {u v x:Value}{Φ:St→Prop} (R:Rel c σ s) (O:c.Ok) (hu:A.units+20<cLine) (h:setItemW (vof u) (vof v) (vof x) σ Φ):wpAny (MW c.X.G.w) A (setItem u v x) (postU c Φ) E s:=by
 cases h with
 | list l xs k ha hm hk h0 h1 h =>
  obtain ⟨t,rfl⟩:=vof_int hk
  obtain ⟨items,n,ho,e,hz⟩:=R.list hm
  have hb:k<items.size:=by rw [size_of e];exact h1
  rw [vof_ref ha]
  refine list_setItem ho h0 (Int.lt_trans hb (sz_lt hz)) hb fun h' n' ho' hs=>?_
  exact ⟨_,R.setList O hm (fun b o q eo=>(hs.2 b q).trans eo) ho' (by rw [Array.toList_setIfInBounds,List.map_set,e]) (by rw [Array.size_setIfInBounds];exact hz) s.toks,h⟩
 | dict l es key ha hm hk hsz h =>
  obtain ⟨o,ents,ep,ho,hx,hd,he,hv'⟩:=R.dict hm
  have hT:s.TypeIs (.ref l) "dict":=⟨o,ho,hx.1⟩
  rw [vof_ref ha]
  unfold setItem
  refine wpAny_holding (wpAny_bind (wpAny_sequenceKey hT (by decide) (wpAny_bind (wpAny_callSpecial?_slot (name:=ofString "__setitem__") hT slot_dict_setitem
   (wpAny_call_entry slot_dict_setitem hT entry_dict_setitem ?_ (args_dict_setitem _ _ _))))))
  show wpAny _ _ (Builtin.Dict.notOrdered "__setitem__" ⟨[.ref l,v,x],[]⟩>>=_) _ _ s
  refine wpAny_bind (wpAny_notOrdered_dict hT ?_)
  show wpAny _ _ (dictSet l v x>>=_) _ _ s
  exact wpAny_bind (dictSet_ok R O (Nat.lt_of_le_of_lt (Nat.add_le_add_left (nb rfl) _) hu) hm hk hsz fun s' R'=>wpAny_pure ⟨.none,rfl,wpAny_pure ⟨_,R',h⟩⟩)
theorem Rel.moved (R:Rel c σ s) {s':Shared} (g:∀ b o,s.heap.get? b=some o→s'.heap.get? b=some o) (h1:s'.gens=s.gens) (h2:s'.drawn=s.drawn) (h3:s'.os=s.os):Rel c σ s':=by
 have:=R.grown g s'.toks
 obtain ⟨hp,gs,dr,tk,os⟩:=s'
 dsimp only at h1 h2 h3
 subst h1 h2 h3
 exact this
noncomputable def truthW (a:V) (σ:St) (Φ:Bool→St→Prop):Prop:=match a with
 | .bool b=>Φ b σ
 | .int i=>Φ (decide (i≠0)) σ
 | .none=>Φ false σ
 | _=>False
theorem truth_ok {v:Value}{Φ:Bool→St→Prop} (R:Rel c σ s) (h:truthW (vof v) σ Φ):wpAny (MW c.X.G.w) A (truthy v) (postB c Φ) E s:=by
 cases hv:vof v with
 | bool b=>rw [hv] at h;rw [vof_bool hv];exact wpAny_truthy_bool ⟨σ,R,h⟩
 | int i =>
  rw [hv] at h
  obtain ⟨t,rfl⟩:=vof_int hv
  exact PySem.P.truthy_int ⟨σ,R,by rw [show (i != 0)=decide (i≠0) from by rw [bne,Bool.beq_eq_decide_eq,decide_not]];exact h⟩
 | none=>rw [hv] at h;rw [vof_none hv];exact PyProof.Rows.truthy_none ⟨σ,R,h⟩
 | _=>rw [hv] at h;exact h.elim
noncomputable def negW (a:V) (σ:St) (Φ:V→St→Prop):Prop:=match a with
 | .int i=>Φ (.int (-i)) σ
 | _=>False
theorem neg_ok {v:Value}{Φ:V→St→Prop} (R:Rel c σ s) (h:negW (vof v) σ Φ):wpAny (MW c.X.G.w) A (unaryOp .USub v) (post c Φ) E s:=by
 cases hv:vof v with
 | int i =>
  rw [hv] at h
  obtain ⟨t,rfl⟩:=vof_int hv
  exact PySem.P.neg_int ⟨σ,R.toks _,h⟩
 | _=>rw [hv] at h;exact h.elim
inductive strIntW (a:V) (σ:St) (Φ:V→St→Prop):Prop
 | mk (i:Int) (ha:a=.int i) (hi:i.natAbs<2^60) (h:Φ (.str (toString i)) σ)
theorem log2_small {n:Nat} (h:n<2^60):n.log2<1920:=by
 rcases Nat.eq_zero_or_pos n with q|q
 ·subst q;decide
 ·have:=(Nat.log2_lt (Nat.pos_iff_ne_zero.mp q)).mpr h;exact Nat.lt_of_lt_of_le this (Nat.le_add_left _ _)
theorem strInt_ok {v:Value}{Φ:V→St→Prop} (R:Rel c σ s) (h:strIntW (vof v) σ Φ):wpAny (MW c.X.G.w) A (call (.type "str") [v]) (post c Φ) E s:=by
 obtain ⟨i,ha,hi,h⟩:=h
 obtain ⟨t,rfl⟩:=vof_int ha
 exact PySem.P.str_of_int (log2_small hi) ⟨σ,R.toks _,h⟩
inductive sumW (a:V) (σ:St) (Φ:V→St→Prop):Prop
 | mk (l:Addr) (xs:List V) (n:Int) (ha:a=.ref l) (hm:σ.m l=some (.list xs)) (hs:sumI xs=some n) (h:Φ (.int n) σ)
theorem preSum_take {vs:List Value}{ns:List Int} (hi:IntsAre vs ns):∀ n,n≤ns.length→preSum (fun i=>ns.getD i 0) n=(ns.take n).sum
 | 0,_=>rfl
 | n+1,h=>by
  show preSum _ n+ns.getD n 0=_
  have q:ns.getD n 0=ns[n]:=by simp [List.getElem?_eq_getElem (show n<ns.length by exact h)]
  rw [preSum_take hi n (by exact Nat.le_of_lt h),q,List.take_add_one,List.getElem?_eq_getElem (show n<ns.length by exact h),List.sum_append]
  simp only [Option.toList,List.sum_cons,List.sum_nil,Int.add_zero]
theorem sum_ok {v:Value}{Φ:V→St→Prop} (R:Rel c σ s) (hh:A.handled=none) (h:sumW (vof v) σ Φ):wpAny (MW c.X.G.w) A (call (.builtin "sum") [v]) (post c Φ) E s:=by
 obtain ⟨l,xs,n,ha,hm,hs,h⟩:=h
 rw [vof_ref ha]
 obtain ⟨items,k,ho,e,hz⟩:=R.list hm
 rw [←e] at hs
 obtain ⟨ns,hi,rfl⟩:=sumI_ints hs
 have hl:s.heap.IsList l items:=⟨_,ho,rfl,_,rfl⟩
 have hne:l≠s.heap.objs.size:=Nat.ne_of_lt (Heap.lt_size ho)
 have hlen:items.size=ns.length:=by have:=hi.length;simpa using this
 refine call_sum_walkAnyS (wpAny_pyIter_list hl ?_)
 refine ⟨_,_,_,_,_,_,_,fun i=>ns.getD i 0,rfl,(Walks.list (prog:=PW) (w:=c.X.G.w) (A:=A.in1) hh s.heap.objs.size l hne items).toS,⟨⟨_,Heap.get?_push_size _ rfl,rfl,rfl⟩,hl.at fun o e=>Heap.get?_push_of_some _ e⟩,?_,?_,?_⟩
 ·intro b hb
  rw [Heap.size_push]
  simp at hb
  rcases hb with rfl|rfl
  ·exact Nat.lt_succ_self _
  ·exact Nat.lt_succ_of_lt (Heap.lt_size ho)
 ·intro i v hP
  have hil:=(Array.getElem?_eq_some_iff.mp hP).1
  obtain ⟨t,ht⟩:=hi.get i (ns[i]'(by exact e4 hlen hil)) (List.getElem?_eq_getElem _)
  rw [Array.getElem?_toList,hP] at ht
  refine ⟨t,?_⟩
  rw [Option.some.inj ht];simp [List.getElem?_eq_getElem (show i<ns.length by exact e4 hlen hil)]
 ·intro s' t' M
  rw [hlen,preSum_take hi _ (Nat.le_refl _),List.take_length]
  have mv:Rel c σ s':=R.moved (fun b o eb=>M.heap b o (by simp;exact Nat.ne_of_lt (Heap.lt_size eb)) (Heap.get?_push_of_some _ eb)) M.gens M.drawn M.os
  exact ⟨σ,mv,h⟩
end
end
section
open PySem PySem.W PyProof.Rows PySem.Calls Builtin Builtin.ObjectAttr
open Str (ofString)
noncomputable def okCls:List Addr:=[134,261,324]
noncomputable def clsFacts (K:Frag):Bool:=okCls.all fun C =>
 findIn K (.ref C) "__getattribute__"==some (some (.builtin "object.__getattribute__"))&&findIn K (.ref C) "__getattr__"==some none &&
 findIn K (.ref C) "__setattr__"==some (some (.builtin "object.__setattr__"))&&plainOver K C&&(clsIn K C).any (·.hasDict)&&makesIn K C &&
 Att.all.all fun n=>findIn K (.ref C) n.str==some none
theorem clsFacts_ok (P:Params):clsFacts (KF P)=true:=by kernel_rfl
structure ClsF (K:Frag) (C:Addr):Prop where
 ga:findIn K (.ref C) "__getattribute__"=some (some (.builtin "object.__getattribute__"))
 gh:findIn K (.ref C) "__getattr__"=some none
 sa:findIn K (.ref C) "__setattr__"=some (some (.builtin "object.__setattr__"))
 po:plainOver K C=true
 hd:(clsIn K C).any (·.hasDict)=true
 mkd:makesIn K C=true
 at_:∀ n:Att,findIn K (.ref C) n.str=some none
theorem clsF {P:Params}{C:Addr} (h:C∈okCls):ClsF (KF P) C:=by
 have:=List.all_eq_true.mp (clsFacts_ok P) C h
 simp only [Bool.and_eq_true,beq_iff_eq] at this
 obtain ⟨⟨⟨⟨⟨⟨h1,h2⟩,h3⟩,h4⟩,h5⟩,h6⟩,h7⟩:=this
 refine ⟨h1,h2,h3,h4,h5,h6,fun n=>?_⟩
 have m:n∈Att.all:=by cases n <;> decide
 exact beq_iff_eq.mp (List.all_eq_true.mp h7 n m)
section
variable {c:FC}{σ:St}{s:Shared}{E:Value→Shared→Prop}{A:Around}
inductive InstH (h:Heap) (x C d:Addr) (fs:List (Att × V)):Prop
 | mk (es:List DictEntry) (n:Nat) (hx:h.get? x=some (instObj C d)) (hd:h.get? d=some (dictOf es n)) (he:AttE es fs)
theorem Rel.inst (R:Rel c σ s) {x C d:Addr}{fs:List (Att × V)} (hx:σ.m x=some (.inst C d)) (hd:σ.m d=some (.attrs fs)):InstH s.heap x C d fs:=by
 obtain ⟨o,ho,r⟩:=R.at hx
 obtain ⟨od,hod,es,n,rfl,he⟩:=R.at hd
 exact ⟨es,n,by rw [ho,show o=instObj C d from r],hod,he⟩
theorem instAt {h:Heap}{x C d:Addr}{o:Obj} (hx:h.get? x=some (instObj C d)) (hd:h.get? d=some o):InstAt h x (instObj C d) C (some o):=⟨hx,rfl,rfl,hd⟩
theorem ORel.attrs_ {w:World}{h:Heap}{es:List DictEntry}{n:Nat}{fs:List (Att × V)} (e:AttE es fs):ORel w h (dictOf es n) (.attrs fs):=⟨_,_,rfl,e⟩
noncomputable def V.plain:V→Bool
 | .oth _=>false
 | _=>true
theorem handed_of {v:Value} (h:(vof v).plain=true):handedIn v=true:=by
 cases v <;> first|rfl|cases h
inductive attrW (a:V) (n:Att) (σ:St) (Φ:V→St→Prop):Prop
 | mk (x C d:Addr) (fs:List (Att × V)) (v:V) (ha:a=.ref x) (hx:σ.m x=some (.inst C d)) (hC:C∈okCls) (hd:σ.m d=some (.attrs fs)) (hv:aget n fs=some v) (hp:v.plain=true) (h:Φ v σ)
theorem attr_ok {v:Value}{n:Att}{b:Bool}{Φ:V→St→Prop} (R:Rel c σ s) (O:c.Ok) (h:attrW (vof v) n σ Φ):wpAny (MW c.X.G.w) A (getAttr v n.str b) (post c Φ) E s:=by
 obtain ⟨x,C,d,fs,y,ha,hx,hC,hd,hy,hp,h⟩:=h
 obtain ⟨es,k,ho,hod,he⟩:=R.inst hx hd
 obtain ⟨y',h1,rfl⟩:=he.get_some hy
 have F:=clsF (P:=c.X.G.w.params) hC
 have hf:findObj (KF c.X.G.w.params) C (some (dictOf es k)) n.str=some (.value y'):=by
  obtain ⟨cd,hcd,hdd⟩:=PySem.W.any_some F.hd
  unfold findObj
  rw [hcd,Option.bind_some,F.at_ n]
  simp only [Option.bind_some,PySem.W.ownOf,hdd,if_true,lookIn_dict,h1]
 rw [vof_ref ha]
 exact get_value (R.kf O) (instAt ho hod) F.ga hf (handed_of hp) ⟨σ,R.toks _,h⟩
inductive setAttrW (a:V) (n:Att) (v:V) (σ:St) (Φ:St→Prop):Prop
 | mk (x C d:Addr) (fs:List (Att × V)) (ha:a=.ref x) (hx:σ.m x=some (.inst C d)) (hC:C∈okCls) (hd:σ.m d=some (.attrs fs)) (hl:fs.length≤100) (h:Φ ⟨σ.ρ,upd σ.m d (.attrs (aput n v fs))⟩)
theorem aput_len (n:Att) (v:V):∀ fs:List (Att × V),(aput n v fs).length≤fs.length+1
 | []=>Nat.le_refl _
 | f::fs=>by
  unfold aput
  split
  ·simp
  ·have:=aput_len n v fs
   simp;exact this
theorem setAttr_ok {u v:Value}{n:Att}{Φ:St→Prop} (R:Rel c σ s) (O:c.Ok) (h:setAttrW (vof u) n (vof v) σ Φ):wpAny (MW c.X.G.w) A (setAttr u n.str v) (postU c Φ) E s:=by
 obtain ⟨x,C,d,fs,ha,hx,hC,hd,hsz,h⟩:=h
 rw [vof_ref ha]
 obtain ⟨es,k,ho,hod,he⟩:=R.inst hx hd
 have F:=clsF (P:=c.X.G.w.params) hC
 have ht:takerIn (KF c.X.G.w.params) C n.str=some none:=by unfold takerIn;rw [F.at_ n];rfl
 refine set_plain (R.kf O) (instAt ho hod) F.sa ?_
 refine osa_open (s:={ s with toks:=s.toks+1 }) ((R.toks (s.toks+1)).kf O) (instAt ho hod) F.po ht fun b=>?_
 obtain ⟨cd,hc,hd'⟩:=PySem.W.any_some F.hd
 refine wpAny_bind (wpAny_pure (wpAny_bind (wpAny_bind (wpAny_loadPart ho (wpAny_bind ((looks_clsIn ((R.toks (s.toks+1)).kf O) hc).here ?_))))))
 rw [hd']
 refine wpAny_pure (a:=some d) (wpAny_bind (wpAny_pure (wpAny_bind ?_)))
 have hput:Obj.putName n.str (PyData.keyHash c.X.G.w.params n.str) (.str n.str (s.toks+1)) v (dictOf es k)=dictOf (putL n.str (PyData.keyHash c.X.G.w.params n.str) (.str n.str (s.toks+1)) v es) (putN n.str es k):=putName_dict ..
 have hself:=Heap.get?_update_self (Obj.putName n.str (PyData.keyHash c.X.G.w.params n.str) (.str n.str (s.toks+1)) v) hod (by rw [hput];rfl)
 rw [hput] at hself
 have he2:AttE (putL n.str (PyData.keyHash c.X.G.w.params n.str) (.str n.str (s.toks+1)) v es) (aput n (vof v) fs):=he.put
 unfold nsSet
 refine wpAny_bind (wpAny_bind (wpAny_askSetting (wpAny_pure (wpAny_bind (wpAny_mkText (wpAny_bind (wpAny_loadPart hod ?_)))))))
 dsimp only
 have hno:(!es.toArray.any (·.key.isStr n.str)&&es.toArray.any (·.refKey))=false:=by
  have:=he.norefs
  rw [List.any_toArray,List.any_toArray,this,Bool.and_false]
 rw [aRefKeyMayBeTheName_at,hno]
 refine wpAny_updatePart hod ?_
 refine wpAny_bind (wpAny_lookBehind hself (pastItsLine_dict (by have:=aput_len n (vof v) fs;rw [List.size_toArray,sizeLine_eq,he2.len];lia)) ?_)
 refine wpAny_pure ?_
 show postU c Φ () _
 exact ⟨_,R.set O hd rfl (fun b o q eo=>(Heap.get?_update_other _ _ (Ne.symm q)).trans eo) hself (ORel.attrs_ he2) _,h⟩
end
end
section
open PySem PySem.W PyProof.Rows PySem.Calls
open Str (ofString)
section
variable {c:FC}{σ:St}{s:Shared}{E:Value→Shared→Prop}{A:Around}
noncomputable def slotS (c:FC) (x:Str) (i:Nat):Bool:=decide (c.names[i]?=some x)&&(c.names.zipIdx.all fun p=>p.1 != x||p.2==i)&&(match c.env.kindOf x with|some .local=>true|some .cell=>c.fn|_=>false)
theorem zip_uniq {l:List Str}{x:Str}{i j:Nat} (h:(l.zipIdx.all fun p=>p.1 != x||p.2==i)=true) (e:l[j]?=some x):j=i:=by
 have hm:(x,j)∈l.zipIdx:=by
  rw [List.mem_zipIdx_iff_getElem?];exact e
 have:=List.all_eq_true.mp h _ hm
 simp at this
 exact this
theorem Heap.Ns.obj {h:Heap}{a:Addr}{m:Str→Option Value} (x:h.Ns a m):∃ o es ep,h.get? a=some o∧o.data=.dict es ep:=let ⟨o,es,ep,h1,h2,_⟩:=x;⟨o,es,ep,h1,h2⟩
theorem Rel.ownSet (R:Rel c σ s) (O:c.Ok) {h':Heap}{a:Addr}{ρ:List (Option V)} (x:∀ b o,b≠a→s.heap.get? b=some o→h'.get? b=some o) (ha:a∈c.own) (F:Fra c ρ h')
  (hb:∃ o,h'.get? a=some o∧ownLike o=true) (hc:∀ y,c.env.cells.lookup y=some a→∃ v,h'.IsCell a v) (tk:Nat):Rel c ⟨ρ,σ.m⟩ { s with heap:=h',toks:=tk }:=by
 have ht:∀ o,s.heap.get? a=some o→¬tupO o:=fun o ho=>by
  obtain ⟨o',h1,h2⟩:=R.B a ha
  rw [ho] at h1;cases h1;exact ownLike.notTup h2
 refine ⟨⟨R.S.gens,R.S.drawn,R.S.os,R.S.mem.off x (R.O a ha).1 (R.O a ha).2 ht,R.S.lo⟩,F,R.O,fun b hb'=>?_,fun y ca e=>?_⟩
 ·by_cases q:b=a
  ·subst q;exact hb
  ·obtain ⟨o,h1,h2⟩:=R.B b hb'
   exact ⟨o,x b o q h1,h2⟩
 ·by_cases q:ca=a
  ·subst q;exact hc y e
  ·obtain ⟨v,o,h1,h2⟩:=R.C y ca e
   exact ⟨v,o,x ca o q h1,h2⟩
set_option tactic.hygienic true in
theorem store_ok {x:Str}{i:Nat}{v:Value}{Q:Unit→Shared→Prop} (R:Rel c σ s) (O:c.Ok) (hs:slotS c x i=true) (h:∀ s',Rel c ⟨put σ.ρ i (vof v),σ.m⟩ s'→Q () s'):wpAny (MW c.X.G.w) A (storeName c.env x v) Q E s:=by
 unfold slotS at hs
 simp only [Bool.and_eq_true,decide_eq_true_eq] at hs
 obtain ⟨⟨h1,h2⟩,h3⟩:=hs
 have uq:∀ j,c.names[j]?=some x→j=i:=fun j e=>zip_uniq h2 e
 have hp:(c.env.scope.kind==.class||(c.env.scope.kind==.module&&c.env.locals != c.env.globals))=false:=by rw [O.kind];rfl
 obtain ⟨nm,hn,hl⟩:=R.F.loc
 split at h3
 ·rename_i hk
  refine wpAny_storeName_local hk hn (fun h' hn' hs'=>?_) hp
  refine h _ (R.ownSet O (fun b o q e=>hs'.extBut b o q e) O.loc ⟨⟨_,hn',fun j y u e k l=>?_⟩,fun j y u e k l=>?_,(put_len _ _ _).trans R.F.len⟩ ?_ (fun y e=>(O.lne y _ e rfl).elim) _)
  ·rcases look_put _ _ _ _ _ l with ⟨rfl,rfl⟩|⟨hne,l⟩
   ·rw [h1] at e;cases e;exact ⟨v,by simp,rfl⟩
   ·have yx:y≠x:=fun z=>hne (uq j (z▸e))
    obtain ⟨u',e1,e2⟩:=hl j y u e k l
    exact ⟨u',by simp only [if_neg yx];exact e1,e2⟩
  ·rcases look_put _ _ _ _ _ l with ⟨rfl,rfl⟩|⟨hne,l⟩
   ·rw [h1] at e;cases e;rw [hk] at k;rcases k with k|k <;> cases k
   ·obtain ⟨ca,u',e1,⟨o,e2,e3⟩,e4⟩:=R.F.cel j y u e k l
    exact ⟨ca,u',e1,⟨o,hs'.extBut _ _ (O.lne y ca e1) e2,e3⟩,e4⟩
  ·obtain ⟨o,es,ep,a1,a2⟩:=Heap.Ns.obj hn'
   exact ⟨o,a1,by unfold ownLike;rw [a2]⟩
 ·rename_i hk
  obtain ⟨ca,hca⟩:=O.cdom x (.inl hk)
  have hown:=O.cown h3 x ca hca
  obtain ⟨v0,hv0⟩:=R.C x ca hca
  refine wpAny_storeName_cell O.kind hk hca hv0 (fun h' hc' hs'=>?_)
  refine h _ (R.ownSet O (fun b o q e=>hs'.extBut b o q e) hown ⟨⟨nm,hn.sameBut hs' (Ne.symm (O.lne x ca hca)),fun j y u e k l=>?_⟩,fun j y u e k l=>?_,(put_len _ _ _).trans R.F.len⟩ ?_ (fun y e=>⟨_,hc'⟩) _)
  ·rcases look_put _ _ _ _ _ l with ⟨rfl,rfl⟩|⟨hne,l⟩
   ·rw [h1] at e;cases e;rw [hk] at k;cases k
   ·exact hl j y u e k l
  ·rcases look_put _ _ _ _ _ l with ⟨rfl,rfl⟩|⟨hne,l⟩
   ·rw [h1] at e;cases e;exact ⟨ca,v,hca,hc',rfl⟩
   ·have yx:y≠x:=fun z=>hne (uq j (z▸e))
    obtain ⟨cb,u',e1,⟨o,e2,e3⟩,e4⟩:=R.F.cel j y u e k l
    exact ⟨cb,u',e1,⟨o,hs'.extBut _ _ (fun z=>yx (O.inj y x cb e1 (z▸hca))) e2,e3⟩,e4⟩
  ·obtain ⟨o,a1,a2⟩:=hc'
   exact ⟨o,a1,by unfold ownLike;rw [a2]⟩
 ·cases h3
end
noncomputable def kk (c:FC) (h:Heap):Keep:=fun a=>if a∈c.own then h.get? a else c.k a
noncomputable def callR (G:GC) (A:Around) (k:Keep) (Ψ:Addr→Mem→Prop) (Φ:V→Mem→Prop) (r:Result) (s':Shared):Prop:=match r with
 | .ok (.ret v)=>∃ m',RelS G k m' s'∧Φ (vof v) m'
 | .ok _=>False
 | .error e=>∃ ea m',e=.ref ea∧G.Fly A k m' ea s'∧Ψ ea m'
@[irreducible] noncomputable def callW (G:GC) (r:Nat) (Ψ:Addr→Mem→Prop) (f:Value) (args:List V) (m:Mem) (Φ:V→Mem→Prop):Prop :=
 ∀ (A:Around) (k:Keep) (s:Shared) (vs:List Value),RelS G k m s→Base G k→Room A r→A.handled=none→FramesK A k→vs.map vof=args →
  codeAny (MW G.w) A (.call f ⟨vs,[]⟩) (callR G A k Ψ Φ) s
theorem callW_eq {G:GC}{r:Nat}{Ψ:Addr→Mem→Prop}{f:Value}{args:List V}{m:Mem}{Φ:V→Mem→Prop}:callW G r Ψ f args m Φ=∀ (A:Around) (k:Keep) (s:Shared) (vs:List Value),RelS G k m s→Base G k→Room A r→A.handled=none→FramesK A k→vs.map vof=args →
  codeAny (MW G.w) A (.call f ⟨vs,[]⟩) (callR G A k Ψ Φ) s:=by unfold callW;rfl
theorem callW.d {G:GC}{r:Nat}{Ψ:Addr→Mem→Prop}{f:Value}{args:List V}{m:Mem}{Φ:V→Mem→Prop} (h:callW G r Ψ f args m Φ) {A:Around}{k:Keep}{s:Shared}{vs:List Value} (h1:RelS G k m s) (h2:Base G k) (h3:Room A r) (h4:A.handled=none) (h5:FramesK A k) (h6:vs.map vof=args) :
  codeAny (MW G.w) A (.call f ⟨vs,[]⟩) (callR G A k Ψ Φ) s:=callW_eq.mp h A k s vs h1 h2 h3 h4 h5 h6
section
variable {c:FC}{σ:St}{s:Shared}
set_option tactic.hygienic true in
theorem Rel.kk (R:Rel c σ s):RelS c.X.G (kk c s.heap) σ.m s:=by
 refine ⟨R.S.gens,R.S.drawn,R.S.os,⟨R.S.mem.rep,fun a o e=>?_,fun a o e=>?_⟩,R.S.lo⟩
 ·unfold Mine.kk at e
  split at e
  ·exact e
  ·exact R.S.mem.keep a o e
 ·unfold Mine.kk at e
  split at e
  ·rename_i q;exact (R.O a q).1
  ·exact R.S.mem.apart a o e
set_option tactic.hygienic true in
theorem Rel.kbase (R:Rel c σ s) (O:c.Ok):Base c.X.G (Mine.kk c s.heap):=fun a o e=>by
 unfold Mine.kk
 split
 ·rename_i q;have:=O.base a o e;rw [(R.O a q).2] at this;cases this
 ·exact O.base a o e
set_option tactic.hygienic true in
theorem Rel.kframes (R:Rel c σ s) (O:c.Ok):FramesK c.A (Mine.kk c s.heap):=by
 obtain ⟨l,h1,h2⟩:=O.frames
 refine ⟨l,h1,fun env he=>?_⟩
 obtain ⟨hk,L,hf,h⟩:=h2 env he
 rcases h with h|⟨o,ho,hd⟩
 ·obtain ⟨o,h3,h4⟩:=R.B L h
  exact ⟨hk,L,o,hf,by unfold Mine.kk;rw [if_pos h];exact h3,ownLike.notF h4⟩
 ·refine ⟨hk,L,o,hf,?_,hd⟩
  unfold Mine.kk
  split
  ·rename_i q;rw [(R.O L q).2] at ho;cases ho
  ·exact ho
set_option tactic.hygienic true in
theorem Rel.ksub (R:Rel c σ s):∀ a o,c.k a=some o→Mine.kk c s.heap a=some o:=fun a o e=>by
 unfold Mine.kk
 split
 ·rename_i q;rw [(R.O a q).2] at e;cases e
 ·exact e
theorem Rel.kown (R:Rel c σ s):∀ a∈c.own,∃ o,Mine.kk c s.heap a=some o∧ownLike o=true:=fun a ha=>by
 obtain ⟨o,h1,h2⟩:=R.B a ha
 exact ⟨o,by unfold Mine.kk;rw [if_pos ha];exact h1,h2⟩
theorem Rel.back (R:Rel c σ s) (O:c.Ok) {m':Mem}{s':Shared} (S:RelS c.X.G (Mine.kk c s.heap) m' s'):Rel c ⟨σ.ρ,m'⟩ s':=by
 have own:∀ a∈c.own,∀ o,s.heap.get? a=some o→s'.heap.get? a=some o:=fun a ha o e=>S.mem.keep a o (by unfold Mine.kk;rw [if_pos ha];exact e)
 have cell:∀ x ca,c.env.cells.lookup x=some ca→∀ o,s.heap.get? ca=some o→s'.heap.get? ca=some o:=fun x ca e o eo=>by
  rcases R.cellK O e with q|⟨o',q⟩
  ·exact own ca q o eo
  ·have h1:=R.S.mem.keep ca o' q
   rw [eo] at h1;cases h1
   exact S.mem.keep ca o (R.ksub ca o q)
 refine ⟨⟨S.gens,S.drawn,S.os,⟨S.mem.rep,fun a o e=>S.mem.keep a o (R.ksub a o e),fun a o e=>S.mem.apart a o (R.ksub a o e)⟩,S.lo⟩,R.F.keep (fun o e=>own _ O.loc o e) cell,fun a ha=>⟨?_,(R.O a ha).2⟩,fun a ha=>?_,fun y ca e=>?_⟩
 ·obtain ⟨o,h1,_⟩:=R.kown a ha
  exact S.mem.apart a o h1
 ·obtain ⟨o,h1,h2⟩:=R.B a ha
  exact ⟨o,own a ha o h1,h2⟩
 ·obtain ⟨v,o,h1,h2⟩:=R.C y ca e
  exact ⟨v,o,cell y ca e o h1,h2⟩
theorem call_ok {f:Value}{vs:List Value}{Φ:V→St→Prop} (R:Rel c σ s) (O:c.Ok) (h:callW c.X.G c.X.r c.X.Ψ f (vs.map vof) σ.m (fun v m'=>Φ v ⟨σ.ρ,m'⟩)) :
  wpAny (MW c.X.G.w) c.A (call f vs) (post c Φ) c.E s:=by
 refine wpAny_call (codeAny_mono (h.d R.kk (R.kbase O) O.room O.hnd (R.kframes O) rfl) fun r s' q=>?_)
 rcases r with e|f
 ·obtain ⟨ea,m',rfl,q,z⟩:=q
  exact O.fly ea m' _ s' R.ksub R.kown q z
 ·cases f with
  | ret v=>obtain ⟨m',S,q⟩:=q;exact ⟨_,R.back O S,q⟩
  | _=>exact False.elim q
end
theorem Room.mono {A:Around}{r r':Nat} (h:Room A r') (q:r≤r'):Room A r:=by unfold Room at *;lia
theorem callW.mono {G:GC}{r r':Nat}{Ψ Ψ':Addr→Mem→Prop}{f:Value}{args:List V}{m:Mem}{Φ Φ':V→Mem→Prop} (h:callW G r Ψ f args m Φ) (q:r≤r') (hΨ:∀ a m,Ψ a m→Ψ' a m) (hΦ:∀ v m',Φ v m'→Φ' v m'):callW G r' Ψ' f args m Φ' :=
 callW_eq.mpr fun A k s vs S B Ro hh Fr e=>codeAny_mono (h.d S B (Ro.mono q) hh Fr e) fun r s' z=>by
  rcases r with e|f
  ·obtain ⟨ea,m',a,b,d⟩:=z;exact ⟨ea,m',a,b,hΨ _ _ d⟩
  ·cases f with
   | ret v=>obtain ⟨m',a,b⟩:=z;exact ⟨m',a,hΦ _ _ b⟩
   | _=>exact False.elim z
set_option genInjectivity true in
inductive Fl where
 | next|brk|cont|ret (v:V)
noncomputable def fof:Flow→Fl
 | .next=>.next
 | .brk=>.brk
 | .cont=>.cont
 | .ret v=>.ret (vof v)
noncomputable def Fl.val:Fl→V
 | .ret v=>v
 | _=>.none
noncomputable def postF (c:FC) (Φ:Fl→St→Prop):Flow→Shared→Prop:=fun f s'=>Met c (Φ (fof f)) s'
noncomputable def ExS (c:FC) (body:List Stmt) (t:PT Fl):Prop:=∀ (σ:St) (s:Shared) (Φ:Fl→St→Prop),Rel c σ s→t σ Φ→wpAny (MW c.X.G.w) c.A (execs body c.env) (postF c Φ) c.E s
theorem bindL_skip {kd:Str→Option NameKind}{x:Str}:∀ {binds:List (Str × Value)}{m:Str→Option Value},x∉binds.map (·.1)→bindL kd binds m x=m x
 | [],_,_=>rfl
 | (n,v)::r,m,h=>by
  rw [List.map_cons,List.mem_cons,not_or] at h
  unfold bindL
  rw [bindL_skip h.2]
  split
  ·exact if_neg h.1
  ·rfl
theorem bindL_at {kd:Str→Option NameKind}{x:Str}{v:Value} (hk:kd x=some .local):∀ {binds:List (Str × Value)}{m:Str→Option Value}{i:Nat},(binds.map (·.1)).Nodup→binds[i]?=some (x,v)→bindL kd binds m x=some v
 | [],_,_,_,h=>by simp at h
 | (n,u)::r,m,0,nd,h=>by
  simp at h
  obtain ⟨rfl,rfl⟩:=h
  rw [List.map_cons,List.nodup_cons] at nd
  unfold bindL
  rw [bindL_skip nd.1,if_pos hk,if_pos rfl]
 | (n,u)::r,m,i+1,nd,h=>by
  rw [List.map_cons,List.nodup_cons] at nd
  rw [List.getElem?_cons_succ] at h
  unfold bindL
  exact bindL_at hk nd.2 h
theorem bindC_skip {kd:Str→Option NameKind}{x:Str}:∀ {binds:List (Str × Value)}{m:Str→Option Value},x∉binds.map (·.1)→bindC kd binds m x=m x
 | [],_,_=>rfl
 | (n,v)::r,m,h=>by
  rw [List.map_cons,List.mem_cons,not_or] at h
  unfold bindC
  rw [bindC_skip h.2]
  split
  ·rfl
  ·exact if_neg h.1
theorem bindC_at {kd:Str→Option NameKind}{x:Str}{v:Value} (hk:kd x≠some .local):∀ {binds:List (Str × Value)}{m:Str→Option Value}{i:Nat},(binds.map (·.1)).Nodup→binds[i]?=some (x,v)→bindC kd binds m x=some v
 | [],_,_,_,h=>by simp at h
 | (n,u)::r,m,0,nd,h=>by
  simp at h
  obtain ⟨rfl,rfl⟩:=h
  rw [List.map_cons,List.nodup_cons] at nd
  unfold bindC
  rw [bindC_skip nd.1,if_neg hk,if_pos rfl]
 | (n,u)::r,m,i+1,nd,h=>by
  rw [List.map_cons,List.nodup_cons] at nd
  rw [List.getElem?_cons_succ] at h
  unfold bindC
  exact bindC_at hk nd.2 h
noncomputable def ini (vs:List V) (k:Nat):List (Option V):=vs.map some++List.replicate k none
theorem look_get:∀ (ρ:List (Option V)) (i:Nat),look ρ i=(ρ[i]?).join
 | [],i=>by simp [look]
 | x::r,0=>by simp [look]
 | x::r,i+1=>by simp [look,look_get r i]
theorem look_ini {vs:List V}{k i:Nat}{v:V} (h:look (ini vs k) i=some v):vs[i]?=some v:=by
 rw [look_get] at h
 unfold ini at h
 rw [List.getElem?_append] at h
 split at h
 ·rw [List.getElem?_map] at h
  cases e:vs[i]? with
  | none=>rw [e] at h;cases h
  | some u=>rw [e] at h;simpa using h
 ·rw [List.getElem?_replicate] at h
  split at h <;> cases h
structure FnD where
 addr:Addr
 fd:FuncData
 body:List Stmt
 ps:List Str
 rest:List Str
noncomputable def FnD.names (d:FnD):List Str:=d.ps++d.rest
noncomputable def FnD.okB (d:FnD) (P:Params):Bool :=
 codeIn (KF P) d.fd.code d.fd.qualname&&!d.fd.scope.isCoroutine&&!d.fd.scope.isGenerator&&(d.fd.scope.kind==.function)&&(d.fd.globals==mainGlobals)&&(d.fd.builtins==builtinsNs)&&d.fd.closure.isEmpty &&
 d.ps.all (fun x=>match d.fd.scope.names.lookup x with|some .local=>true|some .cell=>true|_=>false)&&decide d.ps.Nodup &&
 d.fd.scope.names.all (fun x=>x.2 != .free)&&decide ((d.fd.scope.names.map (·.1)).Nodup)
structure FnD.Ok (d:FnD):Prop where
 at_:∀ P,(KF P).lookup d.addr=some ⟨.type "function",none,.func d.fd,#[]⟩
 body:d.fd.body=.stmts d.body
 ok:∀ P,d.okB P=true
theorem cellsFrom_lookup {x:Str}:∀ {names:List (Str × NameKind)}{n:Nat}{acc:List (Str × Addr)},names.lookup x=some .cell→(names.map (·.1)).Nodup→∃ ca,(cellsFrom n names acc).lookup x=some ca
 | [],_,_,h,_=>by simp at h
 | (y,k)::r,n,acc,h,nd=>by
  rw [List.map_cons,List.nodup_cons] at nd
  have keep:∀ {names:List (Str × NameKind)}{n:Nat}{acc:List (Str × Addr)},x∉names.map (·.1)→(cellsFrom n names acc).lookup x=acc.lookup x:=by
   intro names
   induction names with
   | nil=>intro n acc _;rfl
   | cons p r ih =>
    intro n acc hn
    rw [List.map_cons,List.mem_cons,not_or] at hn
    unfold cellsFrom
    split
    ·rw [ih hn.2,List.lookup_cons,show (x==p.1)=false from by simpa using hn.1]
    ·exact ih hn.2
  rw [List.lookup_cons] at h
  unfold cellsFrom
  cases hx:x==y with
  | true =>
   rw [hx] at h
   cases h
   have:=beq_iff_eq.mp hx;subst this
   rw [if_pos (by decide),keep nd.1]
   exact ⟨n,by simp [List.lookup_cons]⟩
  | false =>
   rw [hx] at h
   split
   ·exact cellsFrom_lookup h nd.2
   ·exact cellsFrom_lookup h nd.2
set_option tactic.hygienic true in
theorem enter_ok {G:GC}{r:Nat}{Ψ:Addr→Mem→Prop}{d:FnD}{args full:List V}{m:Mem}{Φ:V→Mem→Prop} (hG:G.Ok) (D:d.Ok)
  (hbind:∀ vs:List Value,vs.map vof=args→∃ binds,(∀ S,peek (KF G.w.params) S (bindArgs d.fd ⟨vs,[]⟩)=some binds)∧binds.map (·.1)=d.ps∧binds.map (fun b=>vof b.2)=full)
  (h:∀ c:FC,c.Ok→c.X=⟨G,r,Ψ⟩→c.env.scope=d.fd.scope→c.names=d.names→c.fn=true→∃ t,ExS c d.body t∧t ⟨ini full d.rest.length,m⟩ (fun fl σ'=>Φ fl.val σ'.m)) :
  callW G (r+1) Ψ (.ref d.addr) args m Φ:=by
 refine callW_eq.mpr fun A k s vs S B Ro hh Fr ea=>?_
 obtain ⟨binds,hp,hn,hf⟩:=hbind vs ea
 have okb:=D.ok G.w.params
 unfold FnD.okB at okb
 simp only [Bool.and_eq_true,Bool.not_eq_true',beq_iff_eq,decide_eq_true_eq,List.all_eq_true] at okb
 obtain ⟨⟨⟨⟨⟨⟨⟨⟨⟨⟨b1,b2⟩,b3⟩,b4⟩,b5⟩,b6⟩,b7⟩,b8⟩,b9⟩,b10⟩,b11⟩:=okb
 have X0:Frag.In (KF G.w.params) s.heap:=hG.K.keeps fun a o e=>S.mem.keep a o (B a o e)
 have nolim:s.heap.NoLimit:=hG.nolim.keeps fun a o e=>S.mem.keep a o (B a o e)
 have ho:s.heap.get? d.addr=some ⟨.type "function",none,.func d.fd,#[]⟩:=X0 _ _ (D.at_ _)
 have hclos:d.fd.closure=[]:=by simpa using b7
 have hkind:∀ x∈binds,d.fd.scope.names.lookup x.1=some .local∨(d.fd.scope.names.lookup x.1=some .cell∧((cellsFrom (s.heap.objs.size+1) d.fd.scope.names []).lookup x.1).isSome=true):=fun x hx=>by
  have hm:x.1∈d.ps:=hn▸List.mem_map.mpr ⟨x,hx,rfl⟩
  have:=b8 _ hm
  split at this
  ·rename_i q;exact .inl q
  ·rename_i q
   obtain ⟨ca,hc⟩:=cellsFrom_lookup (n:=s.heap.objs.size+1) (acc:=[]) q b11
   exact .inr ⟨q,by rw [hc];rfl⟩
  ·cases this
 refine codeAny_call_function (by have:=Ro.1;show A.depth<1000;lia) ho rfl b2 b3 D.body (codeRec_of X0 b1) (kp_binds X0 hp _ _ _ _ ?_)
 rw [hclos]
 refine wpAny_newFunctionEnv_cells b4 hkind fun env he s' I=>?_
 obtain ⟨hh',tk,hs'⟩:=I.toInCall.same
 have g:∀ b o,s.heap.get? b=some o→s'.heap.get? b=some o:=I.toInCall.keep
 have X1:Frag.In (KF G.w.params) s'.heap:=X0.keeps g
 refine ⟨nolim.keeps g,codeAny_func ?_⟩
 have hL:env.locals=s.heap.objs.size:=by rw [he];rfl
 have hfr:env.frame=some s.heap.objs.size:=by rw [he];rfl
 have fresh:∀ a,s.heap.objs.size≤a→m a=none∧k a=none:=fun a q=>S.mem.fresh (by
  cases e:s.heap.get? a with
  | none=>rfl
  | some o=>exact absurd (Heap.lt_size e) (Nat.not_lt.mpr q))
 let own:List Addr:=env.locals::(env.cells.map (·.1)).filterMap (env.cells.lookup ·)
 have ownC:∀ x ca,env.cells.lookup x=some ca→ca∈own:=fun x ca e=>List.mem_cons_of_mem _ (List.mem_filterMap.mpr ⟨x,List.mem_map.mpr ⟨_,mem_of_lookup e,rfl⟩,e⟩)
 have ownI:∀ a∈own,a=env.locals∨∃ x,env.cells.lookup x=some a:=fun a ha=>by
  rcases List.mem_cons.mp ha with q|q
  ·exact .inl q
  ·obtain ⟨x,_,e⟩:=List.mem_filterMap.mp q
   exact .inr ⟨x,e⟩
 have above:∀ a∈own,s.heap.objs.size≤a:=fun a ha=>by
  rcases ownI a ha with rfl|⟨x,e⟩
  ·rw [hL];exact Nat.le_refl _
  ·have:=I.above x a (mem_of_lookup e);rw [hL] at this;exact Nat.le_of_lt this
 have ownO:∀ a∈own,∃ o,s'.heap.get? a=some o∧ownLike o=true:=fun a ha=>by
  rcases ownI a ha with rfl|⟨x,e⟩
  ·obtain ⟨o,es,ep,h1,h2⟩:=Heap.Ns.obj I.toInCall.ns
   exact ⟨o,h1,by unfold ownLike;rw [h2]⟩
  ·obtain ⟨o,h1,h2⟩:=I.cell x a e
   exact ⟨o,h1,by unfold ownLike;rw [h2]⟩
 let c:FC:=⟨⟨G,r,Ψ⟩,A.deeper env,env,k,d.names,own,fun e s'=>wpAny (MW G.w) (A.deeper env) (leaving env e) (fun zz s''=>∃ e',∃ m',e=.ref e'∧G.Fly A k m' e' s''∧Ψ e' m') (fun zz zz=>False) s',true⟩
 have hsc:env.scope=d.fd.scope:=by rw [he];rfl
 have O:c.Ok:={
  G:=hG
  base:=B
  kind:=by show env.scope.kind=_;rw [hsc];exact b4
  glb:=by show env.globals=_;rw [he];exact b5
  blt:=by show env.builtins=_;rw [he];exact b6
  loc:=List.mem_cons_self
  room:=by
   have:=Ro
   unfold Room at this ⊢
   show (A.depth+1)+10*r+20<690∧(A.units+3)+30*r+60<cLine
   lia
  hnd:=hh
  cells:=fun x ca e=>.inl (ownC x ca e)
  inj:=fun x y ca e1 e2=>name_of_addr I.apart (mem_of_lookup e1) (mem_of_lookup e2)
  lne:=fun x ca e q=>by have:=I.above x ca (mem_of_lookup e);rw [q] at this;exact Nat.lt_irrefl _ this
  cown:=fun zz=>ownC
  frames:=by
   obtain ⟨l,hl,hq⟩:=Fr
   refine ⟨env::l,by show A.frames.map (env::·)=_;rw [hl];rfl,fun e he'=>?_⟩
   rcases List.mem_cons.mp he' with rfl|he'
   ·exact ⟨by rw [hsc,b4];decide,_,hfr,.inl (by rw [←hL];exact List.mem_cons_self)⟩
   ·obtain ⟨q1,L,o,q2,q3,q4⟩:=hq e he'
    exact ⟨q1,L,q2,.inr ⟨o,q3,q4⟩⟩
  pass:=PassesOwn.leaving
  cdom:=fun x hx=>by
   have:d.fd.scope.names.lookup x=some .cell:=by
    rcases hx with hx|hx
    ·rw [←hsc];exact hx
    ·have hx':d.fd.scope.names.lookup x=some .free:=by rw [←hsc];exact hx
     have:=b10 _ (mem_of_lookup hx')
     simp at this
   have:=cellsFrom_lookup (n:=s.heap.objs.size+1) (acc:=[]) this b11
   show ∃ ca,env.cells.lookup x=some ca
   rw [he];exact this
  fly:=fun ea m' k' s'' hk ho' hf hψ=>by
   refine wpAny_mono (hG.leave A env k k' m' ea s'' _ Fr (by rw [hsc];exact b4) hfr (fresh _ (Nat.le_refl _)).2 hk ?_ hf) (fun zz s3 q=>⟨ea,m',rfl,q,hψ⟩) fun zz zz q=>q
   obtain ⟨o,h1,h2⟩:=ho' _ (show env.locals∈own from List.mem_cons_self)
   rw [hL] at h1
   exact ⟨o,h1,ownLike.notF h2⟩ }
 have names_at:∀ (i:Nat) x v,d.names[i]?=some x→look (ini full d.rest.length) i=some v→∃ u,binds[i]?=some (x,u)∧vof u=v:=fun i x v e1 e2=>by
  have e3:=look_ini e2
  rw [←hf,List.getElem?_map] at e3
  obtain ⟨b,e4,e5⟩:=Option.map_eq_some_iff.mp e3
  unfold FnD.names at e1
  have hl:i<d.ps.length:=by rw [←hn,List.length_map];exact (List.getElem?_eq_some_iff.mp e4).1
  rw [List.getElem?_append_left hl,←hn,List.getElem?_map,e4] at e1
  obtain ⟨n,u⟩:=b
  simp at e1;subst e1
  exact ⟨u,e4,e5⟩
 have nd:(binds.map (·.1)).Nodup:=by rw [hn];exact b9
 have hlen:(ini full d.rest.length).length=d.names.length:=by
  have h1:=congrArg List.length hf
  have h2:=congrArg List.length hn
  simp only [List.length_map] at h1 h2
  unfold ini FnD.names
  simp;exact h1.symm.trans h2
 have R:Rel c ⟨ini full d.rest.length,m⟩ s':=by
  have S':RelS G k m s':=⟨by rw [hs'];exact S.gens,by rw [hs'];exact S.drawn,by rw [hs'];exact S.os,S.mem.grown g,S.lo⟩
  refine ⟨S',⟨⟨_,I.toInCall.ns,fun i x v e1 e2 e3=>?_⟩,fun i x v e1 e2 e3=>?_,hlen⟩,fun a ha=>fresh a (above a ha),ownO,fun y ca e=>⟨_,I.cell y ca e⟩⟩
  ·obtain ⟨u,h1,h2⟩:=names_at i x v e1 e3
   exact ⟨u,bindL_at e2 nd h1,h2⟩
  ·obtain ⟨u,h1,h2⟩:=names_at i x v e1 e3
   obtain ⟨ca,hc⟩:=O.cdom x e2
   refine ⟨ca,u,hc,?_,h2⟩
   have:=I.cell x ca hc
   rwa [bindC_at (by rcases e2 with q|q <;> rw [q] <;> decide) nd h1] at this
 obtain ⟨t,hS,ht⟩:=h c O rfl hsc rfl rfl
 refine wpAny_mono (hS _ s' _ R ht) (fun f s2 ⟨σ',R',q⟩=>?_) fun e s2 q=>wpAny_mono q (fun zz zz z=>z) (fun zz zz z=>z.elim)
 refine ⟨σ'.m,R'.S,?_⟩
 cases f <;> exact q
theorem RelS.alloc {G:GC}{k:Keep}{m:Mem}{s:Shared} (S:RelS G k m s) (hz:2<s.heap.objs.size) {o:Obj}{mo:MO} (hf:o.isFreed=false) (r:ORel G.w (s.heap.push o) o mo) (tk:Nat):RelS G k (upd m s.heap.objs.size mo) { s with heap:=s.heap.push o,toks:=tk } :=
 ⟨S.gens,S.drawn,S.os,S.mem.alloc hf r,fun a mo' e=>by
  by_cases q:a=s.heap.objs.size
  ·rw [q];exact hz
  ·exact S.lo a mo' ((upd_ne (m:=m) (o:=mo) q).symm.trans e)⟩
theorem RelS.size {G:GC}{k:Keep}{m:Mem}{s:Shared} (S:RelS G k m s) (hG:G.Ok) (B:Base G k):2<s.heap.objs.size:=by
 obtain ⟨mc,hn,_⟩:=hG.nolim.keeps (h':=s.heap) fun a o e=>S.mem.keep a o (B a o e)
 exact hn.lt
theorem RelS.kf {G:GC}{k:Keep}{m:Mem}{s:Shared} (S:RelS G k m s) (hG:G.Ok) (B:Base G k):Frag.In (KF G.w.params) s.heap:=hG.K.keeps fun a o e=>S.mem.keep a o (B a o e)
theorem tc_under (A:Around) (C:Addr) (rest:List Value) (kw:List (Str × Value)):(A.under (.builtin "type.__call__" ⟨.ref C::rest,kw⟩)).depth=A.depth+1∧(A.under (.builtin "type.__call__" ⟨.ref C::rest,kw⟩)).units≤A.units+10 ∧
  (A.under (.builtin "type.__call__" ⟨.ref C::rest,kw⟩)).frames=A.frames∧(A.under (.builtin "type.__call__" ⟨.ref C::rest,kw⟩)).handled=A.handled:=by
 refine ⟨rfl,?_,rfl,rfl⟩
 show A.units+(Code.builtin "type.__call__" ⟨.ref C::rest,kw⟩).cUnits≤A.units+10
 have:(Code.builtin "type.__call__" ⟨.ref C::rest,kw⟩).cUnits≤10:=by
  first|decide|(show (_:Nat)≤10;exact nb rfl)
 exact Nat.add_lt_add_left this _
noncomputable def initOf (K:Frag) (C fI:Addr):Bool:=findIn K (.ref C) "__init__"==some (some (.ref fI))&&typeIn K (.ref fI)==some (.type "function")
theorem new_ok {G:GC}{r:Nat}{Ψ:Addr→Mem→Prop}{C fI:Addr}{args:List V}{m:Mem}{Φ:V→Mem→Prop} (hG:G.Ok) (hC:C∈okCls) (hI:initOf (KF G.w.params) C fI=true)
  (h:∀ d x,2<d→2<x→d≠x→m d=none→m x=none→callW G r (fun zz zz=>False) (.ref fI) (.ref x::args) (upd (upd m d (.attrs [])) x (.inst C d)) (fun v m'=>v=.none∧Φ (.ref x) m')) :
  callW G (r+1) Ψ (.ref C) args m Φ:=by
 refine callW_eq.mpr fun A k s vs S B Ro hh Fr ea=>?_
 have X:=S.kf hG B
 have F:=clsF (P:=G.w.params) hC
 unfold initOf at hI
 simp only [Bool.and_eq_true,beq_iff_eq] at hI
 have hz:=S.size hG B
 have S1:=S.alloc hz (o:=emptyDict) (mo:=.attrs []) rfl ⟨[],0,rfl,trivial⟩ s.toks
 have hs1:(s.heap.push emptyDict).objs.size=s.heap.objs.size+1:=Heap.size_push ..
 have S2:=RelS.alloc (s:={ s with heap:=s.heap.push emptyDict }) S1 (by show 2<(s.heap.push emptyDict).objs.size;rw [hs1];exact Nat.lt_succ_of_lt hz) (o:=instObj C s.heap.objs.size) (mo:=.inst C s.heap.objs.size) rfl rfl s.toks
 have e2:({ s with heap:=s.heap.push emptyDict }:Shared).heap.objs.size=s.heap.objs.size+1:=hs1
 rw [e2] at S2
 have hx:=h s.heap.objs.size (s.heap.objs.size+1) hz (Nat.lt_succ_of_lt hz) (Nat.ne_of_lt (Nat.lt_succ_self _)) S.mem.newAt.1 (S.mem.fresh (by
  cases e:s.heap.get? (s.heap.objs.size+1) with
  | none=>rfl
  | some o=>exact absurd (Nat.lt_of_succ_lt (Heap.lt_size e)) (Nat.lt_irrefl _))).1
 have hu:=tc_under A C vs []
 refine make_core (makes_of X F.mkd) (looks_findIn X hI.1) (fun self=>bind_fn X self hI.2) (.inl rfl) ?_
 refine codeAny_mono (hx.d (A:=A.under (.builtin "type.__call__" ⟨.ref C::vs,[]⟩)) (vs:=.ref (s.heap.objs.size+1)::vs) S2 B
  (by unfold Room at *;lia) (by rw [hu.2.2.2];exact hh) (by obtain ⟨l,a,b⟩:=Fr;exact ⟨l,by rw [hu.2.2.1];exact a,b⟩) (by rw [List.map_cons,ea];rfl)) fun r s' q=>?_
 rcases r with e|f
 ·obtain ⟨_,_,_,_,z⟩:=q;exact z.elim
 ·cases f with
  | ret v=>obtain ⟨m',a,b,d⟩:=q;exact ⟨vof_none b,m',a,d⟩
  | _=>exact False.elim q
inductive Bi where
 | len|range|list|tuple|min|sum|str
deriving DecidableEq,Repr
mutual
inductive Ex where
 | none|bool (b:Bool)|int (i:Int)|str (x:Str)
 | var (i:Nat)
 | bin (op:Operator) (a b:Ex)
 | cmp (op:CmpOp) (a b:Ex)
 | neg (a:Ex)|not (a:Ex)
 | and (a b:Ex)|or (a b:Ex)
 | ite (t a b:Ex)
 | attr (a:Ex) (n:Att)
 | item (a i:Ex)
 | slice (a lo hi:Ex)
 | list (es:Exs)|tup (es:Exs)|dict (kvs:Exs)
 | call (f:Addr) (es:Exs)
 | bi (b:Bi) (es:Exs)
 | app (o x:Ex)|ext (o x:Ex)|get (o x d:Ex)
 | meth (o:Ex) (n:Str) (es:Exs)
 | comp1 (elt:Ex) (t:Tg) (it:Ex) (cond:Ex) (k:Nat)
 | comp2 (elt:Ex) (t:Tg) (it:Ex) (t':Tg) (it':Ex) (k:Nat)
inductive Exs where
 | nil|cons (e:Ex) (es:Exs)
inductive Tg where
 | name (i:Nat)|tup (ts:Tgs)|attr (o:Ex) (n:Att)|item (o i:Ex)
inductive Tgs where
 | nil|cons (t:Tg) (ts:Tgs)
end
mutual
inductive Sx where
 | asg (t:Tg) (e:Ex)
 | swap (i j:Nat) (a b:Ex)
 | aug (i:Nat) (op:Operator) (e:Ex)
 | augA (o:Ex) (n:Att) (op:Operator) (e:Ex)
 | augI (o i:Ex) (op:Operator) (e:Ex)
 | ret (e:Ex)
 | expr (e:Ex)
 | ifS (t:Ex) (a b:Sxs)
 | forS (t:Tg) (it:Ex) (body:Sxs)
 | whileS (t:Ex) (body:Sxs)
 | cont
 | bad
inductive Sxs where
 | nil|cons (s:Sx) (r:Sxs)
end
noncomputable def rangeN (a b d:Int):Nat:=(Builtin.Range.rangeSize a b d).toNat
noncomputable def rangeL (a b d:Int):List V:=(List.range (rangeN a b d)).map fun (i:Nat)=>.int (a+i*d)
noncomputable def itemsM:MO→Option (List V)
 | .list xs=>some xs
 | .tup xs=>some xs
 | .range a b d=>if a.natAbs<2^30∧b.natAbs<2^30∧d≠0∧d.natAbs<2^30 then some (rangeL a b d) else none
 | _=>none
noncomputable def iterOf (m:Mem):V→Option (Addr × MO × List V)
 | .ref a=>match m a with
  | some mo=>(itemsM mo).map fun xs=>(a,mo,xs)
  | none=>none
 | _=>none
noncomputable def PX.quiet (X:PX):Prop:=∀ a m,X.Ψ a m→False
noncomputable def methTab:List (Addr × Str × Addr):=[
 (134,ofString "new_net",82),(134,ofString "new_nets",87),(134,ofString "add_input",94),(134,ofString "add_output",101),(134,ofString "add_cell",109),(134,ofString "drive",117),(134,ofString "sources",124),(134,ofString "sinks",131),
 (261,ofString "add_input",187),(261,ofString "add_output",194),(261,ofString "land",208),(261,ofString "lor",215),(261,ofString "lxor",222),(261,ofString "lmux",229),(324,ofString "net",321)]
noncomputable def methAt (C:Addr) (n:Str):Option Addr:=(methTab.find? fun x=>x.1==C&&x.2.1==n).map (·.2.2)
inductive getW (a key d:V) (σ:St) (Φ:V→St→Prop):Prop
 | mk (l:Addr) (es:List (K × V)) (k:K) (ha:a=.ref l) (hm:σ.m l=some (.dict es)) (hk:keyOf σ.m key=some k) (h:Φ ((dget k es).getD d) σ)
noncomputable def dictDisp (m:Mem):List V→Option (List (K × V))
 | k::v::r=>match keyOf m k,dictDisp m r with
  | some k',some r'=>some ((k',v)::r')
  | _,_=>none
 | []=>some []
 | _=>none
noncomputable def dputs:List (K × V)→List (K × V)→List (K × V)
 | [],es=>es
 | p::ps,es=>dputs ps (dput p.1 p.2 es)
inductive IsL (m:Mem) (u:V):Prop
 | mk (l:Addr) (xs:List V) (ha:u=.ref l) (hm:m l=some (.list xs))
inductive IsD (m:Mem) (u:V):Prop
 | mk (l:Addr) (xs:List (K × V)) (ha:u=.ref l) (hm:m l=some (.dict xs))
inductive OneW (f:V→St→(V→St→Prop)→Prop) (vs:List V) (σ:St) (Φ:V→St→Prop):Prop
 | mk (v:V) (e:vs=[v]) (h:f v σ Φ)
inductive RngW (vs:List V) (σ:St) (Φ:V→St→Prop):Prop
 | one (n:Int) (e:vs=[.int n]) (h:rangeW 0 n 1 σ Φ)
 | three (a b d:Int) (e:vs=[.int a,.int b,.int d]) (h:rangeW a b d σ Φ)
inductive MinW (vs:List V) (σ:St) (Φ:V→St→Prop):Prop
 | mk (i j:Int) (e:vs=[.int i,.int j]) (h:Φ (.int (if j<i then j else i)) σ)
noncomputable def biU:Bi→List V→St→(V→St→Prop)→Prop
 | .len=>OneW lenW
 | .range=>RngW
 | .list=>OneW listW
 | .tuple=>OneW tupleW
 | .min=>MinW
 | .sum=>OneW sumW
 | .str=>OneW strIntW
@[irreducible] noncomputable def biW (b:Bi) (vs:List V) (σ:St) (Φ:V→St→Prop):Prop:=biU b vs σ Φ
theorem biW.i {b:Bi}{vs:List V}{σ:St}{Φ:V→St→Prop} (h:biU b vs σ Φ):biW b vs σ Φ:=by unfold biW;exact h
structure Sm where
 val:PT V
 tru:PT Bool
noncomputable def Sm.ofV (t:PT V):Sm:=⟨t,fun σ Φ=>t σ fun v σ'=>truthW v σ' Φ⟩
noncomputable def loopW (a:Addr) (mo:MO) (t:V→St→(St→Prop)→Prop) (body:PT Fl):List V→PT Fl
 | [],σ,Φ=>σ.m a=some mo∧Φ .next σ
 | v::vs,σ,Φ=>σ.m a=some mo∧t v σ fun σ1=>body σ1 fun fl σ2=>match fl with
  | .next=>loopW a mo t body vs σ2 Φ
  | .cont=>loopW a mo t body vs σ2 Φ
  | .brk=>Φ .next σ2
  | .ret v=>Φ (.ret v) σ2
noncomputable def whileW (test:PT Bool) (body:PT Fl):Nat→PT Fl
 | 0,_,_=>False
 | n+1,σ,Φ=>test σ fun b σ1=>if b then body σ1 fun fl σ2=>match fl with
  | .next=>whileW test body n σ2 Φ
  | .cont=>whileW test body n σ2 Φ
  | .brk=>Φ .next σ2
  | .ret v=>Φ (.ret v) σ2
  else Φ .next σ1
noncomputable def compW (a:Addr) (mo:MO) (t:V→St→(St→Prop)→Prop) (inner:List V→St→(List V→St→Prop)→Prop):List V→List V→St→(List V→St→Prop)→Prop
 | [],acc,σ,Φ=>σ.m a=some mo∧Φ acc σ
 | v::vs,acc,σ,Φ=>σ.m a=some mo∧t v σ fun σ1=>inner acc σ1 fun acc' σ2=>compW a mo t inner vs acc' σ2 Φ
noncomputable def pushW (elt:PT V) (acc:List V) (σ:St) (Φ:List V→St→Prop):Prop:=elt σ fun v σ'=>acc.length<1000000∧Φ (acc++[v]) σ'
noncomputable def condW (c:PT Bool) (elt:PT V) (acc:List V) (σ:St) (Φ:List V→St→Prop):Prop:=c σ fun b σ1=>if b then pushW elt acc σ1 Φ else Φ acc σ1
noncomputable def overW (it:PT V) (σ:St) (k:Addr→MO→List V→St→Prop):Prop:=it σ fun v σ1=>match iterOf σ1.m v with
 | some (a,mo,xs)=>k a mo xs σ1
 | none=>False
noncomputable def madeW (ρ:List (Option V)) (Φ:V→St→Prop) (acc:List V) (σ:St):Prop:=allocW (.list acc) ⟨ρ,σ.m⟩ Φ
inductive MethW (X:PX) (u:V) (n:Str) (ts:PT (List V)) (σ:St) (Φ:V→St→Prop):Prop
 | mk (x C d f:Addr) (fs:List (Att × V)) (hu:u=.ref x) (hx:σ.m x=some (.inst C d)) (hf:methAt C n=some f) (hd:σ.m d=some (.attrs fs)) (h:ts σ fun vs σ2=>callW X.G X.r X.Ψ (.ref f) (.ref x::vs) σ2.m fun v m'=>Φ v ⟨σ2.ρ,m'⟩)
mutual
noncomputable def sem (X:PX):Ex→Sm
 | .none=>.ofV (PT.lit .none)
 | .bool b=>.ofV (PT.lit (.bool b))
 | .int i=>.ofV (PT.lit (.int i))
 | .str x=>.ofV (PT.lit (.str x))
 | .var i=>.ofV (PT.var i)
 | .bin op a b=>.ofV fun σ Φ=>(sem X a).val σ fun u σ1=>(sem X b).val σ1 fun v σ2=>binW op u v σ2 Φ
 | .cmp op a b=>⟨fun σ Φ=>(sem X a).val σ fun u σ1=>(sem X b).val σ1 fun v σ2=>cmpW op u v σ2 fun r σ3=>Φ (.bool r) σ3,
   fun σ Φ=>(sem X a).val σ fun u σ1=>(sem X b).val σ1 fun v σ2=>cmpW op u v σ2 Φ⟩
 | .neg a=>.ofV fun σ Φ=>(sem X a).val σ fun u σ1=>negW u σ1 Φ
 | .not a=>⟨fun zz zz=>False,fun σ Φ=>(sem X a).tru σ fun r σ1=>Φ (!r) σ1⟩
 | .and a b=>⟨fun σ Φ=>(sem X a).val σ fun v σ1=>truthW v σ1 fun r σ2=>if r then (sem X b).val σ2 Φ else Φ v σ2,
   fun σ Φ=>(sem X a).tru σ fun r σ1=>if r then (sem X b).tru σ1 Φ else Φ false σ1⟩
 | .or a b=>⟨fun σ Φ=>(sem X a).val σ fun v σ1=>truthW v σ1 fun r σ2=>if r then Φ v σ2 else (sem X b).val σ2 Φ,
   fun σ Φ=>(sem X a).tru σ fun r σ1=>if r then Φ true σ1 else (sem X b).tru σ1 Φ⟩
 | .ite t a b=>⟨fun σ Φ=>(sem X t).tru σ fun r σ1=>if r then (sem X a).val σ1 Φ else (sem X b).val σ1 Φ,
   fun σ Φ=>(sem X t).tru σ fun r σ1=>if r then (sem X a).tru σ1 Φ else (sem X b).tru σ1 Φ⟩
 | .attr a n=>.ofV fun σ Φ=>(sem X a).val σ fun u σ1=>attrW u n σ1 Φ
 | .item a i=>.ofV fun σ Φ=>(sem X a).val σ fun u σ1=>(sem X i).val σ1 fun v σ2=>itemW u v σ2 Φ
 | .slice a lo hi=>.ofV fun σ Φ=>(sem X a).val σ fun u σ1=>(sem X lo).val σ1 fun v σ2=>(sem X hi).val σ2 fun w σ3=>sliceW u v w σ3 Φ
 | .list es=>.ofV fun σ Φ=>semL X es σ fun vs σ1=>vs.length<1000000∧allocW (.list vs) σ1 Φ
 | .tup es=>.ofV fun σ Φ=>semL X es σ fun vs σ1=>vs.length<1000000∧allocW (.tup vs) σ1 Φ
 | .dict kvs=>.ofV fun σ Φ=>semL X kvs σ fun l σ1=>match dictDisp σ1.m l with
  | some ps=>allocW (.dict (dputs ps [])) σ1 Φ
  | none=>False
 | .call f es=>.ofV fun σ Φ=>semL X es σ fun vs σ1=>callW X.G X.r X.Ψ (.ref f) vs σ1.m fun v m'=>Φ v ⟨σ1.ρ,m'⟩
 | .bi b es=>.ofV fun σ Φ=>semL X es σ fun vs σ1=>biW b vs σ1 Φ
 | .app o x=>.ofV fun σ Φ=>(sem X o).val σ fun u σ1=>IsL σ1.m u∧(sem X x).val σ1 fun v σ2=>appendW u v σ2 fun σ3=>Φ .none σ3
 | .ext o x=>.ofV fun σ Φ=>(sem X o).val σ fun u σ1=>IsL σ1.m u∧(sem X x).val σ1 fun v σ2=>extendW u v σ2 fun σ3=>Φ .none σ3
 | .get o x d=>.ofV fun σ Φ=>(sem X o).val σ fun u σ1=>IsD σ1.m u∧(sem X x).val σ1 fun v σ2=>(sem X d).val σ2 fun w σ3=>getW u v w σ3 Φ
 | .meth o n es=>.ofV fun σ Φ=>(sem X o).val σ fun u σ1=>MethW X u n (semL X es) σ1 Φ
 | .comp1 elt t it cond k=>.ofV fun σ Φ=>X.quiet∧overW (sem X it).val σ fun a mo xs σ1 =>
   compW a mo (semT X t) (condW (sem X cond).tru (sem X elt).val) xs [] ⟨σ1.ρ++List.replicate k none,σ1.m⟩ (madeW σ1.ρ Φ)
 | .comp2 elt t it t' it' k=>.ofV fun σ Φ=>X.quiet∧overW (sem X it).val σ fun a mo xs σ1 =>
   compW a mo (semT X t) (fun acc σ2 Ψ=>overW (sem X it').val σ2 fun a' mo' xs' σ3=>compW a' mo' (semT X t') (pushW (sem X elt).val) xs' acc σ3 Ψ) xs [] ⟨σ1.ρ++List.replicate k none,σ1.m⟩ (madeW σ1.ρ Φ)
noncomputable def semL (X:PX):Exs→PT (List V)
 | .nil=>fun σ Φ=>Φ [] σ
 | .cons e es=>fun σ Φ=>(sem X e).val σ fun v σ1=>semL X es σ1 fun vs σ2=>Φ (v::vs) σ2
noncomputable def semT (X:PX):Tg→V→St→(St→Prop)→Prop
 | .name i=>fun v σ Φ=>Φ ⟨put σ.ρ i v,σ.m⟩
 | .tup ts=>fun v σ Φ=>match v with
  | .ref a=>(match σ.m a with
   | some (.tup xs)=>semTs X ts xs σ Φ
   | _=>False)
  | _=>False
 | .attr o n=>fun v σ Φ=>(sem X o).val σ fun u σ1=>setAttrW u n v σ1 Φ
 | .item o i=>fun v σ Φ=>(sem X o).val σ fun u σ1=>(sem X i).val σ1 fun w σ2=>setItemW u w v σ2 Φ
noncomputable def semTs (X:PX):Tgs→List V→St→(St→Prop)→Prop
 | .nil=>fun vs σ Φ=>match vs with
  | []=>Φ σ
  | _=>False
 | .cons t ts=>fun vs σ Φ=>match vs with
  | v::vs=>semT X t v σ fun σ1=>semTs X ts vs σ1 Φ
  | []=>False
end
noncomputable def isNoRef:V→Bool
 | .ref _=>false
 | _=>true
mutual
noncomputable def semS (X:PX):Sx→PT Fl
 | .asg t e=>fun σ Φ=>(sem X e).val σ fun v σ1=>semT X t v σ1 fun σ2=>Φ .next σ2
 | .swap i j a b=>fun σ Φ=>(sem X a).val σ fun u σ1=>(sem X b).val σ1 fun v σ2=>allocW (.tup [u,v]) σ2 fun zz σ3=>Φ .next ⟨put (put σ3.ρ j v) i u,σ3.m⟩
 | .aug i op e=>fun σ Φ=>PT.var i σ fun u σ1=>(sem X e).val σ1 fun v σ2=>iopW op u v σ2 fun w σ3=>Φ .next ⟨put σ3.ρ i w,σ3.m⟩
 | .augA o n op e=>fun σ Φ=>(sem X o).val σ fun ov σ1=>attrW ov n σ1 fun u σ2=>(sem X e).val σ2 fun v σ3=>iopW op u v σ3 fun w σ4=>setAttrW ov n w σ4 fun σ5=>Φ .next σ5
 | .augI o i op e=>fun σ Φ=>(sem X o).val σ fun ov σ1=>(sem X i).val σ1 fun iv σ2=>itemW ov iv σ2 fun u σ3=>(sem X e).val σ3 fun v σ4=>iopW op u v σ4 fun w σ5=>setItemW ov iv w σ5 fun σ6=>Φ .next σ6
 | .ret e=>fun σ Φ=>(sem X e).val σ fun v σ1=>Φ (.ret v) σ1
 | .expr e=>fun σ Φ=>(sem X e).val σ fun v σ1=>isNoRef v=true∧Φ .next σ1
 | .ifS t a b=>fun σ Φ=>(sem X t).tru σ fun r σ1=>if r then semB X a σ1 Φ else semB X b σ1 Φ
 | .forS t it body=>fun σ Φ=>overW (sem X it).val σ fun a mo xs σ1=>loopW a mo (semT X t) (semB X body) xs σ1 Φ
 | .whileS t body=>fun σ Φ=>∃ n,whileW (sem X t).tru (semB X body) n σ Φ
 | .cont=>fun σ Φ=>Φ .cont σ
 | .bad=>fun zz zz=>False
noncomputable def semB (X:PX):Sxs→PT Fl
 | .nil=>fun σ Φ=>Φ .next σ
 | .cons s r=>fun σ Φ=>semS X s σ fun fl σ1=>match fl with
  | .next=>semB X r σ1 Φ
  | fl=>Φ fl σ1
end
structure CX where
 sc:Scope
 names:List Str
 fn:Bool
noncomputable def CX.kd (x:CX) (n:Str):Option NameKind:=x.sc.names.lookup n
noncomputable def idxL (x:Str):List Str→Nat
 | []=>0
 | y::r=>if y==x then 0 else idxL x r+1
noncomputable def slotX (cx:CX) (x:Str) (i:Nat):Bool:=decide (cx.names[i]?=some x)&&!(x==("__debug__":Str))&&(match cx.kd x with|some .local|some .cell|some .free=>!(x==("__classdict__":Str))|_=>false)
noncomputable def slotSX (cx:CX) (x:Str) (i:Nat):Bool:=decide (cx.names[i]?=some x)&&(cx.names.zipIdx.all fun p=>p.1 != x||p.2==i)&&(match cx.kd x with|some .local=>true|some .cell=>cx.fn|_=>false)
noncomputable def gfun:List (Str × Addr):=[(ofString "is_state_kind",61),(ofString "state_cells",145),(ofString "drivers",152),(ofString "ordered_cells",159),(ofString "comb_order",166),(ofString "used_nodes",272),(ofString "table_literal",279),(ofString "cell_literal",286),(ofString "literal_of",293),(ofString "from_netlist",300),(ofString "to_netlist",335),(ofString "_law_pick",342),(ofString "_law_table",349),(ofString "_law_near",356),(ofString "_law_netlist",361),(ofString "_law_states",366),(ofString "_law_patterns",371),(ofString "_law_word",378),(ofString "_law_words",383),(ofString "_law_sinks",388)]
noncomputable def gcls:List (Str × Addr):=[(ofString "Netlist",134),(ofString "Aig",261),(ofString "NetMaker",324)]
noncomputable def gint:List (Str × Int):=[(ofString "CONST0",0),(ofString "CONST1",1)]
noncomputable def gbi:List (Str × Bi):=[(ofString "len",.len),(ofString "range",.range),(ofString "list",.list),(ofString "tuple",.tuple),(ofString "min",.min),(ofString "sum",.sum),(ofString "str",.str)]
noncomputable def Bi.val:Bi→Value
 | .len=>.builtin "len"|.range=>.type "range"|.list=>.type "list"|.tuple=>.type "tuple"|.min=>.builtin "min"|.sum=>.builtin "sum"|.str=>.type "str"
noncomputable def attOf (x:Str):Option Att:=Att.all.find? fun a=>a.str==x
noncomputable def notCall:PySem.Expr→Bool
 | .Call ..=>false
 | .Starred ..=>false
 | _=>true
noncomputable def notStar:PySem.Expr→Bool
 | .Starred ..=>false
 | _=>true
noncomputable def notSlice:PySem.Expr→Bool
 | .Slice ..=>false
 | _=>true
noncomputable def isLC:PySem.Expr→Bool
 | .ListComp ..=>true
 | .SetComp ..=>true
 | .DictComp ..=>true
 | _=>false
noncomputable def isName:PySem.Expr→Bool
 | .Name ..=>true
 | _=>false
noncomputable def relabelX (scope:Scope) (out:Scope):Scope :=
 { scope with names:=scope.names.map fun (n,k)=>if (k==.free&&out.kind==.function&&out.names.lookup n==some .cell) then (n,.cell) else (n,k) }
noncomputable def maskX (sc:Scope) (names:List Str):List Str:=names.map fun x=>match sc.names.lookup x with|some .cell=>x|some .free=>x|_=>(ofString "")
noncomputable def locX (scope:Scope):List Str:=(scope.names.filter fun p=>p.2==.local&&p.1 != (".0":Str)).map (·.1)
noncomputable def compCX (cx:CX) (scope:Scope):CX:=⟨relabelX scope cx.sc,maskX (relabelX scope cx.sc) cx.names++locX scope,false⟩
noncomputable def compOk (cx:CX) (scope:Scope):Bool :=
 scope.kind==.function&&cx.sc.kind==.function&&decide ((scope.names.map (·.1)).Nodup)&&scope.names.all (fun p=>p.2 != .cell&&p.1 != (ofString "")) &&
 scope.names.all (fun p=>p.2 != .free||(match cx.kd p.1 with|some .cell=>true|some .free=>true|_=>false))
noncomputable def notTupP:PySem.Expr→PySem.Expr→Bool
 | .Tuple ..,.Tuple ..=>false
 | _,_=>true
noncomputable def FnD.cx (d:FnD):CX:=⟨d.fd.scope,d.names,true⟩
noncomputable def psOf (fd:FuncData):List Str:=fd.params.args.map (·.arg)
noncomputable def restOf (fd:FuncData):List Str:=(fd.scope.names.filter fun p=>(p.2==.local||p.2==.cell)&&!(psOf fd).contains p.1).map (·.1)
noncomputable def bodyOf (fd:FuncData):List Stmt:=match fd.body with|.stmts b=>b|_=>[]
noncomputable def defD (a:Addr) (fd:FuncData):FnD:=⟨a,fd,bodyOf fd,psOf fd,restOf fd⟩
noncomputable def FC.hold (c:FC) (a:Addr) (o:Obj):FC:=⟨c.X,c.A,c.env,fun b=>if b=a then some o else c.k b,c.names,c.own,c.E,c.fn⟩
section
variable {c:FC}{σ:St}{s:Shared}{a:Addr}{o:Obj}
theorem hold_sub (hk:c.k a=none):∀ b o',c.k b=some o'→(c.hold a o).k b=some o':=fun b o' e=>by
 show (if b=a then some o else c.k b)=some o'
 rw [if_neg (fun q=>by rw [q,hk] at e;cases e)];exact e
theorem hold_ok (O:c.Ok) (hk:c.k a=none):(c.hold a o).Ok:={
 G:=O.G
 base:=fun b o' e=>hold_sub hk b o' (O.base b o' e)
 kind:=O.kind
 glb:=O.glb
 blt:=O.blt
 loc:=O.loc
 room:=O.room
 hnd:=O.hnd
 cells:=fun x ca e=>by
  rcases O.cells x ca e with q|q
  ·exact .inl q
  ·obtain ⟨o',h⟩:=Option.isSome_iff_exists.mp q
   exact .inr (by rw [hold_sub hk ca o' h];rfl)
 inj:=O.inj
 lne:=O.lne
 cown:=O.cown
 frames:=by
  obtain ⟨l,h1,h2⟩:=O.frames
  refine ⟨l,h1,fun env he=>?_⟩
  obtain ⟨q1,L,q2,q3⟩:=h2 env he
  refine ⟨q1,L,q2,?_⟩
  rcases q3 with q3|⟨o',q3,q4⟩
  ·exact .inl q3
  ·exact .inr ⟨o',hold_sub hk L o' q3,q4⟩
 pass:=O.pass
 cdom:=O.cdom
 fly:=fun ea m k' s' hk' ho' hf hψ=>O.fly ea m k' s' (fun b o' e=>hk' b o' (hold_sub hk b o' e)) ho' hf hψ }
theorem Rel.hold (R:Rel c σ s) (ho:s.heap.get? a=some o) (hm:σ.m a=none) (hk:c.k a=none) (hw:a∉c.own):Rel (c.hold a o) σ s :=
 ⟨⟨R.S.gens,R.S.drawn,R.S.os,⟨R.S.mem.rep,fun b o' e=>by
   by_cases q:b=a
   ·subst q
    have:some o=some o':=by rw [←e];exact (if_pos rfl).symm
    cases this;exact ho
   ·exact R.S.mem.keep b o' (by rw [←e];exact (if_neg q).symm),fun b o' e=>by
   by_cases q:b=a
   ·subst q;exact hm
   ·exact R.S.mem.apart b o' (by rw [←e];exact (if_neg q).symm)⟩,R.S.lo⟩,⟨R.F.loc,R.F.cel,R.F.len⟩,fun b hb=>⟨(R.O b hb).1,by
   show (if b=a then some o else c.k b)=none
   rw [if_neg (fun q:b=a=>hw (q▸hb))];exact (R.O b hb).2⟩,R.B,R.C⟩
theorem Rel.unhold (R:Rel (c.hold a o) σ s) (hk:c.k a=none):Rel c σ s∧s.heap.get? a=some o∧σ.m a=none∧a∉c.own:=by
 have ha:(c.hold a o).k a=some o:=if_pos rfl
 have sub:=hold_sub (o:=o) hk
 refine ⟨⟨⟨R.S.gens,R.S.drawn,R.S.os,⟨R.S.mem.rep,fun b o' e=>R.S.mem.keep b o' (sub b o' e),fun b o' e=>R.S.mem.apart b o' (sub b o' e)⟩,R.S.lo⟩,⟨R.F.loc,R.F.cel,R.F.len⟩,fun b hb=>⟨(R.O b hb).1,?_⟩,R.B,R.C⟩,R.S.mem.keep a o ha,R.S.mem.apart a o ha,fun hb=>?_⟩
 ·have h2:=(R.O b hb).2
  by_cases q:b=a
  ·subst q;exact hk
  ·rw [←h2];exact (if_neg q).symm
 ·have:=(R.O a hb).2;rw [ha] at this;cases this
theorem Rel.fresh3 (R:Rel c σ s):σ.m s.heap.objs.size=none∧c.k s.heap.objs.size=none∧s.heap.objs.size∉c.own:=⟨R.S.mem.newAt.1,R.S.mem.newAt.2,R.fresh⟩
theorem Rel.adopt (R:Rel c σ s) (O:c.Ok) {mo:MO} (ho:s.heap.get? a=some o) (hm:σ.m a=none) (hk:c.k a=none) (hw:a∉c.own) (h2:2<a) (r:ORel c.X.G.w s.heap o mo):Rel c ⟨σ.ρ,upd σ.m a mo⟩ s:=by
 refine ⟨⟨R.S.gens,R.S.drawn,R.S.os,⟨fun b mo' e=>?_,R.S.mem.keep,fun b o' e=>?_⟩,fun b mo' e=>?_⟩,R.F,fun b hb=>⟨?_,(R.O b hb).2⟩,R.B,R.C⟩
 ·by_cases q:b=a
  ·subst q;obtain rfl:=Option.some.inj ((upd_same σ.m _ mo).symm.trans e);exact ⟨o,ho,r⟩
  ·exact R.S.mem.rep b mo' ((upd_ne (m:=σ.m) q).symm.trans e)
 ·have q:b≠a:=fun q=>by subst q;rw [hk] at e;cases e
  show upd _ _ _ b=none;rw [upd_ne q];exact R.S.mem.apart b o' e
 ·by_cases q:b=a
  ·rw [q];exact h2
  ·exact R.S.lo b mo' ((upd_ne (m:=σ.m) q).symm.trans e)
 ·have q:b≠a:=fun q=>hw (q▸hb)
  show upd _ _ _ b=none;rw [upd_ne q];exact (R.O b hb).1
end
noncomputable def gFacts (K:Frag):Bool:=gfun.all (fun p=>nsIn K mainGlobals p.1==some (some (.ref p.2))&&(match K.lookup p.2 with|some ⟨_,_,.func _,_⟩=>true|_=>false))&&gcls.all (fun p=>nsIn K mainGlobals p.1==some (some (.ref p.2))&&okCls.contains p.2) &&
 gint.all (fun p=>match nsIn K mainGlobals p.1 with|some (some (.int i _))=>i==p.2|_=>false)&&gbi.all (fun p=>nsIn K mainGlobals p.1==some none&&bootBuiltins p.1==some p.2.val&&p.1 != (ofString "__name__"))
theorem gFacts_ok (P:Params):gFacts (KF P)=true:=by kernel_rfl
theorem mem_of_look {α:Type}{x:Str}{v:α}{l:List (Str × α)} (h:l.lookup x=some v):(x,v)∈l:=mem_of_lookup h
set_option tactic.hygienic true in
theorem gfun_at {P:Params}{x:Str}{a:Addr} (h:gfun.lookup x=some a):nsIn (KF P) mainGlobals x=some (some (.ref a))∧∃ cl d fd sl,(KF P).lookup a=some ⟨cl,d,.func fd,sl⟩:=by
 have:=gFacts_ok P
 unfold gFacts at this
 simp only [Bool.and_eq_true] at this
 have:=List.all_eq_true.mp this.1.1.1 _ (mem_of_look h)
 simp only [Bool.and_eq_true,beq_iff_eq] at this
 refine ⟨this.1,?_⟩
 have h2:=this.2
 split at h2
 ·rename_i e;exact ⟨_,_,_,_,e⟩
 ·cases h2
theorem gcls_at {P:Params}{x:Str}{a:Addr} (h:gcls.lookup x=some a):nsIn (KF P) mainGlobals x=some (some (.ref a))∧a∈okCls:=by
 have:=gFacts_ok P
 unfold gFacts at this
 simp only [Bool.and_eq_true] at this
 have:=List.all_eq_true.mp this.1.1.2 _ (mem_of_look h)
 simp only [Bool.and_eq_true,beq_iff_eq] at this
 exact ⟨this.1,by simpa using this.2⟩
set_option tactic.hygienic true in
theorem gint_at {P:Params}{x:Str}{i:Int} (h:gint.lookup x=some i):∃ t,nsIn (KF P) mainGlobals x=some (some (.int i t)):=by
 have:=gFacts_ok P
 unfold gFacts at this
 simp only [Bool.and_eq_true] at this
 have:=List.all_eq_true.mp this.1.2 _ (mem_of_look h)
 split at this
 ·rename_i j t e;have:=beq_iff_eq.mp this;subst this;exact ⟨t,e⟩
 ·cases this
theorem gbi_at {P:Params}{x:Str}{b:Bi} (h:gbi.lookup x=some b):nsIn (KF P) mainGlobals x=some none∧bootBuiltins x=some b.val∧x≠"__name__":=by
 have:=gFacts_ok P
 unfold gFacts at this
 simp only [Bool.and_eq_true] at this
 have:=List.all_eq_true.mp this.2 _ (mem_of_look h)
 simp only [Bool.and_eq_true,beq_iff_eq,bne_iff_ne,ne_eq] at this
 exact ⟨this.1.1,this.1.2,this.2⟩
section
variable {c:FC}{σ:St}{s:Shared}{E:Value→Shared→Prop}{A:Around}
theorem loadGlob {x:Str}{v:Value}{Q:Value→Shared→Prop} (O:c.Ok) (hk:c.env.kindOf x=some .globalImplicit) (h:wpAny (MW c.X.G.w) A (loadGlobal c.env x) Q E s):wpAny (MW c.X.G.w) A (loadName c.env x) Q E s:=by
 unfold loadName
 have hb:c.env.blockKind=.function:=by unfold Env.blockKind;rw [O.kind];rfl
 have ha:c.env.scope.kind.isAnnotationScope=false:=by rw [O.kind];rfl
 rw [hk,hb,ha]
 exact h
theorem ev_global {x:Str}{pos:Pos}{v:Value}{Q:Value→Shared→Prop} (O:c.Ok) (R:Rel c σ s) (hk:c.env.kindOf x=some .globalImplicit) (hd:(x==("__debug__":Str))=false) (hv:nsIn (KF c.X.G.w.params) mainGlobals x=some (some v)) (h:Q v s) :
  wpAny (MW c.X.G.w) A (eval (.Name x pos) c.env) Q E s:=by
 refine wpAny_Name (loadGlob (v:=v) O hk ?_) hd
 unfold loadGlobal
 rw [O.glb]
 exact wpAny_bind ((looks_nsIn (R.kf O) hv).here (wpAny_pure h))
theorem ev_builtin {x:Str}{pos:Pos}{v:Value}{Q:Value→Shared→Prop} (O:c.Ok) (R:Rel c σ s) (hk:c.env.kindOf x=some .globalImplicit) (hd:(x==("__debug__":Str))=false) (hv:nsIn (KF c.X.G.w.params) mainGlobals x=some none)
  (hb:bootBuiltins x=some v) (hn:x≠"__name__") (h:Q v s):wpAny (MW c.X.G.w) A (eval (.Name x pos) c.env) Q E s:=by
 refine wpAny_Name (loadGlob (v:=v) O hk ?_) hd
 unfold loadGlobal
 rw [O.glb,O.blt]
 refine wpAny_bind ((looks_nsIn (R.kf O) hv).here ?_)
 obtain ⟨mb,h1,h2⟩:=O.G.blt
 have h1':s.heap.Ns builtinsNs mb:=h1.keeps fun a o e=>R.h0 O e
 refine wpAny_bind (wpAny_nsGet h1' ?_)
 rw [(h2 x hn).trans hb]
 exact wpAny_pure h
theorem evl_nil {X:PX}:EvL c [] (semL X .nil):=fun pos σ s Φ R h=>Calls.spliced_nil ⟨σ,R,h⟩
theorem star_cons {e:PySem.Expr}{es:List PySem.Expr}{env:Env} (h:notStar e=true):starEach (e::es) env=(false,eval e env)::starEach es env:=by
 cases e <;> first|rfl|cases h
theorem back_cons {pos:Pos}{t:Sem Value}{r:List (Bool × Sem Value)}:backTo pos ((false,t)::r)=(false,t)::backTo pos r:=by
 unfold backTo;rfl
theorem evl_cons {e:PySem.Expr}{es:List PySem.Expr}{t:PT V}{ts:PT (List V)} (hs:notStar e=true) (h1:EvE c e t) (h2:EvL c es ts):EvL c (e::es) (fun σ Φ=>t σ fun v σ1=>ts σ1 fun vs σ2=>Φ (v::vs) σ2):=by
 intro pos σ s Φ R h
 rw [star_cons hs,back_cons]
 refine Calls.spliced_cons (got_mono (h1 σ s _ R h) (fun v s1 σ1 R1 h=>got_mono (h2 pos σ1 s1 _ R1 h) (fun vs s2 σ2 R2 h=>⟨σ2,R2,h⟩)))
theorem args_ok {f:Value}{es:List PySem.Expr}{ts:PT (List V)}{pos:Pos}{Φ:List V→St→Prop} (hst:es.all notStar=true) (h:EvL c es ts) (R:Rel c σ s) (ht:ts σ Φ) :
  wpAny (MW c.X.G.w) c.A (evalArgs f true (backTo pos (starEach es c.env)) []) (fun a s'=>a.kw=[]∧Met c (Φ (a.pos.map vof)) s') c.E s:=by
 have:=h pos σ s Φ R ht
 cases es with
 | nil =>
  unfold evalArgs
  show wpAny _ _ (spliced (backTo pos (starEach [] c.env))>>=_) _ _ s
  refine wpAny_bind (wpAny_mono this (fun vs s' q=>?_) fun zz zz e=>e)
  refine wpAny_holding ?_
  exact wpAny_bind (wpAny_pure (wpAny_bind (wpAny_pure (wpAny_pure ⟨rfl,q⟩))))
 | cons e r =>
  have hs:notStar e=true:=by simp at hst;exact hst.1
  rw [star_cons hs,back_cons] at this ⊢
  exact Calls.evalArgs_plain (wpAny_mono this (fun vs s' q=>⟨rfl,q⟩) fun zz zz e=>e)
end
section
variable {c:FC}{σ:St}{s:Shared}{E:Value→Shared→Prop}{A:Around}
noncomputable def EvP (c:FC) (e:PySem.Expr) (t:Sm):Prop:=EvE c e t.val∧EvT c e t.tru
noncomputable def plainT:PySem.Expr→Bool
 | .UnaryOp .Not _ _=>false
 | .BoolOp ..=>false
 | .IfExp ..=>false
 | .Compare ..=>false
 | _=>true
theorem isTrue_of_plain {e:PySem.Expr}{env:Env}{whole:Sem Value} (h:plainT e=true):isTrue e env whole=(do let v←whole;standAt e.pos;holding [v] (truthy v)):=by
 cases e with
 | UnaryOp op a p=>cases op <;> first|rfl|cases h
 | BoolOp=>cases h
 | IfExp=>cases h
 | Compare=>cases h
 | _=>rfl
theorem evp_ofV {e:PySem.Expr}{t:PT V} (hp:plainT e=true) (h:EvE c e t):EvP c e (.ofV t) :=
 ⟨h,fun σ s Φ R ht=>PyProof.Rows.isTrue_plain (got_mono (h σ s _ R ht) (fun v s1 σ1 R1 q=>truth_ok R1 q)) (isTrue_of_plain hp)⟩
theorem ev_bin {l r:PySem.Expr}{op:Operator}{pos:Pos}{ta tb:PT V} (O:c.Ok) (h1:EvE c l ta) (h2:EvE c r tb):EvE c (.BinOp l op r pos) (fun σ Φ=>ta σ fun u σ1=>tb σ1 fun v σ2=>binW op u v σ2 Φ) :=
 fun σ s Φ R h=>wpAny_BinOp (got_mono (h1 σ s _ R h) (fun u s1 σ1 R1 q1=>got_mono (h2 σ1 s1 _ R1 q1) (fun v s2 σ2 R2 q2=>bin_ok R2 O q2)))
theorem ev_cmp {l r:PySem.Expr}{op:CmpOp}{pos:Pos}{ta tb:PT V} (O:c.Ok) (hm:behindInMarks op r=false) (h1:EvE c l ta) (h2:EvE c r tb) :
  EvP c (.Compare l [op] [r] pos) ⟨fun σ Φ=>ta σ fun u σ1=>tb σ1 fun v σ2=>cmpW op u v σ2 fun r σ3=>Φ (.bool r) σ3,fun σ Φ=>ta σ fun u σ1=>tb σ1 fun v σ2=>cmpW op u v σ2 Φ⟩ :=
 ⟨fun σ s Φ R h=>wpAny_Compare1 (got_mono (h1 σ s _ R h) (fun u s1 σ1 R1 q1=>got_mono (h2 σ1 s1 _ R1 q1) (fun v s2 σ2 R2 q2 =>
   wpAny_mono (compare_ok O R2 q2) (fun x s3 ⟨r,σ3,e,R3,q3⟩=>⟨σ3,R3,by rw [e];exact q3⟩) fun zz zz e=>e))) hm,
 fun σ s Φ R h=>wpAny_isTrue_Compare1 (got_mono (h1 σ s _ R h) (fun u s1 σ1 R1 q1=>got_mono (h2 σ1 s1 _ R1 q1) (fun v s2 σ2 R2 q2 =>
   wpAny_mono (compare_ok O R2 q2) (fun x s3 ⟨r,σ3,e,R3,q3⟩=>by rw [e];exact wpAny_truthy_bool ⟨σ3,R3,q3⟩) fun zz zz e=>e))) hm⟩
theorem ev_neg {a:PySem.Expr}{pos:Pos}{t:PT V} (h1:EvE c a t):EvE c (.UnaryOp .USub a pos) (fun σ Φ=>t σ fun u σ1=>negW u σ1 Φ) :=
 fun σ s Φ R h=>wpAny_UnaryOp (got_mono (h1 σ s _ R h) (fun u s1 σ1 R1 q1=>neg_ok R1 q1))
theorem ev_not {a:PySem.Expr}{pos:Pos}{t:PT Bool} (h1:EvT c a t):EvP c (.UnaryOp .Not a pos) ⟨fun zz zz=>False,fun σ Φ=>t σ fun r σ1=>Φ (!r) σ1⟩ :=
 ⟨fun σ s Φ R h=>h.elim,fun σ s Φ R h=>PyProof.Rows.isTrue_not (got_mono (h1 σ s _ R h) (fun r s1 σ1 R1 q1=>⟨σ1,R1,q1⟩))⟩
theorem ev_ite {t a b:PySem.Expr}{pos:Pos}{tt ta tb:Sm} (h0:EvP c t tt) (h1:EvP c a ta) (h2:EvP c b tb) :
  EvP c (.IfExp t a b pos) ⟨fun σ Φ=>tt.tru σ fun r σ1=>if r then ta.val σ1 Φ else tb.val σ1 Φ,fun σ Φ=>tt.tru σ fun r σ1=>if r then ta.tru σ1 Φ else tb.tru σ1 Φ⟩ :=
 ⟨fun σ s Φ R h=>wpAny_IfExp (got_mono (h0.2 σ s _ R h) (fun r s1 σ1 R1 q1=>by
   cases r
   ·exact h2.1 σ1 s1 _ R1 q1
   ·exact h1.1 σ1 s1 _ R1 q1)),
 fun σ s Φ R h=>PyProof.Rows.isTrue_IfExp (got_mono (h0.2 σ s _ R h) (fun r s1 σ1 R1 q1=>by
   cases r
   ·exact h2.2 σ1 s1 _ R1 q1
   ·exact h1.2 σ1 s1 _ R1 q1))⟩
noncomputable def EvB (c:FC) (op:BoolOp) (vs:List PySem.Expr) (t:Sm):Prop :=
 (∀ (pos:Pos) (σ:St) (s:Shared) (Φ:V→St→Prop),Rel c σ s→t.val σ Φ→wpAny (MW c.X.G.w) c.A (boolOp pos op (evalEach vs c.env)) (post c Φ) c.E s) ∧
 (∀ (σ:St) (s:Shared) (Φ:Bool→St→Prop),Rel c σ s→t.tru σ Φ→wpAny (MW c.X.G.w) c.A (allTrue op vs c.env) (postB c Φ) c.E s)
theorem evb_one {op:BoolOp}{x:PySem.Expr}{t:Sm} (h:EvP c x t):EvB c op [x] t :=
 ⟨fun pos σ s Φ R q=>h.1 σ s Φ R q,fun σ s Φ R q=>by
  rw [arm_allTrue_cons]
  refine wpAny_bind (wpAny_mono (h.2 σ s Φ R q) (fun r s1 q1=>?_) fun zz zz e=>e)
  cases op <;> cases r <;> first|exact wpAny_pure q1|exact wpAny_pure q1⟩
theorem evb_and {x y:PySem.Expr}{r:List PySem.Expr}{a b:Sm} (h1:EvP c x a) (h2:EvB c .And (y::r) b) :
  EvB c .And (x::y::r) ⟨fun σ Φ=>a.val σ fun v σ1=>truthW v σ1 fun r σ2=>if r then b.val σ2 Φ else Φ v σ2,fun σ Φ=>a.tru σ fun r σ1=>if r then b.tru σ1 Φ else Φ false σ1⟩ :=
 ⟨fun pos σ s Φ R q=>by
  show wpAny _ _ (eval x c.env>>=_) _ _ s
  refine wpAny_bind (got_mono (h1.1 σ s _ R q) (fun v s1 σ1 R1 q1=>?_))
  refine wpAny_bind (wpAny_standAt (wpAny_bind (wpAny_holding (got_mono (truth_ok R1 q1) (fun t s2 σ2 R2 q2=>?_)))))
  cases t
  ·exact wpAny_pure ⟨σ2,R2,q2⟩
  ·exact h2.1 pos σ2 s2 Φ R2 q2,
 fun σ s Φ R q=>by
  rw [arm_allTrue_cons]
  refine wpAny_bind (got_mono (h1.2 σ s _ R q) (fun t s1 σ1 R1 q1=>?_))
  cases t
  ·exact wpAny_pure ⟨σ1,R1,q1⟩
  ·exact h2.2 σ1 s1 Φ R1 q1⟩
theorem evb_or {x y:PySem.Expr}{r:List PySem.Expr}{a b:Sm} (h1:EvP c x a) (h2:EvB c .Or (y::r) b) :
  EvB c .Or (x::y::r) ⟨fun σ Φ=>a.val σ fun v σ1=>truthW v σ1 fun r σ2=>if r then Φ v σ2 else b.val σ2 Φ,fun σ Φ=>a.tru σ fun r σ1=>if r then Φ true σ1 else b.tru σ1 Φ⟩ :=
 ⟨fun pos σ s Φ R q=>by
  show wpAny _ _ (eval x c.env>>=_) _ _ s
  refine wpAny_bind (got_mono (h1.1 σ s _ R q) (fun v s1 σ1 R1 q1=>?_))
  refine wpAny_bind (wpAny_standAt (wpAny_bind (wpAny_holding (got_mono (truth_ok R1 q1) (fun t s2 σ2 R2 q2=>?_)))))
  cases t
  ·exact h2.1 pos σ2 s2 Φ R2 q2
  ·exact wpAny_pure ⟨σ2,R2,q2⟩,
 fun σ s Φ R q=>by
  rw [arm_allTrue_cons]
  refine wpAny_bind (got_mono (h1.2 σ s _ R q) (fun t s1 σ1 R1 q1=>?_))
  cases t
  ·exact h2.2 σ1 s1 Φ R1 q1
  ·exact wpAny_pure ⟨σ1,R1,q1⟩⟩
theorem ev_boolop {op:BoolOp}{vs:List PySem.Expr}{pos:Pos}{t:Sm} (h:EvB c op vs t):EvP c (.BoolOp op vs pos) t :=
 ⟨fun σ s Φ R q=>by rw [arm_eval_BoolOp];exact h.1 pos σ s Φ R q,fun σ s Φ R q=>by rw [arm_isTrue_BoolOp];exact h.2 σ s Φ R q⟩
theorem base_of {o:PySem.Expr}{attr:Str}{env:Env}{w:Sem Value} (h:notCall o=true):attributeBase o attr env w=w:=by
 cases o <;> first|rfl|cases h
theorem ev_attr {v:PySem.Expr}{n:Att}{pos:Pos}{t:PT V} (O:c.Ok) (hn:notCall v=true) (h1:EvE c v t):EvE c (.Attribute v n.str pos) (fun σ Φ=>t σ fun u σ1=>attrW u n σ1 Φ) :=
 fun σ s Φ R h=>PyProof.Rows.Attribute_any_ (got_mono (h1 σ s _ R h) (fun u s1 σ1 R1 q1=>attr_ok R1 O q1)) (by rw [arm_eval_Attribute,base_of hn])
theorem sub_of {sl:PySem.Expr}{o i:Value} (h:notSlice sl=true):subscripted sl false o i=operate [o,i] (getItem o i):=by
 cases sl <;> first|rfl|cases h
theorem tail_ok {value sl:PySem.Expr}{o i:Value}{Φ:V→St→Prop} (O:c.Ok) (R:Rel c σ s) (hs:notSlice sl=true) (h:itemW (vof o) (vof i) σ Φ):wpAny (MW c.X.G.w) c.A (subscriptTail value sl o i) (post c Φ) c.E s:=by
 have hg:=item_ok (E:=c.E) (A:=c.A) R (by have:=O.units;lia) h
 cases h with
 | list l xs k y ha hm =>
  obtain ⟨items,n,ho,e,hz⟩:=R.list hm
  rw [vof_ref ha] at hg ⊢
  exact PyProof.Rows.tail_any (T:="list") ⟨_,ho,rfl⟩ slot_list_getitem.lookup hg (sub_of hs)
 | tup l xs k y ha hm =>
  obtain ⟨items,n,ho,e,hz⟩:=R.tup hm
  rw [vof_ref ha] at hg ⊢
  exact PyProof.Rows.tail_any (T:="tuple") ⟨_,ho,rfl⟩ PySem.F.slot_tuple_getitem.lookup hg (sub_of hs)
 | dict l es key y ha hm =>
  obtain ⟨o,ents,ep,ho,hx,hd,he,hv'⟩:=R.dict hm
  rw [vof_ref ha] at hg ⊢
  exact PyProof.Rows.tail_any (T:="dict") ⟨_,ho,hx.1⟩ slot_dict_getitem.lookup hg (sub_of hs)
theorem ev_item {v i:PySem.Expr}{pos:Pos}{ta tb:PT V} (O:c.Ok) (hs:notSlice i=true) (h1:EvE c v ta) (h2:EvE c i tb):EvE c (.Subscript v i pos) (fun σ Φ=>ta σ fun u σ1=>tb σ1 fun w σ2=>itemW u w σ2 Φ) :=
 fun σ s Φ R h=>PyProof.Rows.Subscript_ (got_mono (h1 σ s _ R h) (fun u s1 σ1 R1 q1=>got_mono (h2 σ1 s1 _ R1 q1) (fun w s2 σ2 R2 q2=>tail_ok O R2 hs q2)))
noncomputable def EvO (c:FC) (e:Option PySem.Expr) (t:PT V):Prop:=∀ (σ:St) (s:Shared) (Φ:V→St→Prop),Rel c σ s→t σ Φ→wpAny (MW c.X.G.w) c.A (evalPart e c.env) (post c Φ) c.E s
theorem evo_none:EvO c none (PT.lit .none):=fun σ s Φ R h=>wpAny_pure ⟨σ,R,h⟩
theorem evo_some {e:PySem.Expr}{t:PT V} (h:EvE c e t):EvO c (some e) t:=h
theorem ev_slice {v:PySem.Expr}{lo hi:Option PySem.Expr}{p pos:Pos}{ta tb tc:PT V} (O:c.Ok) (h1:EvE c v ta) (h2:EvO c lo tb) (h3:EvO c hi tc) :
  EvE c (.Subscript v (.Slice lo hi none p) pos) (fun σ Φ=>ta σ fun u σ1=>tb σ1 fun x σ2=>tc σ2 fun y σ3=>sliceW u x y σ3 Φ):=by
 intro σ s Φ R h
 refine PyProof.Rows.Subscript_ (got_mono (h1 σ s _ R h) (fun u s1 σ1 R1 q1=>?_))
 refine wpAny_Slice (got_mono (h2 σ1 s1 _ R1 q1) (fun x s2 σ2 R2 q2=>got_mono (h3 σ2 s2 _ R2 q2) (fun y s3 σ3 R3 q3=>wpAny_pure ?_)))
 have R4:=R3.push { cls:=.type "slice",data:=.fields #[x,y,.none] } s3.toks
 have hsl:({ s3 with heap:=s3.heap.push { cls:=.type "slice",data:=.fields #[x,y,.none] },toks:=s3.toks }:Shared).heap.IsSliceOf s3.heap.objs.size x y .none:=⟨_,Heap.get?_push_size _ rfl,rfl,rfl⟩
 have hg:=slice_ok (E:=c.E) (A:=c.A) R4 O hsl q3
 obtain ⟨l,xs,ys,p,q,ha,hm,_,_,_,_⟩:=q3
 obtain ⟨items,n,ho,e,hz⟩:=R4.list hm
 rw [vof_ref ha] at hg ⊢
 exact PyProof.Rows.tail_any (T:="list") ⟨_,ho,rfl⟩ slot_list_getitem.lookup hg rfl
theorem vs_len {vs:List Value} (h:(vs.map vof).length<1000000):vs.length≤sizeLine:=by rw [sizeLine_eq];rw [List.length_map] at h;exact hi1 h rfl
theorem ev_list {es:List PySem.Expr}{pos:Pos}{t:PT (List V)} (O:c.Ok) (h:EvL c es t):EvE c (.List es pos) (fun σ Φ=>t σ fun vs σ1=>vs.length<1000000∧allocW (.list vs) σ1 Φ) :=
 fun σ s Φ R q=>wpAny_List (got_mono (h pos σ s _ R q) (fun vs s1 σ1 R1 q =>
  have hz:=vs_len q.1
  ⟨hz,R1.allocd O rfl (ORel.list_ seq_map (by rw [List.size_toArray];exact hz)) q.2 _⟩))
theorem ev_tuple {es:List PySem.Expr}{k:Nat}{pos:Pos}{t:PT (List V)} (O:c.Ok) (h:EvL c es t):EvE c (.Tuple es k pos) (fun σ Φ=>t σ fun vs σ1=>vs.length<1000000∧allocW (.tup vs) σ1 Φ) :=
 fun σ s Φ R q=>PySem.wpAny_Tuple (got_mono (h pos σ s _ R q) (fun vs s1 σ1 R1 q =>
  have hz:=vs_len q.1
  ⟨hz,R1.allocd O rfl (ORel.tup_ seq_map (by rw [List.size_toArray];exact hz)) q.2 _⟩))
end
noncomputable def allFns:List Addr:=gfun.map (·.2)++gcls.map (·.2)++methTab.map (·.2.2)
noncomputable def keepFacts (K:Frag):Bool:=allFns.all (fun a=>keepIn K (.ref a))&&methTab.all (fun x=>findIn K (.ref x.1) x.2.1==some (some (.ref x.2.2))&&typeIn K (.ref x.2.2)==some (.type "function")&&okCls.contains x.1&&!(Att.all.any fun n=>n.str==x.2.1))
theorem keepFacts_ok (P:Params):keepFacts (KF P)=true:=by kernel_rfl
theorem keep_at {P:Params}{a:Addr} (h:a∈allFns):keepIn (KF P) (.ref a)=true:=by
 have:=keepFacts_ok P
 unfold keepFacts at this
 simp only [Bool.and_eq_true] at this
 exact List.all_eq_true.mp this.1 a h
theorem meth_at {P:Params}{C f:Addr}{n:Str} (h:methAt C n=some f):findIn (KF P) (.ref C) n=some (some (.ref f))∧typeIn (KF P) (.ref f)=some (.type "function")∧C∈okCls∧(∀ m:Att,m.str≠n)∧f∈allFns:=by
 unfold methAt at h
 obtain ⟨x,hx,rfl⟩:=Option.map_eq_some_iff.mp h
 have hm:=List.mem_of_find?_eq_some hx
 have hp:=List.find?_some hx
 simp only [Bool.and_eq_true,beq_iff_eq] at hp
 obtain ⟨rfl,rfl⟩:=hp
 have:=keepFacts_ok P
 unfold keepFacts at this
 simp only [Bool.and_eq_true] at this
 have:=List.all_eq_true.mp this.2 x hm
 simp only [Bool.and_eq_true,beq_iff_eq,Bool.not_eq_true'] at this
 obtain ⟨⟨⟨h1,h2⟩,h3⟩,h4⟩:=this
 refine ⟨h1,h2,by simpa using h3,fun m e=>?_,?_⟩
 ·have mm:m∈Att.all:=by cases m <;> decide
  have:=List.any_eq_false.mp h4 m mm
  simp [e] at this
 ·unfold allFns
  exact List.mem_append_right _ (List.mem_map.mpr ⟨x,hm,rfl⟩)
section
variable {c:FC}{σ:St}{s:Shared}{E:Value→Shared→Prop}{A:Around}
theorem star_plain {pos:Pos}{env:Env}:∀ {es:List PySem.Expr},es.all notStar=true→(backTo pos (starEach es env)).any (·.1)=false
 | [],_=>rfl
 | e::es,h=>by
  rw [List.all_cons,Bool.and_eq_true] at h
  rw [star_cons h.1,back_cons,List.any_cons,star_plain h.2];rfl
theorem callK {a:Addr}{es:List PySem.Expr}{ts:PT (List V)}{pos:Pos}{first:List Value}{Φ:V→St→Prop} (O:c.Ok) (hk:a∈allFns) (hst:es.all notStar=true) (h:EvL c es ts) (R:Rel c σ s)
  (ht:ts σ fun vs σ1=>callW c.X.G c.X.r c.X.Ψ (.ref a) (first.map vof++vs) σ1.m fun v m'=>Φ v ⟨σ1.ρ,m'⟩):wpAny (MW c.X.G.w) c.A (callWith pos (.ref a) first (backTo pos (starEach es c.env)) []) (post c Φ) c.E s:=by
 refine callWith_of (P:=Frag.In (KF c.X.G.w.params)) (by rw [star_plain hst];rfl) (keeps_K (keep_at hk)) (wpAny_mono (args_ok hst h R ht) (fun a1 s1 ⟨hkw,σ1,R1,q⟩=>⟨R1.kf O,?_⟩) fun zz zz e=>e)
 rw [hkw]
 exact call_ok R1 O (by rw [List.map_append];exact q)
theorem ev_call {f:Str}{p pos:Pos}{a:Addr}{es:List PySem.Expr}{ts:PT (List V)} (O:c.Ok) (hf:gfun.lookup f=some a∨gcls.lookup f=some a) (hkd:c.env.kindOf f=some .globalImplicit) (hd:(f==("__debug__":Str))=false) (hst:es.all notStar=true) (h:EvL c es ts) :
  EvE c (.Call (.Name f p) es [] pos) (fun σ Φ=>ts σ fun vs σ1=>callW c.X.G c.X.r c.X.Ψ (.ref a) vs σ1.m fun v m'=>Φ v ⟨σ1.ρ,m'⟩):=by
 intro σ s Φ R q
 have hv:nsIn (KF c.X.G.w.params) mainGlobals f=some (some (.ref a)):=by
  rcases hf with hf|hf
  ·exact (gfun_at hf).1
  ·exact (gcls_at hf).1
 have hm:a∈allFns:=by
  unfold allFns
  rcases hf with hf|hf
  ·exact List.mem_append_left _ (List.mem_append_left _ (List.mem_map.mpr ⟨_,mem_of_look hf,rfl⟩))
  ·exact List.mem_append_left _ (List.mem_append_right _ (List.mem_map.mpr ⟨_,mem_of_look hf,rfl⟩))
 refine wpAny_Call_Name_kw (ev_global O R hkd hd hv ?_)
 exact callK (first:=[]) O hm hst h R q
@[elab_as_elim] theorem OneW.el {f:V→St→(V→St→Prop)→Prop}{vs:List Value}{Φ:V→St→Prop}{P:List Value→Prop} (h:OneW f (vs.map vof) σ Φ) (k:∀ v,f (vof v) σ Φ→P [v]):P vs:=by
 obtain ⟨v,e,h⟩:=h
 obtain ⟨v',rfl,rfl⟩:=List.map_eq_singleton_iff.mp e
 exact k v' h
theorem bi_ok {b:Bi}{vs:List Value}{Φ:V→St→Prop} (O:c.Ok) (R:Rel c σ s) (h:biW b (vs.map vof) σ Φ):wpAny (MW c.X.G.w) c.A (call b.val vs) (post c Φ) c.E s:=by
 unfold biW at h
 cases b with
 | len=>exact OneW.el h fun v h=>len_ok R h
 | list=>exact OneW.el h fun v h=>list_ok R O h
 | tuple=>exact OneW.el h fun v h=>tuple_ok R O h
 | sum=>exact OneW.el h fun v h=>sum_ok R O.hnd h
 | str=>exact OneW.el h fun v h=>strInt_ok R h
 | min =>
  obtain ⟨i,j,e,h⟩:=h
  obtain ⟨x,y,rfl,ex,ey⟩:=map2 e
  obtain ⟨t,rfl⟩:=vof_int ex
  obtain ⟨t2,rfl⟩:=vof_int ey
  exact min_ok R O.hnd h
 | range =>
  cases h with
  | one n e h =>
   obtain ⟨v',rfl,e'⟩:=List.map_eq_singleton_iff.mp e
   obtain ⟨t,rfl⟩:=vof_int e'
   exact range1_ok R O h
  | three a b d e h =>
   obtain ⟨x,r,rfl,e1,e⟩:=List.map_eq_cons_iff.mp e
   obtain ⟨y,z,rfl,e2,e3⟩:=map2 e
   obtain ⟨t,rfl⟩:=vof_int e1
   obtain ⟨t2,rfl⟩:=vof_int e2
   obtain ⟨t3,rfl⟩:=vof_int e3
   exact range3_ok R O h
theorem ev_bi {f:Str}{p pos:Pos}{b:Bi}{es:List PySem.Expr}{ts:PT (List V)} (O:c.Ok) (hf:gbi.lookup f=some b) (hkd:c.env.kindOf f=some .globalImplicit) (hd:(f==("__debug__":Str))=false) (hst:es.all notStar=true) (h:EvL c es ts) :
  EvE c (.Call (.Name f p) es [] pos) (fun σ Φ=>ts σ fun vs σ1=>biW b vs σ1 Φ):=by
 intro σ s Φ R q
 obtain ⟨h1,h2,h3⟩:=gbi_at (P:=c.X.G.w.params) hf
 refine wpAny_Call_Name_kw (ev_builtin O R hkd hd h1 h2 h3 ?_)
 have key:wpAny (MW c.X.G.w) c.A (evalArgs b.val true (backTo pos (starEach es c.env)) []) (fun a s1=>wpAny (MW c.X.G.w) c.A (call b.val ([]++a.pos) a.kw) (post c Φ) c.E s1) c.E s :=
  wpAny_mono (args_ok hst h R q) (fun a1 s1 ⟨hkw,σ1,R1,q1⟩=>by rw [hkw];exact bi_ok O R1 q1) fun zz zz e=>e
 cases b with
 | len=>exact Calls.callWith_builtin (star_plain hst) key
 | min=>exact Calls.callWith_builtin (star_plain hst) key
 | sum=>exact Calls.callWith_builtin (star_plain hst) key
 | range=>exact PySem.callWith_type (star_plain hst) key
 | list=>exact PySem.callWith_type (star_plain hst) key
 | tuple=>exact PySem.callWith_type (star_plain hst) key
 | str=>exact PySem.callWith_type (star_plain hst) key
theorem meth_form {n:Nat}{pos:Pos}{es:List PySem.Expr}{env:Env} (hl:es.length<25) (hst:es.all notStar=true):methodCallForm (es.length+([]:List Keyword).length) (backTo pos (starEach es env)) (backToKw pos (keywordEach [] env))=true:=by
 unfold methodCallForm
 have h1:((backTo pos (starEach es env)).all (!·.1))=true:=by
  have:=star_plain (pos:=pos) (env:=env) hst
  rw [List.all_eq_not_any_not]
  simpa using this
 rw [h1]
 show (true&&true&&decide (es.length+0+0<30))=true
 simp;exact Nat.lt_of_lt_of_le hl (Nat.le_add_left _ _)
theorem ev_methCall {o:PySem.Expr}{name:Str}{apos pos:Pos}{es:List PySem.Expr}{Q:Value→Shared→Prop} (hn:notCall o=true) (hline:(apos.endLine==pos.line)=true) (hl:es.length<25) (hst:es.all notStar=true)
  (h:wpAny (MW c.X.G.w) c.A (eval o c.env) (fun ov s1=>∀ pl:Sem Bool,wpAny (MW c.X.G.w) c.A (getMethod ov name pl) (fun fv s2=>wpAny (MW c.X.G.w) c.A (callWith pos fv.1 fv.2 (backTo pos (starEach es c.env)) []) Q c.E s2) c.E s1) c.E s) :
  wpAny (MW c.X.G.w) c.A (eval (.Call (.Attribute o name apos) es [] pos) c.env) Q c.E s:=by
 rw [arm_eval_Call,base_of hn]
 refine wpAny_bind (wpAny_mono h (fun ov s1 q=>?_) fun zz zz e=>e)
 refine wpAny_bind (wpAny_standAt ?_)
 have hpos:∀ b,methodCallPos b o c.env apos pos=pure pos:=fun b=>by unfold methodCallPos;simp [hline]
 unfold methodCall
 rw [meth_form (n:=0) hl hst]
 refine wpAny_bind (wpAny_holding ?_)
 refine wpAny_mono (q _) (fun fv s2 q2=>?_) fun zz zz e=>e
 exact wpAny_bind (wpAny_of_eq (hpos _) q2)
theorem ev_meth {o:PySem.Expr}{name:Str}{apos pos:Pos}{es:List PySem.Expr}{t:PT V}{ts:PT (List V)} (O:c.Ok) (hn:notCall o=true) (hline:(apos.endLine==pos.line)=true) (hl:es.length<25) (hst:es.all notStar=true) (h1:EvE c o t) (h2:EvL c es ts) :
  EvE c (.Call (.Attribute o name apos) es [] pos) (fun σ Φ=>t σ fun u σ1=>MethW c.X u name ts σ1 Φ):=by
 intro σ s Φ R h
 refine ev_methCall hn hline hl hst (got_mono (h1 σ s _ R h) (fun ov s1 σ1 R1 q pl=>?_))
 obtain ⟨x,C,d,f,fs,hv,hx,hf,hd,q⟩:=q
 have:=vof_ref hv;subst this
 obtain ⟨es',k,ho,hod,he⟩:=R1.inst hx hd
 obtain ⟨m1,m2,m3,m4,m5⟩:=meth_at (P:=c.X.G.w.params) hf
 have F:=clsF (P:=c.X.G.w.params) m3
 refine method_fn (R1.kf O) (instAt ho hod) F.ga F.gh m1 m2 ?_ ?_
 ·show (lookIn name (dictOf es' k)).map _=_
  rw [lookIn_dict]
  have:getL name es'=some none:=by
   unfold getL
   have hno:es'.find? (fun x=>x.key.isStr name)=none:=by
    have aux:∀ (l:List DictEntry) (fs:List (Att × V)),AttE l fs→l.find? (fun x=>x.key.isStr name)=none:=by
     intro l
     induction l with
     | nil=>intro _ _;rfl
     | cons e r ih =>
      intro fs ha
      cases fs with
      | nil=>exact ha.elim
      | cons f fs =>
       obtain ⟨⟨t,h1⟩,h2,h3⟩:=ha
       rw [List.find?_cons,h1]
       have:(Value.str f.1.str t).isStr name=false:=by
        show (f.1.str==name)=false
        exact beq_eq_false_iff_ne.mpr (m4 _)
       rw [this];exact ih _ h3
    exact aux es' fs he
   rw [hno,he.norefs];simp
  rw [this];rfl
 ·exact callK (first:=[.ref x]) O m5 hst h2 R1 q
theorem Rel.listT (R:Rel c σ s) {l:Addr}{xs:List V} (h:σ.m l=some (.list xs)):s.TypeIs (.ref l) "list"∧∀ a,Value.ref l=.ref a→∃ ob,s.heap.get? a=some ob∧ob.dict=none:=by
 obtain ⟨items,n,ho,_⟩:=R.list h
 exact ⟨⟨_,ho,rfl⟩,fun a e=>by cases e;exact ⟨_,ho,rfl⟩⟩
theorem Rel.dictT (R:Rel c σ s) {l:Addr}{xs:List (K × V)} (h:σ.m l=some (.dict xs)):s.TypeIs (.ref l) "dict"∧∀ a,Value.ref l=.ref a→∃ ob,s.heap.get? a=some ob∧ob.dict=none:=by
 obtain ⟨o,ents,ep,ho,hx,_⟩:=R.dict h
 exact ⟨⟨_,ho,hx.1⟩,fun a e=>by cases e;exact ⟨_,ho,hx.2.1⟩⟩
theorem builtin_meth {id:String}{es:List PySem.Expr}{ts:PT (List V)}{pos:Pos}{ov:Value}{Q:Value→Shared→Prop}{Φ:List V→St→Prop} (hst:es.all notStar=true) (h2:EvL c es ts) (R:Rel c σ s) (ht:ts σ Φ)
  (h:∀ vs s1 σ1,Rel c σ1 s1→Φ (vs.map vof) σ1→wpAny (MW c.X.G.w) c.A (call (.builtin id) (ov::vs)) Q c.E s1):wpAny (MW c.X.G.w) c.A (callWith pos (.builtin id) [ov] (backTo pos (starEach es c.env)) []) Q c.E s :=
 Calls.callWith_builtin (star_plain hst) (wpAny_mono (args_ok hst h2 R ht) (fun a1 s1 ⟨hkw,σ1,R1,q⟩=>by rw [hkw];exact h a1.pos s1 σ1 R1 q) fun zz zz e=>e)
noncomputable def oneF (f:V→St→Prop):List V→St→Prop
 | [v],σ=>f v σ
 | _,_=>False
theorem oneF_el {f:V→St→Prop}{vs:List Value}{P:List Value→Prop} (h:oneF f (vs.map vof) σ) (k:∀ v,f (vof v) σ→P [v]):P vs:=by
 cases vs with
 | nil=>exact h.elim
 | cons a r=>cases r with
  | nil=>exact k a h
  | cons=>exact h.elim
noncomputable def twoF (f:V→V→St→Prop):List V→St→Prop
 | [v,w],σ=>f v w σ
 | _,_=>False
theorem twoF_el {f:V→V→St→Prop}{vs:List Value}{P:List Value→Prop} (h:twoF f (vs.map vof) σ) (k:∀ v w,f (vof v) (vof w) σ→P [v,w]):P vs:=by
 cases vs with
 | nil=>exact h.elim
 | cons a r=>cases r with
  | nil=>exact h.elim
  | cons b r=>cases r with
   | nil=>exact k a b h
   | cons=>exact h.elim
theorem ev_app {o x:PySem.Expr}{apos pos:Pos}{t:PT V}{tx:PT V} (O:c.Ok) (hn:notCall o=true) (hs:notStar x=true) (hline:(apos.endLine==pos.line)=true) (h1:EvE c o t) (h2:EvE c x tx) :
  EvE c (.Call (.Attribute o (ofString "append") apos) [x] [] pos) (fun σ Φ=>t σ fun u σ1=>IsL σ1.m u∧tx σ1 fun v σ2=>appendW u v σ2 fun σ3=>Φ .none σ3):=by
 intro σ s Φ R h
 have hst:[x].all notStar=true:=by rw [List.all_cons,hs];rfl
 refine ev_methCall hn hline (nb rfl) hst (got_mono (h1 σ s _ R h) fun ov s1 σ1 R1 q pl=>?_)
 obtain ⟨⟨l,xs,hv,hm⟩,q⟩:=q
 rw [vof_ref hv]
 refine getMethod_builtin (R1.listT hm).1 PySem.F.plainAttrs_list PySem.F.slot_list_append PySem.F.type_list_append (R1.listT hm).2 ?_
 refine builtin_meth (Φ:=oneF fun v σ2=>appendW (.ref l) v σ2 fun σ3=>Φ .none σ3) hst (evl_cons hs h2 (evl_nil (X:=c.X))) R1 (hv▸q) fun vs s2 σ2 R2 q2=>oneF_el (P:=fun vs=>wpAny _ _ (call _ (_::vs)) _ _ _) q2 fun v q2=>?_
 exact wpAny_mono (append_ok R2 O q2) (fun r s3 h=>by obtain ⟨rfl,σ3,R3,q3⟩:=h;exact ⟨σ3,R3,q3⟩) fun zz zz e=>e
theorem ev_ext {o x:PySem.Expr}{apos pos:Pos}{t:PT V}{tx:PT V} (O:c.Ok) (hn:notCall o=true) (hs:notStar x=true) (hline:(apos.endLine==pos.line)=true) (h1:EvE c o t) (h2:EvE c x tx) :
  EvE c (.Call (.Attribute o (ofString "extend") apos) [x] [] pos) (fun σ Φ=>t σ fun u σ1=>IsL σ1.m u∧tx σ1 fun v σ2=>extendW u v σ2 fun σ3=>Φ .none σ3):=by
 intro σ s Φ R h
 have hst:[x].all notStar=true:=by rw [List.all_cons,hs];rfl
 refine ev_methCall hn hline (nb rfl) hst (got_mono (h1 σ s _ R h) fun ov s1 σ1 R1 q pl=>?_)
 obtain ⟨⟨l,xs,hv,hm⟩,q⟩:=q
 rw [vof_ref hv]
 refine getMethod_builtin (R1.listT hm).1 PySem.F.plainAttrs_list PySem.F.slot_list_extend PySem.F.type_list_extend (R1.listT hm).2 ?_
 refine builtin_meth (Φ:=oneF fun v σ2=>extendW (.ref l) v σ2 fun σ3=>Φ .none σ3) hst (evl_cons hs h2 (evl_nil (X:=c.X))) R1 (hv▸q) fun vs s2 σ2 R2 q2=>oneF_el (P:=fun vs=>wpAny _ _ (call _ (_::vs)) _ _ _) q2 fun v q2=>?_
 exact wpAny_mono (extend_ok R2 O q2) (fun r s3 h=>by obtain ⟨rfl,σ3,R3,q3⟩:=h;exact ⟨σ3,R3,q3⟩) fun zz zz e=>e
theorem get_ok {d:Addr}{key dv:Value}{Φ:V→St→Prop} (R:Rel c σ s) (O:c.Ok) (h:getW (.ref d) (vof key) (vof dv) σ Φ):wpAny (MW c.X.G.w) c.A (call (.builtin "dict.get") [.ref d,key,dv]) (post c Φ) c.E s:=by
 obtain ⟨l,es,k,ha,hm,hk,h⟩:=h
 cases ha
 obtain ⟨o,ents,ep,ho,hx,hd,he,hv⟩:=R.dict hm
 have hsys:(d==sysModules)=false:=beq_eq_false_iff_ne.mpr (ne2 (R.S.lo d _ hm) rfl)
 refine wpAny_call_entry PySem.F.slot_dict_get ⟨o,ho,hx.1⟩ PySem.F.entry_dict_get ?_ (PySem.F.args_dict_get_3 _ _ _)
 show wpAny _ _ (dictGet d key>>=_) _ _ s
 refine wpAny_bind (dict_get_K (Nat.lt_of_le_of_lt (Nat.add_le_add_left (nb rfl) _) O.units) (keyIs R.S.mem hk) ho hd he hv (fun tk hn=>?_) fun tk v hs=>?_)
 ·rw [hn] at h
  show wpAny _ _ (Builtin.Dict.missed d key>>=_) _ _ _
  exact wpAny_bind (wpAny_missed_other hsys (wpAny_pure ⟨dv,rfl,σ,R.toks _,h⟩))
 ·rw [hs] at h
  exact wpAny_pure ⟨v,rfl,σ,R.toks _,h⟩
theorem ev_get {o x d:PySem.Expr}{apos pos:Pos}{t:PT V}{tx td:PT V} (O:c.Ok) (hn:notCall o=true) (hs:notStar x=true) (hs2:notStar d=true) (hline:(apos.endLine==pos.line)=true) (h1:EvE c o t) (h2:EvE c x tx) (h3:EvE c d td) :
  EvE c (.Call (.Attribute o (ofString "get") apos) [x,d] [] pos) (fun σ Φ=>t σ fun u σ1=>IsD σ1.m u∧tx σ1 fun v σ2=>td σ2 fun w σ3=>getW u v w σ3 Φ):=by
 intro σ s Φ R h
 have hst:[x,d].all notStar=true:=by rw [List.all_cons,hs,List.all_cons,hs2];rfl
 refine ev_methCall hn hline (nb rfl) hst (got_mono (h1 σ s _ R h) fun ov s1 σ1 R1 q pl=>?_)
 obtain ⟨⟨l,xs,hv,hm⟩,q⟩:=q
 rw [vof_ref hv]
 refine getMethod_builtin (R1.dictT hm).1 PySem.F.plainAttrs_dict PySem.F.slot_dict_get PySem.F.type_dict_get (R1.dictT hm).2 ?_
 exact builtin_meth (Φ:=twoF fun v w σ2=>getW (.ref l) v w σ2 Φ) hst (evl_cons hs h2 (evl_cons hs2 h3 (evl_nil (X:=c.X)))) R1 (hv▸q) fun vs s2 σ2 R2 q2=>twoF_el (P:=fun vs=>wpAny _ _ (call _ (_::vs)) _ _ _) q2 fun v w q2=>get_ok R2 O q2
end
theorem upd_upd (m:Mem) (a:Addr) (x y:MO):upd (upd m a x) a y=upd m a y:=by
 funext b;unfold upd;split <;> rfl
set_option tactic.hygienic true in
theorem keyOf_upd {m:Mem}{d:Addr}{mo:MO}{v:V}{k:K} (hd:m d=none) (h:keyOf m v=some k):keyOf (upd m d mo) v=some k:=by
 unfold keyOf at h ⊢
 split at h
 ·exact h
 ·exact h
 ·rename_i a
  have:upd m d mo a=m a:=by
   by_cases q:a=d
   ·subst q;rw [hd] at h;cases h
   ·exact upd_ne q
  rw [this];exact h
 ·cases h
noncomputable def prsOf (env:Env) (pos:Pos):List (Option PySem.Expr)→List PySem.Expr→List (Sem Value × Sem Value)
 | some k::ks,v::vs=>(eval k env,(do let x←eval v env;standAt pos;pure x:Sem Value))::prsOf env pos ks vs
 | _,_=>[]
noncomputable def EvK (c:FC) (ks:List (Option PySem.Expr)) (vs:List PySem.Expr) (t:PT (List V)):Prop:=∀ (pos:Pos) (σ:St) (s:Shared) (Φ:List V→St→Prop),Rel c σ s→t σ Φ →
 wpAny (MW c.X.G.w) c.A (evalPairs (prsOf c.env pos ks vs)) (fun ps s'=>Met c (Φ (ps.flatMap fun p=>[vof p.1,vof p.2])) s') c.E s
noncomputable def Prs (ks:List (Option PySem.Expr)) (vs:List PySem.Expr):Prop:=∀ env pos,
 ((evalEachOpt ks env).zip ((evalEach vs env).map fun v=>(do let x←v;standAt pos;pure x:Sem Value)))=(prsOf env pos ks vs).map (fun p=>(some p.1,p.2))∧(prsOf env pos ks vs).length=ks.length
theorem Prs.nil:Prs [] []:=fun zz zz=>⟨rfl,rfl⟩
theorem Prs.cons {k v:PySem.Expr}{ks:List (Option PySem.Expr)}{vs:List PySem.Expr} (h:Prs ks vs):Prs (some k::ks) (v::vs):=fun env pos =>
 ⟨congrArg (List.cons _) (h env pos).1,congrArg (·+1) (h env pos).2⟩
section
variable {c:FC}{σ:St}{s:Shared}{E:Value→Shared→Prop}{A:Around}
theorem evk_nil {X:PX}:EvK c [] [] (semL X .nil):=fun pos σ s Φ R h=>wpAny_pure ⟨σ,R,h⟩
theorem evk_cons {k v:PySem.Expr}{ks:List (Option PySem.Expr)}{vs:List PySem.Expr}{ta tb:PT V}{ts:PT (List V)} (h1:EvE c k ta) (h2:EvE c v tb) (h3:EvK c ks vs ts) :
  EvK c (some k::ks) (v::vs) (fun σ Φ=>ta σ fun a σ1=>tb σ1 fun b σ2=>ts σ2 fun r σ3=>Φ (a::b::r) σ3):=by
 intro pos σ s Φ R h
 show wpAny _ _ (eval k c.env>>=_) _ _ s
 refine wpAny_bind (got_mono (h1 σ s _ R h) (fun a s1 σ1 R1 q1=>?_))
 refine wpAny_bind (wpAny_holding (wpAny_bind (got_mono (h2 σ1 s1 _ R1 q1) (fun b s2 σ2 R2 q2=>wpAny_bind (wpAny_standAt (wpAny_pure ?_))))))
 refine wpAny_bind (wpAny_holding (got_mono (h3 pos σ2 s2 _ R2 q2) (fun r s3 σ3 R3 q3=>wpAny_pure ?_)))
 exact ⟨σ3,R3,q3⟩
set_option tactic.hygienic true in
theorem sets_ok {d:Addr}{m0:Mem}{Q:Shared→Prop} (O:c.Ok) (hd:m0 d=none) (f:Value × Value→PUnit→Sem (ForInStep PUnit)) (hf:∀ p u,f p u=(do dictSet d p.1 p.2;pure (ForInStep.yield PUnit.unit))) :
  ∀ (l:List (Value × Value)) (ps es:List (K × V)) (σ:St) (s:Shared),Rel c σ s→σ.m=upd m0 d (.dict es)→dictDisp m0 (l.flatMap fun p=>[vof p.1,vof p.2])=some ps→es.length+l.length<1000000 →
  (∀ s',Rel c ⟨σ.ρ,upd m0 d (.dict (dputs ps es))⟩ s'→Q s')→wpAny (MW c.X.G.w) c.A (forIn l PUnit.unit f) (fun zz=>Q) E s
 | [],ps,es,σ,s,R,hm,hp,hz,h=>by
  simp [dictDisp] at hp;subst hp
  rw [List.forIn_nil]
  exact wpAny_pure (h s (by rw [show dputs [] es=es from rfl,←hm];exact R))
 | p::l,ps,es,σ,s,R,hm,hp,hz,h=>by
  rw [List.forIn_cons,hf]
  simp only [List.flatMap_cons,List.cons_append,List.nil_append] at hp
  unfold dictDisp at hp
  split at hp
  ·rename_i k r' hk hr
   cases hp
   have hdm:σ.m d=some (.dict es):=by rw [hm,upd_same]
   have hk':keyOf σ.m (vof p.1)=some k:=by rw [hm];exact keyOf_upd hd hk
   have hlen:∀ (k:K) (v:V) (es:List (K × V)),(dput k v es).length≤es.length+1:=by
    intro k v es
    induction es with
    | nil=>simp [dput]
    | cons e es ih =>
     unfold dput
     split
     ·simp
     ·simp at ih ⊢;exact ih
   simp only [List.length_cons] at hz
   refine wpAny_bind (wpAny_bind (dictSet_ok R O (by have:=O.units;exact Nat.lt_of_le_of_lt (Nat.le_add_right _ _) this) hdm hk' (by exact Nat.lt_of_le_of_lt (Nat.le_add_right _ _) hz) fun s' R'=>wpAny_pure ?_))
   refine sets_ok O hd f hf l r' (dput k (vof p.2) es) _ s' R' (by show upd σ.m d _=_;rw [hm,upd_upd]) hr (by have:=hlen k (vof p.2) es;lia) h
  ·cases hp
theorem display_nil:dictDisplay []=newDict:=by rfl
set_option tactic.hygienic true in
theorem ev_dict {ks:List (Option PySem.Expr)}{vs:List PySem.Expr}{pos:Pos}{t:PT (List V)} (O:c.Ok) (hz:Prs ks vs) (hlen:ks.length<15) (h':EvK c ks vs t) (h:∀ a o,c.k a=none→EvK (c.hold a o) ks vs t) :
  EvE c (.Dict ks vs pos) (fun σ Φ=>t σ fun l σ1=>match dictDisp σ1.m l with
  | some ps=>allocW (.dict (dputs ps [])) σ1 Φ
  | none=>False):=by
 intro σ s Φ R q
 obtain ⟨z1,z2⟩:=hz c.env pos
 rw [arm_eval_Dict,z1]
 refine wpAny_bind (wpAny_standAt ?_)
 obtain ⟨f1,f2,f3⟩:=R.fresh3
 have R1:Rel (c.hold s.heap.objs.size emptyDict) σ { s with heap:=s.heap.push emptyDict }:=(R.push emptyDict s.toks).hold (Heap.get?_push_size _ rfl) f1 f2 f3
 have hE:=wpAny_evalPairs_len (h s.heap.objs.size emptyDict f2 pos σ _ _ R1 q)
 have two:2<s.heap.objs.size:=R.size O
 have fin:wpAny (MW c.X.G.w) c.A (subDict (prsOf c.env pos ks vs)) (fun d s'=>post c Φ (.ref d) s') c.E s:=by
  unfold subDict
  refine wpAny_bind (wpAny_alloc ?_)
  refine wpAny_bind (wpAny_holding ?_)
  rw [if_pos (by lia)]
  refine wpAny_bind (wpAny_mono hE (fun ps s1 ⟨hl,σ1,R2,q1⟩=>?_) fun zz zz e=>e)
  obtain ⟨R3,ho,hm,hw⟩:=R2.unhold f2
  split at q1
  ·rename_i prs hp
   refine wpAny_holding ?_
   have R4:=R3.adopt O (mo:=.dict []) ho hm f2 hw two ORel.emptyDict
   refine wpAny_bind (sets_ok O hm _ (fun zz zz=>rfl) ps prs [] _ s1 R4 rfl hp (by rw [hl];show 0+(prsOf c.env pos ks vs).length<1000000;lia) fun s2 R5=>wpAny_pure (wpAny_pure ⟨_,R5,q1.d _ two hm⟩))
  ·exact q1.elim
 by_cases h0:prsOf c.env pos ks vs=[]
 ·have hq:=wpAny_evalPairs_len (h' pos σ s _ R q)
  rw [h0] at hq ⊢
  rw [List.map_nil,display_nil]
  show wpAny _ _ (evalPairs []>>=fun zz=>newDict) _ _ s
  refine wpAny_bind (wpAny_mono hq (fun ps s1 ⟨hl,σ1,R2,q1⟩=>?_) fun zz zz e=>e)
  have:ps=[]:=List.length_eq_zero_iff.mp hl
  subst this
  exact wpAny_newObj_type (R2.allocd O rfl ORel.emptyDict q1 _)
 ·rw [dictDisplay_pairs _ h0 (by lia)]
  exact wpAny_bind (wpAny_mono fin (fun d s' q=>wpAny_pure q) fun zz zz e=>e)
end
noncomputable def IterAt (h:Heap) (I a:Addr) (mo:MO) (i:Nat):Prop:=match mo with
 | .list _=>h.IsListIter I a i
 | .tup _=>h.IsTupleIter I a i
 | .range x y d=>IsRangeIter h I (x+(i:Nat)*d) ((rangeN x y d:Int) - (i:Nat)) d
 | _=>False
theorem IterAt.obj {h:Heap}{I a:Addr}{mo:MO}{i:Nat} (x:IterAt h I a mo i):∃ o,h.get? I=some o∧¬tupO o:=by
 unfold IterAt at x
 split at x
 ·obtain ⟨o,h1,h2,h3⟩:=x;exact ⟨o,h1,fun z=>by rw [z.1] at h2;exact absurd (Value.type.inj h2) (by decide)⟩
 ·obtain ⟨o,h1,h2,h3⟩:=x;exact ⟨o,h1,fun z=>by rw [z.1] at h2;exact absurd (Value.type.inj h2) (by decide)⟩
 ·exact ⟨_,x,fun z=>absurd (Value.type.inj z.1) (by decide)⟩
 ·exact x.elim
theorem IterAt.keep {h h':Heap}{I a:Addr}{mo:MO}{i:Nat} (x:IterAt h I a mo i) (e:∀ o,h.get? I=some o→h'.get? I=some o):IterAt h' I a mo i:=by
 unfold IterAt at x ⊢
 split at x
 ·exact x.at e
 ·obtain ⟨o,h1,r⟩:=x;exact ⟨o,e o h1,r⟩
 ·exact e _ x
 ·exact x.elim
section
variable {c:FC}{σ:St}{s:Shared}{E:Value→Shared→Prop}{A:Around}
set_option tactic.hygienic true in
theorem range_small {a b d:Int} (h:a.natAbs<2^30∧b.natAbs<2^30∧d≠0∧d.natAbs<2^30):Builtin.Range.small a b d=true∧0≤Builtin.Range.rangeSize a b d:=by
 have sz:0≤Builtin.Range.rangeSize a b d∧Builtin.Range.rangeSize a b d≤2^32:=by
  unfold Builtin.Range.rangeSize
  split
  ·rename_i hd
   split
   ·rename_i hab
    have h1:0≤(b - a - 1) / d:=Int.ediv_nonneg (by lia) (by lia)
    have h2:(b - a - 1) / d≤b - a - 1:=Int.ediv_le_self _ (by lia)
    omega
   ·exact ndec rfl
  ·rename_i hd
   split
   ·rename_i hab
    have h1:0≤(a - b - 1) / (-d):=Int.ediv_nonneg (by lia) (by omega)
    have h2:(a - b - 1) / (-d)≤a - b - 1:=Int.ediv_le_self _ (by lia)
    omega
   ·exact ndec rfl
 refine ⟨?_,sz.1⟩
 unfold Builtin.Range.small Builtin.Range.rangeFitsLong
 simp only [Bool.and_eq_true,decide_eq_true_eq,Bool.or_eq_true,beq_iff_eq]
 refine ⟨⟨⟨⟨by omega,by omega⟩,by omega⟩,by lia⟩,?_⟩
 split
 ·right;simp only [Bool.and_eq_true,decide_eq_true_eq];omega
 ·right;simp only [Bool.and_eq_true,decide_eq_true_eq];omega
theorem items_range {a b d:Int}{xs:List V} (h:itemsM (.range a b d)=some xs):(a.natAbs<2^30∧b.natAbs<2^30∧d≠0∧d.natAbs<2^30)∧xs=rangeL a b d:=by
 unfold itemsM at h
 dsimp only at h
 by_cases q:a.natAbs<2^30∧b.natAbs<2^30∧d≠0∧d.natAbs<2^30
 ·rw [if_pos q] at h;cases h;exact ⟨q,rfl⟩
 ·rw [if_neg q] at h;cases h
set_option tactic.hygienic true in
theorem iter_ok {v:Value}{a:Addr}{mo:MO}{xs:List V}{Q:Value→Shared→Prop} (R:Rel c σ s) (hi:iterOf σ.m (vof v)=some (a,mo,xs))
  (h:∀ o,σ.m a=some mo→itemsM mo=some xs→IterAt (s.heap.push o) s.heap.objs.size a mo 0→Q (.ref s.heap.objs.size) { s with heap:=s.heap.push o }):wpAny (MW c.X.G.w) A (pyIter v) Q E s:=by
 unfold iterOf at hi
 split at hi
 ·rename_i l hv
  have:=vof_ref hv;subst this
  split at hi
  ·rename_i mo' hm
   obtain ⟨xs',hx,e⟩:=Option.map_eq_some_iff.mp hi
   cases e
   cases mo with
   | list ys =>
    obtain ⟨items,n,ho,e,hz⟩:=R.list hm
    exact wpAny_pyIter_list ⟨_,ho,rfl,_,rfl⟩ (h _ hm hx ⟨_,Heap.get?_push_size _ rfl,rfl,rfl⟩)
   | tup ys =>
    obtain ⟨items,n,ho,e,hz⟩:=R.tup hm
    exact PySem.wpAny_pyIter_tuple ⟨_,ho,rfl,_,rfl⟩ (h _ hm hx ⟨_,Heap.get?_push_size _ rfl,rfl,rfl⟩)
   | range x y d =>
    obtain ⟨o,ho,t,u,w,rfl⟩:=R.at hm
    obtain ⟨hb,rfl⟩:=items_range hx
    have ⟨hs,h0⟩:=range_small hb
    refine wpAny_pyIter_range ho hs (h _ hm hx ?_)
    show IsRangeIter _ _ _ _ _
    have e1:x+((0:Nat):Int)*d=x:=by simp
    have e2:(rangeN x y d:Int) - ((0:Nat):Int)=Builtin.Range.rangeSize x y d:=by unfold rangeN;lia
    rw [e1,e2]
    exact Heap.get?_push_size _ rfl
   | _=>cases hx
  ·cases hi
 ·cases hi
theorem range_at {a b d:Int}{i:Nat}{x:V} (h:(rangeL a b d)[i]?=some x):i<rangeN a b d∧x=.int (a+(i:Nat)*d):=by
 unfold rangeL at h
 rw [List.getElem?_map] at h
 obtain ⟨j,h1,h2⟩:=Option.map_eq_some_iff.mp h
 obtain ⟨h3,h4⟩:=List.getElem?_eq_some_iff.mp h1
 simp at h3 h4
 subst h4
 exact ⟨h3,h2.symm⟩
theorem next_item {I a:Addr}{mo:MO}{xs:List V}{i:Nat}{x:V}{Q:Option Value→Shared→Prop} (R:Rel c σ s) (O:c.Ok) (hm:σ.m a=some mo) (hx:itemsM mo=some xs) (hI:IterAt s.heap I a mo i) (hi:xs[i]?=some x)
  (f1:σ.m I=none) (f2:c.k I=none) (f3:I∉c.own) (h:∀ v s',vof v=x→Rel c σ s'→IterAt s'.heap I a mo (i+1)→Q (some v) s'):wpAny (MW c.X.G.w) A (pyNext (.ref I)) Q E s:=by
 have ht:∀ o,s.heap.get? I=some o→¬tupO o:=fun o ho=>by obtain ⟨o',h1,h2⟩:=hI.obj;rw [ho] at h1;cases h1;exact h2
 cases mo with
 | list ys =>
  cases hx
  obtain ⟨items,n,ho,e,hz⟩:=R.list hm
  rw [←e,List.getElem?_map] at hi
  obtain ⟨v,h1,h2⟩:=Option.map_eq_some_iff.mp hi
  rw [Array.getElem?_toList] at h1
  exact wpAny_pyNext_list_item hI ⟨_,ho,rfl,_,rfl⟩ h1 fun h' hI' hs=>h v _ h2 (R.off O (fun b o q e=>(hs.2 b q).trans e) f1 f2 f3 ht s.toks) hI'
 | tup ys =>
  cases hx
  obtain ⟨items,n,ho,e,hz⟩:=R.tup hm
  rw [←e,List.getElem?_map] at hi
  obtain ⟨v,h1,h2⟩:=Option.map_eq_some_iff.mp hi
  rw [Array.getElem?_toList] at h1
  exact PySem.wpAny_pyNext_tuple_item hI ⟨_,ho,rfl,_,rfl⟩ h1 fun h' hI' hs=>h v _ h2 (R.off O (fun b o q e=>(hs.2 b q).trans e) f1 f2 f3 ht s.toks) hI'
 | range x' y d =>
  obtain ⟨hb,rfl⟩:=items_range hx
  obtain ⟨h1,rfl⟩:=range_at hi
  refine wpAny_pyNext_range_item hI (by lia) fun h' hI' hs=>h _ _ rfl (R.off O (fun b o q e=>(hs.2 b q).trans e) f1 f2 f3 ht _) ?_
  have e1:x'+((i+1:Nat):Int)*d=x'+(i:Int)*d+d:=by push_cast;rw [Int.add_mul,Int.one_mul,Int.add_assoc]
  have e2:(rangeN x' y d:Int) - ((i+1:Nat):Int)=(rangeN x' y d:Int) - (i:Int) - 1:=by push_cast;lia
  show IsRangeIter _ _ _ _ _
  rw [e1,e2];exact hI'
 | _=>cases hx
theorem next_end {I a:Addr}{mo:MO}{xs:List V}{i:Nat}{Q:Option Value→Shared→Prop} (R:Rel c σ s) (O:c.Ok) (hh:A.handled=none) (hm:σ.m a=some mo) (hx:itemsM mo=some xs) (hI:IterAt s.heap I a mo i) (hi:xs.length=i)
  (f1:σ.m I=none) (f2:c.k I=none) (f3:I∉c.own) (h:∀ s',Rel c σ s'→Q none s'):wpAny (MW c.X.G.w) A (pyNext (.ref I)) Q E s:=by
 have ht:∀ o,s.heap.get? I=some o→¬tupO o:=fun o ho=>by obtain ⟨o',h1,h2⟩:=hI.obj;rw [ho] at h1;cases h1;exact h2
 cases mo with
 | list ys =>
  cases hx
  obtain ⟨items,n,ho,e,hz⟩:=R.list hm
  have hl:items.size=i:=by rw [←hi,←e];simp
  exact wpAny_pyNext_list_end hh hI ⟨_,ho,rfl,_,rfl⟩ (by rw [Array.getElem?_eq_none];exact Nat.le_of_eq hl) fun h' hs=>h _ (R.off O (fun b o q e=>hs b o q e) f1 f2 f3 ht s.toks)
 | tup ys =>
  cases hx
  obtain ⟨items,n,ho,e,hz⟩:=R.tup hm
  have hl:items.size=i:=by rw [←hi,←e];simp
  exact PySem.wpAny_pyNext_tuple_end hh hI ⟨_,ho,rfl,_,rfl⟩ (by rw [Array.getElem?_eq_none];exact Nat.le_of_eq hl) fun h' hs=>h _ (R.off O (fun b o q e=>hs b o q e) f1 f2 f3 ht s.toks)
 | range x' y d =>
  obtain ⟨hb,rfl⟩:=items_range hx
  have:rangeN x' y d=i:=by rw [←hi];unfold rangeL;simp
  exact wpAny_pyNext_range_end hh hI (by lia) fun h' hs=>h _ (R.off O (fun b o q e=>hs b o q e) f1 f2 f3 ht s.toks)
 | _=>cases hx
noncomputable def EvG (c:FC) (e:PySem.Expr) (t:V→St→(St→Prop)→Prop):Prop:=∀ (v:Value) (σ:St) (s:Shared) (Φ:St→Prop),Rel c σ s→t (vof v) σ Φ→wpAny (MW c.X.G.w) c.A (assign e c.env v) (postU c Φ) c.E s
noncomputable def EvGs (c:FC) (es:List PySem.Expr) (t:List V→St→(St→Prop)→Prop):Prop:=∀ (vs:List Value) (σ:St) (s:Shared) (Φ:St→Prop),Rel c σ s→t (vs.map vof) σ Φ →
 wpAny (MW c.X.G.w) c.A (assignInOrder ((assignEach es c.env).map (·.2)) vs) (postU c Φ) c.E s
theorem evg_name {x:Str}{pos:Pos}{i:Nat} (O:c.Ok) (h:slotS c x i=true):EvG c (.Name x pos) (fun v σ Φ=>Φ ⟨put σ.ρ i v,σ.m⟩) :=
 fun v σ s Φ R q=>wpAny_assign_Name (store_ok R O h fun s' R'=>⟨_,R',q⟩)
theorem evgs_nil {X:PX}:EvGs c [] (semTs X .nil):=fun vs σ s Φ R q=>by
 cases vs with
 | nil=>exact wpAny_pure ⟨σ,R,q⟩
 | cons=>exact q.elim
theorem assignEach_cons {e:PySem.Expr}{es:List PySem.Expr}{env:Env} (h:notStar e=true):assignEach (e::es) env=(false,assign e env)::assignEach es env:=by
 cases e <;> first|rfl|cases h
theorem evgs_cons {e:PySem.Expr}{es:List PySem.Expr}{t:V→St→(St→Prop)→Prop}{ts:List V→St→(St→Prop)→Prop} (hs:notStar e=true) (h1:EvG c e t) (h2:EvGs c es ts) :
  EvGs c (e::es) (fun vs σ Φ=>match vs with
   | v::vs=>t v σ fun σ1=>ts vs σ1 Φ
   | []=>False):=by
 intro vs σ s Φ R q
 rw [assignEach_cons hs]
 cases vs with
 | nil=>exact q.elim
 | cons v vs =>
  show wpAny _ _ (holding vs (assign e c.env v)>>=_) _ _ s
  exact wpAny_bind (wpAny_holding (got_mono (h1 v σ s _ R q) (fun zz s1 σ1 R1 q1=>h2 vs σ1 s1 Φ R1 q1)))
theorem each_len {es:List PySem.Expr}{env:Env} (h:es.all notStar=true):(assignEach es env).length=es.length∧(assignEach es env).findIdx? (·.1)=none:=by
 induction es with
 | nil=>exact ⟨rfl,rfl⟩
 | cons e es ih =>
  rw [List.all_cons,Bool.and_eq_true] at h
  rw [assignEach_cons h.1]
  obtain ⟨i1,i2⟩:=ih h.2
  exact ⟨by simp [i1],by rw [List.findIdx?_cons,i2];rfl⟩
set_option tactic.hygienic true in
theorem evg_tup {es:List PySem.Expr}{k:Nat}{pos:Pos}{ts:List V→St→(St→Prop)→Prop} (O:c.Ok) (hst:es.all notStar=true) (h:EvGs c es ts) (hl:∀ xs σ Φ,ts xs σ Φ→xs.length=es.length) :
  EvG c (.Tuple es k pos) (fun v σ Φ=>match v with
   | .ref a=>(match σ.m a with
    | some (.tup xs)=>ts xs σ Φ
    | _=>False)
   | _=>False):=by
 intro v σ s Φ R q
 split at q
 ·rename_i a hv
  have:=vof_ref hv;subst this
  split at q
  ·rename_i xs hm
   obtain ⟨items,n,ho,e,hz⟩:=R.tup hm
   have hn:=hl _ _ _ q
   have hsz:items.size=es.length:=by rw [←hn,←e];simp
   refine PyProof.Rows.assign_Tuple_tuple O.hnd ⟨_,ho,rfl,_,rfl⟩ (by rw [(each_len hst).1,hsz]) (each_len hst).2 fun h' hs=>?_
   have R':Rel c σ { s with heap:=h',toks:=s.toks }:=R.grown (fun b o eb=>hs b o (Nat.ne_of_lt (Heap.lt_size eb)) eb) s.toks
   exact h items.toList σ _ Φ R' (by rw [e];exact q)
  ·exact q.elim
 ·exact q.elim
theorem evg_attr {o:PySem.Expr}{n:Att}{pos:Pos}{t:PT V} (O:c.Ok) (h:EvE c o t):EvG c (.Attribute o n.str pos) (fun v σ Φ=>t σ fun u σ1=>setAttrW u n v σ1 Φ):=by
 intro v σ s Φ R q
 rw [arm_assign_Attribute]
 refine wpAny_bind (wpAny_holding (got_mono (h σ s _ R q) (fun ov s1 σ1 R1 q1=>?_)))
 exact wpAny_bind (wpAny_standAt (wpAny_bind (wpAny_holding (wpAny_mono (setAttr_ok R1 O q1) (fun zz s2 q2=>wpAny_release q2) fun zz zz e=>e))))
theorem evg_item {o i:PySem.Expr}{pos:Pos}{t ti:PT V} (O:c.Ok) (h:EvE c o t) (hi:EvE c i ti):EvG c (.Subscript o i pos) (fun v σ Φ=>t σ fun u σ1=>ti σ1 fun w σ2=>setItemW u w v σ2 Φ):=by
 intro v σ s Φ R q
 rw [arm_assign_Subscript]
 refine wpAny_bind (wpAny_holding (got_mono (h σ s _ R q) (fun ov s1 σ1 R1 q1=>?_)))
 refine wpAny_bind (wpAny_holding (got_mono (hi σ1 s1 _ R1 q1) (fun iv s2 σ2 R2 q2=>?_)))
 exact wpAny_bind (wpAny_standAt (wpAny_bind (wpAny_holding (wpAny_mono (setItem_ok R2 O (by have:=O.units;lia) q2) (fun zz s3 q3=>wpAny_release q3) fun zz zz e=>e))))
end
abbrev noE:Value→Shared→Prop:=fun zz zz=>False
theorem any_of_no {α:Type}{M:Model}{A:Around}{t:Sem α}{Q:α→Shared→Prop}{E:Value→Shared→Prop}{s:Shared} (h:wpAny M A t Q noE s):wpAny M A t Q E s:=wpAny_mono h (fun zz zz q=>q) fun zz zz q=>q.elim
section
variable {c:FC}{σ:St}{s:Shared}{E:Value→Shared→Prop}{A:Around}
theorem iter_cls {h:Heap}{I a:Addr}{mo:MO}{i:Nat} (x:IterAt h I a mo i):∃ o n,h.get? I=some o∧o.cls=.type n∧(n="list_iterator"∨n="tuple_iterator"∨n="range_iterator")∧∃ vs,o.data=.fields vs:=by
 unfold IterAt at x
 split at x
 ·obtain ⟨o,h1,h2,h3⟩:=x;exact ⟨o,_,h1,h2,.inl rfl,_,h3⟩
 ·obtain ⟨o,h1,h2,h3⟩:=x;exact ⟨o,_,h1,h2,.inr (.inl rfl),_,h3⟩
 ·exact ⟨_,_,x,rfl,.inr (.inr rfl),_,rfl⟩
 ·exact x.elim
theorem and_no {a b:Bool} (h:a=false):decide ((a&&b)=true)=false:=by rw [h];rfl
theorem owned_ok {M:Model}{I a:Addr}{mo:MO}{i:Nat}{target:PySem.Expr}{v:Value}{Q:Unit→Shared→Prop} (x:IterAt s.heap I a mo i) (h:Q () s):wpAny M A (letOwnedTupleGo target (.ref I) v) Q E s:=by
 obtain ⟨o,n,h1,h2,h3,vs,h4⟩:=iter_cls x
 have main:∀ b:Addr,wpAny M A (letOwnedTupleGo (.Tuple [] 0 default) (.ref I) (.ref b)) Q E s:=fun b=>by
  refine wpAny_bind (wpAny_load h1 ?_)
  rw [h2,h4]
  rcases h3 with rfl|rfl|rfl <;> exact wpAny_ite_false (and_no (by decide)) (wpAny_pure h)
 cases target with
 | Tuple=>cases v <;> first|exact wpAny_pure h|exact main _
 | List=>cases v <;> first|exact wpAny_pure h|exact main _
 | _=>exact wpAny_pure h
theorem self_iter {w:World}{I a:Addr}{mo:MO}{i:Nat}{Q:Value→Shared→Prop} (x:IterAt s.heap I a mo i) (h:Q (.ref I) s):wpAny (MW w) A (pyIter (.ref I)) Q E s:=by
 unfold IterAt at x
 split at x
 ·exact wpAny_pyIter_listiter x h
 ·exact wpAny_pyIter_tupleiter x h
 ·exact wpAny_pyIter_rangeiter x h
 ·exact x.elim
noncomputable def ifsOf (ifs:List PySem.Expr) (env:Env):Sem Bool:=forIn ifs true fun c r=>if r=true then (do let ok←isTrue c env (eval c env);pure (ForInStep.yield ok)) else pure (ForInStep.yield r)
noncomputable def emitT (elt:PySem.Expr) (ifs:List PySem.Expr) (acc:Value) (env:Env):Sem Unit:=ifsOf ifs env>>=fun ok=>if ok=true then (eval elt env>>=fun x=>call (.builtin "list.append") [acc,x]>>=fun zz=>pure ()) else pure ()
noncomputable def nestT (e:PySem.Expr) (it2:PySem.Expr) (acc:Value) (env:Env):Sem Unit:=do
 let x←eval it2 env
 standAt it2.pos
 let x←foldedSetIterable it2 env x
 let _←runOwn (.compStart e 1 (←holding [x] (pyIter x)) acc env) env
theorem turn_1 (elt target iter:PySem.Expr) (ifs:List PySem.Expr) (scope:Scope) (pos:Pos) (it acc:Value) (env:Env) :
  compTurn (.ListComp elt [⟨target,iter,ifs,0⟩] scope pos) 0 it acc env=(standAt iter.pos>>=fun zz=>pyNext it>>=fun r=>match r with
   | none=>pure (.done .next)
   | some v=>letOwnedTupleGo target it v>>=fun zz=>assign target env v>>=fun zz=>ifsOf ifs env>>=fun ok =>
    if ok=true then (eval elt env>>=fun x=>call (.builtin "list.append") [acc,x]>>=fun zz=>pure ())>>=fun zz=>again (.compLoop (.ListComp elt [⟨target,iter,ifs,0⟩] scope pos) 0 it acc env)
    else again (.compLoop (.ListComp elt [⟨target,iter,ifs,0⟩] scope pos) 0 it acc env)):=by rfl
theorem turn_2o (elt target iter t2 it2:PySem.Expr) (scope:Scope) (pos:Pos) (it acc:Value) (env:Env) :
  compTurn (.ListComp elt [⟨target,iter,[],0⟩,⟨t2,it2,[],0⟩] scope pos) 0 it acc env=(standAt iter.pos>>=fun zz=>pyNext it>>=fun r=>match r with
   | none=>pure (.done .next)
   | some v=>letOwnedTupleGo target it v>>=fun zz=>assign target env v>>=fun zz=>nestT (.ListComp elt [⟨target,iter,[],0⟩,⟨t2,it2,[],0⟩] scope pos) it2 acc env>>=fun zz =>
     again (.compLoop (.ListComp elt [⟨target,iter,[],0⟩,⟨t2,it2,[],0⟩] scope pos) 0 it acc env)):=by
 simp only [nestT,bind_assoc]
 rfl
theorem turn_2i (elt target iter t2 it2:PySem.Expr) (scope:Scope) (pos:Pos) (it acc:Value) (env:Env) :
  compTurn (.ListComp elt [⟨target,iter,[],0⟩,⟨t2,it2,[],0⟩] scope pos) 1 it acc env=(standAt it2.pos>>=fun zz=>pyNext it>>=fun r=>match r with
   | none=>pure (.done .next)
   | some v=>letOwnedTupleGo t2 it v>>=fun zz=>assign t2 env v>>=fun zz=>(eval elt env>>=fun x=>call (.builtin "list.append") [acc,x]>>=fun zz=>pure ())>>=fun zz =>
     again (.compLoop (.ListComp elt [⟨target,iter,[],0⟩,⟨t2,it2,[],0⟩] scope pos) 1 it acc env)):=by rfl
structure AccAt (c:FC) (σ:St) (s:Shared) (D:Addr) (acc:List V):Prop where
 m:σ.m D=none
 k:c.k D=none
 own:D∉c.own
 at_:∃ items n,s.heap.get? D=some { cls:=.type "list",data:=.seq items n }∧items.toList.map vof=acc∧items.size≤sizeLine
noncomputable def BodyOk (c:FC) (D:Addr) (code:Sem Unit) (inner:List V→St→(List V→St→Prop)→Prop):Prop:=∀ (σ:St) (s:Shared) (acc:List V) (Φ:List V→St→Prop),Rel c σ s→AccAt c σ s D acc→inner acc σ Φ →
 wpAny (MW c.X.G.w) c.A code (fun zz s'=>∃ σ' acc',Rel c σ' s'∧AccAt c σ' s' D acc'∧Φ acc' σ') noE s
noncomputable def accR (c:FC) (D:Addr) (Φ:List V→St→Prop) (r:Result) (s':Shared):Prop:=match r with
 | .ok .next=>∃ σ' acc',Rel c σ' s'∧AccAt c σ' s' D acc'∧Φ acc' σ'
 | _=>False
noncomputable def FC.Like (c' c:FC):Prop:=∃ k',c'=⟨c.X,c.A,c.env,k',c.names,c.own,c.E,c.fn⟩
theorem like_refl:c.Like c:=⟨c.k,rfl⟩
theorem like_hold {c':FC}{a:Addr}{o:Obj} (h:c'.Like c):(c'.hold a o).Like c:=by
 obtain ⟨k',rfl⟩:=h;exact ⟨_,rfl⟩
theorem hold_none {a b:Addr}{o:Obj} (h:b≠a) (hk:c.k b=none):(c.hold a o).k b=none:=(if_neg h).trans hk
theorem of_hold_none {a b:Addr}{o:Obj} (h:b≠a) (hk:(c.hold a o).k b=none):c.k b=none:=(if_neg h).symm.trans hk
theorem comp_loop {e:PySem.Expr}{depth:Nat}{I D a:Addr}{mo:MO}{xs:List V}{t:V→St→(St→Prop)→Prop}{inner:List V→St→(List V→St→Prop)→Prop}{target:PySem.Expr}{code:Sem Unit}{Φ:List V→St→Prop}{acc:List V}
  (O:c.Ok) (hx:itemsM mo=some xs) (ht:∀ c':FC,c'.Ok→c'.Like c→EvG c' target t) (hE:c.E=noE) (hb:∀ c':FC,c'.Ok→c'.Like c→BodyOk c' D code inner)
  (hq:(Code.compLoop e depth (.ref I) (.ref D) c.env).quiet=true)
  (hturn:∀ (Q:Fin→Shared→Prop) (s:Shared),wpAny (MW c.X.G.w) c.A (pyNext (.ref I)) (fun r s1=>match r with
   | none=>Q (.done .next) s1
   | some v=>wpAny (MW c.X.G.w) c.A (letOwnedTupleGo target (.ref I) v) (fun zz s2=>wpAny (MW c.X.G.w) c.A (assign target c.env v) (fun zz s3=>wpAny (MW c.X.G.w) c.A code (fun zz s4=>Q (.again (.compLoop e depth (.ref I) (.ref D) c.env)) s4) noE s3) noE s2) noE s1) noE s →
   wpAny (MW c.X.G.w) c.A (compTurn e depth (.ref I) (.ref D) c.env) Q noE s)
  (hden:∀ (s:Shared) (Q:Fin→Shared→Prop) (E:Value→Shared→Prop),wpAny (MW c.X.G.w) c.A ((compTurn e depth (.ref I) (.ref D) c.env).onRaise (fun x=>do noteFrame x c.env;theTreesLotGoes x)) Q E s →
   wpAny (MW c.X.G.w) (c.A.under (.compLoop e depth (.ref I) (.ref D) c.env)) ((MW c.X.G.w).den (.compLoop e depth (.ref I) (.ref D) c.env)) Q E s)
  (R:Rel c σ s) (acc0:AccAt c σ s D acc) (hI:IterAt s.heap I a mo 0) (f1:σ.m I=none) (f2:c.k I=none) (f3:I∉c.own) (hID:I≠D) (h:compW a mo t inner xs acc σ Φ) :
  codeAny (MW c.X.G.w) c.A (.compLoop e depth (.ref I) (.ref D) c.env) (accR c D Φ) s:=by
 refine codeAny_loop hq (fun n s'=>∃ i done σ',n=xs.length+1 - i∧i≤xs.length∧Rel c σ' s'∧AccAt c σ' s' D done∧IterAt s'.heap I a mo i∧σ'.m I=none∧compW a mo t inner (xs.drop i) done σ' Φ) ?_ (xs.length+1)
  ⟨0,acc,σ,rfl,Nat.zero_le _,R,acc0,hI,f1,h⟩
 rintro n s' ⟨i,done,σ',rfl,hi,R',ac,hI',g1,hW⟩
 refine hden _ _ _ (wpAny_noted (any_of_no (hturn _ _ ?_)))
 obtain ⟨items,nn,hD,he,hz⟩:=ac.at_
 have RD:=R'.hold hD ac.m ac.k ac.own
 have OD:=hold_ok (o:={ cls:=.type "list",data:=.seq items nn }) O ac.k
 by_cases hlt:i<xs.length
 ·rw [List.drop_eq_getElem_cons hlt] at hW
  obtain ⟨hm,hW⟩:=hW
  refine next_item (c:=c.hold D { cls:=.type "list",data:=.seq items nn }) RD OD hm hx hI' (List.getElem?_eq_getElem hlt) g1 (hold_none hID f2) f3 fun v s1 hv R1 hI1=>?_
  refine owned_ok hI1 ?_
  obtain ⟨oI,hoI,_⟩:=hI1.obj
  have R2:=R1.hold hoI g1 (hold_none hID f2) f3
  have O2:=hold_ok (o:=oI) OD (hold_none hID f2)
  rw [←hv] at hW
  have key:=ht _ O2 (like_hold (like_hold like_refl)) v σ' s1 _ R2 hW
  refine wpAny_mono key (fun _ s2 ⟨σ1,R3,q1⟩=>?_) (fun e s q=>by have q':c.E e s:=q;rw [hE] at q';exact q')
  obtain ⟨R4,hoI2,gI2,_⟩:=R3.unhold (hold_none hID f2)
  obtain ⟨R5,hD2,gD2,_⟩:=R4.unhold ac.k
  have R6:=R5.hold hoI2 gI2 f2 f3
  have O6:=hold_ok (o:=oI) O f2
  refine wpAny_mono (hb _ O6 (like_hold like_refl) σ1 s2 done _ R6 ⟨gD2,hold_none (Ne.symm hID) ac.k,ac.own,items,nn,hD2,he,hz⟩ q1) (fun _ s3 ⟨σ2,acc2,R7,ac7,q2⟩=>?_) fun zz zz q=>q
  obtain ⟨R8,hoI3,gI3,_⟩:=R7.unhold f2
  refine ⟨rfl,_,?_,i+1,acc2,σ2,rfl,hlt,R8,⟨ac7.m,of_hold_none (Ne.symm hID) ac7.k,ac7.own,ac7.at_⟩,hI1.keep (fun o eo=>by rw [hoI] at eo;cases eo;exact hoI3),gI3,q2⟩
  omega
 ·have hl:xs.length=i:=by lia
  rw [List.drop_eq_nil_of_le (by exact Nat.le_of_eq hl)] at hW
  obtain ⟨hm,hW⟩:=hW
  refine next_end (c:=c.hold D { cls:=.type "list",data:=.seq items nn }) RD OD O.hnd hm hx hI' hl g1 (hold_none hID f2) f3 fun s1 R1=>?_
  obtain ⟨R2,hD2,gD2,_⟩:=R1.unhold ac.k
  exact ⟨σ',done,R2,⟨gD2,ac.k,ac.own,items,nn,hD2,he,hz⟩,hW⟩
end
section
variable {c:FC}{σ:St}{s:Shared}{E:Value→Shared→Prop}{A:Around}
noncomputable def pushT (elt:PySem.Expr) (acc:Value) (env:Env):Sem Unit:=eval elt env>>=fun x=>call (.builtin "list.append") [acc,x]>>=fun zz=>pure ()
theorem AccAt.hold {D:Addr}{acc:List V} (ac:AccAt c σ s D acc) (R:Rel c σ s) (O:c.Ok):∃ items n,Rel (c.hold D { cls:=.type "list",data:=.seq items n }) σ s∧(c.hold D { cls:=.type "list",data:=.seq items n }).Ok∧items.toList.map vof=acc∧items.size≤sizeLine:=by
 obtain ⟨items,n,hD,he,hz⟩:=ac.at_
 exact ⟨items,n,R.hold hD ac.m ac.k ac.own,hold_ok O ac.k,he,hz⟩
theorem acc_back {D:Addr}{items:Array Value}{n:Nat}{acc:List V} (R:Rel (c.hold D { cls:=.type "list",data:=.seq items n }) σ s) (hk:c.k D=none) (he:items.toList.map vof=acc) (hz:items.size≤sizeLine):Rel c σ s∧AccAt c σ s D acc:=by
 obtain ⟨R2,h1,h2,h3⟩:=R.unhold hk
 exact ⟨R2,h2,hk,h3,items,n,h1,he,hz⟩
theorem accPush {D:Addr}{acc:List V}{x:Value}{Q:Value→Shared→Prop} (R:Rel c σ s) (O:c.Ok) (ac:AccAt c σ s D acc) (hl:acc.length<1000000) (h:∀ s',Rel c σ s'→AccAt c σ s' D (acc++[vof x])→Q .none s') :
  wpAny (MW c.X.G.w) A (call (.builtin "list.append") [.ref D,x]) Q E s:=by
 obtain ⟨items,n,hD,he,hz⟩:=ac.at_
 have hsz:items.size=acc.length:=by rw [←he];simp
 refine wpAny_list_append_plain ⟨n,hD⟩ (fun h' hp hs=>?_) hz
 obtain ⟨n',ho'⟩:=hp
 have nt:∀ o,s.heap.get? D=some o→¬tupO o:=fun o ho z=>by rw [hD] at ho;cases ho;exact absurd (Value.type.inj z.1) (by decide)
 exact h _ (R.off O (fun b o q e=>(hs.2 b q).trans e) ac.m ac.k ac.own nt s.toks) ⟨ac.m,ac.k,ac.own,_,_,ho',by simp [he],by rw [sizeLine_eq,Array.size_push];lia⟩
theorem push_ok {D:Addr}{elt:PySem.Expr}{t:PT V} (O:c.Ok) (hE:c.E=noE) (h:∀ c':FC,c'.Ok→c'.Like c→EvE c' elt t):BodyOk c D (pushT elt (.ref D) c.env) (pushW t):=by
 intro σ s acc Φ R ac q
 obtain ⟨items,n,RD,OD,he,hz⟩:=ac.hold R O
 refine wpAny_bind (wpAny_mono (h _ OD (like_hold like_refl) σ s _ RD q) (fun x s1 ⟨σ1,R1,hl,q1⟩=>?_) (fun e s q=>by have q':c.E e s:=q;rw [hE] at q';exact q'))
 obtain ⟨R2,ac2⟩:=acc_back R1 ac.k he hz
 exact wpAny_bind (accPush R2 O ac2 hl fun s2 R3 ac3=>wpAny_pure ⟨σ1,_,R3,ac3,q1⟩)
theorem emit_nil {elt:PySem.Expr}{acc:Value}{env:Env}:emitT elt [] acc env=pushT elt acc env:=by
 unfold emitT ifsOf pushT
 rw [List.forIn_nil,pure_bind,if_pos rfl]
theorem cond_ok {D:Addr}{elt q:PySem.Expr}{t:PT V}{tc:PT Bool} (O:c.Ok) (hE:c.E=noE) (h:∀ c':FC,c'.Ok→c'.Like c→EvE c' elt t) (hc:∀ c':FC,c'.Ok→c'.Like c→EvT c' q tc):BodyOk c D (emitT elt [q] (.ref D) c.env) (condW tc t):=by
 intro σ s acc Φ R ac w
 obtain ⟨items,n,RD,OD,he,hz⟩:=ac.hold R O
 unfold emitT ifsOf
 rw [List.forIn_cons]
 refine wpAny_bind (wpAny_bind ?_)
 rw [if_pos rfl]
 refine wpAny_bind (wpAny_mono (hc _ OD (like_hold like_refl) σ s _ RD w) (fun b s1 ⟨σ1,R1,q1⟩=>wpAny_pure ?_) (fun e s q=>by have q':c.E e s:=q;rw [hE] at q';exact q'))
 obtain ⟨R2,ac2⟩:=acc_back R1 ac.k he hz
 show wpAny _ _ (forIn [] b _) _ _ s1
 rw [List.forIn_nil]
 refine wpAny_pure ?_
 cases b
 ·exact wpAny_pure ⟨σ1,acc,R2,ac2,q1⟩
 ·exact push_ok O hE h σ1 s1 acc Φ R2 ac2 q1
theorem mark_none (A:Around):A.mark none=A:=by
 obtain ⟨h,d,f,g,u⟩:=A
 rfl
theorem start_ok {elt:PySem.Expr}{gens:List Comprehension}{scope:Scope}{pos:Pos}{depth:Nat}{g:Comprehension}{acc:Value}{env:Env}{I a:Addr}{mo:MO}{w:World}{R:Result→Shared→Prop} (hg:gens[depth]?=some g) (ha:g.is_async=0) (hI:IterAt s.heap I a mo 0)
  (h:codeAny (MW w) A (.compLoop (.ListComp elt gens scope pos) depth (.ref I) acc env) R s):codeAny (MW w) A (.compStart (.ListComp elt gens scope pos) depth (.ref I) acc env) R s:=by
 refine codeAny_of_tree ?_
 show wpAny _ _ ((compStart (.ListComp elt gens scope pos) depth (.ref I) acc env).onRaise (fun x=>do noteFrame x env;standAt theWindowsPlace)) _ _ s
 refine wpAny_notedAt ?_
 unfold compStart
 have e1:((clausesOf (.ListComp elt gens scope pos))[depth]?).elim false (·.is_async != 0)=false:=by
  show (gens[depth]?).elim false (·.is_async != 0)=false
  rw [hg];show (g.is_async != 0)=false
  rw [ha];rfl
 have e2:(clausesOf (.ListComp elt gens scope pos))[depth]?=some g:=hg
 rw [e1,e2]
 rw [if_neg Bool.false_ne_true]
 refine wpAny_bind (wpAny_askSetting ?_)
 split
 ·exact wpAny_pure (And.intro rfl h)
 ·exact wpAny_bind (wpAny_rule (wpAny_bind (wpAny_standAt (wpAny_bind (self_iter hI (wpAny_pure (And.intro rfl h)))))))
theorem turn_1' (elt target iter:PySem.Expr) (ifs:List PySem.Expr) (scope:Scope) (pos:Pos) (it acc:Value) (env:Env) :
  compTurn (.ListComp elt [⟨target,iter,ifs,0⟩] scope pos) 0 it acc env=(standAt iter.pos>>=fun zz=>pyNext it>>=fun r=>match r with
   | none=>pure (.done .next)
   | some v=>letOwnedTupleGo target it v>>=fun zz=>assign target env v>>=fun zz=>emitT elt ifs acc env>>=fun zz=>again (.compLoop (.ListComp elt [⟨target,iter,ifs,0⟩] scope pos) 0 it acc env)):=by
 rw [turn_1]
 congr 1;funext _;congr 1;funext r
 cases r with
 | none=>rfl
 | some v =>
  dsimp only
  congr 1;funext _;congr 1;funext _
  unfold emitT
  refine ((bind_assoc (ifsOf ifs env) _ _).trans (congrArg _ (funext fun ok=>?_))).symm
  cases ok <;> simp
theorem hturn_of {e:PySem.Expr}{depth:Nat}{I D:Addr}{target:PySem.Expr}{code:Sem Unit}{ip:Pos}{w:World}{env:Env}
  (he:compTurn e depth (.ref I) (.ref D) env=(standAt ip>>=fun zz=>pyNext (.ref I)>>=fun r=>match r with
   | none=>pure (.done .next)
   | some v=>letOwnedTupleGo target (.ref I) v>>=fun zz=>assign target env v>>=fun zz=>code>>=fun zz=>again (.compLoop e depth (.ref I) (.ref D) env))) :
  ∀ (Q:Fin→Shared→Prop) (s:Shared),wpAny (MW w) A (pyNext (.ref I)) (fun r s1=>match r with
   | none=>Q (.done .next) s1
   | some v=>wpAny (MW w) A (letOwnedTupleGo target (.ref I) v) (fun zz s2=>wpAny (MW w) A (assign target env v) (fun zz s3=>wpAny (MW w) A code (fun zz s4=>Q (.again (.compLoop e depth (.ref I) (.ref D) env)) s4) noE s3) noE s2) noE s1) noE s →
   wpAny (MW w) A (compTurn e depth (.ref I) (.ref D) env) Q noE s:=by
 intro Q s h
 rw [he]
 refine wpAny_bind (wpAny_standAt (wpAny_bind (wpAny_mono h (fun r s1 h1=>?_) fun zz zz e=>e)))
 cases r with
 | none=>exact wpAny_pure h1
 | some v=>exact wpAny_bind (wpAny_mono h1 (fun zz s2 h2=>wpAny_bind (wpAny_mono h2 (fun zz s3 h3=>wpAny_bind (wpAny_mono h3 (fun zz s4 h4=>wpAny_pure h4) fun zz zz e=>e)) fun zz zz e=>e)) fun zz zz e=>e)
theorem loop1 {elt target iter:PySem.Expr}{ifs:List PySem.Expr}{scope:Scope}{pos:Pos}{I D a:Addr}{mo:MO}{xs:List V}{t:V→St→(St→Prop)→Prop}{inner:List V→St→(List V→St→Prop)→Prop}{Φ:List V→St→Prop}{acc:List V}
  (O:c.Ok) (hx:itemsM mo=some xs) (ht:∀ c':FC,c'.Ok→c'.Like c→EvG c' target t) (hE:c.E=noE) (hb:∀ c':FC,c'.Ok→c'.Like c→BodyOk c' D (emitT elt ifs (.ref D) c'.env) inner)
  (R:Rel c σ s) (acc0:AccAt c σ s D acc) (hI:IterAt s.heap I a mo 0) (f1:σ.m I=none) (f2:c.k I=none) (f3:I∉c.own) (hID:I≠D) (h:compW a mo t inner xs acc σ Φ) :
  codeAny (MW c.X.G.w) c.A (.compStart (.ListComp elt [⟨target,iter,ifs,0⟩] scope pos) 0 (.ref I) (.ref D) c.env) (accR c D Φ) s :=
 start_ok (g:=⟨target,iter,ifs,0⟩) rfl rfl hI (comp_loop (code:=emitT elt ifs (.ref D) c.env) O hx ht hE (fun c' O' L=>by obtain ⟨k',rfl⟩:=L;exact hb _ O' ⟨_,rfl⟩) rfl (hturn_of (turn_1' ..)) (fun zz zz zz h=>h) R acc0 hI f1 f2 f3 hID h)
theorem loop2i {elt target iter t2 it2:PySem.Expr}{scope:Scope}{pos:Pos}{I D a:Addr}{mo:MO}{xs:List V}{t:V→St→(St→Prop)→Prop}{inner:List V→St→(List V→St→Prop)→Prop}{Φ:List V→St→Prop}{acc:List V}
  (O:c.Ok) (hx:itemsM mo=some xs) (ht:∀ c':FC,c'.Ok→c'.Like c→EvG c' t2 t) (hE:c.E=noE) (hb:∀ c':FC,c'.Ok→c'.Like c→BodyOk c' D (pushT elt (.ref D) c'.env) inner)
  (R:Rel c σ s) (acc0:AccAt c σ s D acc) (hI:IterAt s.heap I a mo 0) (f1:σ.m I=none) (f2:c.k I=none) (f3:I∉c.own) (hID:I≠D) (h:compW a mo t inner xs acc σ Φ) :
  codeAny (MW c.X.G.w) c.A (.compStart (.ListComp elt [⟨target,iter,[],0⟩,⟨t2,it2,[],0⟩] scope pos) 1 (.ref I) (.ref D) c.env) (accR c D Φ) s :=
 start_ok (g:=⟨t2,it2,[],0⟩) rfl rfl hI (comp_loop (code:=pushT elt (.ref D) c.env) O hx ht hE (fun c' O' L=>by obtain ⟨k',rfl⟩:=L;exact hb _ O' ⟨_,rfl⟩) rfl (hturn_of (turn_2i ..)) (fun zz zz zz h=>h) R acc0 hI f1 f2 f3 hID h)
set_option tactic.hygienic true in
theorem nest_ok {elt target iter t2 it2:PySem.Expr}{scope:Scope}{pos:Pos}{D:Addr}{t':V→St→(St→Prop)→Prop}{te tit:PT V} (O:c.Ok) (hE:c.E=noE)
  (hs:∀ x,foldedSetIterable it2 c.env x=pure x) (h1:∀ c':FC,c'.Ok→c'.Like c→EvE c' it2 tit) (h2:∀ c':FC,c'.Ok→c'.Like c→EvG c' t2 t') (h3:∀ c':FC,c'.Ok→c'.Like c→EvE c' elt te) :
  BodyOk c D (nestT (.ListComp elt [⟨target,iter,[],0⟩,⟨t2,it2,[],0⟩] scope pos) it2 (.ref D) c.env) (fun acc σ2 Ψ=>overW tit σ2 fun a' mo' xs' σ3=>compW a' mo' t' (pushW te) xs' acc σ3 Ψ):=by
 intro σ s acc Φ R ac q
 obtain ⟨items,n,RD,OD,he,hz⟩:=ac.hold R O
 unfold nestT
 refine wpAny_bind (wpAny_mono (h1 _ OD (like_hold like_refl) σ s _ RD q) (fun x s1 ⟨σ1,R1,q1⟩=>?_) (fun e s q=>by have q':c.E e s:=q;rw [hE] at q';exact q'))
 obtain ⟨R2,ac2⟩:=acc_back R1 ac.k he hz
 refine wpAny_bind (wpAny_standAt (wpAny_bind (wpAny_of_eq (hs x) (wpAny_bind (wpAny_holding ?_)))))
 dsimp only at q1
 split at q1
 ·rename_i a mo xs hi
  refine iter_ok R2 hi fun o hm hx hI=>?_
  obtain ⟨f1,f2,f3⟩:=R2.fresh3
  have R3:Rel c σ1 { s1 with heap:=s1.heap.push o }:=R2.push o s1.toks
  have hne:s1.heap.objs.size≠D:=fun z=>by obtain ⟨_,_,hD,_⟩:=ac2.at_;exact absurd (Heap.lt_size (z▸hD)) (Nat.lt_irrefl _)
  have ac3:AccAt c σ1 { s1 with heap:=s1.heap.push o } D acc:=⟨ac2.m,ac2.k,ac2.own,by obtain ⟨i,n,hD,r⟩:=ac2.at_;exact ⟨i,n,Heap.get?_push_of_some _ hD,r⟩⟩
  refine wpAny_bind (wpAny_runOwn (h:=none) ?_)
  rw [mark_none]
  refine codeAny_mono (loop2i O hx h2 hE (fun c' O' L=>by
   have hE':c'.E=noE:=by obtain ⟨k',rfl⟩:=L;exact hE
   exact push_ok O' hE' fun c'' O'' L''=>h3 c'' O'' (by obtain ⟨k',rfl⟩:=L;obtain ⟨k'',rfl⟩:=L'';exact ⟨_,rfl⟩)) R3 ac3 hI f1 f2 f3 hne q1) fun r s2 z=>?_
  unfold accR at z
  split at z
  ·exact wpAny_pure z
  ·exact z.elim
 ·exact q1.elim
theorem loop2 {elt target iter t2 it2:PySem.Expr}{scope:Scope}{pos:Pos}{I D a:Addr}{mo:MO}{xs:List V}{t:V→St→(St→Prop)→Prop}{inner:List V→St→(List V→St→Prop)→Prop}{Φ:List V→St→Prop}{acc:List V}
  (O:c.Ok) (hx:itemsM mo=some xs) (ht:∀ c':FC,c'.Ok→c'.Like c→EvG c' target t) (hE:c.E=noE) (hb:∀ c':FC,c'.Ok→c'.Like c→BodyOk c' D (nestT (.ListComp elt [⟨target,iter,[],0⟩,⟨t2,it2,[],0⟩] scope pos) it2 (.ref D) c'.env) inner)
  (R:Rel c σ s) (acc0:AccAt c σ s D acc) (hI:IterAt s.heap I a mo 0) (f1:σ.m I=none) (f2:c.k I=none) (f3:I∉c.own) (hID:I≠D) (h:compW a mo t inner xs acc σ Φ) :
  codeAny (MW c.X.G.w) c.A (.compStart (.ListComp elt [⟨target,iter,[],0⟩,⟨t2,it2,[],0⟩] scope pos) 0 (.ref I) (.ref D) c.env) (accR c D Φ) s :=
 start_ok (g:=⟨target,iter,[],0⟩) rfl rfl hI (comp_loop (code:=nestT (.ListComp elt [⟨target,iter,[],0⟩,⟨t2,it2,[],0⟩] scope pos) it2 (.ref D) c.env) O hx ht hE (fun c' O' L=>by obtain ⟨k',rfl⟩:=L;exact hb _ O' ⟨_,rfl⟩) rfl (hturn_of (turn_2o ..)) (fun zz zz zz h=>h) R acc0 hI f1 f2 f3 hID h)
end
noncomputable def closL (cells:List (Str × Addr)):List (Str × NameKind)→List (Str × Addr)→List (Str × Addr)
 | [],acc=>acc
 | (n,k)::r,acc=>if k==.free then closL cells r ((n,(cells.lookup n).getD 0)::acc) else closL cells r acc
theorem clos_go {cells:List (Str × Addr)}{env:Env} (hc:env.cells=cells) (f:Str × NameKind→List (Str × Addr)→Sem (ForInStep (List (Str × Addr))))
  (hf:∀ n k acc,f (n,k) acc=if k==NameKind.free then (do let a←cellOf env n;pure (ForInStep.yield ((n,a)::acc))) else pure (ForInStep.yield acc)) :
  ∀ (l:List (Str × NameKind)) (acc:List (Str × Addr)),(∀ p∈l,p.2=.free→∃ ca,cells.lookup p.1=some ca)→forIn l acc f=pure (closL cells l acc)
 | [],acc,_=>by rw [List.forIn_nil];rfl
 | (n,k)::r,acc,h=>by
  rw [List.forIn_cons,hf]
  unfold closL
  by_cases hk:(k==NameKind.free)=true
  ·obtain ⟨ca,e⟩:=h (n,k) List.mem_cons_self (by simpa using hk)
   have hco:cellOf env n=pure ca:=by unfold cellOf;rw [hc,e]
   rw [if_pos hk,if_pos hk,hco,pure_bind,pure_bind]
   dsimp only
   rw [e]
   exact clos_go hc f hf r _ fun p hp=>h p (List.mem_cons_of_mem _ hp)
  ·rw [if_neg hk,if_neg hk,pure_bind]
   exact clos_go hc f hf r _ fun p hp=>h p (List.mem_cons_of_mem _ hp)
theorem closureFor_eq {scope:Scope}{env:Env} (h:∀ p∈scope.names,p.2=.free→∃ ca,env.cells.lookup p.1=some ca):closureFor scope env=pure (closL env.cells scope.names []):=by
 unfold closureFor
 refine (congrArg (fun x=>x>>=_) (clos_go rfl _ (fun n k acc=>rfl) scope.names [] h)).trans ?_
 rfl
theorem clos_cons {cells:List (Str × Addr)}:∀ (l:List (Str × NameKind)) (acc:List (Str × Addr)),(∀ n c,(n,c)∈acc→c=(cells.lookup n).getD 0)→∀ n c,(n,c)∈closL cells l acc→c=(cells.lookup n).getD 0
 | [],acc,h=>h
 | (n,k)::r,acc,h=>by
  unfold closL
  split
  ·exact clos_cons r _ fun m c hm=>by
    rcases List.mem_cons.mp hm with e|hm
    ·cases e;rfl
    ·exact h m c hm
  ·exact clos_cons r _ h
set_option tactic.hygienic true in
theorem clos_mem {cells:List (Str × Addr)}{x:Str}:∀ (l:List (Str × NameKind)) (acc:List (Str × Addr)),(x∈acc.map (·.1)∨(x,NameKind.free)∈l)↔x∈(closL cells l acc).map (·.1)
 | [],acc=>by simp [closL]
 | (n,k)::r,acc=>by
  unfold closL
  split
  ·rename_i hk
   have:k=.free:=by simpa using hk
   subst this
   rw [←clos_mem r]
   simp only [List.map_cons,List.mem_cons,Prod.mk.injEq,and_true]
   constructor
   ·rintro (h|h|h)
    ·exact .inl (.inr h)
    ·exact .inl (.inl h)
    ·exact .inr h
   ·rintro ((h|h)|h)
    ·exact .inr (.inl h)
    ·exact .inl h
    ·exact .inr (.inr h)
  ·rename_i hk
   have hk:k≠.free:=by simpa using hk
   rw [←clos_mem r]
   simp only [List.mem_cons,Prod.mk.injEq]
   constructor
   ·rintro (h|⟨_,h⟩|h)
    ·exact .inl h
    ·exact absurd h.symm hk
    ·exact .inr h
   ·rintro (h|h)
    ·exact .inl h
    ·exact .inr (.inr h)
theorem lookup_mem {α:Type}{x:Str}:∀ {l:List (Str × α)},x∈l.map (·.1)→∃ v,l.lookup x=some v
 | [],h=>by simp at h
 | (y,v)::r,h=>by
  rw [List.lookup_cons]
  cases hx:x==y with
  | true=>exact ⟨v,rfl⟩
  | false =>
   simp only [List.map_cons,List.mem_cons] at h
   rcases h with h|h
   ·rw [h] at hx;simp at hx
   ·exact lookup_mem h
theorem clos_lookup {cells:List (Str × Addr)}{x:Str}{l:List (Str × NameKind)}:((x,NameKind.free)∈l→(closL cells l []).lookup x=some ((cells.lookup x).getD 0))∧(∀ ca,(closL cells l []).lookup x=some ca→(x,NameKind.free)∈l∧ca=(cells.lookup x).getD 0):=by
 have hc:=clos_cons (cells:=cells) l [] (fun zz zz h=>by simp at h)
 refine ⟨fun h=>?_,fun ca h=>?_⟩
 ·obtain ⟨v,e⟩:=lookup_mem ((clos_mem (cells:=cells) l []).mp (.inr h))
  rw [e,hc x v (mem_of_lookup e)]
 ·have hm:=mem_of_lookup h
  refine ⟨?_,hc x ca hm⟩
  rcases (clos_mem (cells:=cells) l []).mpr (List.mem_map.mpr ⟨_,hm,rfl⟩) with q|q
  ·simp at q
  ·exact q
structure Fits (c:FC) (cx:CX):Prop where
 sc:c.env.scope=cx.sc
 names:c.names=cx.names
 fn:c.fn=cx.fn
theorem Fits.kd {c:FC}{cx:CX} (F:Fits c cx) (x:Str):c.env.kindOf x=cx.kd x:=by unfold Env.kindOf CX.kd;rw [F.sc]
theorem Fits.like {c c':FC}{cx:CX} (F:Fits c cx) (h:c'.Like c):Fits c' cx:=by
 obtain ⟨k',rfl⟩:=h;exact ⟨F.sc,F.names,F.fn⟩
theorem nodup_lookup {α:Type}{x:Str}{v:α}:∀ {l:List (Str × α)},(l.map (·.1)).Nodup→(x,v)∈l→l.lookup x=some v
 | [],_,h=>by simp at h
 | (y,u)::r,nd,h=>by
  rw [List.map_cons,List.nodup_cons] at nd
  rw [List.lookup_cons]
  rcases List.mem_cons.mp h with e|h
  ·cases e;rw [beq_self_eq_true]
  ·have:(x==y)=false:=by
    apply beq_eq_false_iff_ne.mpr
    intro q
    exact nd.1 (q▸List.mem_map.mpr ⟨_,h,rfl⟩)
   rw [this]
   exact nodup_lookup nd.2 h
theorem lookup_map_kd {x:Str}{f:Str→NameKind→NameKind}:∀ (l:List (Str × NameKind)),(l.map fun p=>(p.1,f p.1 p.2)).lookup x=(l.lookup x).map (f x)
 | []=>rfl
 | (y,k)::r=>by
  rw [List.map_cons,List.lookup_cons,List.lookup_cons]
  cases hx:x==y with
  | true=>rw [beq_iff_eq.mp hx];rfl
  | false=>exact lookup_map_kd r
theorem relabel_lookup {scope out:Scope}{x:Str}:(relabelX scope out).names.lookup x=(scope.names.lookup x).map fun k=>if (k==.free&&out.kind==.function&&out.names.lookup x==some .cell) then .cell else k:=by
 unfold relabelX
 have:(fun (p:Str × NameKind)=>(match p with|(n,k)=>if (k==.free&&out.kind==.function&&out.names.lookup n==some .cell)=true then (n,NameKind.cell) else (n,k))) =
   fun p=>(p.1,(fun n k=>if (k==.free&&out.kind==.function&&out.names.lookup n==some .cell)=true then NameKind.cell else k) p.1 p.2):=by
  funext p
  obtain ⟨n,k⟩:=p
  dsimp only
  split <;> rfl
 show (scope.names.map (fun (p:Str × NameKind)=>(match p with|(n,k)=>if (k==.free&&out.kind==.function&&out.names.lookup n==some .cell)=true then (n,NameKind.cell) else (n,k)))).lookup x=_
 rw [this]
 exact lookup_map_kd (f:=fun n k=>if (k==.free&&out.kind==.function&&out.names.lookup n==some .cell)=true then NameKind.cell else k) scope.names
structure CompF (cx:CX) (scope:Scope):Prop where
 kind:scope.kind=.function
 okind:cx.sc.kind=.function
 nd:(scope.names.map (·.1)).Nodup
 nocell:∀ p∈scope.names,p.2≠.cell
 noempty:∀ p∈scope.names,p.1≠ofString ""
 free:∀ p∈scope.names,p.2=.free→cx.kd p.1=some .cell∨cx.kd p.1=some .free
set_option tactic.hygienic true in
theorem compF {cx:CX}{scope:Scope} (h:compOk cx scope=true):CompF cx scope:=by
 unfold compOk at h
 simp only [Bool.and_eq_true,beq_iff_eq,decide_eq_true_eq,List.all_eq_true,bne_iff_ne,ne_eq,Bool.or_eq_true] at h
 obtain ⟨⟨⟨⟨h1,h2⟩,h3⟩,h4⟩,h5⟩:=h
 refine ⟨h1,h2,h3,fun p hp=>(h4 p hp).1,fun p hp=>(h4 p hp).2,fun p hp hf=>?_⟩
 rcases h5 p hp with q|q
 ·exact absurd hf q
 ·split at q
  ·rename_i e;exact .inl e
  ·rename_i e;exact .inr e
  ·cases q
theorem comp_kd {cx:CX}{scope:Scope}{x:Str}{k:NameKind} (F:CompF cx scope) (h:(relabelX scope cx.sc).names.lookup x=some k):(k=.cell∨k=.free→(x,NameKind.free)∈scope.names)∧(k=.local→(x,NameKind.local)∈scope.names):=by
 rw [relabel_lookup] at h
 obtain ⟨k0,h1,h2⟩:=Option.map_eq_some_iff.mp h
 have hm:=mem_of_lookup h1
 by_cases q:(k0==.free&&cx.sc.kind==.function&&cx.sc.names.lookup x==some .cell)=true
 ·rw [if_pos q] at h2
  subst h2
  simp only [Bool.and_eq_true,beq_iff_eq] at q
  obtain ⟨⟨rfl,_⟩,_⟩:=q
  exact ⟨fun zz=>hm,fun z=>by cases z⟩
 ·rw [if_neg q] at h2
  subst h2
  refine ⟨fun z=>?_,fun z=>by rw [←z];exact hm⟩
  rcases z with z|z
  ·exact absurd z (F.nocell _ hm)
  ·rw [←z];exact hm
section
variable {c:FC}{σ:St}{s:Shared}{E:Value→Shared→Prop}{A:Around}
set_option tactic.hygienic true in
theorem comp_core {cx:CX}{scope:Scope}{e:PySem.Expr}{x:Value}{a:Addr}{mo:MO}{xs:List V}{t:V→St→(St→Prop)→Prop}{inner:List V→St→(List V→St→Prop)→Prop}{Ψ:List V→St→Prop}{use:Option (Value→Sem Unit)}{Q:Value→Shared→Prop}
  (O:c.Ok) (Fi:Fits c cx) (hq:c.X.quiet) (F:CompF cx scope) (R:Rel c σ s) (hi:iterOf σ.m (vof x)=some (a,mo,xs))
  (h:compW a mo t inner xs [] ⟨σ.ρ++List.replicate (locX scope).length none,σ.m⟩ Ψ)
  (loop:∀ c2:FC,c2.Ok→Fits c2 (compCX cx scope)→c2.X=c.X→c2.E=noE→∀ (σ2:St) (s2:Shared) (I D:Addr),Rel c2 σ2 s2→AccAt c2 σ2 s2 D []→IterAt s2.heap I a mo 0→σ2.m I=none→c2.k I=none→I∉c2.own→I≠D→itemsM mo=some xs→compW a mo t inner xs [] σ2 Ψ →
   codeAny (MW c2.X.G.w) c2.A (.compStart e 0 (.ref I) (.ref D) c2.env) (accR c2 D Ψ) s2)
  (fin:∀ (D C:Addr) (acc:List V) (σ':St) (s':Shared),Rel c ⟨σ.ρ,σ'.m⟩ s'→AccAt c ⟨σ.ρ,σ'.m⟩ s' D acc→2<D→(∃ m,s'.heap.Ns C m)→σ'.m C=none→c.k C=none→C∉c.own→C≠D→Ψ acc σ'→compPost (MW c.X.G.w) c.A c.E use Q (.ref D) C (.ok .next) s') :
  wpAny (MW c.X.G.w) c.A (pyIter x) (fun it s2=>wpAny (MW c.X.G.w) c.A (newList []) (fun acc s3=>wpAny (MW c.X.G.w) c.A (newFunctionEnv scope c.env.globals (closL c.env.cells scope.names []) [] c.env.qual none .none (some c.env)) (fun cenv s4 =>
   codeAny (MW c.X.G.w) c.A (.compStart e 0 it acc { cenv with scope:=relabel scope c.env }) (compPost (MW c.X.G.w) c.A c.E use Q acc cenv.locals) s4) c.E s3) c.E s2) c.E s:=by
 refine iter_ok R hi fun o hm hx hI=>?_
 obtain ⟨f1,f2,f3⟩:=R.fresh3
 generalize hIe:s.heap.objs.size=I at *
 have R1:Rel c σ { s with heap:=s.heap.push o }:=R.push o s.toks
 have sz1:(s.heap.push o).objs.size=I+1:=by rw [Heap.size_push,hIe]
 refine wpAny_newObj_type ?_
 generalize hD:(s.heap.push o).objs.size=D at *
 have two:2<D:=by have:=R1.size O;rw [show ({ s with heap:=s.heap.push o }:Shared).heap.objs.size=D from hD] at this;exact this
 have g1:=R1.fresh3
 rw [show ({ s with heap:=s.heap.push o }:Shared).heap.objs.size=D from hD] at g1
 obtain ⟨d1,d2,d3⟩:=g1
 have R2:Rel c σ { s with heap:=(s.heap.push o).push { cls:=.type "list",data:=.seq ([]:List Value).toArray } }:=R1.push _ s.toks
 have hDo:((s.heap.push o).push { cls:=.type "list",data:=.seq ([]:List Value).toArray }).get? D=some { cls:=.type "list",data:=.seq #[] 0 }:=by rw [←hD];exact Heap.get?_push_size _ rfl
 have hI2:IterAt ((s.heap.push o).push { cls:=.type "list",data:=.seq ([]:List Value).toArray }) I a mo 0:=hI.keep fun zz e=>Heap.get?_push_of_some _ e
 generalize hH:(s.heap.push o).push { cls:=.type "list",data:=.seq ([]:List Value).toArray }=H at *
 refine wpAny_newFunctionEnv F.nocell (by intro y hy;simp at hy) (fun h1 hns hsb=>?_) F.kind
 dsimp only at hns hsb ⊢
 have szH:H.objs.size=D+1:=by rw [←hH,Heap.size_push,hD]
 generalize hC:H.objs.size=C at *
 have g3:=R2.fresh3
 rw [show ({ s with heap:=H }:Shared).heap.objs.size=C from hC] at g3
 obtain ⟨c1,c2,c3⟩:=g3
 have grow:∀ b o,H.get? b=some o→h1.get? b=some o:=fun b o e=>hsb.extBut b o (by have:=Heap.lt_size e;rw [hC] at this;exact Nat.ne_of_lt this) (Heap.get?_push_of_some _ e)
 have R3:Rel c σ { s with heap:=h1,toks:=s.toks+([]:List (Str × Value)).length }:=Rel.grown (s:={ s with heap:=H }) R2 grow _
 have hDo3:=grow _ _ hDo
 have hI3:IterAt h1 I a mo 0:=hI2.keep fun zz e=>grow _ _ e
 generalize hs4:({ s with heap:=h1,toks:=s.toks+([]:List (Str × Value)).length }:Shared)=s4 at *
 have hh4:s4.heap=h1:=by rw [←hs4]
 have cellAt:∀ y,(y,NameKind.free)∈scope.names→∃ ca,c.env.cells.lookup y=some ca∧(closL c.env.cells scope.names []).lookup y=some ca:=fun y hy=>by
  obtain ⟨ca,e⟩:=O.cdom y (by rw [Fi.kd];exact F.free _ hy rfl)
  exact ⟨ca,e,by rw [clos_lookup.1 hy,e];rfl⟩
 have cellOf':∀ y ca,(closL c.env.cells scope.names []).lookup y=some ca→(y,NameKind.free)∈scope.names∧c.env.cells.lookup y=some ca:=fun y ca e=>by
  obtain ⟨q1,q2⟩:=clos_lookup.2 ca e
  obtain ⟨cb,e1,e2⟩:=cellAt y q1
  rw [e] at e2;cases e2
  exact ⟨q1,e1⟩
 have hsc:relabel scope c.env=relabelX scope cx.sc:=by rw [←Fi.sc];rfl
 let cc:FC:=⟨c.X,c.A,compEnvC scope (closL c.env.cells scope.names []) C c.env,kk c s4.heap,(compCX cx scope).names,[C],noE,false⟩
 have kd2:∀ y k,cc.env.kindOf y=some k→(relabelX scope cx.sc).names.lookup y=some k:=fun y k e=>by rw [←hsc];exact e
 have ltC:∀ y ca,c.env.cells.lookup y=some ca→ca≠C:=fun y ca e z=>by
  obtain ⟨v,o',h2,_⟩:=R.C y ca e
  have:=Heap.lt_size h2
  rw [hIe,z] at this
  have h6:C<I:=this
  have h7:D=I+1:=sz1
  have h8:C=D+1:=szH
  lia
 have Occ:cc.Ok:={
  G:=O.G
  base:=R3.kbase O
  kind:=by show (relabel scope c.env).kind=_;exact F.kind
  glb:=O.glb
  blt:=O.blt
  loc:=List.mem_singleton.mpr rfl
  room:=O.room
  hnd:=O.hnd
  cells:=fun y ca e=>by
   obtain ⟨_,e1⟩:=cellOf' y ca e
   refine .inr ?_
   rcases O.cells y ca e1 with q|q
   ·obtain ⟨o',q1,_⟩:=R3.kown ca q
    show (kk c s4.heap ca).isSome=true
    rw [q1];rfl
   ·obtain ⟨o',q1⟩:=Option.isSome_iff_exists.mp q
    show (kk c s4.heap ca).isSome=true
    rw [R3.ksub ca o' q1];rfl
  inj:=fun y z ca e1 e2=>O.inj y z ca (cellOf' y ca e1).2 (cellOf' z ca e2).2
  lne:=fun y ca e=>ltC y ca (cellOf' y ca e).2
  cown:=fun q=>by cases q
  frames:=by
   obtain ⟨l,h1',h2⟩:=O.frames
   refine ⟨l,h1',fun env he=>?_⟩
   obtain ⟨q1,L,q2,q3⟩:=h2 env he
   refine ⟨q1,L,q2,.inr ?_⟩
   rcases q3 with q3|⟨o',q3,q4⟩
   ·obtain ⟨o',w1,w2⟩:=R3.kown L q3
    exact ⟨o',w1,ownLike.notF w2⟩
   ·exact ⟨o',R3.ksub L o' q3,q4⟩
  pass:=PassesOwn.never
  cdom:=fun y hy=>by
   obtain ⟨k,hk,e⟩:∃ k,(k=.cell∨k=.free)∧cc.env.kindOf y=some k:=by
    rcases hy with q|q
    ·exact ⟨_,.inl rfl,q⟩
    ·exact ⟨_,.inr rfl,q⟩
   obtain ⟨ca,_,e2⟩:=cellAt y ((comp_kd F (kd2 y k e)).1 hk)
   exact ⟨ca,e2⟩
  fly:=fun ea m k' s' zz zz zz hψ=>(hq ea m hψ).elim }
 have Fcc:Fits cc (compCX cx scope):=⟨hsc,rfl,rfl⟩
 have nameAt:∀ i y k,cc.names[i]?=some y→cc.env.kindOf y=some k→i<c.names.length→(k=.cell∨k=.free)∧c.names[i]?=some y:=fun i y k e1 e2 hl=>by
  have e2':=kd2 y k e2
  have e1':(maskX (relabelX scope cx.sc) cx.names++locX scope)[i]?=some y:=e1
  rw [Fi.names] at hl ⊢
  rw [List.getElem?_append_left (by unfold maskX;simpa using hl)] at e1'
  unfold maskX at e1'
  rw [List.getElem?_map] at e1'
  obtain ⟨z,hz,e3⟩:=Option.map_eq_some_iff.mp e1'
  split at e3
  ·rename_i q;subst e3;rw [e2'] at q;cases q;exact ⟨.inl rfl,hz⟩
  ·rename_i q;subst e3;rw [e2'] at q;cases q;exact ⟨.inr rfl,hz⟩
  ·subst e3
   rw [relabel_lookup] at e2'
   obtain ⟨k0,h5,_⟩:=Option.map_eq_some_iff.mp e2'
   exact absurd rfl (F.noempty _ (mem_of_lookup h5))
 have lookLt:∀ i v,look (σ.ρ++List.replicate (locX scope).length none) i=some v→i<c.names.length∧look σ.ρ i=some v:=fun i v e=>by
  rw [look_get,List.getElem?_append] at e
  split at e
  ·rename_i q;rw [R.F.len] at q;exact ⟨q,by rw [look_get];exact e⟩
  ·rw [List.getElem?_replicate] at e
   split at e <;> cases e
 have hnsC:∃ m,s4.heap.Ns C m:=by rw [hh4];exact ⟨_,hns⟩
 have Rcc:Rel cc ⟨σ.ρ++List.replicate (locX scope).length none,σ.m⟩ s4:=by
  refine ⟨R3.kk,⟨⟨_,hnsC.choose_spec,fun i y v e1 e2 e3=>?_⟩,fun i y v e1 e2 e3=>?_,?_⟩,fun b hb=>?_,fun b hb=>?_,fun y ca e=>?_⟩
  ·obtain ⟨hl,e4⟩:=lookLt i v e3
   obtain ⟨q,_⟩:=nameAt i y _ e1 e2 hl
   rcases q with q|q <;> cases q
  ·obtain ⟨hl,e4⟩:=lookLt i v e3
   obtain ⟨k,hk,e2'⟩:∃ k,(k=.cell∨k=.free)∧cc.env.kindOf y=some k:=by
    rcases e2 with q|q
    ·exact ⟨_,.inl rfl,q⟩
    ·exact ⟨_,.inr rfl,q⟩
   obtain ⟨_,e5⟩:=nameAt i y k e1 e2' hl
   have hfree:=(comp_kd F (kd2 y k e2')).1 hk
   obtain ⟨ca,u,w1,w2,w3⟩:=R3.F.cel i y v e5 (by rw [Fi.kd];exact F.free _ hfree rfl) e4
   obtain ⟨cb,w4,w5⟩:=cellAt y hfree
   rw [w1] at w4;cases w4
   exact ⟨ca,u,w5,w2,w3⟩
  ·show (σ.ρ++List.replicate (locX scope).length none).length=(maskX (relabelX scope cx.sc) cx.names++locX scope).length
   rw [List.length_append,List.length_append,R.F.len,List.length_replicate,Fi.names]
   unfold maskX
   rw [List.length_map]
  ·have:b=C:=List.mem_singleton.mp hb
   subst this
   refine ⟨c1,?_⟩
   show kk c s4.heap b=none
   unfold kk
   rw [if_neg c3];exact c2
  ·have:b=C:=List.mem_singleton.mp hb
   subst this
   obtain ⟨m,hm'⟩:=hnsC
   obtain ⟨o',es,ep,q1,q2⟩:=Heap.Ns.obj hm'
   exact ⟨o',q1,by unfold ownLike;rw [q2]⟩
  ·exact R3.C y ca (cellOf' y ca e).2
 have kkn:∀ b,c.k b=none→b∉c.own→kk c s4.heap b=none:=fun b q1 q2=>by unfold kk;rw [if_neg q2];exact q1
 have hID:I≠D:=by lia
 have hCD:C≠D:=by lia
 have hCI:C≠I:=by lia
 have accD:AccAt cc ⟨σ.ρ++List.replicate (locX scope).length none,σ.m⟩ s4 D []:=⟨d1,kkn D d2 d3,fun q=>hCD (List.mem_singleton.mp q).symm,#[],0,by rw [hh4];exact hDo3,rfl,by simp⟩
 have:=loop cc Occ Fcc rfl rfl _ s4 I D Rcc accD (by rw [hh4];exact hI3) f1 (kkn I f2 f3) (fun q=>hCI (List.mem_singleton.mp q).symm) hID hx h
 refine codeAny_mono this fun r s' z=>?_
 unfold accR at z
 split at z
 ·obtain ⟨σ',acc',Rz,az,hz⟩:=z
  have Rb:=R3.back O Rz.S
  refine fin D C acc' σ' s' Rb ⟨az.m,d2,d3,az.at_⟩ two ?_ (Rz.O C (List.mem_singleton.mpr rfl)).1 c2 c3 hCD hz
  obtain ⟨nm,hn,_⟩:=Rz.F.loc
  exact ⟨nm,hn⟩
 ·exact z.elim
end
section
variable {c:FC}{σ:St}{s:Shared}{E:Value→Shared→Prop}{A:Around}
theorem ns_notTup {h:Heap}{C:Addr}{m:Str→Option Value} (x:h.Ns C m):∀ o,h.get? C=some o→¬tupO o:=fun o ho=>by
 obtain ⟨o',es,ep,q1,q2⟩:=Heap.Ns.obj x
 rw [ho] at q1;cases q1
 exact fun ⟨_,_,_,e⟩=>by rw [q2] at e;cases e
theorem comp_fin {D C:Addr}{acc:List V}{σ':St}{ρ:List (Option V)}{Φ:V→St→Prop} (O:c.Ok) (R:Rel c ⟨ρ,σ'.m⟩ s) (ac:AccAt c ⟨ρ,σ'.m⟩ s D acc) (two:2<D) (hC:∃ m,s.heap.Ns C m) (c1:σ'.m C=none) (c2:c.k C=none) (c3:C∉c.own) (hCD:C≠D)
  (h:madeW ρ Φ acc σ'):compPost (MW c.X.G.w) c.A c.E none (post c Φ) (.ref D) C (.ok .next) s:=by
 obtain ⟨m,hm⟩:=hC
 refine ⟨m,hm,fun h' sb=>?_⟩
 have R':=R.off O (fun b o q e=>sb.extBut b o q e) c1 c2 c3 (ns_notTup hm) s.toks
 obtain ⟨items,n,hD,he,hz⟩:=ac.at_
 have hD':h'.get? D=some { cls:=.type "list",data:=.seq items n }:=sb.extBut _ _ (Ne.symm hCD) hD
 exact ⟨_,Rel.adopt (s:={ s with heap:=h',toks:=s.toks }) R' O hD' ac.m ac.k ac.own two (ORel.list_ he hz),allocW.d h D two ac.m⟩
theorem comp_finU {D C:Addr}{acc:List V}{σ':St}{ρ:List (Option V)}{target:PySem.Expr}{t:V→St→(St→Prop)→Prop}{Φ:St→Prop} (O:c.Ok) (ht:∀ c':FC,c'.Ok→c'.Like c→EvG c' target t) (R:Rel c ⟨ρ,σ'.m⟩ s) (ac:AccAt c ⟨ρ,σ'.m⟩ s D acc) (two:2<D) (hC:∃ m,s.heap.Ns C m)
  (c1:σ'.m C=none) (c2:c.k C=none) (c3:C∉c.own) (hCD:C≠D) (h:madeW ρ (fun v σ1=>t v σ1 Φ) acc σ'):compPost (MW c.X.G.w) c.A c.E (some (assign target c.env)) (fun zz s'=>postU c Φ () s') (.ref D) C (.ok .next) s:=by
 obtain ⟨m,hm⟩:=hC
 obtain ⟨items,n,hD,he,hz⟩:=ac.at_
 have R1:=R.adopt O hD ac.m ac.k ac.own two (ORel.list_ he hz)
 obtain ⟨oC,es,ep,q1,q2⟩:=Heap.Ns.obj hm
 have c1':upd σ'.m D (.list acc) C=none:=by rw [upd_ne hCD];exact c1
 have R2:=R1.hold q1 c1' c2 c3
 have O2:=hold_ok (o:=oC) O c2
 refine got_mono (ht _ O2 (like_hold like_refl) (.ref D) _ s Φ R2 (allocW.d h D two ac.m)) (fun zz s2 σ2 R3 q=>?_)
 obtain ⟨R4,w1,w2,w3⟩:=R3.unhold c2
 have hm2:s2.heap.Ns C m:=by
  obtain ⟨o',es',ep',z1,z2⟩:=hm
  rw [q1] at z1;cases z1
  exact ⟨oC,es',ep',w1,z2⟩
 exact ⟨m,hm2,fun h' sb=>⟨σ2,R4.off O (fun b o q e=>sb.extBut b o q e) w2 c2 c3 (ns_notTup hm2) s2.toks,q⟩⟩
theorem compI {cx:CX}{scope:Scope} (Fi:Fits c cx) (O:c.Ok) (F:CompF cx scope):closureFor scope c.env=pure (closL c.env.cells scope.names [])∧∀ x∈scope.names,x.2=.local→scope.names.lookup x.1=some .local :=
 ⟨closureFor_eq fun p hp hf=>O.cdom p.1 (by rw [Fi.kd];exact F.free p hp hf),fun x hx hl=>nodup_lookup F.nd (by rw [←hl];exact hx)⟩
structure CompP (c:FC) (cx:CX) (scope:Scope) (e:PySem.Expr) (it:PySem.Expr) (tit:PT V) (t:V→St→(St→Prop)→Prop) (inner:List V→St→(List V→St→Prop)→Prop):Prop where
 iter:EvE c it tit
 ns:∀ x,foldedSetIterable it c.env x=pure x
 loop:∀ c2:FC,c2.Ok→Fits c2 (compCX cx scope)→c2.X=c.X→c2.E=noE→∀ (σ2:St) (s2:Shared) (I D a:Addr) (mo:MO) (xs:List V) (Ψ:List V→St→Prop),Rel c2 σ2 s2→AccAt c2 σ2 s2 D []→IterAt s2.heap I a mo 0→σ2.m I=none→c2.k I=none→I∉c2.own→I≠D→itemsM mo=some xs→compW a mo t inner xs [] σ2 Ψ →
   codeAny (MW c2.X.G.w) c2.A (.compStart e 0 (.ref I) (.ref D) c2.env) (accR c2 D Ψ) s2
set_option tactic.hygienic true in
theorem ev_comp {cx:CX}{scope:Scope}{elt target it:PySem.Expr}{ifs:List PySem.Expr}{rest:List Comprehension}{pos:Pos}{tit:PT V}{t:V→St→(St→Prop)→Prop}{inner:List V→St→(List V→St→Prop)→Prop}
  (O:c.Ok) (Fi:Fits c cx) (hok:compOk cx scope=true) (P:CompP c cx scope (.ListComp elt (⟨target,it,ifs,0⟩::rest) scope pos) it tit t inner) :
  EvE c (.ListComp elt (⟨target,it,ifs,0⟩::rest) scope pos) (fun σ Φ=>c.X.quiet∧overW tit σ fun a mo xs σ1=>compW a mo t inner xs [] ⟨σ1.ρ++List.replicate (locX scope).length none,σ1.m⟩ (madeW σ1.ρ Φ)):=by
 intro σ s Φ R ⟨hq,h⟩
 have F:=compF hok
 obtain ⟨hcl,hnm⟩:=compI Fi O F
 rw [eval_ListComp]
 refine wpAny_comprehension_free (use:=none) rfl P.ns hcl F.kind hnm (got_mono (P.iter σ s _ R h) (fun x s1 σ1 R1 q=>?_))
 dsimp only at q
 split at q
 ·rename_i a mo xs hi
  exact comp_core O Fi hq F R1 hi q (fun c2 a b c d σ2 s2 I D e f g h i j k l m=>P.loop c2 a b c d σ2 s2 I D _ _ _ _ e f g h i j k l m) fun D C acc σ' s' Rb ac two hC c1 c2 c3 hCD hz=>comp_fin O Rb ac two hC c1 c2 c3 hCD hz
 ·exact q.elim
set_option tactic.hygienic true in
theorem ev_compU {cx:CX}{scope:Scope}{elt target it:PySem.Expr}{ifs:List PySem.Expr}{rest:List Comprehension}{pos:Pos}{tit:PT V}{t:V→St→(St→Prop)→Prop}{inner:List V→St→(List V→St→Prop)→Prop}{tgt:PySem.Expr}{tg:V→St→(St→Prop)→Prop}{Φ:St→Prop}
  (O:c.Ok) (Fi:Fits c cx) (hok:compOk cx scope=true) (P:CompP c cx scope (.ListComp elt (⟨target,it,ifs,0⟩::rest) scope pos) it tit t inner) (ht:∀ c':FC,c'.Ok→c'.Like c→EvG c' tgt tg) (R:Rel c σ s)
  (h:c.X.quiet∧overW tit σ fun a mo xs σ1=>compW a mo t inner xs [] ⟨σ1.ρ++List.replicate (locX scope).length none,σ1.m⟩ (madeW σ1.ρ fun v σ2=>tg v σ2 Φ)) :
  wpAny (MW c.X.G.w) c.A (evalThenUse (.ListComp elt (⟨target,it,ifs,0⟩::rest) scope pos) c.env (assign tgt c.env)) (postU c Φ) c.E s:=by
 obtain ⟨hq,h⟩:=h
 have F:=compF hok
 obtain ⟨hcl,hnm⟩:=compI Fi O F
 show wpAny _ _ (do let _←comprehension (.ListComp elt (⟨target,it,ifs,0⟩::rest) scope pos) scope c.env _ (newList []) false (eval it c.env) (some (assign tgt c.env))) _ _ s
 refine wpAny_bind (wpAny_mono (wpAny_comprehension_free (use:=some (assign tgt c.env)) (Q:=fun zz s'=>postU c Φ () s') rfl P.ns hcl F.kind hnm (got_mono (P.iter σ s _ R h) (fun x s1 σ1 R1 q=>?_))) (fun zz s' hq=>wpAny_pure hq) fun zz zz e=>e)
 dsimp only at q
 split at q
 ·rename_i a mo xs hi
  exact comp_core O Fi hq F R1 hi q (fun c2 a b c d σ2 s2 I D e f g h i j k l m=>P.loop c2 a b c d σ2 s2 I D _ _ _ _ e f g h i j k l m) fun D C acc σ' s' Rb ac two hC c1 c2 c3 hCD hz=>comp_finU O ht Rb ac two hC c1 c2 c3 hCD hz
 ·exact q.elim
end
theorem slotS_of {c:FC}{cx:CX}{x:Str}{i:Nat} (F:Fits c cx) (h:slotSX cx x i=true):slotS c x i=true:=by
 unfold slotSX at h
 unfold slotS
 rw [F.names,F.kd,F.fn];exact h
theorem slot_of {c:FC}{cx:CX}{x:Str}{i:Nat} (F:Fits c cx) (h:slotX cx x i=true):slot c x i=true:=by
 unfold slotX at h
 unfold slot
 rw [F.names,F.kd];exact h
theorem and_l {a b:Bool} (h:(a&&b)=true):a=true:=by cases a <;> first|rfl|cases h
theorem and_r {a b:Bool} (h:(a&&b)=true):b=true:=by cases a <;> first|exact h|cases h
theorem not_f {a:Bool} (h:(!a)=true):a=false:=by cases a <;> first|rfl|cases h
theorem att_of {x:Str}{m:Att} (h:attOf x=some m):x=m.str:=by
 have:=List.find?_some h
 exact (beq_iff_eq.mp this).symm
noncomputable def Thru (X:PX) (t:Tg):Prop:=∀ v σ Φ,semT X t v σ Φ→∃ σ',Φ σ'
noncomputable def tgLike:PySem.Expr→Bool
 | .Name ..=>true
 | .Tuple ..=>true
 | .Attribute ..=>true
 | .Subscript ..=>true
 | _=>false
structure TA (cx:CX) (e:PySem.Expr) (t:Tg):Prop where
 like:tgLike e=true
 ev:∀ c:FC,c.Ok→Fits c cx→EvG c e (semT c.X t)
structure TN (cx:CX) (e:PySem.Expr) (t:Tg):Prop extends TA cx e t where
 thru:∀ X,Thru X t
structure TNs (cx:CX) (es:List PySem.Expr) (ts:Tgs):Prop where
 ns:es.all notStar=true
 ev:∀ c:FC,c.Ok→Fits c cx→EvGs c es (semTs c.X ts)
 thru:∀ X vs σ Φ,semTs X ts vs σ Φ→vs.length=es.length∧∃ σ',Φ σ'
theorem all_cons' {e:PySem.Expr}{es:List PySem.Expr} (h:notStar e=true) (q:es.all notStar=true):(e::es).all notStar=true:=by rw [List.all_cons,h,q];rfl
theorem TNs.nil {cx:CX}:TNs cx [] .nil:=⟨rfl,fun zz zz zz=>evgs_nil,fun X vs σ Φ q=>by
 cases vs with
 | nil=>exact ⟨rfl,σ,q⟩
 | cons=>exact q.elim⟩
theorem TNs.cons {cx:CX}{e:PySem.Expr}{es:List PySem.Expr}{t:Tg}{ts:Tgs} (hs:notStar e=true) (h:TN cx e t) (i:TNs cx es ts):TNs cx (e::es) (.cons t ts) :=
 ⟨all_cons' hs i.ns,fun c O F=>evgs_cons hs (h.ev c O F) (i.ev c O F),fun X vs σ Φ q=>by
  cases vs with
  | nil=>exact q.elim
  | cons v vs =>
   obtain ⟨σ',q'⟩:=h.thru X v σ _ q
   obtain ⟨k1,k2⟩:=i.thru X vs σ' Φ q'
   exact ⟨congrArg (·+1) k1,k2⟩⟩
theorem TN.tup {cx:CX}{es:List PySem.Expr}{k:Nat}{p:Pos}{ts:Tgs} (i:TNs cx es ts):TN cx (.Tuple es k p) (.tup ts) :=
 ⟨⟨rfl,fun c O F=>evg_tup O i.ns (i.ev c O F) fun xs σ Φ q=>(i.thru _ xs σ Φ q).1⟩,fun X v σ Φ q=>by
  unfold semT at q
  split at q
  ·split at q
   ·exact (i.thru _ _ _ _ q).2
   ·exact q.elim
  ·exact q.elim⟩
noncomputable def tgNs {cx:CX} (f:∀ e,Option {t:Tg // TN cx e t}):∀ es,Option {ts:Tgs // TNs cx es ts}
 | []=>some ⟨.nil,.nil⟩
 | e::es=>if hs:notStar e=true then (match f e,tgNs f es with
  | some a,some r=>some ⟨.cons a.1 r.1,.cons hs a.2 r.2⟩
  | _,_=>none) else none
noncomputable def tgN (cx:CX):Nat→∀ e:PySem.Expr,Option {t:Tg // TN cx e t}
 | 0,_=>none
 | n+1,e=>match e with
  | .Name x _=>if hs:slotSX cx x (idxL x cx.names)=true then some ⟨.name (idxL x cx.names),⟨rfl,fun c O F=>evg_name O (slotS_of F hs)⟩,fun X v σ Φ q=>⟨_,q⟩⟩ else none
  | .Tuple es _ _=>(match tgNs (tgN cx n) es with
   | some ts=>some ⟨.tup ts.1,.tup ts.2⟩
   | none=>none)
  | _=>none
noncomputable def notSetE:PySem.Expr→Bool
 | .Set ..=>false
 | _=>true
theorem folded_of {e:PySem.Expr}{env:Env} (h:notSetE e=true):∀ x,foldedSetIterable e env x=pure x:=by
 intro x
 cases e <;> first|rfl|cases h
noncomputable def LcParts (cx:CX) (e:PySem.Expr) (ir:Ex) (gens:List Comprehension) (scope:Scope):Prop :=
 compOk cx scope=true∧∃ target it ifs rest,gens=⟨target,it,ifs,0⟩::rest∧∀ c:FC,c.Ok→Fits c cx→∃ tit t inner,CompP c cx scope e it tit t inner ∧
   sem c.X ir=.ofV (fun σ Φ=>c.X.quiet∧overW tit σ fun a mo xs σ1=>compW a mo t inner xs [] ⟨σ1.ρ++List.replicate (locX scope).length none,σ1.m⟩ (madeW σ1.ρ Φ))
noncomputable def Parts (cx:CX) (ir:Ex) (e:PySem.Expr):Prop:=match e with
 | .ListComp elt gens scope pos=>LcParts cx (.ListComp elt gens scope pos) ir gens scope
 | e=>isLC e=false
structure SE (cx:CX) (e:PySem.Expr) (ir:Ex):Prop where
 ns:notSetE e=true
 ev:∀ c:FC,c.Ok→Fits c cx→EvP c e (sem c.X ir)
 pt:Parts cx ir e
theorem se {cx:CX}{e:PySem.Expr}{t:Ex}{f:FC→PT V} (hn:notSetE e=true) (hp:plainT e=true) (p:Parts cx t e) (h:∀ c:FC,c.Ok→Fits c cx→EvE c e (f c)) (q:∀ c:FC,sem c.X t=.ofV (f c)):SE cx e t :=
 ⟨hn,fun c O F=>by rw [q];exact evp_ofV hp (h c O F),p⟩
structure SL (cx:CX) (es:List PySem.Expr) (irs:Exs):Prop where
 ns:es.all notStar=true
 ev:∀ c:FC,c.Ok→Fits c cx→EvL c es (semL c.X irs)
abbrev RE (cx:CX) (e:PySem.Expr):=Option {ir:Ex // SE cx e ir}
noncomputable def lmap {cx:CX} (f:∀ e,RE cx e):∀ es,Option {irs:Exs // SL cx es irs}
 | []=>some ⟨.nil,rfl,fun zz zz zz=>evl_nil⟩
 | e::es=>if hs:notStar e=true then (match f e,lmap f es with
  | some a,some r=>some ⟨.cons a.1 r.1,all_cons' hs r.2.ns,fun c O F=>evl_cons hs (a.2.ev c O F).1 (r.2.ev c O F)⟩
  | _,_=>none) else none
structure SK (cx:CX) (ks:List (Option PySem.Expr)) (vs:List PySem.Expr) (irs:Exs):Prop where
 pr:Prs ks vs
 ev:∀ c:FC,c.Ok→Fits c cx→EvK c ks vs (semL c.X irs)
noncomputable def omap {cx:CX} (f:∀ e,RE cx e):∀ ks vs,Option {irs:Exs // SK cx ks vs irs}
 | [],[]=>some ⟨.nil,.nil,fun zz zz zz=>evk_nil⟩
 | some k::ks,v::vs=>(match f k,f v,omap f ks vs with
  | some a,some b,some r=>some ⟨.cons a.1 (.cons b.1 r.1),r.2.pr.cons,fun c O F=>evk_cons (a.2.ev c O F).1 (b.2.ev c O F).1 (r.2.ev c O F)⟩
  | _,_,_=>none)
 | _,_=>none
noncomputable def bfold {cx:CX} (f:∀ e,RE cx e) (op:BoolOp):∀ es,Option {ir:Ex // ∀ c:FC,c.Ok→Fits c cx→EvB c op es (sem c.X ir)}
 | []=>none
 | [x]=>(match f x with
  | some a=>some ⟨a.1,fun c O F=>evb_one (a.2.ev c O F)⟩
  | none=>none)
 | x::y::r=>(match f x,bfold f op (y::r) with
  | some a,some b=>(match op with
   | .And=>some ⟨.and a.1 b.1,fun c O F=>evb_and (a.2.ev c O F) (b.2 c O F)⟩
   | .Or=>some ⟨.or a.1 b.1,fun c O F=>evb_or (a.2.ev c O F) (b.2 c O F)⟩)
  | _,_=>none)
noncomputable def optE {cx:CX} (f:∀ e,RE cx e):∀ o,Option {ir:Ex // ∀ c:FC,c.Ok→Fits c cx→EvO c o (sem c.X ir).val}
 | none=>some ⟨.none,fun zz zz zz=>evo_none⟩
 | some e=>(match f e with
  | some a=>some ⟨a.1,fun c O F=>evo_some (a.2.ev c O F).1⟩
  | none=>none)
theorem se_comp {cx:CX}{elt target it:PySem.Expr}{ifs:List PySem.Expr}{rest:List Comprehension}{scope:Scope}{pos:Pos}{ir:Ex}{tit:FC→PT V}{t:FC→V→St→(St→Prop)→Prop}{inner:FC→List V→St→(List V→St→Prop)→Prop} (hok:compOk cx scope=true)
  (P:∀ c:FC,c.Ok→Fits c cx→CompP c cx scope (.ListComp elt (⟨target,it,ifs,0⟩::rest) scope pos) it (tit c) (t c) (inner c))
  (h:∀ c:FC,sem c.X ir=.ofV (fun σ Φ=>c.X.quiet∧overW (tit c) σ fun a mo xs σ1=>compW a mo (t c) (inner c) xs [] ⟨σ1.ρ++List.replicate (locX scope).length none,σ1.m⟩ (madeW σ1.ρ Φ))) :
  SE cx (.ListComp elt (⟨target,it,ifs,0⟩::rest) scope pos) ir :=
 ⟨rfl,fun c O F=>by rw [h];exact evp_ofV rfl (ev_comp O F hok (P c O F)),hok,_,_,_,_,rfl,fun c O F=>⟨_,_,_,P c O F,h c⟩⟩
theorem like_X {c c':FC} (L:c'.Like c):c'.X=c.X:=by obtain ⟨k',rfl⟩:=L;rfl
theorem like_E {c c':FC} (L:c'.Like c):c'.E=c.E:=by obtain ⟨k',rfl⟩:=L;rfl
theorem TA.at {cx:CX}{e:PySem.Expr}{t:Tg} (h:TA cx e t) {c:FC}{X:PX} (F:Fits c cx) (hX:c.X=X):∀ c':FC,c'.Ok→c'.Like c→EvG c' e (semT X t):=fun c' O' L=>by
 have:=h.ev c' O' (F.like L)
 rwa [like_X L,hX] at this
theorem SE.at {cx:CX}{e:PySem.Expr}{t:Ex} (h:SE cx e t) {c:FC}{X:PX} (F:Fits c cx) (hX:c.X=X):∀ c':FC,c'.Ok→c'.Like c→EvP c' e (sem X t):=fun c' O' L=>by
 have:=h.ev c' O' (F.like L)
 rwa [like_X L,hX] at this
theorem comp_one {cx:CX}{elt t it:PySem.Expr}{ifs:List PySem.Expr}{scope:Scope}{pos:Pos}{it':Ex}{t':Tg} (h1:SE cx it it') (h2:TN (compCX cx scope) t t') {inner:PX→List V→St→(List V→St→Prop)→Prop}
  (hb:∀ c2:FC,c2.Ok→Fits c2 (compCX cx scope)→c2.E=noE→∀ D,BodyOk c2 D (emitT elt ifs (.ref D) c2.env) (inner c2.X)) (c:FC) (O:c.Ok) (F:Fits c cx) :
  CompP c cx scope (.ListComp elt [⟨t,it,ifs,0⟩] scope pos) it (sem c.X it').val (semT c.X t') (inner c.X) :=
 ⟨(h1.ev c O F).1,folded_of h1.ns,fun c2 O2 F2 hX hE σ2 s2 I D a mo xs Ψ R2 ac hI f1 f2 f3 hID hx hW=>by
  refine loop1 O2 hx (h2.at F2 hX) hE (fun c' O' L=>?_) R2 ac hI f1 f2 f3 hID hW
  have:=hb c' O' (F2.like L) ((like_E L).trans hE) D
  rwa [like_X L,hX] at this⟩
theorem comp_two {cx:CX}{elt t it t2 it2:PySem.Expr}{scope:Scope}{pos:Pos}{it' it2' e':Ex}{t' t2':Tg} (h1:SE cx it it') (h2:TN (compCX cx scope) t t') (h3:SE (compCX cx scope) it2 it2') (h4:TN (compCX cx scope) t2 t2') (h5:SE (compCX cx scope) elt e') (c:FC) (O:c.Ok) (F:Fits c cx) :
  CompP c cx scope (.ListComp elt [⟨t,it,[],0⟩,⟨t2,it2,[],0⟩] scope pos) it (sem c.X it').val (semT c.X t') (fun acc σ2 Ψ=>overW (sem c.X it2').val σ2 fun a' mo' xs' σ3=>compW a' mo' (semT c.X t2') (pushW (sem c.X e').val) xs' acc σ3 Ψ) :=
 ⟨(h1.ev c O F).1,folded_of h1.ns,fun c2 O2 F2 hX hE σ2 s2 I D a mo xs Ψ R2 ac hI f1 f2 f3 hID hx hW=>by
  refine loop2 O2 hx (h2.at F2 hX) hE (fun c' O' L=>?_) R2 ac hI f1 f2 f3 hID hW
  have hX':=(like_X L).trans hX
  have F':=F2.like L
  exact nest_ok O' ((like_E L).trans hE) (folded_of h3.ns) (fun c'' O'' L''=>(h3.at F' hX' c'' O'' L'').1) (h4.at F' hX') (fun c'' O'' L''=>(h5.at F' hX' c'' O'' L'').1)⟩
theorem se_comp1 {cx:CX}{elt t it:PySem.Expr}{scope:Scope}{pos:Pos}{it' e':Ex}{t':Tg} (hok:compOk cx scope=true) (h1:SE cx it it') (h2:TN (compCX cx scope) t t') (h3:SE (compCX cx scope) elt e') :
  SE cx (.ListComp elt [⟨t,it,[],0⟩] scope pos) (.comp1 e' t' it' (.bool true) (locX scope).length) :=
 se_comp hok (comp_one (inner:=fun X=>condW (sem X (.bool true)).tru (sem X e').val) h1 h2 fun c2 O2 F2 hE D=>by
  rw [emit_nil]
  exact push_ok O2 hE fun c' O' L=>(h3.at F2 rfl c' O' L).1) fun c=>rfl
theorem se_compQ {cx:CX}{elt t it q:PySem.Expr}{scope:Scope}{pos:Pos}{it' e' q':Ex}{t':Tg} (hok:compOk cx scope=true) (h1:SE cx it it') (h2:TN (compCX cx scope) t t') (h3:SE (compCX cx scope) elt e') (h4:SE (compCX cx scope) q q') :
  SE cx (.ListComp elt [⟨t,it,[q],0⟩] scope pos) (.comp1 e' t' it' q' (locX scope).length) :=
 se_comp hok (comp_one (inner:=fun X=>condW (sem X q').tru (sem X e').val) h1 h2 fun c2 O2 F2 hE D =>
  cond_ok O2 hE (fun c' O' L=>(h3.at F2 rfl c' O' L).1) fun c' O' L=>(h4.at F2 rfl c' O' L).2) fun c=>rfl
theorem se_comp2 {cx:CX}{elt t it t2 it2:PySem.Expr}{scope:Scope}{pos:Pos}{it' it2' e':Ex}{t' t2':Tg} (hok:compOk cx scope=true) (h1:SE cx it it') (h2:TN (compCX cx scope) t t') (h3:SE (compCX cx scope) it2 it2') (h4:TN (compCX cx scope) t2 t2') (h5:SE (compCX cx scope) elt e') :
  SE cx (.ListComp elt [⟨t,it,[],0⟩,⟨t2,it2,[],0⟩] scope pos) (.comp2 e' t' it' t2' it2' (locX scope).length) :=
 se_comp hok (comp_two h1 h2 h3 h4 h5) fun c=>rfl
theorem se_global {cx:CX}{x:Str}{p:Pos}{i:Int} (hk:(cx.kd x==some .globalImplicit&&!(x==("__debug__":Str)))=true) (h1:gint.lookup x=some i):SE cx (.Name x p) (.int i) :=
 se rfl rfl rfl (f:=fun zz=>PT.lit (.int i)) (fun c O F σ s Φ R q=>by
  obtain ⟨t,ht⟩:=gint_at (P:=c.X.G.w.params) h1
  exact ev_global O R (by rw [F.kd];exact beq_iff_eq.mp (and_l hk)) (not_f (and_r hk)) ht ⟨σ,R,q⟩) fun zz=>rfl
theorem se_attr {cx:CX}{v:PySem.Expr}{a:Str}{m:Att}{p:Pos}{u:Ex} (hn:notCall v=true) (h:attOf a=some m) (h1:SE cx v u):SE cx (.Attribute v a p) (.attr u m):=by
 have:=att_of h;subst this
 exact se rfl rfl rfl (fun c O F=>ev_attr O hn (h1.ev c O F).1) fun zz=>rfl
theorem se_dict {cx:CX}{ks:List (Option PySem.Expr)}{vs:List PySem.Expr}{p:Pos}{a:Exs} (hl:decide (ks.length<15)=true) (h:SK cx ks vs a):SE cx (.Dict ks vs p) (.dict a) :=
 se rfl rfl rfl (fun c O F=>ev_dict O h.pr (of_decide_eq_true hl) (h.ev c O F) fun a o hk=>h.ev _ (hold_ok O hk) (F.like (like_hold like_refl))) fun zz=>rfl
noncomputable def nmK (cx:CX) (f:Str) (as:List PySem.Expr):Bool:=decide (as.length<25)&&(cx.kd f==some .globalImplicit)&&!(f==("__debug__":Str))
theorem se_call {cx:CX}{f:Str}{p pos:Pos}{a:Addr}{as:List PySem.Expr}{es:Exs} (hk:nmK cx f as=true) (hf:gfun.lookup f=some a∨gcls.lookup f=some a) (h:SL cx as es):SE cx (.Call (.Name f p) as [] pos) (.call a es) :=
 se rfl rfl rfl (fun c O F=>ev_call O hf (by rw [F.kd];exact beq_iff_eq.mp (and_r (and_l hk))) (not_f (and_r hk)) h.ns (h.ev c O F)) fun zz=>rfl
theorem se_bi {cx:CX}{f:Str}{p pos:Pos}{b:Bi}{as:List PySem.Expr}{es:Exs} (hk:nmK cx f as=true) (hf:gbi.lookup f=some b) (h:SL cx as es):SE cx (.Call (.Name f p) as [] pos) (.bi b es) :=
 se rfl rfl rfl (fun c O F=>ev_bi O hf (by rw [F.kd];exact beq_iff_eq.mp (and_r (and_l hk))) (not_f (and_r hk)) h.ns (h.ev c O F)) fun zz=>rfl
noncomputable def mtK (o:PySem.Expr) (apos pos:Pos) (as:List PySem.Expr):Bool:=decide (as.length<25)&&notCall o&&(apos.endLine==pos.line)
theorem se_app {cx:CX}{o x:PySem.Expr}{m:Str}{apos pos:Pos}{u x':Ex} (hk:mtK o apos pos [x]=true) (hm:(m==ofString "append")=true) (hx:notStar x=true) (h1:SE cx o u) (h2:SE cx x x'):SE cx (.Call (.Attribute o m apos) [x] [] pos) (.app u x'):=by
 have:=beq_iff_eq.mp hm;subst this
 exact se rfl rfl rfl (fun c O F=>ev_app O (and_r (and_l hk)) hx (and_r hk) (h1.ev c O F).1 (h2.ev c O F).1) fun zz=>rfl
theorem se_ext {cx:CX}{o x:PySem.Expr}{m:Str}{apos pos:Pos}{u x':Ex} (hk:mtK o apos pos [x]=true) (hm:(m==ofString "extend")=true) (hx:notStar x=true) (h1:SE cx o u) (h2:SE cx x x'):SE cx (.Call (.Attribute o m apos) [x] [] pos) (.ext u x'):=by
 have:=beq_iff_eq.mp hm;subst this
 exact se rfl rfl rfl (fun c O F=>ev_ext O (and_r (and_l hk)) hx (and_r hk) (h1.ev c O F).1 (h2.ev c O F).1) fun zz=>rfl
theorem se_get {cx:CX}{o x d:PySem.Expr}{m:Str}{apos pos:Pos}{u x' d':Ex} (hk:mtK o apos pos [x,d]=true) (hm:(m==ofString "get")=true) (hx:notStar x=true) (hd:notStar d=true) (h1:SE cx o u) (h2:SE cx x x') (h3:SE cx d d'):SE cx (.Call (.Attribute o m apos) [x,d] [] pos) (.get u x' d'):=by
 have:=beq_iff_eq.mp hm;subst this
 exact se rfl rfl rfl (fun c O F=>ev_get O (and_r (and_l hk)) hx hd (and_r hk) (h1.ev c O F).1 (h2.ev c O F).1 (h3.ev c O F).1) fun zz=>rfl
theorem se_meth {cx:CX}{o:PySem.Expr}{m:Str}{apos pos:Pos}{as:List PySem.Expr}{u:Ex}{es:Exs} (hk:mtK o apos pos as=true) (h1:SE cx o u) (h2:SL cx as es):SE cx (.Call (.Attribute o m apos) as [] pos) (.meth u m es) :=
 se rfl rfl rfl (fun c O F=>ev_meth O (and_r (and_l hk)) (and_r hk) (of_decide_eq_true (and_l (and_l hk))) h2.ns (h1.ev c O F).1 (h2.ev c O F)) fun zz=>rfl
noncomputable def compM {cx:CX} (f:∀ e,RE cx e) (o:PySem.Expr) (m:Str) (apos:Pos) (as:List PySem.Expr) (pos:Pos):RE cx (.Call (.Attribute o m apos) as [] pos) :=
 if hk:mtK o apos pos as=true then (match f o with
  | none=>none
  | some u=>if ha:(m==ofString "append")=true then (match as,hk with
    | [x],hk=>if hx:notStar x=true then (match f x with|some a=>some ⟨.app u.1 a.1,se_app hk ha hx u.2 a.2⟩|none=>none) else none
    | _,_=>none)
   else if he:(m==ofString "extend")=true then (match as,hk with
    | [x],hk=>if hx:notStar x=true then (match f x with|some a=>some ⟨.ext u.1 a.1,se_ext hk he hx u.2 a.2⟩|none=>none) else none
    | _,_=>none)
   else if hg:(m==ofString "get")=true then (match as,hk with
    | [x,d],hk=>if hx:notStar x=true then (if hd:notStar d=true then (match f x,f d with|some a,some b=>some ⟨.get u.1 a.1 b.1,se_get hk hg hx hd u.2 a.2 b.2⟩|_,_=>none) else none) else none
    | _,_=>none)
   else (match lmap f as with|some es=>some ⟨.meth u.1 m es.1,se_meth hk u.2 es.2⟩|none=>none))
 else none
noncomputable def compC {cx:CX} (f:∀ e,RE cx e) (x:Str) (p:Pos) (as:List PySem.Expr) (pos:Pos):RE cx (.Call (.Name x p) as [] pos) :=
 if hk:nmK cx x as=true then (match lmap f as with
  | none=>none
  | some es=>(match h1:gfun.lookup x with
   | some a=>some ⟨.call a es.1,se_call hk (.inl h1) es.2⟩
   | none=>(match h2:gcls.lookup x with
    | some a=>some ⟨.call a es.1,se_call hk (.inr h2) es.2⟩
    | none=>(match h3:gbi.lookup x with
     | some b=>some ⟨.bi b es.1,se_bi hk h3 es.2⟩
     | none=>none))))
 else none
noncomputable def compI' {cx:CX} (f:∀ e,RE cx e) (v:PySem.Expr) (p:Pos):∀ s,RE cx (.Subscript v s p)
 | .Slice lo hi none _=>(match f v,optE f lo,optE f hi with
  | some u,some a,some b=>some ⟨.slice u.1 a.1 b.1,se rfl rfl rfl (fun c O F=>ev_slice O (u.2.ev c O F).1 (a.2 c O F) (b.2 c O F)) fun zz=>rfl⟩
  | _,_,_=>none)
 | s=>if hs:notSlice s=true then (match f v,f s with
  | some u,some i=>some ⟨.item u.1 i.1,se rfl rfl rfl (fun c O F=>ev_item O hs (u.2.ev c O F).1 (i.2.ev c O F).1) fun zz=>rfl⟩
  | _,_=>none) else none
noncomputable def compK {cx:CX} (kk:Nat) (p:Pos):∀ k,RE cx (.Constant k kk p)
 | .none=>some ⟨.none,se rfl rfl rfl (fun zz zz zz=>ev_none) fun zz=>rfl⟩
 | .bool b=>some ⟨.bool b,se rfl rfl rfl (fun zz zz zz=>ev_bool) fun zz=>rfl⟩
 | .int i=>some ⟨.int i,se rfl rfl rfl (fun zz zz zz=>ev_int) fun zz=>rfl⟩
 | .str x=>some ⟨.str x,se rfl rfl rfl (fun zz zz zz=>ev_str) fun zz=>rfl⟩
 | _=>none
noncomputable def compL {cx:CX} (f:∀ cx e,RE cx e) (g:∀ cx e,Option {t:Tg // TN cx e t}) (elt:PySem.Expr) (scope:Scope) (p:Pos):∀ gens,RE cx (.ListComp elt gens scope p)
 | ⟨t,it,ifs,0⟩::rest=>if hok:compOk cx scope=true then (match f cx it,g (compCX cx scope) t,f (compCX cx scope) elt with
  | some a,some b,some e=>(match ifs,rest with
   | [],[]=>some ⟨.comp1 e.1 b.1 a.1 (.bool true) (locX scope).length,se_comp1 hok a.2 b.2 e.2⟩
   | [q],[]=>(match f (compCX cx scope) q with
    | some q'=>some ⟨.comp1 e.1 b.1 a.1 q'.1 (locX scope).length,se_compQ hok a.2 b.2 e.2 q'.2⟩
    | none=>none)
   | [],[⟨t2,it2,[],0⟩]=>(match f (compCX cx scope) it2,g (compCX cx scope) t2 with
    | some i,some j=>some ⟨.comp2 e.1 b.1 a.1 j.1 i.1 (locX scope).length,se_comp2 hok a.2 b.2 i.2 j.2 e.2⟩
    | _,_=>none)
   | _,_=>none)
  | _,_,_=>none) else none
 | _=>none
noncomputable def compE:Nat→∀ cx e,RE cx e
 | 0,_,_=>none
 | n+1,cx,e=>match e with
  | .Constant k kk p=>compK kk p k
  | .Name x _=>if hs:slotX cx x (idxL x cx.names)=true then some ⟨.var (idxL x cx.names),se rfl rfl rfl (fun c O F=>ev_name O (slot_of F hs)) fun zz=>rfl⟩
   else if hk:(cx.kd x==some .globalImplicit&&!(x==("__debug__":Str)))=true then (match h:gint.lookup x with
    | some i=>some ⟨.int i,se_global hk h⟩
    | none=>none) else none
  | .BinOp l op r _=>(match compE n cx l,compE n cx r with
   | some a,some b=>some ⟨.bin op a.1 b.1,se rfl rfl rfl (fun c O F=>ev_bin O (a.2.ev c O F).1 (b.2.ev c O F).1) fun zz=>rfl⟩
   | _,_=>none)
  | .UnaryOp .USub a _=>(match compE n cx a with
   | some a=>some ⟨.neg a.1,se rfl rfl rfl (fun c O F=>ev_neg (a.2.ev c O F).1) fun zz=>rfl⟩
   | none=>none)
  | .UnaryOp .Not a _=>(match compE n cx a with
   | some a=>some ⟨.not a.1,rfl,fun c O F=>ev_not (a.2.ev c O F).2,rfl⟩
   | none=>none)
  | .BoolOp op vs _=>(match bfold (compE n cx) op vs with
   | some a=>some ⟨a.1,rfl,fun c O F=>ev_boolop (a.2 c O F),rfl⟩
   | none=>none)
  | .IfExp t a b _=>(match compE n cx t,compE n cx a,compE n cx b with
   | some t,some a,some b=>some ⟨.ite t.1 a.1 b.1,rfl,fun c O F=>ev_ite (t.2.ev c O F) (a.2.ev c O F) (b.2.ev c O F),rfl⟩
   | _,_,_=>none)
  | .Dict ks vs _=>if hl:decide (ks.length<15)=true then (match omap (compE n cx) ks vs with
   | some a=>some ⟨.dict a.1,se_dict hl a.2⟩
   | none=>none) else none
  | .Compare l [op] [r] _=>if hm:behindInMarks op r=false then (match compE n cx l,compE n cx r with
   | some a,some b=>some ⟨.cmp op a.1 b.1,rfl,fun c O F=>ev_cmp O hm (a.2.ev c O F).1 (b.2.ev c O F).1,rfl⟩
   | _,_=>none) else none
  | .List es _=>(match lmap (compE n cx) es with
   | some a=>some ⟨.list a.1,se rfl rfl rfl (fun c O F=>ev_list O (a.2.ev c O F)) fun zz=>rfl⟩
   | none=>none)
  | .Tuple es _ _=>(match lmap (compE n cx) es with
   | some a=>some ⟨.tup a.1,se rfl rfl rfl (fun c O F=>ev_tuple O (a.2.ev c O F)) fun zz=>rfl⟩
   | none=>none)
  | .Attribute v a _=>if hn:notCall v=true then (match compE n cx v,h:attOf a with
   | some u,some m=>some ⟨.attr u.1 m,se_attr hn h u.2⟩
   | _,_=>none) else none
  | .Subscript v s p=>compI' (compE n cx) v p s
  | .Call (.Name f p) as [] pos=>compC (compE n cx) f p as pos
  | .Call (.Attribute o m apos) as [] pos=>compM (compE n cx) o m apos as pos
  | .ListComp elt gens scope p=>compL (compE n) (fun cx e=>tgN cx n e) elt scope p gens
  | _=>none
theorem of_map {α:Type}{P:α→Prop}{x:Option {a // P a}}{a:α} (h:x.map (·.1)=some a):P a:=by
 cases x with
 | none=>cases h
 | some y=>cases h;exact y.2
theorem compE_ok {n:Nat}{cx:CX}{e:PySem.Expr}{ir:Ex} (h:(compE n cx e).map (·.1)=some ir):SE cx e ir:=of_map h
noncomputable def ExS1 (c:FC) (st:Stmt) (t:PT Fl):Prop:=∀ (σ:St) (s:Shared) (Φ:Fl→St→Prop),Rel c σ s→t σ Φ→wpAny (MW c.X.G.w) c.A (exec st c.env) (postF c Φ) c.E s
section
variable {c:FC}{σ:St}{s:Shared}{E:Value→Shared→Prop}{A:Around}
theorem units_lt (O:c.Ok):c.A.units+20<cLine:=by have:=O.room.2;lia
theorem exs_nil {X:PX}:ExS c [] (semB X .nil):=fun σ s Φ R q=>wpAny_execs_nil ⟨σ,R,q⟩
theorem exs_cons {X:PX}{st:Stmt}{rest:List Stmt}{t:PT Fl}{u:PT Fl} (h:ExS1 c st t) (hr:ExS c rest u):ExS c (st::rest) (fun σ Φ=>t σ fun fl σ1=>match fl with|.next=>u σ1 Φ|fl=>Φ fl σ1):=fun σ s Φ R q =>
 wpAny_execs_cons (got_mono (h σ s _ R q) (fun f s1 σ1 R1 q1=>by
  cases f with
  | next=>exact hr σ1 s1 Φ R1 q1
  | brk=>exact ⟨σ1,R1,q1⟩
  | cont=>exact ⟨σ1,R1,q1⟩
  | ret v=>exact ⟨σ1,R1,q1⟩))
theorem ex_ret {e:PySem.Expr}{pos:Pos}{t:PT V} (h:EvE c e t):ExS1 c (.Return (some e) pos) (fun σ Φ=>t σ fun v σ1=>Φ (.ret v) σ1):=fun σ s Φ R q =>
 wpAny_Return_some (got_mono (h σ s _ R q) (fun v s1 σ1 R1 q1=>⟨σ1,R1,q1⟩))
theorem not_interactive (O:c.Ok):interactive c.env=false:=by unfold interactive;rw [O.kind];rfl
theorem ex_expr {e:PySem.Expr}{pos:Pos}{t:PT V} (O:c.Ok) (hl:isLC e=false) (h:EvE c e t):ExS1 c (.Expr e pos) (fun σ Φ=>t σ fun v σ1=>isNoRef v=true∧Φ .next σ1):=fun σ s Φ R q =>
 wpAny_Expr (wpAny_mono (h σ s _ R q) (fun v s1 ⟨σ1,R1,n,q1⟩=>by
  cases v <;> first|(cases n;done)|exact ⟨σ1,R1,q1⟩) fun zz zz e=>e) (not_interactive O) (by cases e <;> first|rfl|cases hl)
theorem ex_if {t:PySem.Expr}{a b:List Stmt}{pos:Pos}{tt:PT Bool}{ta tb:PT Fl} (h:EvT c t tt) (ha:ExS c a ta) (hb:ExS c b tb):ExS1 c (.If t a b pos) (fun σ Φ=>tt σ fun r σ1=>if r then ta σ1 Φ else tb σ1 Φ):=fun σ s Φ R q =>
 wpAny_If (got_mono (h σ s _ R q) (fun r s1 σ1 R1 q1=>by
  cases r with
  | true=>exact ha σ1 s1 Φ R1 q1
  | false=>exact hb σ1 s1 Φ R1 q1))
theorem ex_cont {pos:Pos}:ExS1 c (.Continue pos) (fun σ Φ=>Φ .cont σ):=fun σ s Φ R q=>wpAny_Continue ⟨σ,R,q⟩
theorem ex_while {t:PySem.Expr}{a:List Stmt}{pos:Pos}{tt:PT Bool}{ta:PT Fl} (O:c.Ok) (h:EvT c t tt) (ha:ExS c a ta):ExS1 c (.While t a [] pos) (fun σ Φ=>∃ n,whileW tt ta n σ Φ):=by
 rintro σ s Φ R ⟨n,q⟩
 refine wpAny_While (codeAny_whileLoop (fun n s'=>Met c (fun σ'=>whileW tt ta n σ' Φ) s') ?_ n ⟨σ,R,q⟩)
 rintro n s1 ⟨σ1,R1,q1⟩
 cases n with
 | zero=>exact q1.elim
 | succ n =>
  refine wpAny_passesOwn O.pass (got_mono (h σ1 s1 _ R1 q1) (fun b s2 σ2 R2 q2=>?_))
  cases b with
  | false=>exact wpAny_execs_nil ⟨σ2,R2,q2⟩
  | true =>
   refine wpAny_passesOwn O.pass (got_mono (ha σ2 s2 _ R2 q2) (fun f s3 σ3 R3 q3=>?_))
   cases f with
   | next=>exact ⟨n,Nat.lt_succ_self _,σ3,R3,q3⟩
   | cont=>exact ⟨n,Nat.lt_succ_self _,σ3,R3,q3⟩
   | brk=>exact ⟨σ3,R3,q3⟩
   | ret v=>exact ⟨σ3,R3,q3⟩
set_option tactic.hygienic true in
theorem ex_for {t it:PySem.Expr}{b:List Stmt}{pos:Pos}{tt:V→St→(St→Prop)→Prop}{ti:PT V}{tb:PT Fl} (O:c.Ok) (hs:∀ x,foldedSetIterable it c.env x=pure x) (hi:EvE c it ti)
  (ht:∀ c':FC,c'.Ok→c'.Like c→EvG c' t tt) (hb:∀ c':FC,c'.Ok→c'.Like c→ExS c' b tb) :
  ExS1 c (.For t it b [] pos) (fun σ Φ=>overW ti σ fun a mo xs σ1=>loopW a mo tt tb xs σ1 Φ):=by
 intro σ s Φ R q
 refine wpAny_For (got_mono (hi σ s _ R q) (fun x s1 σ1 R1 q1=>?_)) hs
 dsimp only at q1
 split at q1
 ·rename_i a mo xs hit
  refine iter_ok R1 hit fun o hm hx hI=>?_
  obtain ⟨f1,f2,f3⟩:=R1.fresh3
  generalize hIe:s1.heap.objs.size=I at *
  have R2:Rel c σ1 { s1 with heap:=s1.heap.push o }:=R1.push o s1.toks
  refine codeAny_forLoop_any (fun n s'=>∃ i σ',n=xs.length+1 - i∧i≤xs.length∧Rel c σ' s'∧IterAt s'.heap I a mo i∧σ'.m I=none∧loopW a mo tt tb (xs.drop i) σ' Φ) ?_ (xs.length+1)
   ⟨0,σ1,rfl,Nat.zero_le _,R2,hI,f1,q1⟩
  rintro n s2 ⟨i,σ2,rfl,hi,R2,hI2,g1,hW⟩
  by_cases hlt:i<xs.length
  ·rw [List.drop_eq_getElem_cons hlt] at hW
   obtain ⟨hm,hW⟩:=hW
   refine next_item R2 O hm hx hI2 (List.getElem?_eq_getElem hlt) g1 f2 f3 fun v s3 hv R3 hI3=>?_
   refine owned_ok hI3 ?_
   obtain ⟨oI,hoI,_⟩:=hI3.obj
   have R4:=R3.hold hoI g1 f2 f3
   have O4:=hold_ok (o:=oI) O f2
   rw [←hv] at hW
   refine wpAny_passesOwn O.pass (got_mono (ht _ O4 (like_hold like_refl) v σ2 s3 _ R4 hW) (fun zz s4 σ3 R5 q3=>?_))
   refine wpAny_passesOwn O.pass (got_mono (hb _ O4 (like_hold like_refl) σ3 s4 _ R5 q3) (fun f s5 σ4 R6 q4=>?_))
   obtain ⟨R7,hoI2,g2,_⟩:=R6.unhold f2
   have hI5:IterAt s5.heap I a mo (i+1):=hI3.keep fun o eo=>by rw [hoI] at eo;cases eo;exact hoI2
   have lt:xs.length+1 - (i+1)<xs.length+1 - i:=by omega
   cases f with
   | next=>exact ⟨_,lt,i+1,σ4,rfl,hlt,R7,hI5,g2,q4⟩
   | cont=>exact ⟨_,lt,i+1,σ4,rfl,hlt,R7,hI5,g2,q4⟩
   | brk=>exact ⟨σ4,R7,q4⟩
   | ret v=>exact ⟨σ4,R7,q4⟩
  ·rw [List.drop_eq_nil_of_le (by exact ltA hlt)] at hW
   obtain ⟨hm,hW⟩:=hW
   exact next_end R2 O O.hnd hm hx hI2 (by lia) g1 f2 f3 fun s3 R3=>wpAny_execs_nil ⟨σ2,R3,hW⟩
 ·exact q1.elim
theorem ex_augN {x:Str}{px pos:Pos}{op:Operator}{e:PySem.Expr}{i:Nat}{t:PT V} (O:c.Ok) (h1:slot c x i=true) (h2:slotS c x i=true) (h:EvE c e t) :
  ExS1 c (.AugAssign (.Name x px) op e pos) (fun σ Φ=>PT.var i σ fun u σ1=>t σ1 fun v σ2=>iopW op u v σ2 fun w σ3=>Φ .next ⟨put σ3.ρ i w,σ3.m⟩):=fun σ s Φ R q =>
 wpAny_AugAssign_Name (got_mono (slot_load R O h1 q) (fun u s1 σ1 R1 q1=>got_mono (h σ1 s1 _ R1 q1) (fun v s2 σ2 R2 q2 =>
  got_mono (iop_ok R2 O q2) (fun w s3 σ3 R3 q3=>store_ok R3 O h2 fun s4 R4=>⟨_,R4,q3⟩))))
theorem ex_augA {o e:PySem.Expr}{n:Att}{tp pos:Pos}{op:Operator}{to t:PT V} (O:c.Ok) (ho:EvE c o to) (h:EvE c e t) :
  ExS1 c (.AugAssign (.Attribute o n.str tp) op e pos) (fun σ Φ=>to σ fun ov σ1=>attrW ov n σ1 fun u σ2=>t σ2 fun v σ3=>iopW op u v σ3 fun w σ4=>setAttrW ov n w σ4 fun σ5=>Φ .next σ5):=fun σ s Φ R q =>
 wpAny_AugAssign_AttributeAny (got_mono (ho σ s _ R q) (fun ov s1 σ1 R1 q1=>got_mono (attr_ok R1 O q1) (fun u s2 σ2 R2 q2=>got_mono (h σ2 s2 _ R2 q2) (fun v s3 σ3 R3 q3 =>
  got_mono (iop_ok R3 O q3) (fun w s4 σ4 R4 q4=>got_mono (setAttr_ok R4 O q4) (fun zz s5 σ5 R5 q5=>⟨σ5,R5,q5⟩))))))
theorem ex_augI {o i e:PySem.Expr}{tp pos:Pos}{op:Operator}{to ti t:PT V} (O:c.Ok) (hn:notSlice i=true) (ho:EvE c o to) (hi:EvE c i ti) (h:EvE c e t) :
  ExS1 c (.AugAssign (.Subscript o i tp) op e pos) (fun σ Φ=>to σ fun ov σ1=>ti σ1 fun iv σ2=>itemW ov iv σ2 fun u σ3=>t σ3 fun v σ4=>iopW op u v σ4 fun w σ5=>setItemW ov iv w σ5 fun σ6=>Φ .next σ6):=fun σ s Φ R q =>
 wpAny_AugAssign_SubscriptAny (got_mono (ho σ s _ R q) (fun ov s1 σ1 R1 q1=>got_mono (hi σ1 s1 _ R1 q1) (fun iv s2 σ2 R2 q2=>got_mono (item_ok R2 (units_lt O) q2) (fun u s3 σ3 R3 q3=>got_mono (h σ3 s3 _ R3 q3) (fun v s4 σ4 R4 q4 =>
  got_mono (iop_ok R4 O q4) (fun w s5 σ5 R5 q5=>got_mono (setItem_ok R5 O (units_lt O) q5) (fun zz s6 σ6 R6 q6=>⟨σ6,R6,q6⟩)))))))
  (by intro ov iv new;cases i <;> first|rfl|cases hn)
theorem ex_asg {tg e:PySem.Expr}{pos:Pos}{tt:V→St→(St→Prop)→Prop}{t:PT V} (O:c.Ok) (h:EvE c e t) (hg:EvG c tg tt) (hs:swapsWith e (some tg) pos.line c.env=pure false) (hw:swappedStores [tg] e c.env=pure none) (he:(assignEach [tg] c.env).map (·.2)=[assign tg c.env]) :
  ExS1 c (.Assign [tg] e pos) (fun σ Φ=>t σ fun v σ1=>tt v σ1 fun σ2=>Φ .next σ2):=fun σ s Φ R q =>
 wpAny_Assign_stores (got_mono (h σ s _ R q) (fun v s1 σ1 R1 q1=>by
  rw [he]
  show wpAny _ _ (assign tg c.env v) _ _ s1
  exact got_mono (hg v σ1 s1 _ R1 q1) (fun zz s2 σ2 R2 q2=>⟨σ2,R2,q2⟩))) hs hw
end
section
variable {c:FC}{σ:St}{s:Shared}{E:Value→Shared→Prop}{A:Around}
theorem block_fn (O:c.Ok):c.env.blockKind=.function:=by unfold Env.blockKind;rw [O.kind];rfl
theorem isName_of {e:PySem.Expr} (h:isName e=true):∃ x p,e=.Name x p:=by cases e <;> first|exact ⟨_,_,rfl⟩|cases h
theorem swapped_some {x y:Str}{px py tp vp:Pos}{k k':Nat}{a b:PySem.Expr} (O:c.Ok) (hl:px.line=py.line) (hf:[a,b].all (foldedForSure 8)=false) (hc:[a,b].all (constantsAlone 8)=false)
  (hx:c.env.kindOf x=some .local) (hy:c.env.kindOf y=some .local) (hxy:x≠y) (ha:isName a=true) (hb:isName b=true) :
  swappedStores [.Tuple [.Name x px,.Name y py] k tp] (.Tuple [a,b] k' vp) c.env=pure (some [x,y]):=by
 obtain ⟨u,pu,rfl⟩:=isName_of ha
 obtain ⟨v,pv,rfl⟩:=isName_of hb
 have e1:(PySem.Expr.Name x px).pos=px:=rfl
 have ed:[x,y].eraseDups=[x,y]:=by
  rw [List.eraseDups_cons,List.filter_cons,if_pos (by simpa using Ne.symm hxy),List.filter_nil,List.eraseDups_cons,List.filter_nil,List.eraseDups_nil]
 unfold swappedStores
 simp [block_fn O,hx,hy,hl,e1,ed,hf,hc]
inductive SwapW (i j:Nat) (Φ:Fl→St→Prop) (tv:V) (σ3:St):Prop
 | mk (l:Addr) (u w:V) (e:tv=.ref l) (hm:σ3.m l=some (.tup [u,w])) (q:Φ .next ⟨put (put σ3.ρ j w) i u,σ3.m⟩)
theorem ex_swap {x y:Str}{px py tp vp pos:Pos}{k k' i j:Nat}{a b:PySem.Expr}{ta tb:PT V} (O:c.Ok) (hl:px.line=py.line) (hf:[a,b].all (foldedForSure 8)=false) (hc:[a,b].all (constantsAlone 8)=false)
  (hx:c.env.kindOf x=some .local) (hy:c.env.kindOf y=some .local) (hxy:x≠y) (ha:isName a=true) (hb:isName b=true) (sx:slotS c x i=true) (sy:slotS c y j=true)
  (h1:EvE c a ta) (h2:EvE c b tb) :
  ExS1 c (.Assign [.Tuple [.Name x px,.Name y py] k tp] (.Tuple [a,b] k' vp) pos) (fun σ Φ=>ta σ fun u σ1=>tb σ1 fun v σ2=>allocW (.tup [u,v]) σ2 fun zz σ3=>Φ .next ⟨put (put σ3.ρ j v) i u,σ3.m⟩):=by
 intro σ s Φ R q
 refine PyProof.Rows.Assign_Tuple_swapped ?_ rfl (swapped_some O hl hf hc hx hy hxy ha hb)
 have sa:notStar a=true:=by obtain ⟨_,_,rfl⟩:=isName_of ha;rfl
 have sb:notStar b=true:=by obtain ⟨_,_,rfl⟩:=isName_of hb;rfl
 have el:EvL c [a,b] _:=evl_cons sa h1 (evl_cons sb h2 (evl_nil (X:=c.X)))
 refine got_mono (ev_tuple O el σ s (SwapW i j Φ) R ?_) (fun v s1 σ1 R1 q1=>?_)
 ·have key:∀ u v σ2,(([u,v].length<1000000)∧allocW (.tup [u,v]) σ2 (SwapW i j Φ))=allocW (.tup [u,v]) σ2 fun zz σ3=>Φ .next ⟨put (put σ3.ρ j v) i u,σ3.m⟩:=fun u v σ2=>by
   refine propext ⟨fun h=>.i fun a h1 h2=>?_,fun h=>⟨nb rfl,.i fun a h1 h2=>⟨a,u,v,rfl,upd_same _ _ _,h.d a h1 h2⟩⟩⟩
   obtain ⟨l,u',w',e1,e2,q⟩:=h.2.d a h1 h2
   cases e1
   have e2:=(upd_same _ _ _).symm.trans e2
   cases e2
   exact q
  show ta σ fun u σ1=>tb σ1 fun v σ2=>(([u,v].length<1000000)∧allocW (.tup [u,v]) σ2 _)
  simp only [key]
  exact q
 ·obtain ⟨l,u,w,hv,hm,q1⟩:=q1
  obtain ⟨⟨arr⟩,n,ho,e,hz⟩:=R1.tup hm
  obtain ⟨iu,iw,rfl,rfl,rfl⟩:=map2 e
  rw [vof_ref hv]
  refine PyProof.Rows.unpackItems_tuple (items:=#[iu,iw]) O.hnd ⟨_,ho,rfl,_,rfl⟩ fun h' hs=>?_
  have R2:Rel c σ1 { s1 with heap:=h',toks:=s1.toks }:=R1.grown (fun b o eb=>hs b o (Nat.ne_of_lt (Heap.lt_size eb)) eb) s1.toks
  exact wpAny_bind (wpAny_holding (wpAny_bindName (store_ok R2 O sy fun s2 R3=>wpAny_bind (wpAny_holding (wpAny_bindName (store_ok R3 O sx fun s3 R4=>wpAny_pure ⟨_,R4,q1⟩))))))
end
theorem tg_each {t:PySem.Expr}{env:Env} (h:tgLike t=true):(assignEach [t] env).map (·.2)=[assign t env]:=by cases t <;> first|rfl|cases h
theorem tg_swap {t e:PySem.Expr}{env:Env} (h:tgLike t=true) (hn:notTupP t e=true):swappedStores [t] e env=pure none:=by
 cases t <;> first|cases h;done|rfl|skip
 cases e <;> first|rfl|cases hn
theorem no_swaps {e:PySem.Expr}{t:Option PySem.Expr}{l:Nat}{env:Env} (h:isLC e=false):swapsWith e t l env=pure false:=by
 cases e <;> first|rfl|cases h
theorem asg_ok {cx:CX}{t e:PySem.Expr}{pos:Pos}{t':Tg}{e':Ex} (hn:notTupP t e=true) (h1:TA cx t t') (h2:SE cx e e') (c:FC) (O:c.Ok) (F:Fits c cx) :
  ExS1 c (.Assign [t] e pos) (semS c.X (.asg t' e')):=by
 have g1:=h1.ev c O F
 have ev:=(h2.ev c O F).1
 have plain:swapsWith e (some t) pos.line c.env=pure false→ExS1 c (.Assign [t] e pos) (semS c.X (.asg t' e')):=fun hs=>ex_asg O ev g1 hs (tg_swap h1.like hn) (tg_each h1.like)
 cases e with
 | ListComp elt gens scope epos =>
  cases t with
  | Name x px =>
   obtain ⟨b,hb⟩:∃ b:Bool,swapsWith (.ListComp elt gens scope epos) (some (.Name x px)) pos.line c.env=pure b:=⟨_,rfl⟩
   cases b with
   | false=>exact plain hb
   | true =>
    intro σ s Φ R q
    obtain ⟨hok,target,it,ifs,rest,rfl,hp⟩:=h2.pt
    obtain ⟨tit,tt,inner,P,hsem⟩:=hp c O F
    rw [exec_Assign_Name_used _ _ _ _ hb]
    have q':(sem c.X e').val σ fun v σ1=>semT c.X t' v σ1 fun σ2=>Φ .next σ2:=q
    rw [hsem] at q'
    exact wpAny_bind (wpAny_standAt (wpAny_bind (got_mono (ev_compU (tg:=semT c.X t') (Φ:=fun σ2=>Φ .next σ2) O F hok P (h1.at F rfl) R q') (fun zz s2 σ2 R2 q2=>wpAny_pure ⟨σ2,R2,q2⟩))))
  | _=>exact plain rfl
 | _=>exact plain (no_swaps h2.pt)
noncomputable def SS (cx:CX) (st:Stmt) (sx:Sx):Prop:=∀ c:FC,c.Ok→Fits c cx→ExS1 c st (semS c.X sx)
noncomputable def SB (cx:CX) (b:List Stmt) (ir:Sxs):Prop:=∀ c:FC,c.Ok→Fits c cx→ExS c b (semB c.X ir)
abbrev RS (cx:CX) (st:Stmt):=Option {sx:Sx // SS cx st sx}
noncomputable def smap {cx:CX} (f:∀ st,RS cx st):∀ b,Option {ir:Sxs // SB cx b ir}
 | []=>some ⟨.nil,fun c O F=>exs_nil (X:=c.X)⟩
 | st::b=>(match f st,smap f b with
  | some a,some r=>some ⟨.cons a.1 r.1,fun c O F=>exs_cons (X:=c.X) (a.2 c O F) (r.2 c O F)⟩
  | _,_=>none)
noncomputable def tgA (n:Nat) (cx:CX):∀ e,Option {t:Tg // TA cx e t}
 | .Attribute o a _=>(match compE n cx o,h:attOf a with
  | some u,some m=>some ⟨.attr u.1 m,rfl,by have:=att_of h;subst this;exact fun c O F=>evg_attr O (u.2.ev c O F).1⟩
  | _,_=>none)
 | .Subscript o i _=>(match compE n cx o,compE n cx i with
  | some u,some v=>some ⟨.item u.1 v.1,rfl,fun c O F=>evg_item O (u.2.ev c O F).1 (v.2.ev c O F).1⟩
  | _,_=>none)
 | e=>(match tgN cx n e with
  | some t=>some ⟨t.1,t.2.1⟩
  | none=>none)
noncomputable def swK (cx:CX) (x y:Str) (px py:Pos) (a b:PySem.Expr):Bool:=px.line==py.line&&!([a,b].all (foldedForSure 8))&&!([a,b].all (constantsAlone 8))&&slotSX cx x (idxL x cx.names)&&slotSX cx y (idxL y cx.names)&&(cx.kd x==some .local)&&(cx.kd y==some .local)&&(x != y)&&isName a&&isName b
theorem ss_swap {cx:CX}{x y:Str}{px py tp vp pos:Pos}{k k':Nat}{a b:PySem.Expr}{a' b':Ex} (hk:swK cx x y px py a b=true) (h1:SE cx a a') (h2:SE cx b b') :
  SS cx (.Assign [.Tuple [.Name x px,.Name y py] k tp] (.Tuple [a,b] k' vp) pos) (.swap (idxL x cx.names) (idxL y cx.names) a' b'):=fun c O F=>by
 unfold swK at hk
 simp only [Bool.and_eq_true,beq_iff_eq,Bool.not_eq_true',bne_iff_ne,ne_eq] at hk
 exact ex_swap O hk.1.1.1.1.1.1.1.1.1 hk.1.1.1.1.1.1.1.1.2 hk.1.1.1.1.1.1.1.2 (by rw [F.kd];exact hk.1.1.1.1.2) (by rw [F.kd];exact hk.1.1.1.2) hk.1.1.2 hk.1.2 hk.2 (slotS_of F hk.1.1.1.1.1.1.2) (slotS_of F hk.1.1.1.1.1.2) (h1.ev c O F).1 (h2.ev c O F).1
theorem ss_augA {cx:CX}{o e:PySem.Expr}{a:Str}{m:Att}{tp pos:Pos}{op:Operator}{u v:Ex} (h:attOf a=some m) (h1:SE cx o u) (h2:SE cx e v):SS cx (.AugAssign (.Attribute o a tp) op e pos) (.augA u m op v):=by
 have:=att_of h;subst this
 exact fun c O F=>ex_augA O (h1.ev c O F).1 (h2.ev c O F).1
theorem ss_for {cx:CX}{t it:PySem.Expr}{b:List Stmt}{pos:Pos}{t':Tg}{i':Ex}{b':Sxs} (h1:TN cx t t') (h2:SE cx it i') (h3:SB cx b b'):SS cx (.For t it b [] pos) (.forS t' i' b'):=fun c O F =>
 ex_for O (folded_of h2.ns) (h2.ev c O F).1 (h1.at F rfl) fun c' O' L=>by
  have:=h3 c' O' (F.like L)
  rwa [like_X L] at this
noncomputable def compG {cx:CX} (n:Nat) (op:Operator) (e:PySem.Expr) (p:Pos):∀ t,RS cx (.AugAssign t op e p)
 | .Name x _=>if hs:(slotX cx x (idxL x cx.names)&&slotSX cx x (idxL x cx.names))=true then (match compE n cx e with
  | some a=>some ⟨.aug (idxL x cx.names) op a.1,fun c O F=>ex_augN O (slot_of F (and_l hs)) (slotS_of F (and_r hs)) (a.2.ev c O F).1⟩
  | none=>none) else none
 | .Attribute o a _=>(match compE n cx o,h:attOf a,compE n cx e with
  | some u,some m,some v=>some ⟨.augA u.1 m op v.1,ss_augA h u.2 v.2⟩
  | _,_,_=>none)
 | .Subscript o i _=>if hn:notSlice i=true then (match compE n cx o,compE n cx i,compE n cx e with
  | some u,some j,some v=>some ⟨.augI u.1 j.1 op v.1,fun c O F=>ex_augI O hn (u.2.ev c O F).1 (j.2.ev c O F).1 (v.2.ev c O F).1⟩
  | _,_,_=>none) else none
 | _=>none
noncomputable def compW' {cx:CX} (n:Nat) (p:Pos) (t e:PySem.Expr):RS cx (.Assign [t] e p) :=
 match t,e with
 | .Tuple [.Name x px,.Name y py] _ _,.Tuple [a,b] _ _=>if hk:swK cx x y px py a b=true then (match compE n cx a,compE n cx b with
  | some a',some b'=>some ⟨.swap (idxL x cx.names) (idxL y cx.names) a'.1 b'.1,ss_swap hk a'.2 b'.2⟩
  | _,_=>none) else none
 | t,e=>if hn:notTupP t e=true then (match tgA n cx t,compE n cx e with
  | some t',some e'=>some ⟨.asg t'.1 e'.1,asg_ok hn t'.2 e'.2⟩
  | _,_=>none) else none
noncomputable def compS:Nat→∀ cx st,RS cx st
 | 0,_,_=>none
 | n+1,cx,st=>match st with
  | .Return (some e) _=>(match compE n cx e with
   | some a=>some ⟨.ret a.1,fun c O F=>ex_ret (a.2.ev c O F).1⟩
   | none=>none)
  | .Expr e _=>if hl:isLC e=false then (match compE n cx e with
   | some a=>some ⟨.expr a.1,fun c O F=>ex_expr O hl (a.2.ev c O F).1⟩
   | none=>none) else none
  | .Assign [t] e p=>compW' n p t e
  | .AugAssign t op e p=>compG n op e p t
  | .If t a b _=>(match compE n cx t,smap (compS n cx) a,smap (compS n cx) b with
   | some t',some a',some b'=>some ⟨.ifS t'.1 a'.1 b'.1,fun c O F=>ex_if (t'.2.ev c O F).2 (a'.2 c O F) (b'.2 c O F)⟩
   | _,_,_=>none)
  | .For t it body [] _=>(match tgN cx n t,compE n cx it,smap (compS n cx) body with
   | some t',some i',some b'=>some ⟨.forS t'.1 i'.1 b'.1,ss_for t'.2 i'.2 b'.2⟩
   | _,_,_=>none)
  | .While t body [] _=>(match compE n cx t,smap (compS n cx) body with
   | some t',some b'=>some ⟨.whileS t'.1 b'.1,fun c O F=>ex_while O (t'.2.ev c O F).2 (b'.2 c O F)⟩
   | _,_=>none)
  | .Continue _=>some ⟨.cont,fun c O F=>ex_cont⟩
  | .Raise ..=>some ⟨.bad,fun c O F σ s Φ R q=>q.elim⟩
  | .Try ..=>some ⟨.bad,fun c O F σ s Φ R q=>q.elim⟩
  | _=>none
noncomputable def irS (cx:CX) (st:Stmt):Option Sx:=(compS 40 cx st).map (·.1)
noncomputable def irB' (cx:CX) (b:List Stmt):Option Sxs:=(smap (compS 40 cx) b).map (·.1)
theorem irS_ok {cx:CX}{st:Stmt}{sx:Sx} (h:irS cx st=some sx):SS cx st sx:=of_map h
theorem irB_ok {cx:CX}{b:List Stmt}{ir:Sxs} (h:irB' cx b=some ir):SB cx b ir:=of_map h
noncomputable def FnD.ir (d:FnD):Option Sxs:=irB' d.cx d.body
theorem run_ok {G:GC}{r:Nat}{Ψ:Addr→Mem→Prop}{d:FnD}{ir:Sxs}{args full:List V}{m:Mem}{Φ:V→Mem→Prop} (hG:G.Ok) (D:d.Ok) (hir:d.ir=some ir)
  (hbind:∀ vs:List Value,vs.map vof=args→∃ binds,(∀ S,peek (KF G.w.params) S (bindArgs d.fd ⟨vs,[]⟩)=some binds)∧binds.map (·.1)=d.ps∧binds.map (fun b=>vof b.2)=full)
  (h:semB ⟨G,r,Ψ⟩ ir ⟨ini full d.rest.length,m⟩ (fun fl σ'=>Φ fl.val σ'.m)) :
  callW G (r+1) Ψ (.ref d.addr) args m Φ :=
 enter_ok hG D hbind fun c O hX hs hn hf=>⟨semB c.X ir,irB_ok hir c O ⟨hs,hn,hf⟩,by rw [hX];exact h⟩
noncomputable def fdOk (fd:FuncData) (ps:List Str):Bool :=
 !fd.scope.isCoroutine&&!fd.scope.isGenerator&&(fd.scope.kind==.function)&&(fd.globals==mainGlobals)&&(fd.builtins==builtinsNs)&&fd.closure.isEmpty &&
 ps.all (fun x=>match fd.scope.names.lookup x with|some .local=>true|some .cell=>true|_=>false)&&decide ps.Nodup &&
 fd.scope.names.all (fun x=>x.2 != .free)&&decide ((fd.scope.names.map (·.1)).Nodup)
set_option tactic.hygienic true in
theorem enter_gen {G:GC}{r:Nat}{Ψ:Addr→Mem→Prop}{A:Around}{k:Keep}{s:Shared}{m:Mem}{f:Addr}{of:Obj}{fd:FuncData}{body:List Stmt}{ps rest:List Str}{vs:List Value}{binds:List (Str × Value)}{full:List V}
  {Q:Value→Shared→Prop}{QE:Value→Shared→Prop} (hG:G.Ok) (S:RelS G k m s) (B:Base G k) (Ro:Room A (r+1)) (hh:A.handled=none) (Fr:FramesK A k)
  (ho:s.heap.get? f=some of) (hod:of.data=.func fd) (hcd:s.heap.CodeRec fd.code fd.qualname) (okb:fdOk fd ps=true) (hbody:fd.body=.stmts body)
  (hbt:BindsTo s fd ⟨vs,[]⟩ binds) (hn:binds.map (·.1)=ps) (hf:binds.map (fun b=>vof b.2)=full) (hQE:∀ ea m' s'',G.Fly A k m' ea s''→Ψ ea m'→QE (.ref ea) s'')
  (h:∀ c:FC,c.Ok→c.X=⟨G,r,Ψ⟩→c.A=A.deeper c.env→c.k=k→c.env.scope=fd.scope→c.names=ps++rest→c.fn=true→c.env.frame=some c.env.locals→(∀ a∈c.own,s.heap.get? a=none) →
   c.E=(fun e s'=>wpAny (MW G.w) (A.deeper c.env) (leaving c.env e) (fun zz s''=>QE e s'') (fun zz zz=>False) s')→∀ s',Rel c ⟨ini full rest.length,m⟩ s'→(∀ b o,s.heap.get? b=some o→s'.heap.get? b=some o) →
   wpAny (MW G.w) c.A (execs body c.env) (fun fl s''=>Q (match fl with|.ret v=>v|_=>.none) s'') c.E s') :
  codeAny (MW G.w) A (.call (.ref f) ⟨vs,[]⟩) (fun r s'=>match r with|.ok (.ret v)=>Q v s'|.ok _=>False|.error e=>QE e s') s:=by
 unfold fdOk at okb
 simp only [Bool.and_eq_true,Bool.not_eq_true',beq_iff_eq,decide_eq_true_eq,List.all_eq_true] at okb
 obtain ⟨⟨⟨⟨⟨⟨⟨⟨⟨b2,b3⟩,b4⟩,b5⟩,b6⟩,b7⟩,b8⟩,b9⟩,b10⟩,b11⟩:=okb
 have X0:Frag.In (KF G.w.params) s.heap:=hG.K.keeps fun a o e=>S.mem.keep a o (B a o e)
 have nolim:s.heap.NoLimit:=hG.nolim.keeps fun a o e=>S.mem.keep a o (B a o e)
 have hclos:fd.closure=[]:=by simpa using b7
 have hkind:∀ x∈binds,fd.scope.names.lookup x.1=some .local∨(fd.scope.names.lookup x.1=some .cell∧((cellsFrom (s.heap.objs.size+1) fd.scope.names []).lookup x.1).isSome=true):=fun x hx=>by
  have hm:x.1∈ps:=hn▸List.mem_map.mpr ⟨x,hx,rfl⟩
  have:=b8 _ hm
  split at this
  ·rename_i q;exact .inl q
  ·rename_i q
   obtain ⟨ca,hc⟩:=cellsFrom_lookup (n:=s.heap.objs.size+1) (acc:=[]) q b11
   exact .inr ⟨q,by rw [hc];rfl⟩
  ·cases this
 refine codeAny_call_function (by have:=Ro.1;show A.depth<1000;lia) ho hod b2 b3 hbody hcd (hbt _ _ _ _ ?_)
 rw [hclos]
 refine wpAny_newFunctionEnv_cells b4 hkind fun env he s' I=>?_
 obtain ⟨hh',tk,hs'⟩:=I.toInCall.same
 have g:∀ b o,s.heap.get? b=some o→s'.heap.get? b=some o:=I.toInCall.keep
 have X1:Frag.In (KF G.w.params) s'.heap:=X0.keeps g
 refine ⟨nolim.keeps g,codeAny_func ?_⟩
 have hL:env.locals=s.heap.objs.size:=by rw [he];rfl
 have hfr:env.frame=some s.heap.objs.size:=by rw [he];rfl
 have hfr':env.frame=some env.locals:=by rw [hfr,hL]
 have fresh:∀ a,s.heap.objs.size≤a→m a=none∧k a=none:=fun a q=>S.mem.fresh (by
  cases e:s.heap.get? a with
  | none=>rfl
  | some o=>exact absurd (Heap.lt_size e) (Nat.not_lt.mpr q))
 let own:List Addr:=env.locals::(env.cells.map (·.1)).filterMap (env.cells.lookup ·)
 have ownC:∀ x ca,env.cells.lookup x=some ca→ca∈own:=fun x ca e=>List.mem_cons_of_mem _ (List.mem_filterMap.mpr ⟨x,List.mem_map.mpr ⟨_,mem_of_lookup e,rfl⟩,e⟩)
 have ownI:∀ a∈own,a=env.locals∨∃ x,env.cells.lookup x=some a:=fun a ha=>by
  rcases List.mem_cons.mp ha with q|q
  ·exact .inl q
  ·obtain ⟨x,_,e⟩:=List.mem_filterMap.mp q
   exact .inr ⟨x,e⟩
 have above:∀ a∈own,s.heap.objs.size≤a:=fun a ha=>by
  rcases ownI a ha with rfl|⟨x,e⟩
  ·rw [hL];exact Nat.le_refl _
  ·have:=I.above x a (mem_of_lookup e);rw [hL] at this;exact Nat.le_of_lt this
 have ownO:∀ a∈own,∃ o,s'.heap.get? a=some o∧ownLike o=true:=fun a ha=>by
  rcases ownI a ha with rfl|⟨x,e⟩
  ·obtain ⟨o,es,ep,h1,h2⟩:=Heap.Ns.obj I.toInCall.ns
   exact ⟨o,h1,by unfold ownLike;rw [h2]⟩
  ·obtain ⟨o,h1,h2⟩:=I.cell x a e
   exact ⟨o,h1,by unfold ownLike;rw [h2]⟩
 let c:FC:=⟨⟨G,r,Ψ⟩,A.deeper env,env,k,(ps++rest),own,fun e s'=>wpAny (MW G.w) (A.deeper env) (leaving env e) (fun zz s''=>QE e s'') (fun zz zz=>False) s',true⟩
 have hsc:env.scope=fd.scope:=by rw [he];rfl
 have O:c.Ok:={
  G:=hG
  base:=B
  kind:=by show env.scope.kind=_;rw [hsc];exact b4
  glb:=by show env.globals=_;rw [he];exact b5
  blt:=by show env.builtins=_;rw [he];exact b6
  loc:=List.mem_cons_self
  room:=by
   have:=Ro
   unfold Room at this ⊢
   show (A.depth+1)+10*r+20<690∧(A.units+3)+30*r+60<cLine
   lia
  hnd:=hh
  cells:=fun x ca e=>.inl (ownC x ca e)
  inj:=fun x y ca e1 e2=>name_of_addr I.apart (mem_of_lookup e1) (mem_of_lookup e2)
  lne:=fun x ca e q=>by have:=I.above x ca (mem_of_lookup e);rw [q] at this;exact Nat.lt_irrefl _ this
  cown:=fun zz=>ownC
  frames:=by
   obtain ⟨l,hl,hq⟩:=Fr
   refine ⟨env::l,by show A.frames.map (env::·)=_;rw [hl];rfl,fun e he'=>?_⟩
   rcases List.mem_cons.mp he' with rfl|he'
   ·exact ⟨by rw [hsc,b4];decide,_,hfr,.inl (by rw [←hL];exact List.mem_cons_self)⟩
   ·obtain ⟨q1,L,o,q2,q3,q4⟩:=hq e he'
    exact ⟨q1,L,q2,.inr ⟨o,q3,q4⟩⟩
  pass:=PassesOwn.leaving
  cdom:=fun x hx=>by
   have:fd.scope.names.lookup x=some .cell:=by
    rcases hx with hx|hx
    ·rw [←hsc];exact hx
    ·have hx':fd.scope.names.lookup x=some .free:=by rw [←hsc];exact hx
     have:=b10 _ (mem_of_lookup hx')
     simp at this
   have:=cellsFrom_lookup (n:=s.heap.objs.size+1) (acc:=[]) this b11
   show ∃ ca,env.cells.lookup x=some ca
   rw [he];exact this
  fly:=fun ea m' k' s'' hk ho' hf hψ=>by
   refine wpAny_mono (hG.leave A env k k' m' ea s'' _ Fr (by rw [hsc];exact b4) hfr (fresh _ (Nat.le_refl _)).2 hk ?_ hf) (fun zz s3 q=>hQE ea m' s3 q hψ) fun zz zz q=>q
   obtain ⟨o,h1,h2⟩:=ho' _ (show env.locals∈own from List.mem_cons_self)
   rw [hL] at h1
   exact ⟨o,h1,ownLike.notF h2⟩ }
 have names_at:∀ (i:Nat) x v,(ps++rest)[i]?=some x→look (ini full rest.length) i=some v→∃ u,binds[i]?=some (x,u)∧vof u=v:=fun i x v e1 e2=>by
  have e3:=look_ini e2
  rw [←hf,List.getElem?_map] at e3
  obtain ⟨b,e4,e5⟩:=Option.map_eq_some_iff.mp e3
  skip
  have hl:i<ps.length:=by rw [←hn,List.length_map];exact (List.getElem?_eq_some_iff.mp e4).1
  rw [List.getElem?_append_left hl,←hn,List.getElem?_map,e4] at e1
  obtain ⟨n,u⟩:=b
  simp at e1;subst e1
  exact ⟨u,e4,e5⟩
 have nd:(binds.map (·.1)).Nodup:=by rw [hn];exact b9
 have hlen:(ini full rest.length).length=(ps++rest).length:=by
  have h1:=congrArg List.length hf
  have h2:=congrArg List.length hn
  simp only [List.length_map] at h1 h2
  unfold ini
  simp;exact h1.symm.trans h2
 have R:Rel c ⟨ini full rest.length,m⟩ s':=by
  have S':RelS G k m s':=⟨by rw [hs'];exact S.gens,by rw [hs'];exact S.drawn,by rw [hs'];exact S.os,S.mem.grown g,S.lo⟩
  refine ⟨S',⟨⟨_,I.toInCall.ns,fun i x v e1 e2 e3=>?_⟩,fun i x v e1 e2 e3=>?_,hlen⟩,fun a ha=>fresh a (above a ha),ownO,fun y ca e=>⟨_,I.cell y ca e⟩⟩
  ·obtain ⟨u,h1,h2⟩:=names_at i x v e1 e3
   exact ⟨u,bindL_at e2 nd h1,h2⟩
  ·obtain ⟨u,h1,h2⟩:=names_at i x v e1 e3
   obtain ⟨ca,hc⟩:=O.cdom x e2
   refine ⟨ca,u,hc,?_,h2⟩
   have:=I.cell x ca hc
   rwa [bindC_at (by rcases e2 with q|q <;> rw [q] <;> decide) nd h1] at this
 refine wpAny_mono (h c O rfl rfl rfl hsc rfl rfl hfr' (fun a ha=>?_) rfl s' R g) (fun fl s2 q=>q) fun e s2 q=>wpAny_mono q (fun zz zz z=>z) (fun zz zz z=>z.elim)
 ·cases e:s.heap.get? a with
  | none=>rfl
  | some o=>exact absurd (Heap.lt_size e) (Nat.not_lt.mpr (above a ha))
theorem nl0 {p:List Value→Prop} (h:p []):∀ vs:List Value,vs.length=0→p vs
 | [],_=>h
theorem nlS {n:Nat}{p:List Value→Prop} (h:∀ a,∀ vs:List Value,vs.length=n→p (a::vs)):∀ vs:List Value,vs.length=n+1→p vs
 | a::vs,e=>h a vs (Nat.succ.inj e)
theorem nl1 {p:List Value→Prop} (h:∀ a,p [a]):∀ vs:List Value,vs.length=1→p vs:=nlS fun a=>nl0 (h a)
theorem nl2 {p:List Value→Prop} (h:∀ a b,p [a,b]):∀ vs:List Value,vs.length=2→p vs:=nlS fun a=>nl1 (h a)
theorem nl3 {p:List Value→Prop} (h:∀ a b c,p [a,b,c]):∀ vs:List Value,vs.length=3→p vs:=nlS fun a=>nl2 (h a)
theorem nl4 {p:List Value→Prop} (h:∀ a b c d,p [a,b,c,d]):∀ vs:List Value,vs.length=4→p vs:=nlS fun a=>nl3 (h a)
theorem nl5 {p:List Value→Prop} (h:∀ a b c d e,p [a,b,c,d,e]):∀ vs:List Value,vs.length=5→p vs:=nlS fun a=>nl4 (h a)
section
variable {G:GC}{r:Nat}{Ψ:Addr→Mem→Prop}{a0 a1 a2 a3 a4:V}{m:Mem}{Φ:V→Mem→Prop}
theorem pr1 {k r:Nat}{P:Nat→Prop} (hr:k+1≤r) (h:P (r - 1+1)):P r:=Nat.sub_add_cancel (Nat.le_trans (Nat.le_add_left 1 k) hr)▸h
theorem pr {k r j:Nat} (hr:k≤r) (q:Nat.ble (j+1) k=true):j≤r - 1:=Nat.le_sub_one_of_lt (Nat.le_trans (nb q) hr)
theorem run_n {a:Addr}{fd:FuncData}{ir:Sxs}{args:List V} (hG:G.Ok) (D:(defD a fd).Ok) (hir:(defD a fd).ir=some ir) (hp:(psOf fd).length=args.length)
  (hb:∀ vs:List Value,vs.length=args.length→∀ P S,peek (KF P) S (bindArgs fd ⟨vs,[]⟩)=some ((psOf fd).zip vs)) {k:Nat} (hr:k+1≤r) (h:semB ⟨G,r - 1,Ψ⟩ ir ⟨ini args (restOf fd).length,m⟩ (fun fl σ'=>Φ fl.val σ'.m)):callW G r Ψ (.ref a) args m Φ :=
 pr1 hr (P:=fun r=>callW G r Ψ (.ref a) args m Φ) (run_ok (full:=args) hG D hir (fun vs e=>by
  subst e
  rw [List.length_map] at hp
  refine ⟨(psOf fd).zip vs,fun S=>hb vs (List.length_map _).symm _ S,List.map_fst_zip (Nat.le_of_eq hp),?_⟩
  rw [show (fun b:Str × Value=>vof b.2)=vof∘(·.2) from rfl,←List.map_map,List.map_snd_zip (Nat.le_of_eq hp.symm)]) h)
noncomputable def ir61:Sxs :=
 (.cons (.ret (.or (.cmp .Eq (.var 0) (.str (ofString "flop"))) (.cmp .Eq (.var 0) (.str (ofString "latch")))))
 .nil)
theorem fok61:(defD 61 fd61).Ok:=⟨fun P=>by kernel_rfl,rfl,fun P=>by kernel_rfl⟩
theorem irok61:(defD 61 fd61).ir=some ir61:=by kernel_rfl
theorem run61 {k:Nat} (hG:G.Ok) (hr:k+1≤r) (h:semB ⟨G,r - 1,Ψ⟩ ir61 ⟨[some a0],m⟩ (fun fl σ'=>Φ fl.val σ'.m)):callW G r Ψ (.ref 61) [a0] m Φ :=
 run_n hG fok61 irok61 (by kernel_rfl) (nl1 (fun v0 P S=>by kernel_rfl)) hr h
noncomputable def ir75:Sxs :=
 (.cons (.asg (.attr (.var 0) .name) (.var 1))
 (.cons (.asg (.attr (.var 0) .count) (.int 2))
 (.cons (.asg (.attr (.var 0) .inputs) (.list .nil))
 (.cons (.asg (.attr (.var 0) .outputs) (.list .nil))
 (.cons (.asg (.attr (.var 0) .cells) (.list .nil))
 .nil)))))
theorem fok75:(defD 75 fd75).Ok:=⟨fun P=>by kernel_rfl,rfl,fun P=>by kernel_rfl⟩
theorem irok75:(defD 75 fd75).ir=some ir75:=by kernel_rfl
theorem run75 {k:Nat} (hG:G.Ok) (hr:k+1≤r) (h:semB ⟨G,r - 1,Ψ⟩ ir75 ⟨[some a0,some a1],m⟩ (fun fl σ'=>Φ fl.val σ'.m)):callW G r Ψ (.ref 75) [a0,a1] m Φ :=
 run_n hG fok75 irok75 (by kernel_rfl) (nl2 (fun v0 v1 P S=>by kernel_rfl)) hr h
noncomputable def ir82:Sxs :=
 (.cons (.asg (.name 1) (.attr (.var 0) .count))
 (.cons (.augA (.var 0) .count .Add (.int 1))
 (.cons (.ret (.var 1))
 .nil)))
theorem fok82:(defD 82 fd82).Ok:=⟨fun P=>by kernel_rfl,rfl,fun P=>by kernel_rfl⟩
theorem irok82:(defD 82 fd82).ir=some ir82:=by kernel_rfl
theorem run82 {k:Nat} (hG:G.Ok) (hr:k+1≤r) (h:semB ⟨G,r - 1,Ψ⟩ ir82 ⟨[some a0,none],m⟩ (fun fl σ'=>Φ fl.val σ'.m)):callW G r Ψ (.ref 82) [a0] m Φ :=
 run_n hG fok82 irok82 (by kernel_rfl) (nl1 (fun v0 P S=>by kernel_rfl)) hr h
noncomputable def ir87:Sxs :=
 (.cons (.ret (.comp1 (.meth (.var 0) (ofString "new_net") .nil) (.name 2) (.bi .range (.cons (.var 1) .nil)) (.bool true) 1))
 .nil)
theorem fok87:(defD 87 fd87).Ok:=⟨fun P=>by kernel_rfl,rfl,fun P=>by kernel_rfl⟩
theorem irok87:(defD 87 fd87).ir=some ir87:=by kernel_rfl
theorem run87 {k:Nat} (hG:G.Ok) (hr:k+1≤r) (h:semB ⟨G,r - 1,Ψ⟩ ir87 ⟨[some a0,some a1],m⟩ (fun fl σ'=>Φ fl.val σ'.m)):callW G r Ψ (.ref 87) [a0,a1] m Φ :=
 run_n hG fok87 irok87 (by kernel_rfl) (nl2 (fun v0 v1 P S=>by kernel_rfl)) hr h
noncomputable def ir94:Sxs :=
 (.cons (.asg (.name 3) (.meth (.var 0) (ofString "new_nets") (.cons (.var 2) .nil)))
 (.cons (.expr (.app (.attr (.var 0) .inputs) (.tup (.cons (.var 1) (.cons (.bi .list (.cons (.var 3) .nil)) .nil)))))
 (.cons (.ret (.var 3))
 .nil)))
theorem fok94:(defD 94 fd94).Ok:=⟨fun P=>by kernel_rfl,rfl,fun P=>by kernel_rfl⟩
theorem irok94:(defD 94 fd94).ir=some ir94:=by kernel_rfl
theorem run94 {k:Nat} (hG:G.Ok) (hr:k+1≤r) (h:semB ⟨G,r - 1,Ψ⟩ ir94 ⟨[some a0,some a1,some a2,none],m⟩ (fun fl σ'=>Φ fl.val σ'.m)):callW G r Ψ (.ref 94) [a0,a1,a2] m Φ :=
 run_n hG fok94 irok94 (by kernel_rfl) (nl3 (fun v0 v1 v2 P S=>by kernel_rfl)) hr h
noncomputable def ir101:Sxs :=
 (.cons (.expr (.app (.attr (.var 0) .outputs) (.tup (.cons (.var 1) (.cons (.bi .list (.cons (.var 2) .nil)) .nil)))))
 .nil)
theorem fok101:(defD 101 fd101).Ok:=⟨fun P=>by kernel_rfl,rfl,fun P=>by kernel_rfl⟩
theorem irok101:(defD 101 fd101).ir=some ir101:=by kernel_rfl
theorem run101 {k:Nat} (hG:G.Ok) (hr:k+1≤r) (h:semB ⟨G,r - 1,Ψ⟩ ir101 ⟨[some a0,some a1,some a2],m⟩ (fun fl σ'=>Φ fl.val σ'.m)):callW G r Ψ (.ref 101) [a0,a1,a2] m Φ :=
 run_n hG fok101 irok101 (by kernel_rfl) (nl3 (fun v0 v1 v2 P S=>by kernel_rfl)) hr h
noncomputable def ir109:Sxs :=
 (.cons (.asg (.name 4) (.meth (.var 0) (ofString "new_net") .nil))
 (.cons (.expr (.meth (.var 0) (ofString "drive") (.cons (.var 4) (.cons (.var 1) (.cons (.var 2) (.cons (.var 3) .nil))))))
 (.cons (.ret (.var 4))
 .nil)))
theorem fok109:(defD 109 fd109).Ok:=⟨fun P=>by kernel_rfl,rfl,fun P=>by kernel_rfl⟩
theorem irok109:(defD 109 fd109).ir=some ir109:=by kernel_rfl
theorem run109 {k:Nat} (hG:G.Ok) (hr:k+1≤r) (h:semB ⟨G,r - 1,Ψ⟩ ir109 ⟨[some a0,some a1,some a2,some a3,none],m⟩ (fun fl σ'=>Φ fl.val σ'.m)):callW G r Ψ (.ref 109) [a0,a1,a2,a3] m Φ :=
 run_n hG fok109 irok109 (by kernel_rfl) (nl4 (fun v0 v1 v2 v3 P S=>by kernel_rfl)) hr h
theorem bind109d (P:Params) (v0 v1 v2:Value) (S:Setting):peek (KF P) S (bindArgs (defD 109 fd109).fd ⟨[v0,v1,v2],[]⟩)=some [(ofString "self",v0),(ofString "kind",v1),(ofString "ins",v2),(ofString "param",.none)]:=by kernel_rfl
theorem run109d {k:Nat} (hG:G.Ok) (hr:k+1≤r) (h:semB ⟨G,r - 1,Ψ⟩ ir109 ⟨[some a0,some a1,some a2,some .none,none],m⟩ (fun fl σ'=>Φ fl.val σ'.m)):callW G r Ψ (.ref 109) [a0,a1,a2] m Φ:=by
 refine pr1 hr (P:=fun r=>callW G r Ψ (.ref 109) [a0,a1,a2] m Φ) (run_ok (full:=[a0,a1,a2,.none]) hG fok109 irok109 (fun vs e=>?_) h)
 have hl:vs.length=3:=by rw [←List.length_map (f:=vof),e];rfl
 revert e
 refine nl3 (p:=fun vs=>List.map vof vs=[a0,a1,a2]→∃ binds,(∀ S:Setting,peek (KF G.w.params) S (bindArgs (defD 109 fd109).fd ⟨vs,[]⟩)=some binds)∧binds.map (·.1)=(defD 109 fd109).ps∧binds.map (fun b=>vof b.2)=[a0,a1,a2,V.none]) ?_ vs hl
 intro v0 v1 v2 e
 exact ⟨_,bind109d _ v0 v1 v2,rfl,congrArg (·++[V.none]) e⟩
noncomputable def ir117:Sxs :=
 (.cons (.expr (.app (.attr (.var 0) .cells) (.tup (.cons (.var 2) (.cons (.var 1) (.cons (.bi .tuple (.cons (.var 3) .nil)) (.cons (.var 4) .nil)))))))
 .nil)
theorem fok117:(defD 117 fd117).Ok:=⟨fun P=>by kernel_rfl,rfl,fun P=>by kernel_rfl⟩
theorem irok117:(defD 117 fd117).ir=some ir117:=by kernel_rfl
theorem run117 {k:Nat} (hG:G.Ok) (hr:k+1≤r) (h:semB ⟨G,r - 1,Ψ⟩ ir117 ⟨[some a0,some a1,some a2,some a3,some a4],m⟩ (fun fl σ'=>Φ fl.val σ'.m)):callW G r Ψ (.ref 117) [a0,a1,a2,a3,a4] m Φ :=
 run_n hG fok117 irok117 (by kernel_rfl) (nl5 (fun v0 v1 v2 v3 v4 P S=>by kernel_rfl)) hr h
noncomputable def ir124:Sxs :=
 (.cons (.asg (.name 1) (.list .nil))
 (.cons (.forS (.tup (.cons (.name 2) (.cons (.name 3) .nil))) (.attr (.var 0) .inputs)
  (.cons (.expr (.ext (.var 1) (.var 3)))
  .nil))
 (.cons (.forS (.name 4) (.attr (.var 0) .cells)
  (.cons (.ifS (.call 61 (.cons (.item (.var 4) (.int 0)) .nil))
   (.cons (.expr (.app (.var 1) (.item (.var 4) (.int 1))))
   .nil)
   .nil)
  .nil))
 (.cons (.ret (.var 1))
 .nil))))
theorem fok124:(defD 124 fd124).Ok:=⟨fun P=>by kernel_rfl,rfl,fun P=>by kernel_rfl⟩
theorem irok124:(defD 124 fd124).ir=some ir124:=by kernel_rfl
theorem run124 {k:Nat} (hG:G.Ok) (hr:k+1≤r) (h:semB ⟨G,r - 1,Ψ⟩ ir124 ⟨[some a0,none,none,none,none],m⟩ (fun fl σ'=>Φ fl.val σ'.m)):callW G r Ψ (.ref 124) [a0] m Φ :=
 run_n hG fok124 irok124 (by kernel_rfl) (nl1 (fun v0 P S=>by kernel_rfl)) hr h
noncomputable def ir131:Sxs :=
 (.cons (.asg (.name 1) (.list .nil))
 (.cons (.forS (.tup (.cons (.name 2) (.cons (.name 3) .nil))) (.attr (.var 0) .outputs)
  (.cons (.expr (.ext (.var 1) (.var 3)))
  .nil))
 (.cons (.forS (.name 4) (.attr (.var 0) .cells)
  (.cons (.ifS (.call 61 (.cons (.item (.var 4) (.int 0)) .nil))
   (.cons (.expr (.ext (.var 1) (.item (.var 4) (.int 2))))
   .nil)
   .nil)
  .nil))
 (.cons (.ret (.var 1))
 .nil))))
theorem fok131:(defD 131 fd131).Ok:=⟨fun P=>by kernel_rfl,rfl,fun P=>by kernel_rfl⟩
theorem irok131:(defD 131 fd131).ir=some ir131:=by kernel_rfl
theorem run131 {k:Nat} (hG:G.Ok) (hr:k+1≤r) (h:semB ⟨G,r - 1,Ψ⟩ ir131 ⟨[some a0,none,none,none,none],m⟩ (fun fl σ'=>Φ fl.val σ'.m)):callW G r Ψ (.ref 131) [a0] m Φ :=
 run_n hG fok131 irok131 (by kernel_rfl) (nl1 (fun v0 P S=>by kernel_rfl)) hr h
noncomputable def ir145:Sxs :=
 (.cons (.asg (.name 1) (.list .nil))
 (.cons (.forS (.name 2) (.bi .range (.cons (.bi .len (.cons (.attr (.var 0) .cells) .nil)) .nil))
  (.cons (.ifS (.call 61 (.cons (.item (.item (.attr (.var 0) .cells) (.var 2)) (.int 0)) .nil))
   (.cons (.expr (.app (.var 1) (.var 2)))
   .nil)
   .nil)
  .nil))
 (.cons (.ret (.var 1))
 .nil)))
theorem fok145:(defD 145 fd145).Ok:=⟨fun P=>by kernel_rfl,rfl,fun P=>by kernel_rfl⟩
theorem irok145:(defD 145 fd145).ir=some ir145:=by kernel_rfl
theorem run145 {k:Nat} (hG:G.Ok) (hr:k+1≤r) (h:semB ⟨G,r - 1,Ψ⟩ ir145 ⟨[some a0,none,none],m⟩ (fun fl σ'=>Φ fl.val σ'.m)):callW G r Ψ (.ref 145) [a0] m Φ :=
 run_n hG fok145 irok145 (by kernel_rfl) (nl1 (fun v0 P S=>by kernel_rfl)) hr h
noncomputable def ir152:Sxs :=
 (.cons (.asg (.name 1) (.dict (.cons (.int 0) (.cons (.bool true) (.cons (.int 1) (.cons (.bool true) .nil))))))
 (.cons (.forS (.tup (.cons (.name 2) (.cons (.name 3) .nil))) (.attr (.var 0) .inputs)
  (.cons (.forS (.name 4) (.var 3)
   (.cons (.ifS (.cmp .In (.var 4) (.var 1))
    (.cons .bad
    .nil)
    .nil)
   (.cons (.asg (.item (.var 1) (.var 4)) (.bool true))
   .nil)))
  .nil))
 (.cons (.asg (.name 5) (.dict .nil))
 (.cons (.forS (.name 6) (.bi .range (.cons (.bi .len (.cons (.attr (.var 0) .cells) .nil)) .nil))
  (.cons (.asg (.name 4) (.item (.item (.attr (.var 0) .cells) (.var 6)) (.int 1)))
  (.cons (.ifS (.cmp .In (.var 4) (.var 1))
   (.cons .bad
   .nil)
   .nil)
  (.cons (.asg (.item (.var 1) (.var 4)) (.bool true))
  (.cons (.asg (.item (.var 5) (.var 4)) (.var 6))
  .nil)))))
 (.cons (.ret (.var 5))
 .nil)))))
theorem fok152:(defD 152 fd152).Ok:=⟨fun P=>by kernel_rfl,rfl,fun P=>by kernel_rfl⟩
theorem irok152:(defD 152 fd152).ir=some ir152:=by kernel_rfl
theorem run152 {k:Nat} (hG:G.Ok) (hr:k+1≤r) (h:semB ⟨G,r - 1,Ψ⟩ ir152 ⟨[some a0,none,none,none,none,none,none],m⟩ (fun fl σ'=>Φ fl.val σ'.m)):callW G r Ψ (.ref 152) [a0] m Φ :=
 run_n hG fok152 irok152 (by kernel_rfl) (nl1 (fun v0 P S=>by kernel_rfl)) hr h
noncomputable def ir159:Sxs :=
 (.cons (.asg (.name 2) (.attr (.var 0) .cells))
 (.cons (.asg (.name 3) (.dict .nil))
 (.cons (.asg (.name 4) (.dict .nil))
 (.cons (.asg (.name 5) (.list .nil))
 (.cons (.forS (.name 6) (.bi .range (.cons (.bi .len (.cons (.var 2) .nil)) .nil))
  (.cons (.ifS (.call 61 (.cons (.item (.item (.var 2) (.var 6)) (.int 0)) .nil))
   (.cons .cont
   .nil)
   .nil)
  (.cons (.asg (.name 7) (.int 0))
  (.cons (.forS (.name 8) (.item (.item (.var 2) (.var 6)) (.int 2))
   (.cons (.asg (.name 9) (.get (.var 1) (.var 8) (.neg (.int 1))))
   (.cons (.ifS (.and (.cmp .GtE (.var 9) (.int 0)) (.not (.call 61 (.cons (.item (.item (.var 2) (.var 9)) (.int 0)) .nil))))
    (.cons (.aug 7 .Add (.int 1))
    (.cons (.ifS (.cmp .NotIn (.var 9) (.var 4))
     (.cons (.asg (.item (.var 4) (.var 9)) (.list .nil))
     .nil)
     .nil)
    (.cons (.expr (.app (.item (.var 4) (.var 9)) (.var 6)))
    .nil)))
    .nil)
   .nil)))
  (.cons (.asg (.item (.var 3) (.var 6)) (.var 7))
  (.cons (.ifS (.cmp .Eq (.var 7) (.int 0))
   (.cons (.expr (.app (.var 5) (.var 6)))
   .nil)
   .nil)
  .nil))))))
 (.cons (.asg (.name 10) (.int 0))
 (.cons (.whileS (.cmp .Lt (.var 10) (.bi .len (.cons (.var 5) .nil)))
  (.cons (.forS (.name 6) (.get (.var 4) (.item (.var 5) (.var 10)) (.list .nil))
   (.cons (.augI (.var 3) (.var 6) .Sub (.int 1))
   (.cons (.ifS (.cmp .Eq (.item (.var 3) (.var 6)) (.int 0))
    (.cons (.expr (.app (.var 5) (.var 6)))
    .nil)
    .nil)
   .nil)))
  (.cons (.aug 10 .Add (.int 1))
  .nil)))
 (.cons (.ret (.var 5))
 .nil))))))))
theorem fok159:(defD 159 fd159).Ok:=⟨fun P=>by kernel_rfl,rfl,fun P=>by kernel_rfl⟩
theorem irok159:(defD 159 fd159).ir=some ir159:=by kernel_rfl
theorem run159 {k:Nat} (hG:G.Ok) (hr:k+1≤r) (h:semB ⟨G,r - 1,Ψ⟩ ir159 ⟨[some a0,some a1,none,none,none,none,none,none,none,none,none],m⟩ (fun fl σ'=>Φ fl.val σ'.m)):callW G r Ψ (.ref 159) [a0,a1] m Φ :=
 run_n hG fok159 irok159 (by kernel_rfl) (nl2 (fun v0 v1 P S=>by kernel_rfl)) hr h
noncomputable def ir166:Sxs :=
 (.cons (.asg (.name 1) (.call 159 (.cons (.var 0) (.cons (.call 152 (.cons (.var 0) .nil)) .nil))))
 (.cons (.ifS (.cmp .Lt (.bin .Add (.bi .len (.cons (.var 1) .nil)) (.bi .len (.cons (.call 145 (.cons (.var 0) .nil)) .nil))) (.bi .len (.cons (.attr (.var 0) .cells) .nil)))
  (.cons .bad
  .nil)
  .nil)
 (.cons (.ret (.var 1))
 .nil)))
theorem fok166:(defD 166 fd166).Ok:=⟨fun P=>by kernel_rfl,rfl,fun P=>by kernel_rfl⟩
theorem irok166:(defD 166 fd166).ir=some ir166:=by kernel_rfl
theorem run166 {k:Nat} (hG:G.Ok) (hr:k+1≤r) (h:semB ⟨G,r - 1,Ψ⟩ ir166 ⟨[some a0,none],m⟩ (fun fl σ'=>Φ fl.val σ'.m)):callW G r Ψ (.ref 166) [a0] m Φ :=
 run_n hG fok166 irok166 (by kernel_rfl) (nl1 (fun v0 P S=>by kernel_rfl)) hr h
noncomputable def ir180:Sxs :=
 (.cons (.asg (.attr (.var 0) .nodes) (.list (.cons .none .nil)))
 (.cons (.asg (.attr (.var 0) .inputs) (.list .nil))
 (.cons (.asg (.attr (.var 0) .outputs) (.list .nil))
 (.cons (.asg (.attr (.var 0) .table) (.dict .nil))
 .nil))))
theorem fok180:(defD 180 fd180).Ok:=⟨fun P=>by kernel_rfl,rfl,fun P=>by kernel_rfl⟩
theorem irok180:(defD 180 fd180).ir=some ir180:=by kernel_rfl
theorem run180 {k:Nat} (hG:G.Ok) (hr:k+1≤r) (h:semB ⟨G,r - 1,Ψ⟩ ir180 ⟨[some a0],m⟩ (fun fl σ'=>Φ fl.val σ'.m)):callW G r Ψ (.ref 180) [a0] m Φ :=
 run_n hG fok180 irok180 (by kernel_rfl) (nl1 (fun v0 P S=>by kernel_rfl)) hr h
noncomputable def ir187:Sxs :=
 (.cons (.asg (.name 1) (.bi .len (.cons (.attr (.var 0) .nodes) .nil)))
 (.cons (.expr (.app (.attr (.var 0) .nodes) .none))
 (.cons (.expr (.app (.attr (.var 0) .inputs) (.var 1)))
 (.cons (.ret (.bin .Mult (.int 2) (.var 1)))
 .nil))))
theorem fok187:(defD 187 fd187).Ok:=⟨fun P=>by kernel_rfl,rfl,fun P=>by kernel_rfl⟩
theorem irok187:(defD 187 fd187).ir=some ir187:=by kernel_rfl
theorem run187 {k:Nat} (hG:G.Ok) (hr:k+1≤r) (h:semB ⟨G,r - 1,Ψ⟩ ir187 ⟨[some a0,none],m⟩ (fun fl σ'=>Φ fl.val σ'.m)):callW G r Ψ (.ref 187) [a0] m Φ :=
 run_n hG fok187 irok187 (by kernel_rfl) (nl1 (fun v0 P S=>by kernel_rfl)) hr h
noncomputable def ir194:Sxs :=
 (.cons (.expr (.app (.attr (.var 0) .outputs) (.var 1)))
 .nil)
theorem fok194:(defD 194 fd194).Ok:=⟨fun P=>by kernel_rfl,rfl,fun P=>by kernel_rfl⟩
theorem irok194:(defD 194 fd194).ir=some ir194:=by kernel_rfl
theorem run194 {k:Nat} (hG:G.Ok) (hr:k+1≤r) (h:semB ⟨G,r - 1,Ψ⟩ ir194 ⟨[some a0,some a1],m⟩ (fun fl σ'=>Φ fl.val σ'.m)):callW G r Ψ (.ref 194) [a0,a1] m Φ :=
 run_n hG fok194 irok194 (by kernel_rfl) (nl2 (fun v0 v1 P S=>by kernel_rfl)) hr h
noncomputable def ir208:Sxs :=
 (.cons (.ifS (.cmp .Gt (.var 1) (.var 2))
  (.cons (.swap 1 2 (.var 2) (.var 1))
  .nil)
  .nil)
 (.cons (.ifS (.or (.cmp .Eq (.var 1) (.int 0)) (.cmp .Eq (.var 1) (.bin .BitXor (.var 2) (.int 1))))
  (.cons (.ret (.int 0))
  .nil)
  .nil)
 (.cons (.ifS (.or (.cmp .Eq (.var 1) (.int 1)) (.cmp .Eq (.var 1) (.var 2)))
  (.cons (.ret (.var 2))
  .nil)
  .nil)
 (.cons (.asg (.name 3) (.get (.attr (.var 0) .table) (.tup (.cons (.var 1) (.cons (.var 2) .nil))) (.neg (.int 1))))
 (.cons (.ifS (.cmp .Lt (.var 3) (.int 0))
  (.cons (.asg (.name 3) (.bi .len (.cons (.attr (.var 0) .nodes) .nil)))
  (.cons (.expr (.app (.attr (.var 0) .nodes) (.tup (.cons (.var 1) (.cons (.var 2) .nil)))))
  (.cons (.asg (.item (.attr (.var 0) .table) (.tup (.cons (.var 1) (.cons (.var 2) .nil)))) (.var 3))
  .nil)))
  .nil)
 (.cons (.ret (.bin .Mult (.int 2) (.var 3)))
 .nil))))))
theorem fok208:(defD 208 fd208).Ok:=⟨fun P=>by kernel_rfl,rfl,fun P=>by kernel_rfl⟩
theorem irok208:(defD 208 fd208).ir=some ir208:=by kernel_rfl
theorem run208 {k:Nat} (hG:G.Ok) (hr:k+1≤r) (h:semB ⟨G,r - 1,Ψ⟩ ir208 ⟨[some a0,some a1,some a2,none],m⟩ (fun fl σ'=>Φ fl.val σ'.m)):callW G r Ψ (.ref 208) [a0,a1,a2] m Φ :=
 run_n hG fok208 irok208 (by kernel_rfl) (nl3 (fun v0 v1 v2 P S=>by kernel_rfl)) hr h
noncomputable def ir215:Sxs :=
 (.cons (.ret (.bin .BitXor (.meth (.var 0) (ofString "land") (.cons (.bin .BitXor (.var 1) (.int 1)) (.cons (.bin .BitXor (.var 2) (.int 1)) .nil))) (.int 1)))
 .nil)
theorem fok215:(defD 215 fd215).Ok:=⟨fun P=>by kernel_rfl,rfl,fun P=>by kernel_rfl⟩
theorem irok215:(defD 215 fd215).ir=some ir215:=by kernel_rfl
theorem run215 {k:Nat} (hG:G.Ok) (hr:k+1≤r) (h:semB ⟨G,r - 1,Ψ⟩ ir215 ⟨[some a0,some a1,some a2],m⟩ (fun fl σ'=>Φ fl.val σ'.m)):callW G r Ψ (.ref 215) [a0,a1,a2] m Φ :=
 run_n hG fok215 irok215 (by kernel_rfl) (nl3 (fun v0 v1 v2 P S=>by kernel_rfl)) hr h
noncomputable def ir222:Sxs :=
 (.cons (.asg (.name 3) (.bin .BitAnd (.bin .BitXor (.var 1) (.var 2)) (.int 1)))
 (.cons (.asg (.name 4) (.bin .BitXor (.var 1) (.bin .BitAnd (.var 1) (.int 1))))
 (.cons (.asg (.name 5) (.bin .BitXor (.var 2) (.bin .BitAnd (.var 2) (.int 1))))
 (.cons (.ret (.bin .BitXor (.meth (.var 0) (ofString "lor") (.cons (.meth (.var 0) (ofString "land") (.cons (.var 4) (.cons (.bin .BitXor (.var 5) (.int 1)) .nil))) (.cons (.meth (.var 0) (ofString "land") (.cons (.bin .BitXor (.var 4) (.int 1)) (.cons (.var 5) .nil))) .nil))) (.var 3)))
 .nil))))
theorem fok222:(defD 222 fd222).Ok:=⟨fun P=>by kernel_rfl,rfl,fun P=>by kernel_rfl⟩
theorem irok222:(defD 222 fd222).ir=some ir222:=by kernel_rfl
theorem run222 {k:Nat} (hG:G.Ok) (hr:k+1≤r) (h:semB ⟨G,r - 1,Ψ⟩ ir222 ⟨[some a0,some a1,some a2,none,none,none],m⟩ (fun fl σ'=>Φ fl.val σ'.m)):callW G r Ψ (.ref 222) [a0,a1,a2] m Φ :=
 run_n hG fok222 irok222 (by kernel_rfl) (nl3 (fun v0 v1 v2 P S=>by kernel_rfl)) hr h
noncomputable def ir229:Sxs :=
 (.cons (.ifS (.cmp .Eq (.var 2) (.var 3))
  (.cons (.ret (.var 2))
  .nil)
  .nil)
 (.cons (.ret (.meth (.var 0) (ofString "lor") (.cons (.meth (.var 0) (ofString "land") (.cons (.var 1) (.cons (.var 3) .nil))) (.cons (.meth (.var 0) (ofString "land") (.cons (.bin .BitXor (.var 1) (.int 1)) (.cons (.var 2) .nil))) .nil))))
 .nil))
theorem fok229:(defD 229 fd229).Ok:=⟨fun P=>by kernel_rfl,rfl,fun P=>by kernel_rfl⟩
theorem irok229:(defD 229 fd229).ir=some ir229:=by kernel_rfl
theorem run229 {k:Nat} (hG:G.Ok) (hr:k+1≤r) (h:semB ⟨G,r - 1,Ψ⟩ ir229 ⟨[some a0,some a1,some a2,some a3],m⟩ (fun fl σ'=>Φ fl.val σ'.m)):callW G r Ψ (.ref 229) [a0,a1,a2,a3] m Φ :=
 run_n hG fok229 irok229 (by kernel_rfl) (nl4 (fun v0 v1 v2 v3 P S=>by kernel_rfl)) hr h
noncomputable def ir272:Sxs :=
 (.cons (.asg (.name 1) (.bin .Mult (.list (.cons (.bool false) .nil)) (.bi .len (.cons (.attr (.var 0) .nodes) .nil))))
 (.cons (.forS (.name 2) (.attr (.var 0) .outputs)
  (.cons (.asg (.item (.var 1) (.bin .RShift (.var 2) (.int 1))) (.bool true))
  .nil))
 (.cons (.forS (.name 3) (.bi .range (.cons (.bin .Sub (.bi .len (.cons (.attr (.var 0) .nodes) .nil)) (.int 1)) (.cons (.neg (.int 1)) (.cons (.neg (.int 1)) .nil))))
  (.cons (.asg (.name 4) (.item (.attr (.var 0) .nodes) (.var 3)))
  (.cons (.ifS (.and (.item (.var 1) (.var 3)) (.cmp .IsNot (.var 4) .none))
   (.cons (.asg (.item (.var 1) (.bin .RShift (.item (.var 4) (.int 0)) (.int 1))) (.bool true))
   (.cons (.asg (.item (.var 1) (.bin .RShift (.item (.var 4) (.int 1)) (.int 1))) (.bool true))
   .nil))
   .nil)
  .nil)))
 (.cons (.ret (.var 1))
 .nil))))
theorem fok272:(defD 272 fd272).Ok:=⟨fun P=>by kernel_rfl,rfl,fun P=>by kernel_rfl⟩
theorem irok272:(defD 272 fd272).ir=some ir272:=by kernel_rfl
theorem run272 {k:Nat} (hG:G.Ok) (hr:k+1≤r) (h:semB ⟨G,r - 1,Ψ⟩ ir272 ⟨[some a0,none,none,none,none],m⟩ (fun fl σ'=>Φ fl.val σ'.m)):callW G r Ψ (.ref 272) [a0] m Φ :=
 run_n hG fok272 irok272 (by kernel_rfl) (nl1 (fun v0 P S=>by kernel_rfl)) hr h
noncomputable def ir279:Sxs :=
 (.cons (.asg (.name 3) (.bin .LShift (.int 1) (.bi .len (.cons (.var 2) .nil))))
 (.cons (.ifS (.cmp .Eq (.var 1) (.int 0))
  (.cons (.ret (.int 0))
  .nil)
  .nil)
 (.cons (.ifS (.cmp .Eq (.var 1) (.bin .Sub (.bin .LShift (.int 1) (.var 3)) (.int 1)))
  (.cons (.ret (.int 1))
  .nil)
  .nil)
 (.cons (.asg (.name 4) (.bin .RShift (.var 3) (.int 1)))
 (.cons (.asg (.name 5) (.bin .BitAnd (.var 1) (.bin .Sub (.bin .LShift (.int 1) (.var 4)) (.int 1))))
 (.cons (.asg (.name 6) (.bin .RShift (.var 1) (.var 4)))
 (.cons (.asg (.name 7) (.slice (.var 2) .none (.neg (.int 1))))
 (.cons (.ifS (.cmp .Eq (.var 5) (.var 6))
  (.cons (.ret (.call 279 (.cons (.var 0) (.cons (.var 5) (.cons (.var 7) .nil)))))
  .nil)
  .nil)
 (.cons (.asg (.name 8) (.call 279 (.cons (.var 0) (.cons (.var 6) (.cons (.var 7) .nil)))))
 (.cons (.asg (.name 9) (.call 279 (.cons (.var 0) (.cons (.var 5) (.cons (.var 7) .nil)))))
 (.cons (.ret (.meth (.var 0) (ofString "lmux") (.cons (.item (.var 2) (.neg (.int 1))) (.cons (.var 9) (.cons (.var 8) .nil)))))
 .nil)))))))))))
theorem fok279:(defD 279 fd279).Ok:=⟨fun P=>by kernel_rfl,rfl,fun P=>by kernel_rfl⟩
theorem irok279:(defD 279 fd279).ir=some ir279:=by kernel_rfl
theorem run279 {k:Nat} (hG:G.Ok) (hr:k+1≤r) (h:semB ⟨G,r - 1,Ψ⟩ ir279 ⟨[some a0,some a1,some a2,none,none,none,none,none,none,none],m⟩ (fun fl σ'=>Φ fl.val σ'.m)):callW G r Ψ (.ref 279) [a0,a1,a2] m Φ :=
 run_n hG fok279 irok279 (by kernel_rfl) (nl3 (fun v0 v1 v2 P S=>by kernel_rfl)) hr h
noncomputable def ir286:Sxs :=
 (.cons (.ifS (.cmp .Eq (.var 1) (.str (ofString "lut")))
  (.cons (.ret (.call 279 (.cons (.var 0) (.cons (.var 2) (.cons (.var 3) .nil)))))
  .nil)
  .nil)
 (.cons (.ifS (.cmp .Eq (.var 1) (.str (ofString "cell")))
  (.cons (.ret (.call 279 (.cons (.var 0) (.cons (.item (.var 2) (.int 1)) (.cons (.var 3) .nil)))))
  .nil)
  .nil)
 (.cons (.ifS (.cmp .Eq (.var 1) (.str (ofString "mux")))
  (.cons (.ret (.meth (.var 0) (ofString "lmux") (.cons (.item (.var 3) (.int 0)) (.cons (.item (.var 3) (.int 1)) (.cons (.item (.var 3) (.int 2)) .nil)))))
  .nil)
  .nil)
 (.cons (.ifS (.cmp .Eq (.var 1) (.str (ofString "buf")))
  (.cons (.ret (.item (.var 3) (.int 0)))
  .nil)
  .nil)
 (.cons (.ifS (.cmp .Eq (.var 1) (.str (ofString "not")))
  (.cons (.ret (.bin .BitXor (.item (.var 3) (.int 0)) (.int 1)))
  .nil)
  .nil)
 (.cons (.ifS (.cmp .Eq (.var 1) (.str (ofString "and")))
  (.cons (.ret (.meth (.var 0) (ofString "land") (.cons (.item (.var 3) (.int 0)) (.cons (.item (.var 3) (.int 1)) .nil))))
  .nil)
  .nil)
 (.cons (.ifS (.cmp .Eq (.var 1) (.str (ofString "nand")))
  (.cons (.ret (.bin .BitXor (.meth (.var 0) (ofString "land") (.cons (.item (.var 3) (.int 0)) (.cons (.item (.var 3) (.int 1)) .nil))) (.int 1)))
  .nil)
  .nil)
 (.cons (.ifS (.cmp .Eq (.var 1) (.str (ofString "or")))
  (.cons (.ret (.meth (.var 0) (ofString "lor") (.cons (.item (.var 3) (.int 0)) (.cons (.item (.var 3) (.int 1)) .nil))))
  .nil)
  .nil)
 (.cons (.ifS (.cmp .Eq (.var 1) (.str (ofString "nor")))
  (.cons (.ret (.bin .BitXor (.meth (.var 0) (ofString "lor") (.cons (.item (.var 3) (.int 0)) (.cons (.item (.var 3) (.int 1)) .nil))) (.int 1)))
  .nil)
  .nil)
 (.cons (.ifS (.cmp .Eq (.var 1) (.str (ofString "xor")))
  (.cons (.ret (.meth (.var 0) (ofString "lxor") (.cons (.item (.var 3) (.int 0)) (.cons (.item (.var 3) (.int 1)) .nil))))
  .nil)
  .nil)
 (.cons (.ifS (.cmp .Eq (.var 1) (.str (ofString "xnor")))
  (.cons (.ret (.bin .BitXor (.meth (.var 0) (ofString "lxor") (.cons (.item (.var 3) (.int 0)) (.cons (.item (.var 3) (.int 1)) .nil))) (.int 1)))
  .nil)
  .nil)
 (.cons .bad
 .nil))))))))))))
theorem fok286:(defD 286 fd286).Ok:=⟨fun P=>by kernel_rfl,rfl,fun P=>by kernel_rfl⟩
theorem irok286:(defD 286 fd286).ir=some ir286:=by kernel_rfl
theorem run286 {k:Nat} (hG:G.Ok) (hr:k+1≤r) (h:semB ⟨G,r - 1,Ψ⟩ ir286 ⟨[some a0,some a1,some a2,some a3],m⟩ (fun fl σ'=>Φ fl.val σ'.m)):callW G r Ψ (.ref 286) [a0,a1,a2,a3] m Φ :=
 run_n hG fok286 irok286 (by kernel_rfl) (nl4 (fun v0 v1 v2 v3 P S=>by kernel_rfl)) hr h
noncomputable def ir293:Sxs :=
 (.cons (.ifS (.cmp .NotIn (.var 1) (.var 0))
  (.cons .bad
  .nil)
  .nil)
 (.cons (.ret (.item (.var 0) (.var 1)))
 .nil))
theorem fok293:(defD 293 fd293).Ok:=⟨fun P=>by kernel_rfl,rfl,fun P=>by kernel_rfl⟩
theorem irok293:(defD 293 fd293).ir=some ir293:=by kernel_rfl
theorem run293 {k:Nat} (hG:G.Ok) (hr:k+1≤r) (h:semB ⟨G,r - 1,Ψ⟩ ir293 ⟨[some a0,some a1],m⟩ (fun fl σ'=>Φ fl.val σ'.m)):callW G r Ψ (.ref 293) [a0,a1] m Φ :=
 run_n hG fok293 irok293 (by kernel_rfl) (nl2 (fun v0 v1 P S=>by kernel_rfl)) hr h
noncomputable def ir300:Sxs :=
 (.cons (.asg (.name 1) (.call 261 .nil))
 (.cons (.asg (.name 2) (.dict (.cons (.int 0) (.cons (.int 0) (.cons (.int 1) (.cons (.int 1) .nil))))))
 (.cons (.forS (.name 3) (.meth (.var 0) (ofString "sources") .nil)
  (.cons (.asg (.item (.var 2) (.var 3)) (.meth (.var 1) (ofString "add_input") .nil))
  .nil))
 (.cons (.forS (.name 4) (.call 166 (.cons (.var 0) .nil))
  (.cons (.asg (.tup (.cons (.name 5) (.cons (.name 6) (.cons (.name 7) (.cons (.name 8) .nil))))) (.item (.attr (.var 0) .cells) (.var 4)))
  (.cons (.asg (.name 9) (.list .nil))
  (.cons (.forS (.name 3) (.var 7)
   (.cons (.expr (.app (.var 9) (.call 293 (.cons (.var 2) (.cons (.var 3) .nil)))))
   .nil))
  (.cons (.asg (.item (.var 2) (.var 6)) (.call 286 (.cons (.var 1) (.cons (.var 5) (.cons (.var 8) (.cons (.var 9) .nil))))))
  .nil)))))
 (.cons (.forS (.name 3) (.meth (.var 0) (ofString "sinks") .nil)
  (.cons (.expr (.meth (.var 1) (ofString "add_output") (.cons (.call 293 (.cons (.var 2) (.cons (.var 3) .nil))) .nil)))
  .nil))
 (.cons (.ret (.var 1))
 .nil))))))
theorem fok300:(defD 300 fd300).Ok:=⟨fun P=>by kernel_rfl,rfl,fun P=>by kernel_rfl⟩
theorem irok300:(defD 300 fd300).ir=some ir300:=by kernel_rfl
theorem run300 {k:Nat} (hG:G.Ok) (hr:k+1≤r) (h:semB ⟨G,r - 1,Ψ⟩ ir300 ⟨[some a0,none,none,none,none,none,none,none,none,none],m⟩ (fun fl σ'=>Φ fl.val σ'.m)):callW G r Ψ (.ref 300) [a0] m Φ :=
 run_n hG fok300 irok300 (by kernel_rfl) (nl1 (fun v0 P S=>by kernel_rfl)) hr h
noncomputable def ir314:Sxs :=
 (.cons (.asg (.attr (.var 0) .netlist) (.var 1))
 (.cons (.asg (.attr (.var 0) .nets) (.dict (.cons (.int 0) (.cons (.int 0) (.cons (.int 1) (.cons (.int 1) .nil))))))
 .nil))
theorem fok314:(defD 314 fd314).Ok:=⟨fun P=>by kernel_rfl,rfl,fun P=>by kernel_rfl⟩
theorem irok314:(defD 314 fd314).ir=some ir314:=by kernel_rfl
theorem run314 {k:Nat} (hG:G.Ok) (hr:k+1≤r) (h:semB ⟨G,r - 1,Ψ⟩ ir314 ⟨[some a0,some a1],m⟩ (fun fl σ'=>Φ fl.val σ'.m)):callW G r Ψ (.ref 314) [a0,a1] m Φ :=
 run_n hG fok314 irok314 (by kernel_rfl) (nl2 (fun v0 v1 P S=>by kernel_rfl)) hr h
noncomputable def ir321:Sxs :=
 (.cons (.ifS (.cmp .NotIn (.var 1) (.attr (.var 0) .nets))
  (.cons (.asg (.item (.attr (.var 0) .nets) (.var 1)) (.meth (.attr (.var 0) .netlist) (ofString "add_cell") (.cons (.str (ofString "not")) (.cons (.tup (.cons (.item (.attr (.var 0) .nets) (.bin .BitXor (.var 1) (.int 1))) .nil)) .nil))))
  .nil)
  .nil)
 (.cons (.ret (.item (.attr (.var 0) .nets) (.var 1)))
 .nil))
theorem fok321:(defD 321 fd321).Ok:=⟨fun P=>by kernel_rfl,rfl,fun P=>by kernel_rfl⟩
theorem irok321:(defD 321 fd321).ir=some ir321:=by kernel_rfl
theorem run321 {k:Nat} (hG:G.Ok) (hr:k+1≤r) (h:semB ⟨G,r - 1,Ψ⟩ ir321 ⟨[some a0,some a1],m⟩ (fun fl σ'=>Φ fl.val σ'.m)):callW G r Ψ (.ref 321) [a0,a1] m Φ :=
 run_n hG fok321 irok321 (by kernel_rfl) (nl2 (fun v0 v1 P S=>by kernel_rfl)) hr h
noncomputable def ir335:Sxs :=
 (.cons (.asg (.name 2) (.call 134 (.cons (.attr (.var 0) .name) .nil)))
 (.cons (.asg (.name 3) (.call 324 (.cons (.var 2) .nil)))
 (.cons (.asg (.name 4) (.list .nil))
 (.cons (.forS (.tup (.cons (.name 5) (.cons (.name 6) .nil))) (.attr (.var 0) .inputs)
  (.cons (.expr (.ext (.var 4) (.meth (.var 2) (ofString "add_input") (.cons (.var 5) (.cons (.bi .len (.cons (.var 6) .nil)) .nil)))))
  .nil))
 (.cons (.asg (.name 7) (.call 145 (.cons (.var 0) .nil)))
 (.cons (.asg (.name 8) (.list .nil))
 (.cons (.forS (.name 9) (.var 7)
  (.cons (.expr (.app (.var 8) (.meth (.var 2) (ofString "new_net") .nil)))
  .nil))
 (.cons (.expr (.ext (.var 4) (.var 8)))
 (.cons (.forS (.name 10) (.bi .range (.cons (.bi .len (.cons (.attr (.var 1) .inputs) .nil)) .nil))
  (.cons (.asg (.item (.attr (.var 3) .nets) (.bin .Mult (.int 2) (.item (.attr (.var 1) .inputs) (.var 10)))) (.item (.var 4) (.var 10)))
  .nil))
 (.cons (.asg (.name 11) (.call 272 (.cons (.var 1) .nil)))
 (.cons (.forS (.name 12) (.bi .range (.cons (.bi .len (.cons (.attr (.var 1) .nodes) .nil)) .nil))
  (.cons (.asg (.name 13) (.item (.attr (.var 1) .nodes) (.var 12)))
  (.cons (.ifS (.and (.cmp .IsNot (.var 13) .none) (.item (.var 11) (.var 12)))
   (.cons (.asg (.name 14) (.tup (.cons (.meth (.var 3) (ofString "net") (.cons (.item (.var 13) (.int 0)) .nil)) (.cons (.meth (.var 3) (ofString "net") (.cons (.item (.var 13) (.int 1)) .nil)) .nil))))
   (.cons (.asg (.item (.attr (.var 3) .nets) (.bin .Mult (.int 2) (.var 12))) (.meth (.var 2) (ofString "add_cell") (.cons (.str (ofString "and")) (.cons (.var 14) .nil))))
   .nil))
   .nil)
  .nil)))
 (.cons (.asg (.name 15) (.int 0))
 (.cons (.forS (.tup (.cons (.name 5) (.cons (.name 6) .nil))) (.attr (.var 0) .outputs)
  (.cons (.asg (.name 16) (.list .nil))
  (.cons (.forS (.name 17) (.slice (.attr (.var 1) .outputs) (.var 15) (.bin .Add (.var 15) (.bi .len (.cons (.var 6) .nil))))
   (.cons (.expr (.app (.var 16) (.meth (.var 3) (ofString "net") (.cons (.var 17) .nil))))
   .nil))
  (.cons (.expr (.meth (.var 2) (ofString "add_output") (.cons (.var 5) (.cons (.var 16) .nil))))
  (.cons (.aug 15 .Add (.bi .len (.cons (.var 6) .nil)))
  .nil)))))
 (.cons (.forS (.name 10) (.bi .range (.cons (.bi .len (.cons (.var 7) .nil)) .nil))
  (.cons (.asg (.tup (.cons (.name 18) (.cons (.name 19) (.cons (.name 14) (.cons (.name 20) .nil))))) (.item (.attr (.var 0) .cells) (.item (.var 7) (.var 10))))
  (.cons (.asg (.name 16) (.list .nil))
  (.cons (.forS (.name 17) (.slice (.attr (.var 1) .outputs) (.var 15) (.bin .Add (.var 15) (.bi .len (.cons (.var 14) .nil))))
   (.cons (.expr (.app (.var 16) (.meth (.var 3) (ofString "net") (.cons (.var 17) .nil))))
   .nil))
  (.cons (.expr (.meth (.var 2) (ofString "drive") (.cons (.item (.var 8) (.var 10)) (.cons (.var 18) (.cons (.bi .tuple (.cons (.var 16) .nil)) (.cons (.var 20) .nil))))))
  (.cons (.aug 15 .Add (.bi .len (.cons (.var 14) .nil)))
  .nil))))))
 (.cons (.ret (.var 2))
 .nil)))))))))))))))
theorem fok335:(defD 335 fd335).Ok:=⟨fun P=>by kernel_rfl,rfl,fun P=>by kernel_rfl⟩
theorem irok335:(defD 335 fd335).ir=some ir335:=by kernel_rfl
theorem run335 {k:Nat} (hG:G.Ok) (hr:k+1≤r) (h:semB ⟨G,r - 1,Ψ⟩ ir335 ⟨[some a0,some a1,none,none,none,none,none,none,none,none,none,none,none,none,none,none,none,none,none,none,none],m⟩ (fun fl σ'=>Φ fl.val σ'.m)):callW G r Ψ (.ref 335) [a0,a1] m Φ :=
 run_n hG fok335 irok335 (by kernel_rfl) (nl2 (fun v0 v1 P S=>by kernel_rfl)) hr h
noncomputable def ir342:Sxs :=
 (.cons (.ifS (.cmp .Eq (.item (.var 0) (.int 2)) (.int 0))
  (.cons (.ifS (.cmp .Eq (.item (.var 0) (.int 1)) (.bi .len (.cons (.item (.var 0) (.int 0)) .nil)))
   (.cons (.asg (.item (.var 0) (.int 3)) (.bin .Mod (.bin .Mult (.item (.var 0) (.int 3)) (.int 48271)) (.int 2147483647)))
   (.cons (.ret (.bin .Mod (.bin .FloorDiv (.item (.var 0) (.int 3)) (.int 7)) (.var 1)))
   .nil))
   .nil)
  (.cons (.asg (.name 2) (.item (.item (.var 0) (.int 0)) (.item (.var 0) (.int 1))))
  (.cons (.asg (.item (.var 0) (.int 1)) (.bin .Add (.item (.var 0) (.int 1)) (.int 1)))
  (.cons (.asg (.item (.var 0) (.int 2)) (.ite (.cmp .GtE (.var 2) (.int 0)) (.var 2) (.neg (.var 2))))
  .nil))))
  .nil)
 (.cons (.asg (.name 3) (.bin .Mod (.item (.var 0) (.int 2)) (.var 1)))
 (.cons (.asg (.item (.var 0) (.int 2)) (.bin .FloorDiv (.item (.var 0) (.int 2)) (.var 1)))
 (.cons (.ret (.var 3))
 .nil))))
theorem fok342:(defD 342 fd342).Ok:=⟨fun P=>by kernel_rfl,rfl,fun P=>by kernel_rfl⟩
theorem irok342:(defD 342 fd342).ir=some ir342:=by kernel_rfl
theorem run342 {k:Nat} (hG:G.Ok) (hr:k+1≤r) (h:semB ⟨G,r - 1,Ψ⟩ ir342 ⟨[some a0,some a1,none,none],m⟩ (fun fl σ'=>Φ fl.val σ'.m)):callW G r Ψ (.ref 342) [a0,a1] m Φ :=
 run_n hG fok342 irok342 (by kernel_rfl) (nl2 (fun v0 v1 P S=>by kernel_rfl)) hr h
noncomputable def ir349:Sxs :=
 (.cons (.ifS (.cmp .Eq (.var 0) (.str (ofString "lut")))
  (.cons (.ret (.var 1))
  .nil)
  .nil)
 (.cons (.ifS (.cmp .Eq (.var 0) (.str (ofString "cell")))
  (.cons (.ret (.item (.var 1) (.int 1)))
  .nil)
  .nil)
 (.cons (.ret (.item (.dict (.cons (.str (ofString "buf")) (.cons (.int 2) (.cons (.str (ofString "not")) (.cons (.int 1) (.cons (.str (ofString "and")) (.cons (.int 8) (.cons (.str (ofString "or")) (.cons (.int 14) (.cons (.str (ofString "xor")) (.cons (.int 6) (.cons (.str (ofString "nand")) (.cons (.int 7) (.cons (.str (ofString "nor")) (.cons (.int 1) (.cons (.str (ofString "xnor")) (.cons (.int 9) (.cons (.str (ofString "mux")) (.cons (.int 228) .nil))))))))))))))))))) (.var 0)))
 .nil)))
theorem fok349:(defD 349 fd349).Ok:=⟨fun P=>by kernel_rfl,rfl,fun P=>by kernel_rfl⟩
theorem irok349:(defD 349 fd349).ir=some ir349:=by kernel_rfl
theorem run349 {k:Nat} (hG:G.Ok) (hr:k+1≤r) (h:semB ⟨G,r - 1,Ψ⟩ ir349 ⟨[some a0,some a1],m⟩ (fun fl σ'=>Φ fl.val σ'.m)):callW G r Ψ (.ref 349) [a0,a1] m Φ :=
 run_n hG fok349 irok349 (by kernel_rfl) (nl2 (fun v0 v1 P S=>by kernel_rfl)) hr h
noncomputable def ir356:Sxs :=
 (.cons (.ifS (.cmp .Eq (.call 342 (.cons (.var 0) (.cons (.int 3) .nil))) (.int 0))
  (.cons (.ret (.item (.var 1) (.call 342 (.cons (.var 0) (.cons (.bi .len (.cons (.var 1) .nil)) .nil)))))
  .nil)
  .nil)
 (.cons (.ret (.item (.var 1) (.bin .Sub (.neg (.int 1)) (.call 342 (.cons (.var 0) (.cons (.bi .min (.cons (.bi .len (.cons (.var 1) .nil)) (.cons (.int 6) .nil))) .nil))))))
 .nil))
theorem fok356:(defD 356 fd356).Ok:=⟨fun P=>by kernel_rfl,rfl,fun P=>by kernel_rfl⟩
theorem irok356:(defD 356 fd356).ir=some ir356:=by kernel_rfl
theorem run356 {k:Nat} (hG:G.Ok) (hr:k+1≤r) (h:semB ⟨G,r - 1,Ψ⟩ ir356 ⟨[some a0,some a1],m⟩ (fun fl σ'=>Φ fl.val σ'.m)):callW G r Ψ (.ref 356) [a0,a1] m Φ :=
 run_n hG fok356 irok356 (by kernel_rfl) (nl2 (fun v0 v1 P S=>by kernel_rfl)) hr h
noncomputable def ir361:Sxs :=
 (.cons (.asg (.name 4) (.call 134 (.cons (.str (ofString "m")) .nil)))
 (.cons (.asg (.name 5) (.bin .Add (.bin .Add (.list (.cons (.int 0) (.cons (.int 1) .nil))) (.meth (.var 4) (ofString "add_input") (.cons (.str (ofString "a")) (.cons (.bin .Add (.int 1) (.call 342 (.cons (.var 0) (.cons (.int 2) .nil)))) .nil)))) (.meth (.var 4) (ofString "add_input") (.cons (.str (ofString "b")) (.cons (.bin .Add (.int 1) (.call 342 (.cons (.var 0) (.cons (.int 2) .nil)))) .nil)))))
 (.cons (.asg (.name 6) (.meth (.var 4) (ofString "new_nets") (.cons (.call 342 (.cons (.var 0) (.cons (.bin .Add (.var 2) (.int 1)) .nil))) .nil)))
 (.cons (.aug 5 .Add (.var 6))
 (.cons (.forS (.name 7) (.bi .range (.cons (.call 342 (.cons (.var 0) (.cons (.bin .Add (.var 1) (.int 1)) .nil))) .nil))
  (.cons (.asg (.name 8) (.item (.var 3) (.call 342 (.cons (.var 0) (.cons (.bi .len (.cons (.var 3) .nil)) .nil)))))
  (.cons (.asg (.name 9) (.get (.dict (.cons (.str (ofString "not")) (.cons (.int 1) (.cons (.str (ofString "buf")) (.cons (.int 1) (.cons (.str (ofString "mux")) (.cons (.int 3) .nil))))))) (.var 8) (.int 2)))
  (.cons (.asg (.name 10) .none)
  (.cons (.ifS (.cmp .In (.var 8) (.list (.cons (.str (ofString "lut")) (.cons (.str (ofString "cell")) .nil))))
   (.cons (.asg (.name 9) (.bin .Add (.int 1) (.call 342 (.cons (.var 0) (.cons (.int 3) .nil)))))
   (.cons (.asg (.name 10) (.call 342 (.cons (.var 0) (.cons (.bin .Pow (.int 2) (.bin .Pow (.int 2) (.var 9))) .nil))))
   (.cons (.asg (.name 10) (.ite (.cmp .Eq (.var 8) (.str (ofString "cell"))) (.tup (.cons (.bin .Add (.str (ofString "C")) (.bi .str (.cons (.var 10) .nil))) (.cons (.var 10) .nil))) (.var 10)))
   .nil)))
   .nil)
  (.cons (.expr (.app (.var 5) (.meth (.var 4) (ofString "add_cell") (.cons (.var 8) (.cons (.comp1 (.call 356 (.cons (.var 0) (.cons (.var 5) .nil))) (.name 16) (.bi .range (.cons (.var 9) .nil)) (.bool true) 1) (.cons (.var 10) .nil))))))
  .nil))))))
 (.cons (.forS (.name 11) (.bi .range (.cons (.bi .len (.cons (.var 6) .nil)) .nil))
  (.cons (.asg (.name 12) (.call 342 (.cons (.var 0) (.cons (.int 2) .nil))))
  (.cons (.asg (.name 13) (.call 342 (.cons (.var 0) (.cons (.int 2) .nil))))
  (.cons (.asg (.name 14) (.ite (.cmp .Eq (.call 342 (.cons (.var 0) (.cons (.int 3) .nil))) (.int 2)) (.call 356 (.cons (.var 0) (.cons (.var 5) .nil))) (.int 2)))
  (.cons (.asg (.name 15) (.bin .Add (.list (.cons (.var 14) (.cons (.call 356 (.cons (.var 0) (.cons (.var 5) .nil))) .nil))) (.comp1 (.ite (.cmp .Eq (.call 342 (.cons (.var 0) (.cons (.int 3) .nil))) (.int 2)) (.call 356 (.cons (.var 0) (.cons (.var 5) .nil))) (.int 0)) (.name 16) (.bi .range (.cons (.int 2) .nil)) (.bool true) 1)))
  (.cons (.ifS (.cmp .Eq (.call 342 (.cons (.var 0) (.cons (.int 4) .nil))) (.int 3))
   (.cons (.expr (.meth (.var 4) (ofString "drive") (.cons (.item (.var 6) (.var 11)) (.cons (.str (ofString "latch")) (.cons (.var 15) (.cons (.tup (.cons (.bin .Add (.str (ofString "q")) (.bi .str (.cons (.var 11) .nil))) (.cons (.var 13) .nil))) .nil))))))
   .nil)
   (.cons (.expr (.meth (.var 4) (ofString "drive") (.cons (.item (.var 6) (.var 11)) (.cons (.str (ofString "flop")) (.cons (.var 15) (.cons (.tup (.cons (.var 12) (.cons (.bin .Add (.str (ofString "q")) (.bi .str (.cons (.var 11) .nil))) (.cons (.var 13) .nil)))) .nil))))))
   .nil))
  .nil))))))
 (.cons (.expr (.meth (.var 4) (ofString "add_output") (.cons (.str (ofString "y")) (.cons (.comp1 (.call 356 (.cons (.var 0) (.cons (.var 5) .nil))) (.name 16) (.bi .range (.cons (.bin .Add (.int 1) (.call 342 (.cons (.var 0) (.cons (.int 3) .nil)))) .nil)) (.bool true) 1) .nil))))
 (.cons (.expr (.meth (.var 4) (ofString "add_output") (.cons (.str (ofString "z")) (.cons (.list (.cons (.call 356 (.cons (.var 0) (.cons (.var 5) .nil))) .nil)) .nil))))
 (.cons (.ret (.var 4))
 .nil)))))))))
theorem fok361:(defD 361 fd361).Ok:=⟨fun P=>by kernel_rfl,rfl,fun P=>by kernel_rfl⟩
theorem irok361:(defD 361 fd361).ir=some ir361:=by kernel_rfl
theorem run361 {k:Nat} (hG:G.Ok) (hr:k+1≤r) (h:semB ⟨G,r - 1,Ψ⟩ ir361 ⟨[some a0,some a1,some a2,some a3,none,none,none,none,none,none,none,none,none,none,none,none],m⟩ (fun fl σ'=>Φ fl.val σ'.m)):callW G r Ψ (.ref 361) [a0,a1,a2,a3] m Φ :=
 run_n hG fok361 irok361 (by kernel_rfl) (nl4 (fun v0 v1 v2 v3 P S=>by kernel_rfl)) hr h
noncomputable def ir366:Sxs :=
 (.cons (.ret (.comp1 (.var 1) (.name 1) (.attr (.var 0) .cells) (.cmp .In (.item (.var 1) (.int 0)) (.list (.cons (.str (ofString "flop")) (.cons (.str (ofString "latch")) .nil)))) 1))
 .nil)
theorem fok366:(defD 366 fd366).Ok:=⟨fun P=>by kernel_rfl,rfl,fun P=>by kernel_rfl⟩
theorem irok366:(defD 366 fd366).ir=some ir366:=by kernel_rfl
theorem run366 {k:Nat} (hG:G.Ok) (hr:k+1≤r) (h:semB ⟨G,r - 1,Ψ⟩ ir366 ⟨[some a0],m⟩ (fun fl σ'=>Φ fl.val σ'.m)):callW G r Ψ (.ref 366) [a0] m Φ :=
 run_n hG fok366 irok366 (by kernel_rfl) (nl1 (fun v0 P S=>by kernel_rfl)) hr h
noncomputable def ir371:Sxs :=
 (.cons (.asg (.name 1) (.comp2 (.tup (.cons (.var 5) (.cons (.var 7) .nil))) (.tup (.cons (.name 5) (.cons (.name 6) .nil))) (.attr (.var 0) .inputs) (.name 7) (.bi .range (.cons (.bi .len (.cons (.var 6) .nil)) .nil)) 3))
 (.cons (.aug 1 .Add (.comp1 (.item (.item (.var 5) (.int 3)) (.neg (.int 2))) (.name 5) (.call 366 (.cons (.var 0) .nil)) (.bool true) 1))
 (.cons (.asg (.name 2) (.bin .Pow (.int 2) (.bi .len (.cons (.var 1) .nil))))
 (.cons (.asg (.name 3) (.dict .nil))
 (.cons (.forS (.name 4) (.bi .range (.cons (.bi .len (.cons (.var 1) .nil)) .nil))
  (.cons (.asg (.item (.var 3) (.item (.var 1) (.var 4))) (.bi .sum (.cons (.comp1 (.bin .Pow (.int 2) (.var 5)) (.name 5) (.bi .range (.cons (.var 2) .nil)) (.cmp .Eq (.bin .Mod (.bin .FloorDiv (.var 5) (.bin .Pow (.int 2) (.var 4))) (.int 2)) (.int 1)) 1) .nil)))
  .nil))
 (.cons (.ret (.tup (.cons (.var 3) (.cons (.bin .Sub (.bin .Pow (.int 2) (.var 2)) (.int 1)) .nil))))
 .nil))))))
theorem fok371:(defD 371 fd371).Ok:=⟨fun P=>by kernel_rfl,rfl,fun P=>by kernel_rfl⟩
theorem irok371:(defD 371 fd371).ir=some ir371:=by kernel_rfl
theorem run371 {k:Nat} (hG:G.Ok) (hr:k+1≤r) (h:semB ⟨G,r - 1,Ψ⟩ ir371 ⟨[some a0,none,none,none,none],m⟩ (fun fl σ'=>Φ fl.val σ'.m)):callW G r Ψ (.ref 371) [a0] m Φ :=
 run_n hG fok371 irok371 (by kernel_rfl) (nl1 (fun v0 P S=>by kernel_rfl)) hr h
noncomputable def ir378:Sxs :=
 (.cons (.asg (.name 3) (.int 0))
 (.cons (.forS (.name 4) (.bi .range (.cons (.bin .Pow (.int 2) (.bi .len (.cons (.var 1) .nil))) .nil))
  (.cons (.ifS (.cmp .Eq (.bin .Mod (.bin .FloorDiv (.var 0) (.bin .Pow (.int 2) (.var 4))) (.int 2)) (.int 1))
   (.cons (.asg (.name 5) (.var 2))
   (.cons (.forS (.name 6) (.bi .range (.cons (.bi .len (.cons (.var 1) .nil)) .nil))
    (.cons (.asg (.name 5) (.bin .BitAnd (.var 5) (.ite (.cmp .Eq (.bin .Mod (.bin .FloorDiv (.var 4) (.bin .Pow (.int 2) (.var 6))) (.int 2)) (.int 1)) (.item (.var 1) (.var 6)) (.bin .Sub (.var 2) (.item (.var 1) (.var 6))))))
    .nil))
   (.cons (.asg (.name 3) (.bin .BitOr (.var 3) (.var 5)))
   .nil)))
   .nil)
  .nil))
 (.cons (.ret (.var 3))
 .nil)))
theorem fok378:(defD 378 fd378).Ok:=⟨fun P=>by kernel_rfl,rfl,fun P=>by kernel_rfl⟩
theorem irok378:(defD 378 fd378).ir=some ir378:=by kernel_rfl
theorem run378 {k:Nat} (hG:G.Ok) (hr:k+1≤r) (h:semB ⟨G,r - 1,Ψ⟩ ir378 ⟨[some a0,some a1,some a2,none,none,none,none],m⟩ (fun fl σ'=>Φ fl.val σ'.m)):callW G r Ψ (.ref 378) [a0,a1,a2] m Φ :=
 run_n hG fok378 irok378 (by kernel_rfl) (nl3 (fun v0 v1 v2 P S=>by kernel_rfl)) hr h
noncomputable def ir383:Sxs :=
 (.cons (.asg (.name 3) (.dict (.cons (.int 0) (.cons (.int 0) (.cons (.int 1) (.cons (.var 2) .nil))))))
 (.cons (.forS (.tup (.cons (.name 4) (.cons (.name 5) .nil))) (.attr (.var 0) .inputs)
  (.cons (.forS (.name 6) (.bi .range (.cons (.bi .len (.cons (.var 5) .nil)) .nil))
   (.cons (.asg (.item (.var 3) (.item (.var 5) (.var 6))) (.item (.var 1) (.tup (.cons (.var 4) (.cons (.var 6) .nil)))))
   .nil))
  .nil))
 (.cons (.forS (.name 7) (.call 366 (.cons (.var 0) .nil))
  (.cons (.asg (.item (.var 3) (.item (.var 7) (.int 1))) (.item (.var 1) (.item (.item (.var 7) (.int 3)) (.neg (.int 2)))))
  .nil))
 (.cons (.asg (.name 8) (.comp1 (.var 11) (.name 11) (.attr (.var 0) .cells) (.cmp .NotIn (.item (.var 11) (.int 0)) (.list (.cons (.str (ofString "flop")) (.cons (.str (ofString "latch")) .nil)))) 1))
 (.cons (.forS (.name 9) (.bi .range (.cons (.bi .len (.cons (.var 8) .nil)) .nil))
  (.cons (.asg (.name 10) (.list .nil))
  (.cons (.forS (.name 7) (.var 8)
   (.cons (.ifS (.cmp .In (.bool false) (.comp1 (.cmp .In (.var 11) (.var 3)) (.name 11) (.item (.var 7) (.int 2)) (.bool true) 1))
    (.cons (.expr (.app (.var 10) (.var 7)))
    .nil)
    (.cons (.asg (.item (.var 3) (.item (.var 7) (.int 1))) (.call 378 (.cons (.call 349 (.cons (.item (.var 7) (.int 0)) (.cons (.item (.var 7) (.int 3)) .nil))) (.cons (.comp1 (.item (.var 3) (.var 11)) (.name 11) (.item (.var 7) (.int 2)) (.bool true) 1) (.cons (.var 2) .nil)))))
    .nil))
   .nil))
  (.cons (.asg (.name 8) (.var 10))
  .nil))))
 (.cons (.ret (.var 3))
 .nil))))))
theorem fok383:(defD 383 fd383).Ok:=⟨fun P=>by kernel_rfl,rfl,fun P=>by kernel_rfl⟩
theorem irok383:(defD 383 fd383).ir=some ir383:=by kernel_rfl
theorem run383 {k:Nat} (hG:G.Ok) (hr:k+1≤r) (h:semB ⟨G,r - 1,Ψ⟩ ir383 ⟨[some a0,some a1,some a2,none,none,none,none,none,none,none,none],m⟩ (fun fl σ'=>Φ fl.val σ'.m)):callW G r Ψ (.ref 383) [a0,a1,a2] m Φ :=
 run_n hG fok383 irok383 (by kernel_rfl) (nl3 (fun v0 v1 v2 P S=>by kernel_rfl)) hr h
noncomputable def ir388:Sxs :=
 (.cons (.asg (.name 3) (.call 383 (.cons (.var 0) (.cons (.var 1) (.cons (.var 2) .nil)))))
 (.cons (.asg (.name 4) (.comp1 (.tup (.cons (.var 7) (.cons (.comp1 (.get (.var 3) (.var 9) (.neg (.int 1))) (.name 9) (.var 8) (.bool true) 1) .nil))) (.tup (.cons (.name 7) (.cons (.name 8) .nil))) (.attr (.var 0) .outputs) (.bool true) 2))
 (.cons (.asg (.name 5) (.dict .nil))
 (.cons (.forS (.name 6) (.call 366 (.cons (.var 0) .nil))
  (.cons (.asg (.item (.var 5) (.item (.item (.var 6) (.int 3)) (.neg (.int 2)))) (.tup (.cons (.item (.var 6) (.int 0)) (.cons (.item (.var 6) (.int 3)) (.cons (.comp1 (.get (.var 3) (.var 7) (.neg (.int 1))) (.name 7) (.item (.var 6) (.int 2)) (.bool true) 1) .nil)))))
  .nil))
 (.cons (.ret (.tup (.cons (.var 4) (.cons (.var 5) .nil))))
 .nil)))))
theorem fok388:(defD 388 fd388).Ok:=⟨fun P=>by kernel_rfl,rfl,fun P=>by kernel_rfl⟩
theorem irok388:(defD 388 fd388).ir=some ir388:=by kernel_rfl
theorem run388 {k:Nat} (hG:G.Ok) (hr:k+1≤r) (h:semB ⟨G,r - 1,Ψ⟩ ir388 ⟨[some a0,some a1,some a2,none,none,none,none],m⟩ (fun fl σ'=>Φ fl.val σ'.m)):callW G r Ψ (.ref 388) [a0,a1,a2] m Φ :=
 run_n hG fok388 irok388 (by kernel_rfl) (nl3 (fun v0 v1 v2 P S=>by kernel_rfl)) hr h
theorem bind293 (P:Params) (v0 v1:Value) (S:Setting):peek (KF P) S (bindArgs (defD 293 fd293).fd ⟨[v0,v1],[]⟩)=some [(ofString "literals",v0),(ofString "net",v1)]:=by kernel_rfl
end
theorem noS {α:Type}{a:Option α}{b:α}{C:Prop} (h:a=none) (q:a=some b):C:=nomatch h.symm.trans q
section
variable {m m' m'' m0:Mem}{a b:Addr}{p q o:MO}{fp:List Addr}
theorem mem_ne (h1:m a=some p) (h2:m b=some q) (h:p≠q):a≠b:=fun e=>h (Option.some.inj (h1.symm.trans (e▸h2)))
theorem fresh_ne (h1:m a=none) (h2:m b=some q):a≠b:=fun e=>noS (e▸h1) h2
theorem Same.upd (x:Same fp m m') (h:a∈fp∨m a=none):Same fp m (upd m' a o):=fun b o' hb e=>by
 have:b≠a:=fun q=>h.elim (fun h=>hb (q▸h)) fun h=>noS (q▸h) e
 rw [upd_ne this];exact x b o' hb e
theorem Same.upd1 (h:a∈fp∨m a=none):Same fp m (Mine.upd m a o):=(Same.refl fp m).upd h
noncomputable def Gr (m m':Mem):Prop:=∀ ⦃a o⦄,m a=some o→m' a=some o
theorem Gr.refl:Gr m m:=fun zz zz h=>h
theorem Gr.trans (x:Gr m m') (y:Gr m' m''):Gr m m'':=fun zz zz h=>y (x h)
theorem Gr.of (s:Same [] m m'):Gr m m':=fun a o=>s a o List.not_mem_nil
theorem Gr.same (s:Gr m m'):Same fp m m':=fun zz zz zz h=>s h
theorem Gr.upd (h:m a=none):Gr m (upd m a o):=.of (.upd1 (.inr h))
theorem Gr.old (s:Gr m m') (h:m' a=none):m a=none:=by
 cases e:m a with
 | none=>rfl
 | some _=>exact noS h (s e)
noncomputable def Up (a:Addr) (m m':Mem):Prop:=∀ ⦃b o⦄,b≠a→m b=some o→m' b=some o
theorem Up.upd:Up a m (upd m a o):=fun zz zz h e=>(upd_ne h).trans e
theorem Up.same (u:Up a m m') (h:a∈fp):Same fp m m':=fun zz zz n e=>u (fun q=>n (q▸h)) e
theorem Gr.set (x:Gr m0 m) (hn:m0 a=none) (u:Up a m m'):Gr m0 m':=fun zz zz e=>u (fresh_ne hn e).symm (x e)
end
noncomputable def noΨ:Addr→Mem→Prop:=fun zz zz=>False
theorem quiet_no {G:GC}{r:Nat}:PX.quiet ⟨G,r,noΨ⟩:=fun zz zz h=>h
theorem callW.any {G:GC}{r:Nat}{Ψ:Addr→Mem→Prop}{f:Value}{args:List V}{m:Mem}{Φ:V→Mem→Prop} (h:callW G r noΨ f args m Φ):callW G r Ψ f args m Φ :=
 h.mono (Nat.le_refl _) (fun zz zz q=>q.elim) fun zz zz q=>q
section
variable {X:PX}{t:Tg}{e:Ex}{b b' r:Sxs}{σ:St}{ρ:List (Option V)}{m:Mem}{Φ:Fl→St→Prop}
noncomputable def asgK (X:PX) (t:Tg) (r:Sxs) (Φ:Fl→St→Prop) (v:V) (σ:St):Prop:=semT X t v σ fun σ2=>semB X r σ2 Φ
noncomputable def aft (X:PX) (r:Sxs) (Φ:Fl→St→Prop):Fl→St→Prop:=fun fl σ=>match fl with
 | .next=>semB X r σ Φ
 | fl=>Φ fl σ
noncomputable def forK (X:PX) (t:Tg) (b r:Sxs) (Φ:Fl→St→Prop) (v:V) (σ:St):Prop:=overW (PT.lit v) σ fun a mo xs σ1=>loopW a mo (semT X t) (semB X b) xs σ1 (aft X r Φ)
noncomputable def ifK (X:PX) (b b' r:Sxs) (Φ:Fl→St→Prop) (c:Bool) (σ:St):Prop:=if c then semB X b σ (aft X r Φ) else semB X b' σ (aft X r Φ)
noncomputable def retK (Φ:Fl→St→Prop) (v:V) (σ:St):Prop:=Φ (.ret v) σ
theorem s_asg (h:(sem X e).val σ (asgK X t r Φ)):semB X (.cons (.asg t e) r) σ Φ:=h
theorem s_for (h:(sem X e).val σ (forK X t b r Φ)):semB X (.cons (.forS t e b) r) σ Φ:=h
theorem s_if (h:(sem X e).tru σ (ifK X b b' r Φ)):semB X (.cons (.ifS e b b') r) σ Φ:=h
theorem s_ret (h:(sem X e).val σ (retK Φ)):semB X (.cons (.ret e) r) σ Φ:=h
theorem t_tup2 {i j:Nat}{a:Addr}{x y:V}{Φ:St→Prop} (h:m a=some (.tup [x,y])) (k:Φ ⟨put (put ρ i x) j y,m⟩):semT X (.tup (.cons (.name i) (.cons (.name j) .nil))) (.ref a) ⟨ρ,m⟩ Φ:=by
 unfold semT;simp only [h];exact k
theorem t_tup4 {i j k l:Nat}{a:Addr}{x y z w:V}{Φ:St→Prop} (h:m a=some (.tup [x,y,z,w])) (q:Φ ⟨put (put (put (put ρ i x) j y) k z) l w,m⟩):semT X (.tup (.cons (.name i) (.cons (.name j) (.cons (.name k) (.cons (.name l) .nil))))) (.ref a) ⟨ρ,m⟩ Φ:=by
 unfold semT;simp only [h];exact q
theorem a_nm {i:Nat}{v:V} (h:semB X r ⟨put ρ i v,m⟩ Φ):asgK X (.name i) r Φ v ⟨ρ,m⟩:=h
theorem s_nil (h:semB X r σ Φ):semB X .nil σ (aft X r Φ):=h
theorem if_b0 {c:Bool} (h:c=true→semB X b σ (aft X r Φ)) (h':c=false→semB X r σ Φ):ifK X b .nil r Φ c σ:=by
 cases c with
 | true=>exact h rfl
 | false=>exact h' rfl
theorem if_n0 {p:Prop} [Decidable p] (hp:¬p) (h:semB X r σ Φ):ifK X b .nil r Φ (decide p) σ:=by rw [decide_eq_false hp];exact h
theorem if_t (h:semB X b σ (aft X r Φ)):ifK X b b' r Φ true σ:=h
theorem if_f (h:semB X b' σ (aft X r Φ)):ifK X b b' r Φ false σ:=h
theorem if_b {c:Bool} (h:c=true→semB X b σ (aft X r Φ)) (h':c=false→semB X b' σ (aft X r Φ)):ifK X b b' r Φ c σ:=by
 cases c with
 | true=>exact h rfl
 | false=>exact h' rfl
theorem if_y {p:Prop} [Decidable p] (hp:p) (h:semB X b σ (aft X r Φ)):ifK X b b' r Φ (decide p) σ:=by rw [decide_eq_true hp];exact h
theorem if_n {p:Prop} [Decidable p] (hp:¬p) (h:semB X b' σ (aft X r Φ)):ifK X b b' r Φ (decide p) σ:=by rw [decide_eq_false hp];exact h
noncomputable def appK (X:PX) (l:Addr) (r:Sxs) (Φ:Fl→St→Prop) (v:V) (σ:St):Prop:=appendW (.ref l) v σ fun σ3=>semB X r σ3 Φ
noncomputable def extK (X:PX) (l:Addr) (r:Sxs) (Φ:Fl→St→Prop) (v:V) (σ:St):Prop:=extendW (.ref l) v σ fun σ3=>semB X r σ3 Φ
theorem s_app {o:Ex}{l:Addr}{xs:List V} (h0:∀ Φ':V→St→Prop,Φ' (.ref l) ⟨ρ,m⟩→(sem X o).val ⟨ρ,m⟩ Φ') (hm:m l=some (.list xs)) (h:(sem X e).val ⟨ρ,m⟩ (appK X l r Φ)):semB X (.cons (.expr (.app o e)) r) ⟨ρ,m⟩ Φ :=
 h0 _ ⟨⟨l,xs,rfl,hm⟩,by
  have:=h;unfold appK at this
  simpa only [isNoRef,true_and] using this⟩
end
section
variable {T:Type}{F:T→List (Option V)}{X:PX}{t:Tg}{b r:Sxs}{a:Addr}{mo:MO}{v:V}{xs:List V}{x0:T}{m:Mem}{Φ:Fl→St→Prop}
theorem loop_go {tt:V→St→(St→Prop)→Prop}{body:PT Fl} (Inv:Nat→T→Mem→Prop) (hI:∀ k x m,Inv k x m→m a=some mo)
  (step:∀ k x m v (Ψ:Fl→St→Prop),xs[k]?=some v→Inv k x m→(∀ x' m',Inv (k+1) x' m'→Ψ .next ⟨F x',m'⟩)→(∀ x' m',Inv (k+1) x' m'→Ψ .cont ⟨F x',m'⟩)→tt v ⟨F x,m⟩ fun σ1=>body σ1 Ψ)
  (fin:∀ x m,Inv xs.length x m→Φ .next ⟨F x,m⟩):∀ (n k:Nat) (x:T) (m:Mem),k+n=xs.length→Inv k x m→loopW a mo tt body (xs.drop k) ⟨F x,m⟩ Φ
 | 0,k,x,m,hk,h=>by
  have hk:k=xs.length:=hk
  rw [List.drop_eq_nil_of_le (Nat.le_of_eq hk.symm)]
  exact ⟨hI _ _ _ h,fin _ _ (hk▸h)⟩
 | n+1,k,x,m,hk,h=>by
  have hl:k<xs.length:=hk▸Nat.lt_add_of_pos_right (Nat.succ_pos n)
  rw [List.drop_eq_getElem_cons hl]
  have nx:=fun x' m' h'=>loop_go Inv hI step fin n (k+1) x' m' ((Nat.succ_add_eq_add_succ k n).trans hk) h'
  exact ⟨hI _ _ _ h,step k x m _ _ (List.getElem?_eq_getElem hl) h nx nx⟩
theorem for_goC (hv:iterOf m v=some (a,mo,xs)) (Inv:Nat→T→Mem→Prop) (hI:∀ k x m,Inv k x m→m a=some mo) (h0:Inv 0 x0 m)
  (step:∀ k x m v (Ψ:Fl→St→Prop),xs[k]?=some v→Inv k x m→(∀ x' m',Inv (k+1) x' m'→Ψ .next ⟨F x',m'⟩)→(∀ x' m',Inv (k+1) x' m'→Ψ .cont ⟨F x',m'⟩)→semT X t v ⟨F x,m⟩ fun σ1=>semB X b σ1 Ψ)
  (fin:∀ x m,Inv xs.length x m→semB X r ⟨F x,m⟩ Φ):forK X t b r Φ v ⟨F x0,m⟩:=by
 show match iterOf m v with|some (a,mo,xs)=>loopW a mo (semT X t) (semB X b) xs ⟨F x0,m⟩ (aft X r Φ)|none=>False
 rw [hv]
 exact loop_go Inv hI step fin xs.length 0 x0 m (Nat.zero_add _) h0
theorem for_go (hv:iterOf m v=some (a,mo,xs)) (Inv:Nat→T→Mem→Prop) (hI:∀ k x m,Inv k x m→m a=some mo) (h0:Inv 0 x0 m)
  (step:∀ k x m v (Ψ:Fl→St→Prop),xs[k]?=some v→Inv k x m→(∀ x' m',Inv (k+1) x' m'→Ψ .next ⟨F x',m'⟩)→semT X t v ⟨F x,m⟩ fun σ1=>semB X b σ1 Ψ)
  (fin:∀ x m,Inv xs.length x m→semB X r ⟨F x,m⟩ Φ):forK X t b r Φ v ⟨F x0,m⟩ :=
 for_goC hv Inv hI h0 (fun k x m v Ψ a b c zz=>step k x m v Ψ a b c) fin
theorem iter_of (h:m a=some mo):iterOf m (.ref a)=(itemsM mo).map fun xs=>(a,mo,xs):=by
 show (match m a with|some mo=>(itemsM mo).map fun xs=>(a,mo,xs)|none=>none)=_
 rw [h]
theorem iter_list (h:m a=some (.list xs)):iterOf m (.ref a)=some (a,.list xs,xs):=iter_of h
theorem iter_tup (h:m a=some (.tup xs)):iterOf m (.ref a)=some (a,.tup xs,xs):=iter_of h
noncomputable def natL (l:List Nat):List V:=l.map fun (n:Nat)=>.int n
theorem natL_len (l:List Nat):(natL l).length=l.length:=List.length_map _
theorem natL_app (a b:List Nat):natL (a++b)=natL a++natL b:=List.map_append
theorem natL_snoc (a:List Nat) (n:Nat):natL (a++[n])=natL a++[.int n]:=natL_app a [n]
theorem natL_at {l:List Nat}{k n:Nat} (h:l[k]?=some n):(natL l)[k]?=some (.int n):=by unfold natL;rw [List.getElem?_map,h];rfl
@[elab_as_elim] theorem natL_el {l:List Nat}{k:Nat}{P:V→Prop} (h:(natL l)[k]?=some v) (q:∀ n,l[k]?=some n→P (.int n)):P v:=by
 unfold natL at h
 rw [List.getElem?_map] at h
 cases e:l[k]? with
 | none=>rw [e] at h;exact noS rfl h
 | some n=>rw [e] at h;exact Option.some.inj h▸q n e
theorem items_range0 {w:Nat} (h:w<2^30):itemsM (.range 0 w 1)=some (natL (List.range w)):=by
 have e:rangeN 0 w 1=w:=by
  unfold rangeN Builtin.Range.rangeSize
  rw [if_pos (by decide)]
  split <;> lia
 show (if _ then some (rangeL 0 w 1) else none)=_
 rw [if_pos ⟨by decide,h,by decide,by decide⟩]
 unfold rangeL natL
 rw [e]
 exact congrArg some (List.map_congr_left fun i zz=>congrArg V.int (by rw [Int.mul_one,Int.zero_add]))
theorem iter_range {w:Nat} (h:m a=some (.range 0 w 1)) (hw:w<2^30):iterOf m (.ref a)=some (a,.range 0 w 1,natL (List.range w)):=by
 rw [iter_of h,items_range0 hw];rfl
@[elab_as_elim] theorem range_el {w k:Nat}{P:V→Prop} (h:(natL (List.range w))[k]?=some v) (q:k<w→P (.int k)):P v:=natL_el h fun n e=>by
 obtain ⟨h1,h2⟩:=List.getElem?_eq_some_iff.mp e
 rw [List.getElem_range] at h2
 rw [List.length_range] at h1
 exact h2▸q h1
theorem range_len (w:Nat):(natL (List.range w)).length=w:=by rw [natL_len,List.length_range]
theorem for_range {i n:Nat} (h:m a=some (.range 0 n 1)) (hn:n<2^30) (Inv:Nat→T→Mem→Prop) (hI:∀ k x m,Inv k x m→m a=some (.range 0 n 1)) (h0:Inv 0 x0 m)
  (step:∀ k x m (Ψ:Fl→St→Prop),k<n→Inv k x m→(∀ x' m',Inv (k+1) x' m'→Ψ .next ⟨F x',m'⟩)→semB X b ⟨put (F x) i (.int k),m⟩ Ψ)
  (fin:∀ x m,Inv n x m→semB X r ⟨F x,m⟩ Φ):forK X (.name i) b r Φ (.ref a) ⟨F x0,m⟩ :=
 for_go (iter_range h hn) Inv hI h0 (fun k x m v Ψ hv q hΨ=>range_el hv (P:=fun v=>semB X b ⟨put (F x) i v,m⟩ Ψ) fun hk=>step k x m Ψ hk q hΨ) fun x m q=>fin x m (range_len n▸q)
theorem for_rangeC {i n:Nat} (h:m a=some (.range 0 n 1)) (hn:n<2^30) (Inv:Nat→T→Mem→Prop) (hI:∀ k x m,Inv k x m→m a=some (.range 0 n 1)) (h0:Inv 0 x0 m)
  (step:∀ k x m (Ψ:Fl→St→Prop),k<n→Inv k x m→(∀ x' m',Inv (k+1) x' m'→Ψ .next ⟨F x',m'⟩)→(∀ x' m',Inv (k+1) x' m'→Ψ .cont ⟨F x',m'⟩)→semB X b ⟨put (F x) i (.int k),m⟩ Ψ)
  (fin:∀ x m,Inv n x m→semB X r ⟨F x,m⟩ Φ):forK X (.name i) b r Φ (.ref a) ⟨F x0,m⟩ :=
 for_goC (iter_range h hn) Inv hI h0 (fun k x m v Ψ hv q hΨ hC=>range_el (P:=fun v=>semB X b ⟨put (F x) i v,m⟩ Ψ) hv fun hk=>step k x m Ψ hk q hΨ hC) fun x m q=>fin x m (range_len n▸q)
noncomputable def whK (X:PX) (b r:Sxs) (Ψ Φ:Fl→St→Prop) (c:Bool) (σ:St):Prop:=if c then semB X b σ Ψ else semB X r σ Φ
theorem wh_y {p:Prop} [Decidable p] {Ψ:Fl→St→Prop}{σ:St} (hp:p) (h:semB X b σ Ψ):whK X b r Ψ Φ (decide p) σ:=by unfold whK;rw [if_pos (decide_eq_true hp)];exact h
theorem wh_n {p:Prop} [Decidable p] {Ψ:Fl→St→Prop}{σ:St} (hp:¬p) (h:semB X r σ Φ):whK X b r Ψ Φ (decide p) σ:=by unfold whK;rw [if_neg fun e=>hp (of_decide_eq_true e)];exact h
theorem s_while {e:Ex}{n:Nat} (Inv:Nat→T→Mem→Prop) (h0:Inv n x0 m) (z:∀ x m,¬Inv 0 x m)
  (step:∀ k x m (Ψ:Fl→St→Prop),Inv (k+1) x m→(∀ x' m',Inv k x' m'→Ψ .next ⟨F x',m'⟩)→(sem X e).tru ⟨F x,m⟩ (whK X b r Ψ Φ)):semB X (.cons (.whileS e b) r) ⟨F x0,m⟩ Φ:=by
 have go:∀ (n:Nat) (x:T) (m:Mem),Inv n x m→whileW (sem X e).tru (semB X b) n ⟨F x,m⟩ (aft X r Φ):=by
  intro n
  induction n with
  | zero=>exact fun x m h=>absurd h (z x m)
  | succ n ih=>exact fun x m h=>step n x m _ h ih
 exact ⟨n,go n x0 m h0⟩
theorem for_nats {i:Nat}{l:List Nat} (hv:iterOf m v=some (a,mo,natL l)) (Inv:Nat→T→Mem→Prop) (hI:∀ k x m,Inv k x m→m a=some mo) (h0:Inv 0 x0 m)
  (step:∀ k x m n (Ψ:Fl→St→Prop),l[k]?=some n→Inv k x m→(∀ x' m',Inv (k+1) x' m'→Ψ .next ⟨F x',m'⟩)→semB X b ⟨put (F x) i (.int n),m⟩ Ψ)
  (fin:∀ x m,Inv l.length x m→semB X r ⟨F x,m⟩ Φ):forK X (.name i) b r Φ v ⟨F x0,m⟩ :=
 for_go hv Inv hI h0 (fun k x m v Ψ hv q hΨ=>natL_el hv (P:=fun v=>semB X b ⟨put (F x) i v,m⟩ Ψ) fun n hn=>step k x m n Ψ hn q hΨ) fun x m q=>fin x m (natL_len l▸q)
end
section
variable {X:PX}{elt it cond:Ex}{t:Tg}{i j k:Nat}{a:Addr}{mo:MO}{v:V}{xs:List V}{ρ:List (Option V)}{σ:St}{m:Mem}{Φ:V→St→Prop}
noncomputable def cpK (X:PX) (elt:Ex) (t:Tg) (cond:Ex) (j:Nat) (Φ:V→St→Prop) (v:V) (σ:St):Prop:=overW (PT.lit v) σ fun a mo xs σ1=>compW a mo (semT X t) (condW (sem X cond).tru (sem X elt).val) xs [] ⟨σ1.ρ++List.replicate j none,σ1.m⟩ (madeW σ1.ρ Φ)
theorem e_comp (hq:X.quiet) (h:(sem X it).val σ (cpK X elt t cond j Φ)):X.quiet∧overW (sem X it).val σ fun a mo xs σ1=>compW a mo (semT X t) (condW (sem X cond).tru (sem X elt).val) xs [] ⟨σ1.ρ++List.replicate j none,σ1.m⟩ (madeW σ1.ρ Φ):=⟨hq,h⟩
theorem put_put:∀ (ρ:List (Option V)) (i:Nat) (u v:V),put (put ρ i u) i v=put ρ i v
 | [],_,_,_=>rfl
 | _::_,0,_,_=>rfl
 | x::r,i+1,u,v=>congrArg (x::·) (put_put r i u v)
theorem new_go {o:MO} (h:∀ l m',m l=none→m' l=some o→Gr m m'→Φ (.ref l) ⟨ρ,m'⟩):allocW o ⟨ρ,m⟩ Φ:=.i fun l zz h1=>h l _ h1 (upd_same _ _ _) (Gr.upd h1)
theorem comp_aux {inner:List V→St→(List V→St→Prop)→Prop}{Φ:List V→St→Prop} (Inv:Nat→List V→Mem→Prop) (hI:∀ k acc m,Inv k acc m→m a=some mo)
  (step:∀ k acc m v Ψ,xs[k]?=some v→Inv k acc m→(∀ acc' m',Inv (k+1) acc' m'→Ψ acc' ⟨put ρ i v,m'⟩)→inner acc ⟨put ρ i v,m⟩ Ψ)
  (fin:∀ acc m' ρ',Inv xs.length acc m'→Φ acc ⟨ρ',m'⟩):∀ (n k:Nat) (acc:List V) (m:Mem) (ρ':List (Option V)),k+n=xs.length→(∀ v,put ρ' i v=put ρ i v)→Inv k acc m→compW a mo (semT X (.name i)) inner (xs.drop k) acc ⟨ρ',m⟩ Φ
 | 0,k,acc,m,ρ',hk,hρ,h=>by
  have hk:k=xs.length:=hk
  rw [List.drop_eq_nil_of_le (Nat.le_of_eq hk.symm)]
  exact ⟨hI _ _ _ h,fin _ _ _ (hk▸h)⟩
 | n+1,k,acc,m,ρ',hk,hρ,h=>by
  have hl:k<xs.length:=hk▸Nat.lt_add_of_pos_right (Nat.succ_pos n)
  rw [List.drop_eq_getElem_cons hl]
  refine ⟨hI _ _ _ h,?_⟩
  show inner acc ⟨put ρ' i xs[k],m⟩ _
  rw [hρ]
  exact step k acc m _ _ (List.getElem?_eq_getElem hl) h fun acc' m' h'=>comp_aux Inv hI step fin n (k+1) acc' m' _ ((Nat.succ_add_eq_add_succ k n).trans hk) (put_put ρ i _) h'
theorem comp_if (hv:iterOf m v=some (a,mo,xs)) (Inv:Nat→List V→Mem→Prop) (hI:∀ k acc m,Inv k acc m→m a=some mo) (h0:Inv 0 [] m)
  (step:∀ k acc m v (Ψ:List V→St→Prop),xs[k]?=some v→Inv k acc m→(∀ acc' m',Inv (k+1) acc' m'→Ψ acc' ⟨put (ρ++List.replicate j none) i v,m'⟩)→condW (sem X cond).tru (sem X elt).val acc ⟨put (ρ++List.replicate j none) i v,m⟩ Ψ)
  (fin:∀ acc m',Inv xs.length acc m'→∀ l m'',m' l=none→m'' l=some (.list acc)→Gr m' m''→Φ (.ref l) ⟨ρ,m''⟩):cpK X elt (.name i) cond j Φ v ⟨ρ,m⟩:=by
 show match iterOf m v with|some (a,mo,xs)=>compW a mo (semT X (.name i)) (condW (sem X cond).tru (sem X elt).val) xs [] ⟨ρ++List.replicate j none,m⟩ (madeW ρ Φ)|none=>False
 rw [hv]
 exact comp_aux (X:=X) Inv hI step (fun acc m' ρ' q=>new_go (fin acc m' q)) xs.length 0 [] m _ (Nat.zero_add _) (fun zz=>rfl) h0
theorem comp_go (hv:iterOf m v=some (a,mo,xs)) (hx:xs.length<1000000) (Inv:Nat→List V→Mem→Prop) (hI:∀ k acc m,Inv k acc m→m a=some mo) (h0:Inv 0 [] m)
  (step:∀ k acc m v (Ψ:V→St→Prop),xs[k]?=some v→Inv k acc m→(∀ w m',Inv (k+1) (acc++[w]) m'→Ψ w ⟨put (ρ++List.replicate j none) i v,m'⟩)→(sem X elt).val ⟨put (ρ++List.replicate j none) i v,m⟩ Ψ)
  (fin:∀ acc m',Inv xs.length acc m'→acc.length=xs.length→∀ l m'',m' l=none→m'' l=some (.list acc)→Gr m' m''→Φ (.ref l) ⟨ρ,m''⟩):cpK X elt (.name i) (.bool true) j Φ v ⟨ρ,m⟩ :=
 comp_if hv (fun k acc m=>Inv k acc m∧acc.length=k) (fun k acc m q=>hI k acc m q.1) ⟨h0,rfl⟩
  (fun k acc m v Ψ h q hΨ=>step k acc m v _ h q.1 fun w m' q'=>⟨q.2▸Nat.lt_trans (List.getElem?_eq_some_iff.mp h).1 hx,hΨ _ _ ⟨q',by rw [List.length_append,q.2];rfl⟩⟩) fun acc m' q=>fin acc m' q.1 q.2
theorem comp_nats {l:List Nat}{g:Nat→V} (hv:iterOf m v=some (a,mo,natL l)) (hm:m a=some mo) (hx:l.length<1000000)
  (step:∀ n (Ψ:V→St→Prop),n∈l→Ψ (g n) ⟨put (ρ++List.replicate j none) i (.int n),m⟩→(sem X elt).val ⟨put (ρ++List.replicate j none) i (.int n),m⟩ Ψ)
  (fin:∀ b m',m b=none→m' b=some (.list (l.map g))→Gr m m'→Φ (.ref b) ⟨ρ,m'⟩):cpK X elt (.name i) (.bool true) j Φ v ⟨ρ,m⟩ :=
 comp_go hv ((natL_len l).symm▸hx) (fun k acc m'=>m'=m∧acc=(l.take k).map g) (fun k acc m' q=>q.1▸hm) ⟨rfl,rfl⟩
  (fun k acc m' v Ψ h q hΨ=>natL_el h (P:=fun v=>(∀ w m',(m'=m∧acc++[w]=(l.take (k+1)).map g)→Ψ w ⟨put (ρ++List.replicate j none) i v,m'⟩)→(sem X elt).val ⟨put (ρ++List.replicate j none) i v,m'⟩ Ψ)
   (fun n hn hΨ=>q.1▸step n Ψ (List.mem_of_getElem? hn) (hΨ _ _ ⟨rfl,by rw [q.2,List.take_add_one,hn,List.map_append];rfl⟩)) hΨ)
  fun acc m' q hl=>by
   have e:acc=l.map g:=by rw [q.2,natL_len,List.take_length]
   rw [q.1,e]
   exact fin
end
inductive A2 (p0 p1:Prop):Prop
 | mk (h0:p0) (h1:p1)
inductive A3 (p0 p1 p2:Prop):Prop
 | mk (h0:p0) (h1:p1) (h2:p2)
inductive A4 (p0 p1 p2 p3:Prop):Prop
 | mk (h0:p0) (h1:p1) (h2:p2) (h3:p3)
inductive A5 (p0 p1 p2 p3 p4:Prop):Prop
 | mk (h0:p0) (h1:p1) (h2:p2) (h3:p3) (h4:p4)
inductive A6 (p0 p1 p2 p3 p4 p5:Prop):Prop
 | mk (h0:p0) (h1:p1) (h2:p2) (h3:p3) (h4:p4) (h5:p5)
inductive A7 (p0 p1 p2 p3 p4 p5 p6:Prop):Prop
 | mk (h0:p0) (h1:p1) (h2:p2) (h3:p3) (h4:p4) (h5:p5) (h6:p6)
inductive A8 (p0 p1 p2 p3 p4 p5 p6 p7:Prop):Prop
 | mk (h0:p0) (h1:p1) (h2:p2) (h3:p3) (h4:p4) (h5:p5) (h6:p6) (h7:p7)
inductive A9 (p0 p1 p2 p3 p4 p5 p6 p7 p8:Prop):Prop
 | mk (h0:p0) (h1:p1) (h2:p2) (h3:p3) (h4:p4) (h5:p5) (h6:p6) (h7:p7) (h8:p8)
inductive A10 (p0 p1 p2 p3 p4 p5 p6 p7 p8 p9:Prop):Prop
 | mk (h0:p0) (h1:p1) (h2:p2) (h3:p3) (h4:p4) (h5:p5) (h6:p6) (h7:p7) (h8:p8) (h9:p9)
inductive A11 (p0 p1 p2 p3 p4 p5 p6 p7 p8 p9 p10:Prop):Prop
 | mk (h0:p0) (h1:p1) (h2:p2) (h3:p3) (h4:p4) (h5:p5) (h6:p6) (h7:p7) (h8:p8) (h9:p9) (h10:p10)
inductive A12 (p0 p1 p2 p3 p4 p5 p6 p7 p8 p9 p10 p11:Prop):Prop
 | mk (h0:p0) (h1:p1) (h2:p2) (h3:p3) (h4:p4) (h5:p5) (h6:p6) (h7:p7) (h8:p8) (h9:p9) (h10:p10) (h11:p11)
inductive A13 (p0 p1 p2 p3 p4 p5 p6 p7 p8 p9 p10 p11 p12:Prop):Prop
 | mk (h0:p0) (h1:p1) (h2:p2) (h3:p3) (h4:p4) (h5:p5) (h6:p6) (h7:p7) (h8:p8) (h9:p9) (h10:p10) (h11:p11) (h12:p12)
inductive A14 (p0 p1 p2 p3 p4 p5 p6 p7 p8 p9 p10 p11 p12 p13:Prop):Prop
 | mk (h0:p0) (h1:p1) (h2:p2) (h3:p3) (h4:p4) (h5:p5) (h6:p6) (h7:p7) (h8:p8) (h9:p9) (h10:p10) (h11:p11) (h12:p12) (h13:p13)
inductive A15 (p0 p1 p2 p3 p4 p5 p6 p7 p8 p9 p10 p11 p12 p13 p14:Prop):Prop
 | mk (h0:p0) (h1:p1) (h2:p2) (h3:p3) (h4:p4) (h5:p5) (h6:p6) (h7:p7) (h8:p8) (h9:p9) (h10:p10) (h11:p11) (h12:p12) (h13:p13) (h14:p14)
inductive A16 (p0 p1 p2 p3 p4 p5 p6 p7 p8 p9 p10 p11 p12 p13 p14 p15:Prop):Prop
 | mk (h0:p0) (h1:p1) (h2:p2) (h3:p3) (h4:p4) (h5:p5) (h6:p6) (h7:p7) (h8:p8) (h9:p9) (h10:p10) (h11:p11) (h12:p12) (h13:p13) (h14:p14) (h15:p15)
theorem init134 (P:Params):initOf (KF P) 134 75=true:=by kernel_rfl
theorem init261 (P:Params):initOf (KF P) 261 180=true:=by kernel_rfl
theorem init324 (P:Params):initOf (KF P) 324 314=true:=by kernel_rfl
theorem m_new_net:methAt 134 (ofString "new_net")=some 82:=by kernel_rfl
theorem m_new_nets:methAt 134 (ofString "new_nets")=some 87:=by kernel_rfl
theorem m_add_input:methAt 134 (ofString "add_input")=some 94:=by kernel_rfl
theorem m_add_output:methAt 134 (ofString "add_output")=some 101:=by kernel_rfl
theorem m_add_cell:methAt 134 (ofString "add_cell")=some 109:=by kernel_rfl
theorem m_drive:methAt 134 (ofString "drive")=some 117:=by kernel_rfl
theorem m_sources:methAt 134 (ofString "sources")=some 124:=by kernel_rfl
theorem m_sinks:methAt 134 (ofString "sinks")=some 131:=by kernel_rfl
theorem a_add_input:methAt 261 (ofString "add_input")=some 187:=by kernel_rfl
theorem a_add_output:methAt 261 (ofString "add_output")=some 194:=by kernel_rfl
theorem a_land:methAt 261 (ofString "land")=some 208:=by kernel_rfl
theorem a_lor:methAt 261 (ofString "lor")=some 215:=by kernel_rfl
theorem a_lxor:methAt 261 (ofString "lxor")=some 222:=by kernel_rfl
theorem a_lmux:methAt 261 (ofString "lmux")=some 229:=by kernel_rfl
theorem k_net:methAt 324 (ofString "net")=some 321:=by kernel_rfl
section
variable {X:PX}{m m':Mem}{ρ:List (Option V)}{σ:St}{Φ:V→St→Prop}{Θ:St→Prop}{Γ:Fl→St→Prop}{x d t l C f:Addr}{xs ys vs:List V}{es:List (K × V)}{fs:List (Att × V)}{n:Att}{v w:V}{k i:Nat}{e:Ex}{r:Sxs}
theorem c134:134∈okCls:=by decide
theorem c261:261∈okCls:=by decide
theorem c324:324∈okCls:=by decide
theorem attr_go (hx:m x=some (.inst C d)) (hC:C∈okCls) (hd:m d=some (.attrs fs)) (hv:aget n fs=some v) (hp:v.plain=true) (h:Φ v ⟨ρ,m⟩):attrW (.ref x) n ⟨ρ,m⟩ Φ :=
 ⟨x,C,d,fs,v,rfl,hx,hC,hd,hv,hp,h⟩
theorem setA_go (hx:m x=some (.inst C d)) (hC:C∈okCls) (hd:m d=some (.attrs fs)) (hl:fs.length≤100) (h:∀ m',m' d=some (.attrs (aput n v fs))→Up d m m'→Θ ⟨ρ,m'⟩):setAttrW (.ref x) n v ⟨ρ,m⟩ Θ :=
 ⟨x,C,d,fs,rfl,hx,hC,hd,hl,h _ (upd_same _ _ _) .upd⟩
theorem pick_nat (xs:List V) (k:Nat):pick xs k=xs[k]?:=by unfold pick;rw [if_pos (Int.natCast_nonneg _)];rfl
theorem pick_neg {j:Nat} (h0:0<j) (h:j≤xs.length):pick xs (-(j:Int))=xs[xs.length - j]?:=by
 unfold pick
 rw [if_neg (by lia),if_pos (by lia),show (-(j:Int)+xs.length).toNat=xs.length - j from by lia]
theorem it_l (h:m t=some (.list xs)) (hv:xs[k]?=some v) (q:Φ v ⟨ρ,m⟩):itemW (.ref t) (.int (k:Nat)) ⟨ρ,m⟩ Φ :=
 .list t xs k v rfl h rfl ((pick_nat xs k).trans hv) q
theorem it_t (h:m t=some (.tup xs)) (hv:xs[k]?=some v) (q:Φ v ⟨ρ,m⟩):itemW (.ref t) (.int (k:Nat)) ⟨ρ,m⟩ Φ :=
 .tup t xs k v rfl h rfl ((pick_nat xs k).trans hv) q
theorem it_ln (h:m t=some (.list xs)) (h0:0<k) (hk:k≤xs.length) (hv:xs[xs.length - k]?=some v) (q:Φ v ⟨ρ,m⟩):itemW (.ref t) (.int (-(k:Int))) ⟨ρ,m⟩ Φ :=
 .list t xs _ v rfl h rfl ((pick_neg h0 hk).trans hv) q
theorem it_d {key:K} (h:m t=some (.dict es)) (hk:keyOf m w=some key) (hv:dget key es=some v) (q:Φ v ⟨ρ,m⟩):itemW (.ref t) w ⟨ρ,m⟩ Φ :=
 .dict t es key v rfl h hk hv q
theorem get_d {key:K} (h:m t=some (.dict es)) (hk:keyOf m w=some key) (q:Φ ((dget key es).getD v) ⟨ρ,m⟩):getW (.ref t) w v ⟨ρ,m⟩ Φ:=⟨t,es,key,rfl,h,hk,q⟩
theorem len_l {N:Nat} (h:m l=some (.list xs)) (e:xs.length=N) (q:Φ (.int N) ⟨ρ,m⟩):biW .len [.ref l] ⟨ρ,m⟩ Φ:=.i ⟨_,rfl,.list l xs rfl h (e▸q)⟩
theorem len_t {N:Nat} (h:m l=some (.tup xs)) (e:xs.length=N) (q:Φ (.int N) ⟨ρ,m⟩):biW .len [.ref l] ⟨ρ,m⟩ Φ:=.i ⟨_,rfl,.tup l xs rfl h (e▸q)⟩
theorem w_range {N:Nat} (hk:N<2^30) (h:∀ l m',m l=none→m' l=some (.range 0 N 1)→Gr m m'→Φ (.ref l) ⟨ρ,m'⟩):biW .range [.int N] ⟨ρ,m⟩ Φ:=.i (.one N rfl ⟨⟨by decide,hk,by decide,by decide⟩,new_go h⟩)
theorem w_list (hl:xs.length<1000000) (h:∀ l m',m l=none→m' l=some (.list xs)→Gr m m'→Φ (.ref l) ⟨ρ,m'⟩):xs.length<1000000∧allocW (.list xs) ⟨ρ,m⟩ Φ:=⟨hl,new_go h⟩
theorem w_tup (hl:xs.length<1000000) (h:∀ l m',m l=none→m' l=some (.tup xs)→Gr m m'→Φ (.ref l) ⟨ρ,m'⟩):xs.length<1000000∧allocW (.tup xs) ⟨ρ,m⟩ Φ:=⟨hl,new_go h⟩
theorem seqOf_tup (h:m t=some (.tup xs)):seqOf m (.ref t)=some xs:=by unfold seqOf;simp only [h]
theorem seqOf_list (h:m t=some (.list xs)):seqOf m (.ref t)=some xs:=by unfold seqOf;simp only [h]
set_option tactic.hygienic true in
@[elab_as_elim] theorem seqOf_el {P:V→Prop} (h:seqOf m v=some xs) (a:∀ l,m l=some (.list xs)→P (.ref l)) (b:∀ l,m l=some (.tup xs)→P (.ref l)):P v:=by
 unfold seqOf at h
 split at h
 ·split at h
  ·rename_i q;exact a _ (Option.some.inj h▸q)
  ·rename_i q;exact b _ (Option.some.inj h▸q)
  ·exact noS rfl h
 ·exact noS rfl h
theorem listOf_go (h:seqOf m v=some xs) (q:∀ l m',m l=none→m' l=some (.list xs)→Gr m m'→Φ (.ref l) ⟨ρ,m'⟩):biW .list [v] ⟨ρ,m⟩ Φ:=.i ⟨v,rfl,xs,h,new_go q⟩
theorem tupOf_go (h:seqOf m v=some xs) (q:∀ l m',m' l=some (.tup xs)→Gr m m'→Φ (.ref l) ⟨ρ,m'⟩):biW .tuple [v] ⟨ρ,m⟩ Φ:=by
 refine .i ⟨v,rfl,seqOf_el (P:=fun v=>tupleW v ⟨ρ,m⟩ Φ) h (fun l hl=>.list l xs rfl hl (new_go fun l m' zz=>q l m')) fun l hl=>.tup l xs rfl hl (q l m hl .refl)⟩
theorem app_go (hm:m l=some (.list xs)) (hn:xs.length<1000000) (h:∀ m',m' l=some (.list (xs++[v]))→Up l m m'→semB X r ⟨ρ,m'⟩ Γ):appK X l r Γ v ⟨ρ,m⟩:=⟨l,xs,rfl,hm,hn,h _ (upd_same _ _ _) .upd⟩
theorem s_ext {o:Ex} (h0:∀ Φ':V→St→Prop,Φ' (.ref l) ⟨ρ,m⟩→(sem X o).val ⟨ρ,m⟩ Φ') (hm:m l=some (.list xs)) (h:(sem X e).val ⟨ρ,m⟩ (extK X l r Γ)):semB X (.cons (.expr (.ext o e)) r) ⟨ρ,m⟩ Γ :=
 h0 _ ⟨⟨l,xs,rfl,hm⟩,by
  have:=h;unfold extK at this
  simpa only [isNoRef,true_and] using this⟩
theorem ext_go (hm:m l=some (.list xs)) (hy:seqOf m v=some ys) (hn:xs.length+ys.length<1000000) (h:∀ m',m' l=some (.list (xs++ys))→Up l m m'→semB X r ⟨ρ,m'⟩ Γ):extK X l r Γ v ⟨ρ,m⟩:=⟨l,xs,ys,rfl,hm,hy,hn,h _ (upd_same _ _ _) .upd⟩
theorem setL_go (hm:m l=some (.list xs)) (hk:k<xs.length) (h:∀ m',m' l=some (.list (xs.set k v))→Up l m m'→Θ ⟨ρ,m'⟩):setItemW (.ref l) (.int (k:Nat)) v ⟨ρ,m⟩ Θ :=
 .list l xs k rfl hm rfl (Int.natCast_nonneg _) (Int.ofNat_lt.mpr hk) (h _ (upd_same _ _ _) .upd)
theorem setD_go {key:K} (hm:m l=some (.dict es)) (hk:keyOf m w=some key) (hn:es.length<1000000) (h:∀ m',m' l=some (.dict (dput key v es))→Up l m m'→Θ ⟨ρ,m'⟩):setItemW (.ref l) w v ⟨ρ,m⟩ Θ :=
 .dict l es key rfl hm hk hn (h _ (upd_same _ _ _) .upd)
theorem e_meth {nm:Str}{ts:PT (List V)} (h1:m x=some (.inst C d)) (h2:m d=some (.attrs fs)) (hf:methAt C nm=some f)
  (h:ts ⟨ρ,m⟩ fun vs σ2=>callW X.G X.r X.Ψ (.ref f) (.ref x::vs) σ2.m fun v m'=>Φ v ⟨σ2.ρ,m'⟩):MethW X (.ref x) nm ts ⟨ρ,m⟩ Φ:=⟨x,C,d,f,fs,rfl,h1,hf,h2,h⟩
theorem s_swap {i j:Nat}{a b:Ex}{u v:V} (ha:∀ Φ':V→St→Prop,Φ' u ⟨ρ,m⟩→(sem X a).val ⟨ρ,m⟩ Φ') (hb:∀ Φ':V→St→Prop,Φ' v ⟨ρ,m⟩→(sem X b).val ⟨ρ,m⟩ Φ') (h:∀ m',Gr m m'→semB X r ⟨put (put ρ j v) i u,m'⟩ Γ):semB X (.cons (.swap i j a b) r) ⟨ρ,m⟩ Γ :=
 ha _ (hb _ (new_go fun zz m' zz zz g=>h m' g))
noncomputable def augK (X:PX) (i:Nat) (r:Sxs) (Φ:Fl→St→Prop) (w:V) (σ:St):Prop:=semB X r ⟨put σ.ρ i w,σ.m⟩ Φ
theorem s_aug {i:Nat}{op:Operator} (h:(sem X (.var i)).val σ fun u σ1=>(sem X e).val σ1 fun v σ2=>iopW op u v σ2 (augK X i r Γ)):semB X (.cons (.aug i op e) r) σ Γ:=h
theorem aug_nm (h:semB X r ⟨put ρ i w,m⟩ Γ):augK X i r Γ w ⟨ρ,m⟩:=h
theorem s_augI {o i:Ex}{op:Operator} (h:(sem X o).val σ fun ov σ1=>(sem X i).val σ1 fun iv σ2=>itemW ov iv σ2 fun u σ3=>(sem X e).val σ3 fun v σ4=>iopW op u v σ4 fun w σ5=>setItemW ov iv w σ5 fun σ6=>semB X r σ6 Γ):semB X (.cons (.augI o i op e) r) σ Γ:=h
theorem isD {A:Prop} (hm:m l=some (.dict es)) (h:A):IsD m (.ref l)∧A:=⟨⟨l,es,rfl,hm⟩,h⟩
variable {a b:Nat}{p q z:Int}
theorem iadd_go (h:Φ (.int (p+q)) σ):iopW .Add (.int p) (.int q) σ Φ:=.add p q rfl rfl rfl h
theorem isub_go (h:Φ (.int (p - q)) σ):iopW .Sub (.int p) (.int q) σ Φ:=.sub p q rfl rfl rfl h
theorem bXor (hi:p=a) (hj:q=b) (h:Φ (.int ((a ^^^ b:Nat):Int)) σ):binW .BitXor (.int p) (.int q) σ Φ:=by
 subst hi hj;exact .int _ _ rfl rfl ⟨⟨Int.natCast_nonneg _,Int.natCast_nonneg _⟩,h⟩
theorem bAnd (hi:p=a) (hj:q=b) (h:Φ (.int ((a &&& b:Nat):Int)) σ):binW .BitAnd (.int p) (.int q) σ Φ:=by
 subst hi hj;exact .int _ _ rfl rfl ⟨⟨Int.natCast_nonneg _,Int.natCast_nonneg _⟩,h⟩
theorem bOr (hi:p=a) (hj:q=b) (h:Φ (.int ((a ||| b:Nat):Int)) σ):binW .BitOr (.int p) (.int q) σ Φ:=by
 subst hi hj;exact .int _ _ rfl rfl ⟨⟨Int.natCast_nonneg _,Int.natCast_nonneg _⟩,h⟩
theorem bAdd (e:p+q=z) (h:Φ (.int z) σ):binW .Add (.int p) (.int q) σ Φ:=by subst e;exact .int _ _ rfl rfl h
theorem bSub (e:p - q=z) (h:Φ (.int z) σ):binW .Sub (.int p) (.int q) σ Φ:=by subst e;exact .int _ _ rfl rfl h
theorem bMul (hq:p.natAbs<2^63∨q.natAbs<2^63) (e:p*q=z) (h:Φ (.int z) σ):binW .Mult (.int p) (.int q) σ Φ:=by subst e;exact .int _ _ rfl rfl ⟨hq,h⟩
theorem bDiv (hi:p=a) (hj:q=b) (hq:0<b∧b<2^30) (h:Φ (.int ((a / b:Nat):Int)) σ):binW .FloorDiv (.int p) (.int q) σ Φ:=by
 subst hi hj;exact .int _ _ rfl rfl ⟨⟨Int.ofNat_lt.mpr hq.1,Int.ofNat_lt.mpr hq.2⟩,by rw [←Int.natCast_ediv];exact h⟩
theorem bMod (hi:p=a) (hj:q=b) (hq:0<b) (h:Φ (.int ((a%b:Nat):Int)) σ):binW .Mod (.int p) (.int q) σ Φ:=by
 subst hi hj;exact .int _ _ rfl rfl ⟨Int.ofNat_lt.mpr hq,by rw [←Int.natCast_emod];exact h⟩
theorem bShl (hi:p=a) (hj:q=b) (hq:a<2^60∧b≤1000000) (h:Φ (.int ((a <<< b:Nat):Int)) σ):binW .LShift (.int p) (.int q) σ Φ:=by
 subst hi hj
 refine .int _ _ rfl rfl ⟨⟨Int.natCast_nonneg _,by lia,by omega⟩,?_⟩
 rw [Nat.shiftLeft_eq,Int.natCast_mul,Int.natCast_pow] at h
 exact h
theorem bShr (hi:p=a) (hj:q=b) (h:Φ (.int ((a >>> b:Nat):Int)) σ):binW .RShift (.int p) (.int q) σ Φ:=by
 subst hi hj
 refine .int _ _ rfl rfl ⟨Int.natCast_nonneg _,?_⟩
 rw [Nat.shiftRight_eq_div_pow,Int.natCast_ediv,Int.natCast_pow] at h
 exact h
theorem bPow (hi:p=a) (hj:q=b) (hq:a<2^60∧b≤1000000) (h:Φ (.int ((a^b:Nat):Int)) σ):binW .Pow (.int p) (.int q) σ Φ:=by
 subst hi hj
 refine .int _ _ rfl rfl ⟨⟨Int.natCast_nonneg _,by lia,by omega⟩,?_⟩
 rw [Int.natCast_pow] at h
 exact h
variable {Δ:Bool→St→Prop}{y u:Str}
theorem eq_s (h:Δ (decide (y=u)) σ):cmpW .Eq (.str y) (.str u) σ Δ:=.i (.inl (.str _ _ rfl rfl h))
theorem eq_i (h:Δ (decide (p=q)) σ):cmpW .Eq (.int p) (.int q) σ Δ:=.i (.inl (.int _ _ rfl rfl h))
theorem eq_n (h:Δ (decide (a=b)) σ):cmpW .Eq (.int (a:Nat)) (.int (b:Nat)) σ Δ:=eq_i (by rw [decide_eq_decide.mpr Int.ofNat_inj];exact h)
theorem ne_i (h:Δ (!decide (p=q)) σ):cmpW .NotEq (.int p) (.int q) σ Δ:=.i (.int _ _ rfl rfl h)
theorem lt_i (h:Δ (decide (p<q)) σ):cmpW .Lt (.int p) (.int q) σ Δ:=.i ⟨_,_,rfl,rfl,h⟩
theorem gt_i (h:Δ (decide (p > q)) σ):cmpW .Gt (.int p) (.int q) σ Δ:=.i ⟨_,_,rfl,rfl,h⟩
theorem ge_i (h:Δ (decide (p≥q)) σ):cmpW .GtE (.int p) (.int q) σ Δ:=.i ⟨_,_,rfl,rfl,h⟩
theorem in_d {key:K} (hm:m l=some (.dict es)) (hk:keyOf m v=some key) (h:Δ (dhas key es) ⟨ρ,m⟩):cmpW .In v (.ref l) ⟨ρ,m⟩ Δ:=.i (.dict l es key rfl hm hk h)
theorem notin_d {key:K} (hm:m l=some (.dict es)) (hk:keyOf m v=some key) (h:Δ (!dhas key es) ⟨ρ,m⟩):cmpW .NotIn v (.ref l) ⟨ρ,m⟩ Δ:=.i (.dict l es key rfl hm hk h)
theorem isnot_r (h:Δ true σ):cmpW .IsNot (.ref l) .none σ Δ:=.i (.ref l rfl rfl h)
theorem isnot_n (h:Δ false σ):cmpW .IsNot .none .none σ Δ:=.i (.none rfl rfl h)
end
structure NetO where
 x:Addr
 d:Addr
 li:Addr
 lo:Addr
 lc:Addr
noncomputable def NetO.f (o:NetO) (nm:V) (n:Nat):MO:=.attrs [(.name,nm),(.count,.int n),(.inputs,.ref o.li),(.outputs,.ref o.lo),(.cells,.ref o.lc)]
inductive NetM (m:Mem) (o:NetO) (nm:V) (n:Nat) (i u c:List V):Prop
 | mk (x_:m o.x=some (.inst 134 o.d)) (d_:m o.d=some (o.f nm n)) (li_:m o.li=some (.list i)) (lo_:m o.lo=some (.list u)) (lc_:m o.lc=some (.list c)) (io:o.li≠o.lo) (ic:o.li≠o.lc) (oc:o.lo≠o.lc)
noncomputable def MO.no:MO→Nat
 | .list _=>0|.tup _=>1|.dict _=>2|.inst ..=>3|.attrs _=>4|.range ..=>5
theorem mn {m:Mem}{a b:Addr}{p q:MO} (h1:m a=some p) (h2:m b=some q) (h:Nat.beq p.no q.no=false):a≠b:=mem_ne h1 h2 fun e=>Nat.ne_of_beq_eq_false h (congrArg MO.no e)
section
variable {m m':Mem}{o:NetO}{nm v:V}{n k:Nat}{i u c i' u' c':List V}{ρ:List (Option V)}{Φ:V→St→Prop}
noncomputable def NetO.all (o:NetO):List Addr:=[o.d,o.li,o.lo,o.lc]
theorem all_el {o:NetO}{P:Addr→Prop} (h1:P o.d) (h2:P o.li) (h3:P o.lo) (h4:P o.lc):∀ a∈o.all,P a:=by
 intro a h
 simp only [NetO.all,List.mem_cons,List.not_mem_nil,or_false] at h
 rcases h with rfl|rfl|rfl|rfl <;> assumption
theorem NetM.keep (N:NetM m o nm n i u c) (s:Gr m m'):NetM m' o nm n i u c:=⟨s N.1,s N.2,s N.3,s N.4,s N.5,N.6,N.7,N.8⟩
theorem NetM.same {fp:List Addr} (N:NetM m o nm n i u c) (s:Same fp m m') (hx:o.x∉fp) (h:∀ a∈o.all,a∉fp):NetM m' o nm n i u c :=
 ⟨s _ _ hx N.1,s _ _ (h _ (.head _)) N.2,s _ _ (h _ (.tail _ (.head _))) N.3,s _ _ (h _ (.tail _ (.tail _ (.head _)))) N.4,s _ _ (h _ (.tail _ (.tail _ (.tail _ (.head _))))) N.5,N.6,N.7,N.8⟩
theorem NetM.setN (N:NetM m o nm n i u c) (h:m' o.d=some (o.f nm k)) (s:Up o.d m m'):NetM m' o nm k i u c :=
 ⟨s (mn N.1 N.2 rfl) N.1,h,s (mn N.3 N.2 rfl) N.3,s (mn N.4 N.2 rfl) N.4,s (mn N.5 N.2 rfl) N.5,N.6,N.7,N.8⟩
theorem NetM.setI (N:NetM m o nm n i u c) (h:m' o.li=some (.list i')) (s:Up o.li m m'):NetM m' o nm n i' u c :=
 ⟨s (mn N.1 N.3 rfl) N.1,s (mn N.2 N.3 rfl) N.2,h,s N.6.symm N.4,s N.7.symm N.5,N.6,N.7,N.8⟩
theorem NetM.setO (N:NetM m o nm n i u c) (h:m' o.lo=some (.list u')) (s:Up o.lo m m'):NetM m' o nm n i u' c :=
 ⟨s (mn N.1 N.4 rfl) N.1,s (mn N.2 N.4 rfl) N.2,s N.6 N.3,h,s N.8.symm N.5,N.6,N.7,N.8⟩
theorem NetM.setC (N:NetM m o nm n i u c) (h:m' o.lc=some (.list c')) (s:Up o.lc m m'):NetM m' o nm n i u c' :=
 ⟨s (mn N.1 N.5 rfl) N.1,s (mn N.2 N.5 rfl) N.2,s N.7 N.3,s N.8 N.4,h,N.6,N.7,N.8⟩
theorem NetM.attr (N:NetM m o nm n i u c) {a:Att} (hv:aget a [(.name,nm),(.count,.int n),(.inputs,.ref o.li),(.outputs,.ref o.lo),(.cells,.ref o.lc)]=some v) (hp:v.plain=true) (h:Φ v ⟨ρ,m⟩):attrW (.ref o.x) a ⟨ρ,m⟩ Φ:=attr_go N.1 c134 N.2 hv hp h
theorem NetM.aK (N:NetM m o nm n i u c) (h:Φ (.int n) ⟨ρ,m⟩):attrW (.ref o.x) .count ⟨ρ,m⟩ Φ:=N.attr rfl rfl h
theorem NetM.aI (N:NetM m o nm n i u c) (h:Φ (.ref o.li) ⟨ρ,m⟩):attrW (.ref o.x) .inputs ⟨ρ,m⟩ Φ:=N.attr rfl rfl h
theorem NetM.aO (N:NetM m o nm n i u c) (h:Φ (.ref o.lo) ⟨ρ,m⟩):attrW (.ref o.x) .outputs ⟨ρ,m⟩ Φ:=N.attr rfl rfl h
theorem NetM.aC (N:NetM m o nm n i u c) (h:Φ (.ref o.lc) ⟨ρ,m⟩):attrW (.ref o.x) .cells ⟨ρ,m⟩ Φ:=N.attr rfl rfl h
end
section
variable {G:GC}{r:Nat}{Ψ:Addr→Mem→Prop}{m:Mem}{o:NetO}{nm:V}{n:Nat}{i u c:List V}{Φ:V→Mem→Prop}
theorem is_state_kind (hG:G.Ok) (hr:1≤r) {k:Str} (h:Φ (.bool (decide (k=ofString "flop")||decide (k=ofString "latch"))) m):callW G r Ψ (.ref 61) [.str k] m Φ:=by
 refine run61 hG hr (s_ret (eq_s ?_))
 cases hk:decide (k=ofString "flop") with
 | true=>rw [hk] at h;exact h
 | false=>rw [hk] at h;exact eq_s h
theorem netlist_new (hG:G.Ok) (hr:2≤r) {nm:V} (h:∀ o m',NetM m' o nm 2 [] [] []→Gr m m'→m o.x=none→(∀ a∈o.all,m a=none)→Φ (.ref o.x) m'):callW G r Ψ (.ref 134) [nm] m Φ:=by
 refine pr1 hr (P:=fun r=>callW G r Ψ (.ref 134) [nm] m Φ) (new_ok hG c134 (init134 _) fun d x zz zz hne n1 n2=>?_)
 have g0:Gr m (upd (upd m d (.attrs [])) x (.inst 134 d)):=(Gr.upd n1).trans (Gr.upd ((upd_ne hne.symm).trans n2))
 have x0:upd (upd m d (.attrs [])) x (.inst 134 d) x=_:=upd_same _ _ _
 have d0:upd (upd m d (.attrs [])) x (.inst 134 d) d=_:=(upd_ne hne).trans (upd_same _ _ _)
 generalize upd (upd m d (.attrs [])) x (.inst 134 d)=m0 at g0 x0 d0
 refine run75 (k:=0) hG (pr hr rfl) (s_asg (setA_go x0 c134 d0 (by decide) fun m1 d1 u1=>s_asg (setA_go (u1 hne.symm x0) c134 d1 (nb rfl) fun m2 d2 u2=>s_asg (w_list (by decide) fun li m3 n3 li3 g3=>?_))))
 have x2:=u2 hne.symm (u1 hne.symm x0)
 refine setA_go (g3 x2) c134 (g3 d2) (nb rfl) fun m4 d4 u4=>s_asg (w_list (by decide) fun lo m5 n5 lo5 g5=>?_)
 have x4:=u4 hne.symm (g3 x2)
 have i4:=u4 (fresh_ne n3 d2) li3
 refine setA_go (g5 x4) c134 (g5 d4) (nb rfl) fun m6 d6 u6=>s_asg (w_list (by decide) fun lc m7 n7 lc7 g7=>?_)
 have x6:=u6 hne.symm (g5 x4)
 have i6:=u6 (mn (g5 i4) (g5 d4) rfl) (g5 i4)
 have o6:=u6 (mn lo5 (g5 d4) rfl) lo5
 have a2:=(g0.set n1 u1).set n1 u2
 have a4:=(a2.trans g3).set n1 u4
 have a6:=(a4.trans g5).set n1 u6
 refine setA_go (g7 x6) c134 (g7 d6) (nb rfl) fun m8 d8 u8=>?_
 exact ⟨rfl,h ⟨x,d,li,lo,lc⟩ m8 ⟨u8 hne.symm (g7 x6),d8,u8 (mn (g7 i6) (g7 d6) rfl) (g7 i6),u8 (mn (g7 o6) (g7 d6) rfl) (g7 o6),u8 (mn lc7 (g7 d6) rfl) lc7,(fresh_ne n5 i4).symm,(fresh_ne n7 i6).symm,(fresh_ne n7 o6).symm⟩
  ((a6.trans g7).set n1 u8) n2 (all_el n1 (a2.old n3) (a4.old n5) (a6.old n7))⟩
theorem new_net (hG:G.Ok) (hr:1≤r) (N:NetM m o nm n i u c) (h:∀ m',NetM m' o nm (n+1) i u c→Up o.d m m'→Φ (.int n) m'):callW G r Ψ (.ref 82) [.ref o.x] m Φ :=
 run82 hG hr (s_asg (N.aK (N.aK (iadd_go (setA_go N.1 c134 N.2 (nb rfl) fun m1 d1 u1=>h m1 (N.setN d1 u1) u1)))))
end
section
variable {m m' m'':Mem}{a b l:Addr}{o:MO}{fp:List Addr}
theorem Up.trans (x:Up a m m') (y:Up a m' m''):Up a m m'':=fun zz zz h e=>y h (x h e)
theorem Gr.up (x:Gr m m'):Up a m m':=fun zz zz zz e=>x e
theorem Up.old (u:Up a m m') (ha:m' a=some o) (h:m' l=none):m l=none:=by
 cases e:m l with
 | none=>rfl
 | some q=>exact noS h (u (fresh_ne h ha) e)
end
theorem natL_range_succ (n k:Nat):natL (List.range' n (k+1))=natL (List.range' n k)++[.int ((n+k:Nat):Int)]:=by
 rw [List.range'_concat,natL_app,Nat.one_mul];rfl
theorem b30 {n:Nat} (h:n<1000):n<2^30:=Nat.lt_trans h (nb rfl)
theorem b6 {n:Nat} (h:n<1000):n<1000000:=Nat.lt_trans h (nb rfl)
section
variable {G:GC}{r:Nat}{Ψ:Addr→Mem→Prop}{m:Mem}{o:NetO}{nm:V}{n:Nat}{i u c:List V}{Φ:V→Mem→Prop}
theorem new_nets (hG:G.Ok) (hr:2≤r) {w:Nat} (hw:w<1000) (N:NetM m o nm n i u c) (h:∀ m' l,m l=none→NetM m' o nm (n+w) i u c→m' l=some (.list (natL (List.range' n w)))→Up o.d m m'→Φ (.ref l) m'):callW G r Ψ (.ref 87) [.ref o.x,.int w] m Φ :=
 callW.any (run87 hG hr (s_ret (e_comp quiet_no (w_range (b30 hw) fun a m1 n1 a1 g1 =>
  comp_go (iter_range a1 (b30 hw)) (by rw [range_len];exact b6 hw) (fun k acc μ=>A4 (NetM μ o nm (n+k) i u c) (acc=natL (List.range' n k)) (Up o.d m μ) (μ a=some (.range 0 w 1))) (fun zz zz zz q=>q.4) ⟨N.keep g1,rfl,g1.up,a1⟩
   (fun k acc m2 v Ψ zz q hΨ=>e_meth q.1.1 q.1.2 m_new_net (new_net hG (pr hr rfl) q.1 fun m3 N3 u3=>hΨ _ _ ⟨N3,by rw [q.2,natL_range_succ],q.3.trans u3,u3 (mn q.4 q.1.2 rfl) q.4⟩))
   fun acc m2 q zz l m3 n3 l3 g3=>by
    rw [range_len] at q
    exact h m3 l (q.3.old q.1.2 n3) (q.1.keep g3) (q.2▸l3) (q.3.trans g3.up)))))
end
noncomputable def All2 {α β:Type} (R:α→β→Prop) (xs:List α) (ys:List β):Prop:=A2 (xs.length=ys.length) (∀ ⦃k:Nat⦄ ⦃x y⦄,xs[k]?=some x→ys[k]?=some y→R x y)
section
variable {α β:Type}{R S:α→β→Prop}{xs:List α}{ys:List β}{x:α}{y:β}{k:Nat}
theorem at_lt {α:Type}{l:List α}{k:Nat}{x:α} (h:l[k]?=some x):k<l.length:=(List.getElem?_eq_some_iff.mp h).1
theorem snoc_at {α:Type}{l:List α}{a x:α}{k:Nat}{P:Prop} (h:(l++[a])[k]?=some x) (h1:l[k]?=some x→P) (h2:k=l.length→a=x→P):P:=by
 rcases Nat.lt_or_ge k l.length with q|q
 ·rw [List.getElem?_append_left q] at h;exact h1 h
 ·have e:k=l.length:=by
   have:=at_lt h
   rw [List.length_append] at this
   exact Nat.le_antisymm (Nat.le_of_lt_succ this) q
  subst e
  rw [List.getElem?_concat_length] at h
  exact h2 rfl (Option.some.inj h)
theorem at_snoc {α:Type}{l:List α}{a x:α}{k:Nat} (h:l[k]?=some x):(l++[a])[k]?=some x:=by rw [List.getElem?_append_left (at_lt h)];exact h
theorem All2.nil:All2 R [] []:=⟨rfl,fun zz zz zz h=>noS rfl h⟩
theorem All2.mono (h:All2 R xs ys) (q:∀ x y,R x y→S x y):All2 S xs ys:=⟨h.1,fun zz zz zz a b=>q _ _ (h.2 a b)⟩
theorem All2.snoc (h:All2 R xs ys) (q:R x y):All2 R (xs++[x]) (ys++[y]) :=
 ⟨by rw [List.length_append,List.length_append,h.1];rfl,fun k x' y' a b=>snoc_at a (fun a'=>snoc_at b (fun b'=>h.2 a' b') fun e zz=>absurd (at_lt a') (by rw [e,h.1];exact Nat.lt_irrefl _))
  fun e ea=>snoc_at b (fun b'=>absurd (at_lt b') (by rw [e,h.1];exact Nat.lt_irrefl _)) fun zz eb=>ea▸eb▸q⟩
theorem All2.get {P:Prop} (h:All2 R xs ys) (e:xs[k]?=some x) (q:∀ y,ys[k]?=some y→R x y→P):P :=
 q _ (List.getElem?_eq_getElem (h.1▸at_lt e)) (h.2 e (List.getElem?_eq_getElem (h.1▸at_lt e)))
theorem All2.at {P:Prop} (h:All2 R xs ys) (e:ys[k]?=some y) (q:∀ x,xs[k]?=some x→R x y→P):P :=
 q _ (List.getElem?_eq_getElem (h.1▸at_lt e)) (h.2 (List.getElem?_eq_getElem (h.1▸at_lt e)) e)
end
inductive Kd where
 | and|not|mux|xor|or|buf|lut|nand|nor|xnor|cell|flop|latch
deriving DecidableEq
noncomputable def Kd.str:Kd→Str
 | .and=>ofString "and"|.not=>ofString "not"|.mux=>ofString "mux"|.xor=>ofString "xor"|.or=>ofString "or"|.buf=>ofString "buf"|.lut=>ofString "lut"
 | .nand=>ofString "nand"|.nor=>ofString "nor"|.xnor=>ofString "xnor"|.cell=>ofString "cell"|.flop=>ofString "flop"|.latch=>ofString "latch"
noncomputable def Kd.all:List Kd:=[.and,.not,.mux,.xor,.or,.buf,.lut,.nand,.nor,.xnor,.cell,.flop,.latch]
theorem Kd.inj:∀ a b:Kd,a.str=b.str→a=b:=by
 have h:(Kd.all.all fun a=>Kd.all.all fun b=>decide (a.str=b.str→a=b))=true:=by decide +kernel
 intro a b
 have m:∀ x:Kd,x∈Kd.all:=by intro x;cases x <;> decide
 exact of_decide_eq_true (List.all_eq_true.mp (List.all_eq_true.mp h a (m a)) b (m b))
noncomputable def Kd.state:Kd→Bool
 | .flop=>true
 | .latch=>true
 | _=>false
theorem Kd.eq_dec (a b:Kd):decide (a.str=b.str)=decide (a=b):=by
 by_cases h:a=b
 ·subst h;simp
 ·rw [decide_eq_false h,decide_eq_false fun e=>h (Kd.inj _ _ e)]
theorem Kd.state_dec (a:Kd):(decide (a.str=ofString "flop")||decide (a.str=ofString "latch"))=a.state:=by
 rw [show ofString "flop"=Kd.flop.str from rfl,show ofString "latch"=Kd.latch.str from rfl,Kd.eq_dec,Kd.eq_dec]
 cases a <;> rfl
inductive Par where
 | none
 | tab (n:Nat)
 | cel (n:Nat)
 | flop (e q i:Nat)
 | latch (q i:Nat)
deriving DecidableEq
noncomputable def qName (q:Nat):Str:=ofString "q"++ofString (toString (q:Int))
noncomputable def ParAt (m:Mem) (v:V):Par→Prop
 | .none=>v=.none
 | .tab n=>v=.int n
 | .cel n=>∃ a x,v=.ref a∧m a=some (.tup [.str x,.int n])∧PyData.canLay0 (.str x)=true
 | .flop e q i=>∃ a,v=.ref a∧m a=some (.tup [.int e,.str (qName q),.int i])
 | .latch q i=>∃ a,v=.ref a∧m a=some (.tup [.str (qName q),.int i])
structure Cell where
 kd:Kd
 out:Nat
 ins:List Nat
 par:Par
deriving DecidableEq
inductive CellAt (m:Mem) (v:V) (c:Cell):Prop
 | mk (t b:Addr) (p:V) (hv:v=.ref t) (ht:m t=some (.tup [.str c.kd.str,.int c.out,.ref b,p])) (hb:m b=some (.tup (natL c.ins))) (hp:ParAt m p c.par)
inductive PortAt (m:Mem) (v:V) (p:(Str × List Nat) × Addr):Prop
 | mk (t:Addr) (hv:v=.ref t) (ht:m t=some (.tup [.str p.1.1,.ref p.2])) (hb:m p.2=some (.list (natL p.1.2)))
inductive Ports (m:Mem) (o:NetO) (vs:List V) (ps:List (Str × List Nat)) (bs:List Addr):Prop
 | mk (len:bs.length=ps.length) (all:All2 (PortAt m) vs (ps.zip bs)) (sep:∀ b∈bs,b∉o.all)
noncomputable def Cells (m:Mem) (vs:List V) (cs:List Cell):Prop:=All2 (CellAt m) vs cs
structure NetA where
 count:Nat
 ins:List (Str × List Nat)
 outs:List (Str × List Nat)
 cells:List Cell
inductive NetAt (m:Mem) (o:NetO) (nm:V) (N:NetA) (bi bo:List Addr):Prop
 | mk (vi vo vc:List V) (a:NetM m o nm N.count vi vo vc) (hi:Ports m o vi N.ins bi) (ho:Ports m o vo N.outs bo) (hc:Cells m vc N.cells)
inductive NetR (m:Mem) (v:V) (N:NetA):Prop
 | mk (o:NetO) (nm:V) (bi bo:List Addr) (hv:v=.ref o.x) (hp:nm.plain=true) (h:NetAt m o nm N bi bo)
noncomputable def Tups (m m':Mem):Prop:=∀ ⦃a xs⦄,m a=some (.tup xs)→m' a=some (.tup xs)
section
variable {m m':Mem}{fp:List Addr}{v:V}{c:Cell}{p:Str × List Nat}{b:Addr}{o:NetO}{nm:V}{N:NetA}{bi bo bs:List Addr}{vs:List V}{ps:List (Str × List Nat)}{cs:List Cell}{k:Nat}
theorem Gr.tups (g:Gr m m'):Tups m m':=fun zz zz e=>g e
theorem Up.tups {mo:MO} (u:Up b m m') (h:m b=some mo) (q:Nat.beq 1 mo.no=false):Tups m m':=fun zz zz e=>u (mn e h q) e
theorem Same.tups (s:Same fp m m') (h:∀ a∈fp,∀ xs,m a≠some (.tup xs)):Tups m m':=fun a xs e=>s a _ (fun q=>h a q xs e) e
theorem ParAt.keep {p:Par} (t:Tups m m') (h:ParAt m v p):ParAt m' v p:=by
 cases p with
 | none=>exact h
 | tab=>exact h
 | cel n=>obtain ⟨a,x,h1,h2,h3⟩:=h;exact ⟨a,x,h1,t h2,h3⟩
 | flop=>obtain ⟨a,h1,h2⟩:=h;exact ⟨a,h1,t h2⟩
 | latch=>obtain ⟨a,h1,h2⟩:=h;exact ⟨a,h1,t h2⟩
theorem CellAt.keep (t:Tups m m') (h:CellAt m v c):CellAt m' v c:=by
 obtain ⟨x,b,p,h1,h2,h3,h4⟩:=h
 exact ⟨x,b,p,h1,t h2,t h3,h4.keep t⟩
theorem Cells.keep (t:Tups m m') (h:Cells m vs cs):Cells m' vs cs:=h.mono fun zz zz q=>q.keep t
@[elab_as_elim] theorem CellAt.el {P:V→Prop} (h:CellAt m v c) (q:∀ t b p,m t=some (.tup [.str c.kd.str,.int c.out,.ref b,p])→m b=some (.tup (natL c.ins))→ParAt m p c.par→P (.ref t)):P v:=by
 obtain ⟨x,b,p,h1,h2,h3,h4⟩:=h
 exact h1▸q x b p h2 h3 h4
theorem Cells.at {P:Prop} (h:Cells m vs cs) (e:cs[k]?=some c) (q:∀ t b p,vs[k]?=some (.ref t)→m t=some (.tup [.str c.kd.str,.int c.out,.ref b,p])→m b=some (.tup (natL c.ins))→ParAt m p c.par→P):P :=
 All2.at h e fun v hv hc=>hc.el (P:=fun v=>vs[k]?=some v→P) (fun t b p a b' d e=>q t b p e a b' d) hv
@[elab_as_elim] theorem Cells.get {P:V→Prop} (h:Cells m vs cs) (e:vs[k]?=some v) (q:∀ c t b p,cs[k]?=some c→m t=some (.tup [.str c.kd.str,.int c.out,.ref b,p])→m b=some (.tup (natL c.ins))→ParAt m p c.par→P (.ref t)):P v :=
 All2.get h e fun c hc a=>a.el fun t b p=>q c t b p hc
theorem Cells.len (h:Cells m vs cs):vs.length=cs.length:=h.1
theorem Cells.snoc (h:Cells m vs cs) (q:CellAt m v c):Cells m (vs++[v]) (cs++[c]):=All2.snoc h q
theorem Ports.keep (t:Tups m m') (s:Same fp m m') (hb:∀ b∈bs,b∉fp) (h:Ports m o vs ps bs):Ports m' o vs ps bs :=
 ⟨h.1,⟨h.2.1,fun k v p a b=>by
  obtain ⟨x,h1,h2,h3⟩:=h.2.2 a b
  exact ⟨x,h1,t h2,s _ _ (hb _ (List.of_mem_zip (List.mem_of_getElem? b)).2) h3⟩⟩,h.3⟩
theorem Ports.gr (g:Gr m m') (h:Ports m o vs ps bs):Ports m' o vs ps bs:=h.keep g.tups (g.same (fp:=[])) fun zz zz=>List.not_mem_nil
theorem Ports.up {a:Addr} (h:Ports m o vs ps bs) (u:Up a m m') (t:Tups m m') (ha:a∈o.all):Ports m' o vs ps bs:=h.keep t (u.same (.head _)) fun b hb e=>h.3 b hb (List.mem_singleton.mp e▸ha)
theorem zip_len {α β:Type}{l:List α}{r:List β} (h:r.length=l.length):(l.zip r).length=l.length:=by rw [List.length_zip,h,Nat.min_self]
theorem Ports.snoc (h:Ports m o vs ps bs) (q:PortAt m v (p,b)) (hb:b∉o.all):Ports m o (vs++[v]) (ps++[p]) (bs++[b]) :=
 ⟨by rw [List.length_append,List.length_append,h.1];rfl,by rw [List.zip_append h.1.symm];exact h.2.snoc q,fun x hx=>(List.mem_append.mp hx).elim (h.3 x) fun e=>List.mem_singleton.mp e▸hb⟩
theorem Ports.len (h:Ports m o vs ps bs):vs.length=ps.length:=h.2.1.trans (zip_len h.1)
@[elab_as_elim] theorem Ports.get {P:V→Prop} (h:Ports m o vs ps bs) (e:vs[k]?=some v) (q:∀ p b t,ps[k]?=some p→b∈bs→m t=some (.tup [.str p.1,.ref b])→m b=some (.list (natL p.2))→P (.ref t)):P v :=
 All2.get h.2 e fun p hp a=>by
  obtain ⟨x,h1,h2,h3⟩:=a
  have hz:=List.getElem?_zip_eq_some.mp hp
  exact h1▸q p.1 p.2 x hz.1 (List.mem_of_getElem? hz.2) h2 h3
theorem NetAt.keep (t:Tups m m') (s:Same fp m m') (hx:o.x∉fp) (h:∀ a∈o.all,a∉fp) (h1:∀ b∈bi,b∉fp) (h2:∀ b∈bo,b∉fp) (x:NetAt m o nm N bi bo):NetAt m' o nm N bi bo:=by
 obtain ⟨vi,vo,vc,a,b,c,d⟩:=x
 exact ⟨vi,vo,vc,a.same s hx h,b.keep t s h1,c.keep t s h2,d.keep t⟩
theorem NetAt.gr (g:Gr m m') (x:NetAt m o nm N bi bo):NetAt m' o nm N bi bo:=by
 obtain ⟨vi,vo,vc,a,b,c,d⟩:=x
 exact ⟨vi,vo,vc,a.keep g,b.gr g,c.gr g,d.keep g.tups⟩
theorem NetR.keep (g:Gr m m') (h:NetR m v N):NetR m' v N:=by
 obtain ⟨o,nm,bi,bo,h1,hp,h2⟩:=h
 exact ⟨o,nm,bi,bo,h1,hp,h2.gr g⟩
@[elab_as_elim] theorem NetR.el {C:Addr→Prop}{x:Addr} (h:NetR m (.ref x) N) (k:∀ o nm vi vo vc bi bo,NetM m o nm N.count vi vo vc→Ports m o vi N.ins bi→Ports m o vo N.outs bo→Cells m vc N.cells→C o.x):C x:=by
 obtain ⟨o,nm,bi,bo,h1,hp,vi,vo,vc,a,b,c,d⟩:=h
 exact V.ref.inj h1▸k o nm vi vo vc bi bo a b c d
end
theorem s_expr {X:PX}{e:Ex}{r:Sxs}{σ:St}{Φ:Fl→St→Prop} (h:(sem X e).val σ fun v σ1=>isNoRef v=true∧semB X r σ1 Φ):semB X (.cons (.expr e) r) σ Φ:=h
theorem b6' {n:Nat} (h:n<900000):n<1000000:=Nat.lt_trans h (nb rfl)
theorem nn {m:Mem}{a:Addr}{o:MO} (h:m a=some o):m a≠none:=fun e=>noS e h
section
variable {m m':Mem}{o:NetO}{nm:V}{n:Nat}{N:NetA}{bi bo:List Addr}{i u c:List V}{b:Addr}
theorem NetO.mD:o.d∈o.all:=.head _
theorem NetO.mI:o.li∈o.all:=.tail _ (.head _)
theorem NetO.mO:o.lo∈o.all:=.tail _ (.tail _ (.head _))
theorem NetO.mC:o.lc∈o.all:=.tail _ (.tail _ (.tail _ (.head _)))
theorem NetM.dm (a:NetM m o nm n i u c):∀ q∈o.all,m q≠none:=all_el (nn a.2) (nn a.3) (nn a.4) (nn a.5)
theorem NetM.new (a:NetM m o nm n i u c) (h:m b=none):b∉o.all:=fun q=>a.dm b q h
theorem nt {m:Mem}{a:Addr}{mo:MO}{xs:List V} (h:m a=some mo) (q:Nat.beq 1 mo.no=false):m a≠some (.tup xs):=fun e=>mn e h q rfl
theorem NetAt.notup (x:NetAt m o nm N bi bo):∀ a∈o.all,∀ xs,m a≠some (.tup xs):=by
 obtain ⟨_,_,_,a,_,_,_⟩:=x
 exact all_el (fun zz=>nt a.2 rfl) (fun zz=>nt a.3 rfl) (fun zz=>nt a.4 rfl) fun zz=>nt a.5 rfl
theorem NetAt.tups {fp:List Addr} (x:NetAt m o nm N bi bo) (s:Same fp m m') (h:∀ a∈fp,a∈o.all):Tups m m':=s.tups fun a ha=>x.notup a (h a ha)
end
section
variable {G:GC}{r:Nat}{Ψ:Addr→Mem→Prop}{m:Mem}{o:NetO}{nm:V}{N:NetA}{bi bo:List Addr}{Φ:V→Mem→Prop}{out kind ins par:V}{xs:List V}{name:Str}{l:List Nat}
theorem drive (hG:G.Ok) (hr:1≤r) (hc:N.cells.length<900000) (x:NetAt m o nm N bi bo) (hi:seqOf m ins=some xs)
  (h:∀ m' t b,m' t=some (.tup [kind,out,.ref b,par])→m' b=some (.tup xs)→(∀ c,CellAt m' (.ref t) c→NetAt m' o nm { N with cells:=N.cells++[c] } bi bo)→Up o.lc m m'→Φ .none m'):callW G r Ψ (.ref 117) [.ref o.x,out,kind,ins,par] m Φ:=by
 obtain ⟨vi,vo,vc,a,hpi,hpo,hcs⟩:=x
 refine run117 hG hr (s_app (fun zz h=>a.aC h) a.5 (tupOf_go hi fun b m1 b1 g1=>w_tup (nb rfl) fun t m2 n2 t2 g2=>app_go (g2 (g1 a.5)) (by rw [hcs.len];exact b6' hc) fun m3 c3 u3=>?_))
 have a2:=a.keep (g1.trans g2)
 have U:=(g1.trans g2).up.trans u3
 have T:=U.tups a.5 rfl
 exact h m3 t b (u3 (mn t2 a2.5 rfl) t2) (u3 (mn (g2 b1) a2.5 rfl) (g2 b1)) (fun c hc'=>⟨vi,vo,_,a2.setC c3 u3,hpi.up U T o.mC,hpo.up U T o.mC,(hcs.keep T).snoc hc'⟩) U
theorem add_cell_b (hG:G.Ok) (hr:2≤r) (hc:N.cells.length<900000) (x:NetAt m o nm N bi bo) (hi:seqOf m ins=some xs)
  (h:∀ m' t b,m' t=some (.tup [kind,.int N.count,.ref b,par])→m' b=some (.tup xs)→(∀ c,CellAt m' (.ref t) c→NetAt m' o nm { N with count:=N.count+1,cells:=N.cells++[c] } bi bo)→Same [o.d,o.lc] m m'→Φ (.int N.count) m'):semB ⟨G,r - 1,Ψ⟩ ir109 ⟨[some (.ref o.x),some kind,some ins,some par,none],m⟩ (fun fl σ'=>Φ fl.val σ'.m):=by
 obtain ⟨vi,vo,vc,a,hpi,hpo,hcs⟩:=x
 refine s_asg (e_meth a.1 a.2 m_new_net (new_net hG (pr hr rfl) a fun m1 a1 u1=>?_))
 have T:=u1.tups a.2 rfl
 have hi1:seqOf m1 ins=some xs:=seqOf_el (P:=fun v=>seqOf m1 v=some xs) hi (fun l h=>seqOf_list (u1 (mn h a.2 rfl) h)) fun l h=>seqOf_tup (u1 (mn h a.2 rfl) h)
 exact s_expr (e_meth a1.1 a1.2 m_drive (drive (N:={ N with count:=N.count+1 }) hG (pr hr rfl) hc ⟨vi,vo,vc,a1,hpi.up u1 T o.mD,hpo.up u1 T o.mD,hcs.keep T⟩ hi1
  fun m2 t b h1 h2 h3 u2=>⟨rfl,h m2 t b h1 h2 h3 ((u1.same (.head _)).trans (u2.same (.tail _ (.head _))))⟩))
theorem add_cell (hG:G.Ok) (hr:2≤r) (hc:N.cells.length<900000) (x:NetAt m o nm N bi bo) (hi:seqOf m ins=some xs)
  (h:∀ m' t b,m' t=some (.tup [kind,.int N.count,.ref b,par])→m' b=some (.tup xs)→(∀ c,CellAt m' (.ref t) c→NetAt m' o nm { N with count:=N.count+1,cells:=N.cells++[c] } bi bo)→Same [o.d,o.lc] m m'→Φ (.int N.count) m'):callW G r Ψ (.ref 109) [.ref o.x,kind,ins,par] m Φ:=run109 hG hr (add_cell_b hG hr hc x hi h)
theorem add_cell3 (hG:G.Ok) (hr:2≤r) (hc:N.cells.length<900000) (x:NetAt m o nm N bi bo) (hi:seqOf m ins=some xs)
  (h:∀ m' t b,m' t=some (.tup [kind,.int N.count,.ref b,.none])→m' b=some (.tup xs)→(∀ c,CellAt m' (.ref t) c→NetAt m' o nm { N with count:=N.count+1,cells:=N.cells++[c] } bi bo)→Same [o.d,o.lc] m m'→Φ (.int N.count) m'):callW G r Ψ (.ref 109) [.ref o.x,kind,ins] m Φ:=run109d hG hr (add_cell_b hG hr hc x hi h)
theorem add_output (hG:G.Ok) (hr:1≤r) (hc:N.outs.length<900000) (x:NetAt m o nm N bi bo) (hi:seqOf m ins=some (natL l))
  (h:∀ m' b,m b=none→NetAt m' o nm { N with outs:=N.outs++[(name,l)] } bi (bo++[b])→Up o.lo m m'→Φ .none m'):callW G r Ψ (.ref 101) [.ref o.x,.str name,ins] m Φ:=by
 obtain ⟨vi,vo,vc,a,hpi,hpo,hcs⟩:=x
 refine run101 hG hr (s_app (fun zz h=>a.aO h) a.4 (listOf_go hi fun b m1 n1 b1 g1=>w_tup (nb rfl) fun t m2 n2 t2 g2=>app_go (g2 (g1 a.4)) (by rw [hpo.len];exact b6' hc) fun m3 c3 u3=>?_))
 have a2:=a.keep (g1.trans g2)
 have U:=(g1.trans g2).up.trans u3
 have T:=U.tups a.4 rfl
 exact h m3 b n1 ⟨vi,_,vc,a2.setO c3 u3,hpi.up U T o.mO,(hpo.up U T o.mO).snoc ⟨t,rfl,u3 (mn t2 a2.4 rfl) t2,u3 (fresh_ne n1 a.4) (g2 b1)⟩ (a.new n1),hcs.keep T⟩ U
theorem add_input (hG:G.Ok) (hr:3≤r) {w:Nat} (hw:w<1000) (hc:N.ins.length<900000) (x:NetAt m o nm N bi bo)
  (h:∀ m' b l,m b=none→m l=none→l≠b→m' l=some (.list (natL (List.range' N.count w)))→NetAt m' o nm { N with count:=N.count+w,ins:=N.ins++[(name,List.range' N.count w)] } (bi++[b]) bo→Same [o.d,o.li] m m'→Φ (.ref l) m'):callW G r Ψ (.ref 94) [.ref o.x,.str name,.int w] m Φ:=by
 obtain ⟨vi,vo,vc,a,hpi,hpo,hcs⟩:=x
 refine run94 hG hr (s_asg (e_meth a.1 a.2 m_new_nets (new_nets hG (pr hr rfl) hw a fun m1 l nl a1 l1 u1=>s_app (fun zz h=>a1.aI h) a1.3 (listOf_go (seqOf_list l1) fun b m2 n2 b2 g2=>w_tup (nb rfl) fun t m3 n3 t3 g3=>app_go (g3 (g2 a1.3)) (by rw [hpi.len];exact b6' hc) fun m4 c4 u4=>?_))))
 have a3:=a1.keep (g2.trans g3)
 have T1:=u1.tups a.2 rfl
 have U:=(g2.trans g3).up.trans u4
 have T:=U.tups a1.3 rfl
 have lb:=u1.old a1.2 n2
 exact h m4 b l lb nl (fresh_ne n2 l1).symm (U (fresh_ne nl a.3) l1) ⟨_,vo,vc,a3.setI c4 u4,((hpi.up u1 T1 o.mD).up U T o.mI).snoc ⟨t,rfl,u4 (mn t3 a3.3 rfl) t3,u4 (fresh_ne n2 a1.3) (g3 b2)⟩ (a1.new n2),(hpo.up u1 T1 o.mD).up U T o.mI,(hcs.keep T1).keep T⟩
  ((u1.same (.head _)).trans (U.same (.tail _ (.head _))))
end
noncomputable def NetA.states (N:NetA):List Cell:=N.cells.filter (·.kd.state)
noncomputable def NetA.srcs (N:NetA):List Nat:=N.ins.flatMap (·.2)++N.states.map (·.out)
noncomputable def NetA.snks (N:NetA):List Nat:=N.outs.flatMap (·.2)++N.states.flatMap (·.ins)
inductive NetA.Small (N:NetA):Prop
 | mk (ins:N.ins.length<1000) (outs:N.outs.length<1000) (cells:N.cells.length<1000) (srcs:N.srcs.length<100000) (snks:N.snks.length<100000) (tot:(N.cells.flatMap (·.ins)).length<100000)
section
variable {α β:Type}{l:List α}{k:Nat}{x:α}{p:α→Bool}
theorem flat_take (f:α→List β) (h:l[k]?=some x):(l.take (k+1)).flatMap f=(l.take k).flatMap f++f x:=by
 rw [List.take_add_one,h,List.flatMap_append];exact congrArg _ (List.flatMap_singleton f x)
theorem flat_le (f:α→List β) (h:l[k]?=some x):((l.take k).flatMap f).length+(f x).length≤(l.flatMap f).length:=by
 rw [←List.length_append,←flat_take f h]
 conv=>rhs;rw [←List.take_append_drop (k+1) l,List.flatMap_append,List.length_append]
 exact Nat.le_add_right _ _
theorem filt_take (h:l[k]?=some x):(l.take (k+1)).filter p=(l.take k).filter p++if p x then [x] else []:=by
 rw [List.take_add_one,h,List.filter_append];exact congrArg _ List.filter_cons
theorem filt_flat (f:α→List β):∀ l:List α,(l.filter p).flatMap f=l.flatMap fun c=>if p c then f c else []
 | []=>rfl
 | a::l=>by
  rw [List.flatMap_cons,←filt_flat f l,List.filter_cons]
  cases p a <;> rfl
theorem flat_one (f:α→β) (l:List α):l.map f=l.flatMap fun c=>[f c]:=List.map_eq_flatMap
end
theorem b6'' {n:Nat} (h:n<100000):n<1000000:=Nat.lt_trans h (nb rfl)
theorem isState {G:GC}{r:Nat}{Ψ:Addr→Mem→Prop}{m:Mem}{k:Kd}{Φ:V→Mem→Prop} (hG:G.Ok) (hr:1≤r) (h:Φ (.bool k.state) m):callW G r Ψ (.ref 61) [.str k.str] m Φ :=
 is_state_kind hG hr (by rw [Kd.state_dec];exact h)
noncomputable def stO (c:Cell):List Nat:=if c.kd.state then [c.out] else []
noncomputable def stI (c:Cell):List Nat:=if c.kd.state then c.ins else []
theorem stO_t {c:Cell} (h:c.kd.state=true):stO c=[c.out]:=if_pos h
theorem stO_f {c:Cell} (h:c.kd.state=false):stO c=[]:=if_neg (h▸Bool.false_ne_true)
theorem stI_t {c:Cell} (h:c.kd.state=true):stI c=c.ins:=if_pos h
theorem stI_f {c:Cell} (h:c.kd.state=false):stI c=[]:=if_neg (h▸Bool.false_ne_true)
theorem srcs_eq (N:NetA):N.srcs=N.ins.flatMap (·.2)++N.cells.flatMap stO:=by
 unfold NetA.srcs NetA.states
 rw [flat_one,filt_flat];rfl
theorem snks_eq (N:NetA):N.snks=N.outs.flatMap (·.2)++N.cells.flatMap stI:=by
 unfold NetA.snks NetA.states
 rw [filt_flat];rfl
section
variable {X:PX}{m m0:Mem}{o:NetO}{vs:List V}{ps:List (Str × List Nat)}{bs:List Addr}{a l:Addr}{y:Option V}{r:Sxs}{Φ:Fl→St→Prop}
theorem ports_loop (hp:Ports m0 o vs ps bs) (ha:m0 a=some (.list vs)) (hn:m0 l=none) (hl:m l=some (.list [])) (g:Gr m0 m) (hb:(ps.flatMap (·.2)).length<1000000)
  (fin:∀ x2 x3 m',m' l=some (.list (natL (ps.flatMap (·.2))))→Gr m0 m'→semB X r ⟨[y,some (.ref l),x2,x3,none],m'⟩ Φ):forK X (.tup (.cons (.name 2) (.cons (.name 3) .nil))) (.cons (.expr (.ext (.var 1) (.var 3))) .nil) r Φ (.ref a) ⟨[y,some (.ref l),none,none,none],m⟩ :=
 for_go (T:=Option V × Option V) (F:=fun x=>[y,some (.ref l),x.1,x.2,none]) (x0:=(none,none)) (iter_list (g ha)) (fun k zz μ=>A2 (μ l=some (.list (natL ((ps.take k).flatMap (·.2))))) (Gr m0 μ)) (fun zz zz zz q=>q.2 ha) ⟨hl,g⟩
  (fun k x m2 v Ψ hv q hΨ=>by
   refine hp.get hv fun p b t hp' zz ht hbl=>t_tup2 (q.2 ht) (s_ext (fun zz h=>h) q.1 (ext_go q.1 (seqOf_list (q.2 hbl)) (by rw [natL_len,natL_len];exact Nat.lt_of_le_of_lt (flat_le _ hp') hb) fun m3 k3 u3=>hΨ (_,_) m3 ⟨?_,q.2.set hn u3⟩))
   rw [flat_take _ hp',natL_app];exact k3)
  fun x m2 q=>by
   rw [hp.len,List.take_length] at q
   exact fin _ _ _ q.1 q.2
end
section
variable {G:GC}{r:Nat}{Ψ:Addr→Mem→Prop}{m:Mem}{x:Addr}{N:NetA}{Φ:V→Mem→Prop}
theorem sources (hG:G.Ok) (hr:2≤r) (hN:NetR m (.ref x) N) (S:N.Small) (h:∀ m' l,m l=none→m' l=some (.list (natL N.srcs))→Gr m m'→Φ (.ref l) m'):callW G r Ψ (.ref 124) [.ref x] m Φ:=by
 refine hN.el fun o nm vi vo vc bi bo a hpi hpo hcs=>?_
 have hS:=S.4
 rw [srcs_eq] at h hS
 have hS:=b6'' hS
 refine run124 hG hr (s_asg (w_list (nb rfl) fun l m1 n1 l1 g1=>s_for ((a.keep g1).aI (ports_loop hpi a.3 n1 l1 g1 (Nat.lt_of_le_of_lt (by rw [List.length_append];exact Nat.le_add_right _ _) hS) fun x2 x3 m2 l2 g2=>s_for ((a.keep g2).aC ?_)))))
 refine for_go (F:=fun y=>[some (.ref o.x),some (.ref l),x2,x3,y]) (iter_list (g2 a.5)) (fun k zz μ=>A2 (μ l=some (.list (natL (N.ins.flatMap (·.2)++(N.cells.take k).flatMap stO)))) (Gr m μ)) (fun zz zz zz q=>q.2 a.5) ⟨by rw [List.take_zero,List.flatMap_nil,List.append_nil];exact l2,g2⟩ (fun k x m3 v Ψ' hv q hΨ=>?_) fun x m3 q=>h m3 l n1 ?_ q.2
 ·refine hcs.get hv fun c t b p hc ht zz zz=>s_if (it_t (k:=0) (q.2 ht) rfl (isState hG (pr hr rfl) (if_b (fun hk=>?_) fun hk=>?_)))
  ·refine s_app (fun zz h=>h) q.1 (it_t (k:=1) (q.2 ht) rfl (app_go q.1 ?_ fun m4 l4 u4=>hΨ _ m4 ⟨?_,q.2.set n1 u4⟩))
   ·refine Nat.lt_of_le_of_lt ?_ hS
    rw [natL_len,List.length_append,List.length_append]
    exact Nat.add_le_add_left (Nat.le_trans (Nat.le_add_right _ _) (flat_le stO hc)) _
   ·rw [flat_take _ hc,stO_t hk,←List.append_assoc,natL_snoc];exact l4
  ·refine hΨ _ m3 ⟨?_,q.2⟩
   rw [flat_take _ hc,stO_f hk,List.append_nil];exact q.1
 ·have:=q.1
  rw [hcs.len,List.take_length] at this
  exact this
theorem sinks (hG:G.Ok) (hr:2≤r) (hN:NetR m (.ref x) N) (S:N.Small) (h:∀ m' l,m l=none→m' l=some (.list (natL N.snks))→Gr m m'→Φ (.ref l) m'):callW G r Ψ (.ref 131) [.ref x] m Φ:=by
 refine hN.el fun o nm vi vo vc bi bo a hpi hpo hcs=>?_
 have hS:=S.5
 rw [snks_eq] at h hS
 have hS:=b6'' hS
 refine run131 hG hr (s_asg (w_list (nb rfl) fun l m1 n1 l1 g1=>s_for ((a.keep g1).aO (ports_loop hpo a.4 n1 l1 g1 (Nat.lt_of_le_of_lt (by rw [List.length_append];exact Nat.le_add_right _ _) hS) fun x2 x3 m2 l2 g2=>s_for ((a.keep g2).aC ?_)))))
 refine for_go (F:=fun y=>[some (.ref o.x),some (.ref l),x2,x3,y]) (iter_list (g2 a.5)) (fun k zz μ=>A2 (μ l=some (.list (natL (N.outs.flatMap (·.2)++(N.cells.take k).flatMap stI)))) (Gr m μ)) (fun zz zz zz q=>q.2 a.5) ⟨by rw [List.take_zero,List.flatMap_nil,List.append_nil];exact l2,g2⟩ (fun k x m3 v Ψ' hv q hΨ=>?_) fun x m3 q=>h m3 l n1 ?_ q.2
 ·refine hcs.get hv fun c t b p hc ht hb zz=>s_if (it_t (k:=0) (q.2 ht) rfl (isState hG (pr hr rfl) (if_b (fun hk=>?_) fun hk=>?_)))
  ·refine s_ext (fun zz h=>h) q.1 (it_t (k:=2) (q.2 ht) rfl (ext_go q.1 (seqOf_tup (q.2 hb)) ?_ fun m4 l4 u4=>hΨ _ m4 ⟨?_,q.2.set n1 u4⟩))
   ·refine Nat.lt_of_le_of_lt ?_ hS
    rw [natL_len,natL_len,List.length_append,List.length_append,Nat.add_assoc,←stI_t hk]
    exact Nat.add_le_add_left (flat_le stI hc) _
   ·rw [flat_take _ hc,stI_t hk,←List.append_assoc,natL_app];exact l4
  ·refine hΨ _ m3 ⟨?_,q.2⟩
   rw [flat_take _ hc,stI_f hk,List.append_nil];exact q.1
 ·have:=q.1
  rw [hcs.len,List.take_length] at this
  exact this
noncomputable def isSt (cs:List Cell) (i:Nat):Bool:=match cs[i]? with
 | some c=>c.kd.state
 | none=>false
theorem isSt_at {cs:List Cell}{i:Nat}{c:Cell} (h:cs[i]?=some c):isSt cs i=c.kd.state:=by unfold isSt;rw [h]
noncomputable def NetA.stIdx (N:NetA):List Nat:=(List.range N.cells.length).filter (isSt N.cells)
theorem rangeF_succ (p:Nat→Bool) (k:Nat):(List.range (k+1)).filter p=(List.range k).filter p++if p k then [k] else []:=by
 rw [List.range_succ,List.filter_append];exact congrArg _ List.filter_cons
theorem rangeF_len (p:Nat→Bool) (k:Nat):((List.range k).filter p).length≤k:=Nat.le_trans (List.length_filter_le _ _) (Nat.le_of_eq List.length_range)
theorem state_cells (hG:G.Ok) (hr:2≤r) (hN:NetR m (.ref x) N) (S:N.Small) (h:∀ m' l,m l=none→m' l=some (.list (natL N.stIdx))→Gr m m'→Φ (.ref l) m'):callW G r Ψ (.ref 145) [.ref x] m Φ:=by
 refine hN.el fun o nm vi vo vc bi bo a hpi hpo hcs=>?_
 refine run145 hG hr (s_asg (w_list (nb rfl) fun l m1 n1 l1 g1=>s_for ((a.keep g1).aC (len_l (g1 a.5) hcs.len (w_range (b30 S.3) fun ra m2 n2 r2 g2=>?_)))))
 refine for_range (F:=fun y=>[some (.ref o.x),some (.ref l),y]) r2 (b30 S.3) (fun k zz μ=>A3 (μ l=some (.list (natL ((List.range k).filter (isSt N.cells))))) (μ ra=some (.range 0 N.cells.length 1)) (Gr m μ)) (fun zz zz zz q=>q.2) ⟨g2 l1,r2,g1.trans g2⟩ (fun k x m3 Ψ' hk q hΨ=>?_) fun x m3 q=>h m3 l n1 q.1 q.3
 have hc:=List.getElem?_eq_getElem hk
 refine hcs.at hc fun t b p hv ht zz zz=>s_if ((a.keep q.3).aC (it_l (q.3 a.5) hv (it_t (k:=0) (q.3 ht) rfl (isState hG (pr hr rfl) (if_b (fun hs=>?_) fun hs=>?_)))))
 ·refine s_app (fun zz h=>h) q.1 (app_go q.1 (by rw [natL_len];exact Nat.lt_of_le_of_lt (rangeF_len _ _) (b6 (Nat.lt_trans hk S.3))) fun m4 l4 u4=>hΨ _ m4 ⟨?_,u4 (mn q.2 q.1 rfl) q.2,q.3.set n1 u4⟩)
  rw [rangeF_succ,isSt_at hc,hs,if_pos rfl,natL_snoc];exact l4
 ·refine hΨ _ m3 ⟨?_,q.2,q.3⟩
  rw [rangeF_succ,isSt_at hc,hs,if_neg Bool.false_ne_true,List.append_nil];exact q.1
end
theorem par {P:Nat→Prop} (a:Nat) (h0:a%2=0→P 0) (h1:a%2=1→P 1):P (a%2):=(Nat.mod_two_eq_zero_or_one a).elim (fun e=>e▸h0 e) fun e=>e▸h1 e
theorem xmod (a b:Nat):(a ^^^ b)%2=a%2 ^^^ b%2:=Nat.xor_mod_two_pow (a:=a) (b:=b) (n:=1)
theorem xor1_div (r:Nat):(r ^^^ 1) / 2=r / 2:=(Nat.xor_div_two (a:=r) (b:=1)).trans (Nat.xor_zero _)
theorem xor1_mod (r:Nat):(r ^^^ 1)%2=1 - r%2:=(xmod r 1).trans (par (P:=fun p=>p ^^^ 1%2=1 - p) r (fun zz=>rfl) fun zz=>rfl)
noncomputable def lit (vals:Nat→Bool) (q:Nat):Bool:=vals (q / 2) != decide (q%2=1)
abbrev Nodes:=List (Option (Nat × Nat))
inductive Cons (ns:Nodes) (vals:Nat→Bool):Prop
 | mk (zero:vals 0=false) (node:∀ n l r,ns[n]?=some (some (l,r))→vals n=(lit vals l&&lit vals r))
section
variable {ns:Nodes}{vals:Nat→Bool}
theorem lit0 (h:Cons ns vals):lit vals 0=false:=by unfold lit;rw [Nat.zero_div,h.1];rfl
theorem lit1 (h:Cons ns vals):lit vals 1=true:=by unfold lit;rw [show 1 / 2=0 from rfl,h.1];rfl
theorem lit_even (n:Nat):lit vals (2*n)=vals n:=by
 unfold lit
 rw [Nat.mul_div_cancel_left n Nat.two_pos,Nat.mul_mod_right]
 exact Bool.bne_false _
theorem lit_not (q:Nat):lit vals (q ^^^ 1)=!lit vals q:=by
 unfold lit
 rw [xor1_div,xor1_mod]
 exact par (P:=fun p=>(vals (q / 2) != decide (1 - p=1))=!(vals (q / 2) != decide (p=1))) q (fun zz=>by cases vals (q / 2) <;> rfl) fun zz=>by cases vals (q / 2) <;> rfl
end
theorem half_lt {q n:Nat} (h:q<2*n):q / 2<n:=Nat.div_lt_of_lt_mul h
theorem lt_half {q n:Nat} (h:q / 2<n):q<2*n:=by rw [Nat.mul_comm];exact (Nat.div_lt_iff_lt_mul Nat.two_pos).mp h
theorem xor1_lt {q n:Nat} (h:q<2*n):q ^^^ 1<2*n:=lt_half (xor1_div q▸half_lt h)
structure AigA where
 nodes:Nodes
 ins:List Nat
 outs:List Nat
inductive AigA.Ok (A:AigA):Prop
 | mk (pos:A.nodes[0]?=some none) (low:∀ n l r,A.nodes[n]?=some (some (l,r))→l<2*n∧r<2*n)
inductive AigA.Le (A B:AigA):Prop
 | mk (e:Nodes) (h:B.nodes=A.nodes++e) (he:∀ x∈e,x≠none) (ins:B.ins=A.ins) (outs:B.outs=A.outs)
theorem AigA.Le.refl (A:AigA):A.Le A:=⟨[],(List.append_nil _).symm,fun zz h=>(nomatch h),rfl,rfl⟩
theorem AigA.Le.trans {A B C:AigA} (x:A.Le B) (y:B.Le C):A.Le C:=by
 obtain ⟨e,h1,h2,h3,h4⟩:=x
 obtain ⟨f,k1,k2,k3,k4⟩:=y
 exact ⟨e++f,by rw [k1,h1,List.append_assoc],fun z hz=>(List.mem_append.mp hz).elim (h2 z) (k2 z),k3.trans h3,k4.trans h4⟩
theorem AigA.Le.len {A B:AigA} (x:A.Le B):A.nodes.length≤B.nodes.length:=by
 obtain ⟨e,h1,_,_,_⟩:=x
 rw [h1,List.length_append];exact Nat.le_add_right _ _
theorem AigA.Le.at {A B:AigA} (x:A.Le B) {n:Nat}{v:Option (Nat × Nat)} (h:A.nodes[n]?=some v):B.nodes[n]?=some v:=by
 obtain ⟨e,h1,_,_,_⟩:=x
 rw [h1,List.getElem?_append_left (at_lt h)];exact h
theorem AigA.Le.cons {A B:AigA} (x:A.Le B) {vals:Nat→Bool} (h:Cons B.nodes vals):Cons A.nodes vals:=⟨h.1,fun n l r q=>h.2 n l r (x.at q)⟩
structure AigO where
 x:Addr
 d:Addr
 ln:Addr
 li:Addr
 lo:Addr
 lt:Addr
noncomputable def NodeAt (m:Mem) (v:V):Option (Nat × Nat)→Prop
 | none=>v=.none
 | some p=>∃ t,v=.ref t∧m t=some (.tup [.int p.1,.int p.2])
noncomputable def NodesAt (m:Mem) (vs:List V) (ns:Nodes):Prop:=All2 (NodeAt m) vs ns
theorem NodeAt.keep {m m':Mem} (t:Tups m m') {v:V}{n:Option (Nat × Nat)} (h:NodeAt m v n):NodeAt m' v n:=by
 cases n with
 | none=>exact h
 | some p=>obtain ⟨a,h1,h2⟩:=h;exact ⟨a,h1,t h2⟩
theorem NodesAt.keep {m m':Mem} (t:Tups m m') {vs:List V}{ns:Nodes} (h:NodesAt m vs ns):NodesAt m' vs ns:=h.mono fun zz zz q=>q.keep t
noncomputable def pairK (l r:Nat):K:=.tup [.int l,.int r]
inductive HitAt (v:V) (ns:Nodes) (l r:Nat):Prop
 | mk (n:Nat) (hv:v=.int n) (h:ns[n]?=some (some (l,r)))
inductive TabOk (es:List (K × V)) (ns:Nodes):Prop
 | mk (len:es.length≤ns.length) (hit:∀ l r v,dget (pairK l r) es=some v→HitAt v ns l r)
noncomputable def AigO.f (o:AigO):MO:=.attrs [(.nodes,.ref o.ln),(.inputs,.ref o.li),(.outputs,.ref o.lo),(.table,.ref o.lt)]
inductive AigM (m:Mem) (o:AigO) (vs:List V) (A:AigA) (es:List (K × V)):Prop
 | mk (x_:m o.x=some (.inst 261 o.d)) (d_:m o.d=some o.f) (ln_:m o.ln=some (.list vs)) (li_:m o.li=some (.list (natL A.ins))) (lo_:m o.lo=some (.list (natL A.outs))) (lt_:m o.lt=some (.dict es))
  (ni:o.ln≠o.li) (no:o.ln≠o.lo) (io:o.li≠o.lo) (ns:NodesAt m vs A.nodes) (tab:TabOk es A.nodes)
inductive AigAt (m:Mem) (o:AigO) (A:AigA):Prop
 | mk (vs:List V) (es:List (K × V)) (ok:A.Ok) (a:AigM m o vs A es)
noncomputable def AigO.all (o:AigO):List Addr:=[o.d,o.ln,o.li,o.lo,o.lt]
theorem aall_el {o:AigO}{P:Addr→Prop} (h1:P o.d) (h2:P o.ln) (h3:P o.li) (h4:P o.lo) (h5:P o.lt):∀ a∈o.all,P a:=by
 intro a h
 simp only [AigO.all,List.mem_cons,List.not_mem_nil,or_false] at h
 rcases h with rfl|rfl|rfl|rfl|rfl <;> assumption
section
variable {m m':Mem}{o:AigO}{vs:List V}{A:AigA}{es es':List (K × V)}{v:V}{n:Option (Nat × Nat)}{ρ:List (Option V)}{Φ:V→St→Prop}{i:Nat}
theorem AigM.same {fp:List Addr} (N:AigM m o vs A es) (s:Same fp m m') (t:Tups m m') (hx:o.x∉fp) (h:∀ a∈o.all,a∉fp):AigM m' o vs A es :=
 ⟨s _ _ hx N.1,s _ _ (h _ (.head _)) N.2,s _ _ (h _ (.tail _ (.head _))) N.3,s _ _ (h _ (.tail _ (.tail _ (.head _)))) N.4,s _ _ (h _ (.tail _ (.tail _ (.tail _ (.head _))))) N.5,s _ _ (h _ (.tail _ (.tail _ (.tail _ (.tail _ (.head _)))))) N.6,N.7,N.8,N.9,N.10.keep t,N.11⟩
theorem AigM.keep (N:AigM m o vs A es) (s:Gr m m'):AigM m' o vs A es:=⟨s N.1,s N.2,s N.3,s N.4,s N.5,s N.6,N.7,N.8,N.9,N.10.keep s.tups,N.11⟩
theorem AigAt.keep (N:AigAt m o A) (s:Gr m m'):AigAt m' o A:=by
 obtain ⟨vs,es,ok,a⟩:=N
 exact ⟨vs,es,ok,a.keep s⟩
theorem AigAt.ok (N:AigAt m o A):A.Ok:=by
 obtain ⟨vs,es,ok,a⟩:=N
 exact ok
theorem AigAt.x (N:AigAt m o A):m o.x=some (.inst 261 o.d):=by
 obtain ⟨vs,es,ok,a⟩:=N
 exact a.1
theorem AigAt.d (N:AigAt m o A):m o.d=some o.f:=by
 obtain ⟨vs,es,ok,a⟩:=N
 exact a.2
theorem AigM.attr (N:AigM m o vs A es) {a:Att} (hv:aget a [(.nodes,.ref o.ln),(.inputs,.ref o.li),(.outputs,.ref o.lo),(.table,.ref o.lt)]=some v) (hp:v.plain=true) (h:Φ v ⟨ρ,m⟩):attrW (.ref o.x) a ⟨ρ,m⟩ Φ:=attr_go N.1 c261 N.2 hv hp h
theorem AigM.aN (N:AigM m o vs A es) (h:Φ (.ref o.ln) ⟨ρ,m⟩):attrW (.ref o.x) .nodes ⟨ρ,m⟩ Φ:=N.attr rfl rfl h
theorem AigM.aI (N:AigM m o vs A es) (h:Φ (.ref o.li) ⟨ρ,m⟩):attrW (.ref o.x) .inputs ⟨ρ,m⟩ Φ:=N.attr rfl rfl h
theorem AigM.aO (N:AigM m o vs A es) (h:Φ (.ref o.lo) ⟨ρ,m⟩):attrW (.ref o.x) .outputs ⟨ρ,m⟩ Φ:=N.attr rfl rfl h
theorem AigM.aT (N:AigM m o vs A es) (h:Φ (.ref o.lt) ⟨ρ,m⟩):attrW (.ref o.x) .table ⟨ρ,m⟩ Φ:=N.attr rfl rfl h
theorem TabOk.snoc {ns:Nodes} (h:TabOk es ns):TabOk es (ns++[n]):=⟨Nat.le_trans h.1 (by rw [List.length_append];exact Nat.le_add_right _ _),fun l r v q=>by
 obtain ⟨k,h1,h2⟩:=h.2 l r v q
 exact ⟨k,h1,at_snoc h2⟩⟩
theorem AigM.node (N:AigM m o vs A es) (hv:NodeAt m v n) (h:m' o.ln=some (.list (vs++[v]))) (u:Up o.ln m m'):AigM m' o (vs++[v]) ⟨A.nodes++[n],A.ins,A.outs⟩ es :=
 have t:=u.tups N.3 rfl
 ⟨u (mn N.1 N.3 rfl) N.1,u (mn N.2 N.3 rfl) N.2,h,u N.7.symm N.4,u N.8.symm N.5,u (mn N.6 N.3 rfl) N.6,N.7,N.8,N.9,(N.10.keep t).snoc (hv.keep t),N.11.snoc⟩
theorem AigM.setT (N:AigM m o vs A es) (h:m' o.lt=some (.dict es')) (u:Up o.lt m m') (t:TabOk es' A.nodes):AigM m' o vs A es' :=
 ⟨u (mn N.1 N.6 rfl) N.1,u (mn N.2 N.6 rfl) N.2,u (mn N.3 N.6 rfl) N.3,u (mn N.4 N.6 rfl) N.4,u (mn N.5 N.6 rfl) N.5,h,N.7,N.8,N.9,N.10.keep (u.tups N.6 rfl),t⟩
theorem AigM.setI (N:AigM m o vs A es) (h:m' o.li=some (.list (natL (A.ins++[i])))) (u:Up o.li m m'):AigM m' o vs ⟨A.nodes,A.ins++[i],A.outs⟩ es :=
 ⟨u (mn N.1 N.4 rfl) N.1,u (mn N.2 N.4 rfl) N.2,u N.7 N.3,h,u N.9.symm N.5,u (mn N.6 N.4 rfl) N.6,N.7,N.8,N.9,N.10.keep (u.tups N.4 rfl),N.11⟩
theorem AigM.setO (N:AigM m o vs A es) (h:m' o.lo=some (.list (natL (A.outs++[i])))) (u:Up o.lo m m'):AigM m' o vs ⟨A.nodes,A.ins,A.outs++[i]⟩ es :=
 ⟨u (mn N.1 N.5 rfl) N.1,u (mn N.2 N.5 rfl) N.2,u N.8 N.3,u N.9 N.4,h,u (mn N.6 N.5 rfl) N.6,N.7,N.8,N.9,N.10.keep (u.tups N.5 rfl),N.11⟩
noncomputable def Al (o:AigO) (m m':Mem):Prop:=∀ ⦃a q⦄,a≠o.ln→a≠o.lt→m a=some q→m' a=some q
theorem Al.refl:Al o m m:=fun zz zz zz zz h=>h
theorem Al.trans {m'':Mem} (x:Al o m m') (y:Al o m' m''):Al o m m'':=fun zz zz a b h=>y a b (x a b h)
theorem Gr.al (g:Gr m m'):Al o m m':=fun zz zz zz zz h=>g h
theorem Up.aln (u:Up o.ln m m'):Al o m m':=fun zz zz a zz h=>u a h
theorem Up.alt (u:Up o.lt m m'):Al o m m':=fun zz zz zz b h=>u b h
theorem Al.list (s:Al o m m') (N:AigAt m o A) {l:Addr}{xs:List V} (hl:l≠o.ln) (h:m l=some (.list xs)):m' l=some (.list xs):=by
 obtain ⟨vs,es,ok,a⟩:=N
 exact s hl (mn h a.6 rfl) h
theorem AigAt.newL (N:AigAt m o A) {l:Addr} (h:m l=none):l≠o.ln:=by
 obtain ⟨vs,es,ok,a⟩:=N
 exact fresh_ne h a.3
end
theorem dput_len (k:K) (v:V):∀ es:List (K × V),(dput k v es).length≤es.length+1
 | []=>Nat.le_refl _
 | e::es=>by
  show (if e.1=k then (k,v)::es else e::dput k v es).length≤_
  by_cases h:e.1=k
  ·rw [if_pos h];exact Nat.le_succ _
  ·rw [if_neg h];exact Nat.succ_le_succ (dput_len k v es)
theorem dget_dput (k k':K) (v:V):∀ es:List (K × V),dget k' (dput k v es)=if k=k' then some v else dget k' es
 | []=>rfl
 | e::es=>by
  show dget k' (if e.1=k then (k,v)::es else e::dput k v es)=if k=k' then some v else if e.1=k' then some e.2 else dget k' es
  by_cases h:e.1=k
  ·rw [if_pos h]
   show (if k=k' then some v else dget k' es)=_
   by_cases q:k=k'
   ·rw [if_pos q,if_pos q]
   ·rw [if_neg q,if_neg q,if_neg (h▸q)]
  ·rw [if_neg h]
   show (if e.1=k' then some e.2 else dget k' (dput k v es))=_
   rw [dget_dput k k' v es]
   by_cases q:e.1=k'
   ·rw [if_pos q,if_pos q,if_neg fun z=>h (q.trans z.symm)]
   ·rw [if_neg q,if_neg q]
theorem pairK_inj {l r l' r':Nat} (h:pairK l r=pairK l' r'):l=l'∧r=r':=by
 unfold pairK at h
 injection h with h
 injection h with h1 h2
 injection h2 with h2 _
 exact ⟨Int.ofNat.inj (At.int.inj h1),Int.ofNat.inj (At.int.inj h2)⟩
theorem keyPair {m:Mem}{t:Addr}{l r:Nat} (h:m t=some (.tup [.int l,.int r])):keyOf m (.ref t)=some (pairK l r):=by
 unfold keyOf;dsimp only;rw [h];rfl
theorem TabOk.put {es:List (K × V)}{ns:Nodes}{a b k:Nat}{p:Option (Nat × Nat)} (h:TabOk es ns) (hn:(ns++[p])[k]?=some (some (a,b))):TabOk (dput (pairK a b) (.int (k:Nat)) es) (ns++[p]):=by
 refine ⟨Nat.le_trans (dput_len _ _ _) (by rw [List.length_append];exact Nat.succ_le_succ h.1),fun l r v q=>?_⟩
 rw [dget_dput] at q
 by_cases e:pairK a b=pairK l r
 ·rw [if_pos e] at q
  have e:=pairK_inj e
  exact ⟨k,(Option.some.inj q).symm,e.1▸e.2▸hn⟩
 ·rw [if_neg e] at q
  exact h.snoc.2 l r v q
noncomputable def OpPost (m:Mem) (o:AigO) (A:AigA) (k:Nat) (f:(Nat→Bool)→Bool) (Φ:V→Mem→Prop):Prop:=∀ m' A' (q:Nat),AigAt m' o A'→A.Le A'→A'.nodes.length≤A.nodes.length+k→q<2*A'.nodes.length →
 (∀ vals,Cons A'.nodes vals→lit vals q=f vals)→Al o m m'→Φ (.int q) m'
section
variable {m m1:Mem}{o:AigO}{A A1:AigA}{Φ:V→Mem→Prop}{k k1 k2 q:Nat}{f f2:(Nat→Bool)→Bool}
theorem OpPost.gr (h:OpPost m o A k f Φ) (g:Gr m m1):OpPost m1 o A k f Φ:=fun m' A' q h1 h2 h3 h4 h5 h6=>h m' A' q h1 h2 h3 h4 h5 (g.al.trans h6)
theorem OpPost.now (h:OpPost m o A k f Φ) (N:AigAt m o A) (hq:q<2*A.nodes.length) (e:∀ vals,Cons A.nodes vals→lit vals q=f vals):Φ (.int q) m:=h m A q N (.refl A) (Nat.le_add_right _ _) hq e .refl
theorem OpPost.then (h:OpPost m o A k f Φ) (le:A.Le A1) (hl:A1.nodes.length≤A.nodes.length+k1) (hk:k1+k2≤k) (s:Al o m m1) (hf:∀ vals,Cons A1.nodes vals→f2 vals=f vals) :
  OpPost m1 o A1 k2 f2 Φ:=fun m' A' q h1 h2 h3 h4 h5 h6=>h m' A' q h1 (le.trans h2) (Nat.le_trans h3 (Nat.le_trans (Nat.add_le_add_right hl _) (Nat.add_assoc _ _ _▸Nat.add_le_add_left hk _))) h4 (fun vals C=>(h5 vals C).trans (hf vals (h2.cons C))) (s.trans h6)
theorem OpPost.mono (h:OpPost m o A k1 f Φ) (hk:k≤k1) (hf:∀ v,f2 v=f v):OpPost m o A k f2 Φ:=fun m' A' q h1 h2 h3 h4 h5 h6=>h m' A' q h1 h2 (Nat.le_trans h3 (Nat.add_le_add_left hk _)) h4 (fun vals C=>(h5 vals C).trans (hf vals)) h6
end
noncomputable def tl:Sxs→Sxs
 | .cons _ r=>r
 | .nil=>.nil
section
variable {A B:Prop}{p:Prop} [Decidable p]
theorem iy (h:p) (k:A):if decide p=true then A else B:=by rw [if_pos (decide_eq_true h)];exact k
theorem in' (h:¬p) (k:B):if decide p=true then A else B:=by rw [if_neg (fun e=>h (of_decide_eq_true e))];exact k
theorem b9 {n:Nat} (h:n<900000):n<1000000:=Nat.lt_trans h (nb rfl)
theorem p63:Int.natAbs 2<2^63:=by decide
end
section
variable {G:GC}{r:Nat}{Ψ:Addr→Mem→Prop}{m:Mem}{o:AigO}{A:AigA}{Φ:V→Mem→Prop}{a b s:Nat}
theorem AigA.Ok.snoc (ok:A.Ok) {n:Option (Nat × Nat)} (h:∀ a b,n=some (a,b)→a<2*A.nodes.length∧b<2*A.nodes.length) {i u:List Nat}:AigA.Ok ⟨A.nodes++[n],i,u⟩ :=
 ⟨at_snoc ok.1,fun k l r e=>snoc_at e (ok.2 k l r) fun e1 e2=>e1▸h l r e2⟩
theorem land_core (hG:G.Ok) (N:AigAt m o A) (ha:a<2*A.nodes.length) (hb:b<2*A.nodes.length) (hs:A.nodes.length<900000) (h:OpPost m o A 1 (fun v=>lit v a&&lit v b) Φ) :
  semB ⟨G,r,Ψ⟩ (tl ir208) ⟨[some (.ref o.x),some (.int a),some (.int b),none],m⟩ (fun fl σ'=>Φ fl.val σ'.m):=by
 have h0:=fun (q:Nat) hq e=>h.now (q:=q) N hq e
 by_cases e0:a=0
 ·refine s_if (eq_n (b:=0) (iy e0 (h0 0 (Nat.zero_lt_of_lt hb) fun vals C=>?_)))
  rw [e0,lit0 C];rfl
 by_cases e1:a=b ^^^ 1
 ·refine s_if (eq_n (b:=0) (in' e0 (bXor (b:=1) rfl rfl (eq_n (if_y e1 (h0 0 (Nat.zero_lt_of_lt hb) fun vals C=>?_))))))
  rw [e1,lit0 C,lit_not];exact (Bool.not_and_self _).symm
 refine s_if (eq_n (b:=0) (in' e0 (bXor (b:=1) rfl rfl (eq_n (if_n0 e1 ?_)))))
 by_cases e2:a=1
 ·refine s_if (eq_n (b:=1) (iy e2 (h0 b hb fun vals C=>?_)))
  rw [e2,lit1 C];rfl
 by_cases e3:a=b
 ·refine s_if (eq_n (b:=1) (in' e2 (eq_n (if_y e3 (h0 b hb fun vals C=>?_)))))
  rw [e3];exact (Bool.and_self _).symm
 obtain ⟨vs,es,ok,N⟩:=N
 refine s_if (eq_n (b:=1) (in' e2 (eq_n (if_n0 e3 (s_asg (N.aT (isD N.6 (w_tup (nb rfl) fun t1 m1 n1 k1 g1=>get_d (g1 N.6) (keyPair k1) ?_))))))))
 have N1:=N.keep g1
 cases hg:dget (pairK a b) es with
 | some v =>
  obtain ⟨n,rfl,hn⟩:=N.11.2 a b v hg
  refine s_if (lt_i (if_n0 (Int.not_lt.mpr (Int.natCast_nonneg n)) (s_ret (bMul (.inl p63) rfl ((h.gr g1).now ⟨vs,es,ok,N1⟩ (q:=2*n) (Nat.mul_lt_mul_of_pos_left (at_lt hn) Nat.two_pos) fun vals C=>?_)))))
  rw [lit_even];exact C.2 n a b hn
 | none =>
  have hl:vs.length=A.nodes.length:=N.10.1
  refine s_if (lt_i (if_y (by decide) (s_asg (N1.aN (len_l N1.3 hl (s_app (fun zz h=>N1.aN h) N1.3 (w_tup (nb rfl) fun t2 m2 n2 k2 g2=>app_go (g2 N1.3) (by rw [hl];exact b9 hs) fun m3 l3 u3=>s_asg ?_)))))))
  have N3:=(N1.keep g2).node (n:=some (a,b)) ⟨t2,rfl,k2⟩ l3 u3
  refine N3.aT (w_tup (nb rfl) fun t4 m4 n4 k4 g4=>setD_go (g4 N3.6) (keyPair k4) (Nat.lt_of_le_of_lt N.11.1 (b9 hs)) fun m5 d5 u5=>s_nil (s_ret (bMul (.inl p63) rfl ?_)))
  have hn:(A.nodes++[some (a,b)])[A.nodes.length]?=some (some (a,b)):=List.getElem?_concat_length
  have hlen:(A.nodes++[some (a,b)]).length=A.nodes.length+1:=List.length_append
  refine h m5 ⟨A.nodes++[some (a,b)],A.ins,A.outs⟩ (2*A.nodes.length) ⟨_,_,ok.snoc fun a' b' e=>?_,(N3.keep g4).setT d5 u5 (N.11.put hn)⟩ ⟨_,rfl,fun x hx e=>?_,rfl,rfl⟩ (Nat.le_of_eq hlen) (hlen▸Nat.mul_lt_mul_of_pos_left (Nat.lt_succ_self _) Nat.two_pos) (fun vals C=>?_) ((((g1.trans g2).al.trans u3.aln).trans g4.al).trans u5.alt)
  ·cases e;exact ⟨ha,hb⟩
  ·exact nomatch (List.mem_singleton.mp hx).symm.trans e
  ·rw [lit_even];exact C.2 _ a b hn
theorem land (hG:G.Ok) (hr:1≤r) (N:AigAt m o A) (ha:a<2*A.nodes.length) (hb:b<2*A.nodes.length) (hs:A.nodes.length<900000) (h:OpPost m o A 1 (fun v=>lit v a&&lit v b) Φ) :
  callW G r Ψ (.ref 208) [.ref o.x,.int a,.int b] m Φ:=by
 refine run208 hG hr (s_if (gt_i (if_b0 (fun zz=>s_swap (fun zz h=>h) (fun zz h=>h) fun m1 g1=>s_nil (land_core hG (N.keep g1) hb ha hs ((h.mono (Nat.le_refl _) fun v=>Bool.and_comm _ _).gr g1))) fun zz=>land_core hG N ha hb hs h)))
theorem meth261 {f:Addr}{n:Str} (N:AigAt m o A) {ts:PT (List V)}{ρ:List (Option V)}{X:PX}{Φ':V→St→Prop} (hf:methAt 261 n=some f)
  (h:ts ⟨ρ,m⟩ fun vs σ2=>callW X.G X.r X.Ψ (.ref f) (.ref o.x::vs) σ2.m fun v m'=>Φ' v ⟨σ2.ρ,m'⟩):MethW X (.ref o.x) n ts ⟨ρ,m⟩ Φ':=e_meth N.x N.d hf h
theorem lor (hG:G.Ok) (hr:2≤r) (N:AigAt m o A) (ha:a<2*A.nodes.length) (hb:b<2*A.nodes.length) (hs:A.nodes.length<900000) (h:OpPost m o A 1 (fun v=>lit v a||lit v b) Φ) :
  callW G r Ψ (.ref 215) [.ref o.x,.int a,.int b] m Φ:=by
 refine run215 hG hr (s_ret (meth261 N a_land (bXor (b:=1) rfl rfl (bXor (b:=1) rfl rfl (land hG (pr hr rfl) N (xor1_lt ha) (xor1_lt hb) hs fun m' A' q h1 h2 h3 h4 h5 h6=>bXor (b:=1) rfl rfl (h m' A' _ h1 h2 h3 (xor1_lt h4) (fun vals C=>?_) h6))))))
 rw [lit_not,h5 vals C]
 show (!(lit vals (a ^^^ 1)&&lit vals (b ^^^ 1)))=(lit vals a||lit vals b)
 rw [lit_not,lit_not,Bool.not_and,Bool.not_not,Bool.not_not]
theorem lmux (hG:G.Ok) (hr:3≤r) (N:AigAt m o A) (hs':s<2*A.nodes.length) (ha:a<2*A.nodes.length) (hb:b<2*A.nodes.length) (hs:A.nodes.length<800000) (h:OpPost m o A 3 (fun v=>if lit v s then lit v b else lit v a) Φ) :
  callW G r Ψ (.ref 229) [.ref o.x,.int s,.int a,.int b] m Φ:=by
 by_cases he:a=b
 ·refine run229 hG hr (s_if (eq_n (if_y he (h.now N ha fun vals C=>?_))))
  rw [he];exact (ite_self _).symm
 refine run229 hG hr (s_if (eq_n (if_n0 he (s_ret (meth261 N a_lor (meth261 N a_land (land hG (pr hr rfl) N hs' hb (Nat.lt_trans hs (nb rfl)) fun m1 A1 q1 N1 le1 l1 lt1 v1 s1=>meth261 N1 a_land (bXor (b:=1) rfl rfl ?_))))))))
 have up1:=fun {q} (h:q<2*A.nodes.length)=>Nat.lt_of_lt_of_le h (Nat.mul_le_mul_left 2 le1.len)
 have b1:A1.nodes.length<800001:=Nat.lt_of_le_of_lt l1 (Nat.succ_lt_succ hs)
 refine land hG (pr hr rfl) N1 (xor1_lt (up1 hs')) (up1 ha) (Nat.lt_trans b1 (nb rfl)) fun m2 A2 q2 N2 le2 l2 lt2 v2 s2=>lor hG (pr hr rfl) N2 (Nat.lt_of_lt_of_le lt1 (Nat.mul_le_mul_left 2 le2.len)) lt2 (Nat.lt_trans (Nat.lt_of_le_of_lt l2 (Nat.succ_lt_succ b1)) (nb rfl))
  (h.then (le1.trans le2) (k1:=2) (Nat.le_trans l2 (Nat.succ_le_succ l1)) (Nat.le_refl _) (s1.trans s2) fun vals C=>?_)
 have e1:lit vals q2=(lit vals (s ^^^ 1)&&lit vals a):=v2 vals C
 have e2:lit vals q1=(lit vals s&&lit vals b):=v1 vals (le2.cons C)
 show (lit vals q1||lit vals q2)=if lit vals s then lit vals b else lit vals a
 rw [e1,e2,lit_not]
 cases lit vals s
 ·rfl
 ·exact Bool.or_false _
theorem even_lt {q n:Nat} (h:q<2*n):q ^^^ (q &&& 1)<2*n∧(q ^^^ (q &&& 1)) / 2=q / 2∧(q ^^^ (q &&& 1))%2=0:=by
 have e:(q ^^^ (q &&& 1)) / 2=q / 2:=by rw [Nat.xor_div_two,Nat.and_div_two];exact (congrArg (q / 2 ^^^ ·) (Nat.and_zero _)).trans (Nat.xor_zero _)
 refine ⟨lt_half (e▸half_lt h),e,?_⟩
 rw [xmod,Nat.and_one_is_mod,Nat.mod_mod];exact Nat.xor_self _
theorem lxor (hG:G.Ok) (hr:3≤r) (N:AigAt m o A) (ha:a<2*A.nodes.length) (hb:b<2*A.nodes.length) (hs:A.nodes.length<800000) (h:OpPost m o A 3 (fun v=>lit v a != lit v b) Φ) :
  callW G r Ψ (.ref 222) [.ref o.x,.int a,.int b] m Φ:=by
 have l1:=even_lt ha
 have l2:=even_lt hb
 have sg:(a ^^^ b) &&& 1=a%2 ^^^ b%2:=by rw [Nat.and_one_is_mod,xmod]
 refine run222 hG hr (s_asg (bXor rfl rfl (bAnd (b:=1) rfl rfl (s_asg (bAnd (b:=1) rfl rfl (bXor rfl rfl (s_asg (bAnd (b:=1) rfl rfl (bXor rfl rfl ?_)))))))))
 rw [sg]
 generalize a ^^^ (a &&& 1)=a' at l1
 generalize b ^^^ (b &&& 1)=b' at l2
 refine a_nm (s_ret (meth261 N a_lor (meth261 N a_land (bXor (b:=1) rfl rfl (land hG (pr hr rfl) N l1.1 (xor1_lt l2.1) (Nat.lt_trans hs (nb rfl)) fun m1 A1 q1 N1 le1 k1 lt1 v1 s1=>meth261 N1 a_land (bXor (b:=1) rfl rfl ?_))))))
 have up1:=fun {q} (h:q<2*A.nodes.length)=>Nat.lt_of_lt_of_le h (Nat.mul_le_mul_left 2 le1.len)
 have b1:A1.nodes.length<800001:=Nat.lt_of_le_of_lt k1 (Nat.succ_lt_succ hs)
 refine land hG (pr hr rfl) N1 (xor1_lt (up1 l1.1)) (up1 l2.1) (Nat.lt_trans b1 (nb rfl)) fun m2 A2 q2 N2 le2 k2 lt2 v2 s2=>lor hG (pr hr rfl) N2 (Nat.lt_of_lt_of_le lt1 (Nat.mul_le_mul_left 2 le2.len)) lt2 (Nat.lt_trans (Nat.lt_of_le_of_lt k2 (Nat.succ_lt_succ b1)) (nb rfl))
  fun m3 A3 q3 N3 le3 k3 lt3 v3 s3=>bXor rfl rfl ?_
 have fin:=fun (q:Nat) hq e=>h m3 A3 q N3 ((le1.trans le2).trans le3) (Nat.le_trans k3 (Nat.succ_le_succ (Nat.le_trans k2 (Nat.succ_le_succ k1)))) hq e ((s1.trans s2).trans s3)
 have ev:∀ vals,Cons A3.nodes vals→lit vals q3=(vals (a / 2) != vals (b / 2)):=fun vals C=>by
  have e1:lit vals q2=(lit vals (a' ^^^ 1)&&lit vals b'):=v2 vals (le3.cons C)
  have e2:lit vals q1=(lit vals a'&&lit vals (b' ^^^ 1)):=v1 vals (le2.cons (le3.cons C))
  refine (v3 vals C).trans ?_
  show (lit vals q1||lit vals q2)=_
  rw [e1,e2,lit_not,lit_not]
  unfold lit
  rw [l1.2.1,l1.2.2,l2.2.1,l2.2.2]
  cases vals (a / 2) <;> cases vals (b / 2) <;> rfl
 revert fin
 unfold lit
 refine par (P:=fun p=>(∀ q:Nat,q<2*A3.nodes.length→(∀ vals,Cons A3.nodes vals→lit vals q=((vals (a / 2) != decide (p=1)) != (vals (b / 2) != decide (b%2=1))))→Φ (.int q) m3)→Φ (.int ((q3 ^^^ (p ^^^ b%2):Nat):Int)) m3) a (fun zz=>?_) fun zz=>?_
 ·refine par (P:=fun p=>(∀ q:Nat,q<2*A3.nodes.length→(∀ vals,Cons A3.nodes vals→lit vals q=((vals (a / 2) != decide (0=1)) != (vals (b / 2) != decide (p=1))))→Φ (.int q) m3)→Φ (.int ((q3 ^^^ (0 ^^^ p):Nat):Int)) m3) b (fun zz fin=>?_) fun zz fin=>?_
  ·show Φ (.int ((q3 ^^^ 0:Nat):Int)) m3
   rw [Nat.xor_zero]
   refine fin q3 lt3 fun vals C=>?_
   rw [ev vals C];cases vals (a / 2) <;> cases vals (b / 2) <;> rfl
  ·show Φ (.int ((q3 ^^^ 1:Nat):Int)) m3
   refine fin _ (xor1_lt lt3) fun vals C=>?_
   rw [lit_not,ev vals C];cases vals (a / 2) <;> cases vals (b / 2) <;> rfl
 ·refine par (P:=fun p=>(∀ q:Nat,q<2*A3.nodes.length→(∀ vals,Cons A3.nodes vals→lit vals q=((vals (a / 2) != decide (1=1)) != (vals (b / 2) != decide (p=1))))→Φ (.int q) m3)→Φ (.int ((q3 ^^^ (1 ^^^ p):Nat):Int)) m3) b (fun zz fin=>?_) fun zz fin=>?_
  ·show Φ (.int ((q3 ^^^ 1:Nat):Int)) m3
   refine fin _ (xor1_lt lt3) fun vals C=>?_
   rw [lit_not,ev vals C];cases vals (a / 2) <;> cases vals (b / 2) <;> rfl
  ·show Φ (.int ((q3 ^^^ 0:Nat):Int)) m3
   rw [Nat.xor_zero]
   refine fin q3 lt3 fun vals C=>?_
   rw [ev vals C];cases vals (a / 2) <;> cases vals (b / 2) <;> rfl
end
noncomputable def idx:List Bool→Nat
 | []=>0
 | b::bs=>b.toNat+2*idx bs
theorem idx_lt:∀ bs:List Bool,idx bs<2^bs.length
 | []=>by decide
 | b::bs=>by
  have:=idx_lt bs
  show b.toNat+2*idx bs<2^(bs.length+1)
  rw [Nat.pow_succ]
  have:=Bool.toNat_le b
  lia
theorem idx_snoc:∀ (bs:List Bool) (b:Bool),idx (bs++[b])=idx bs+b.toNat*2^bs.length
 | [],b=>by cases b <;> rfl
 | c::bs,b=>by
  show c.toNat+2*idx (bs++[b])=c.toNat+2*idx bs+b.toNat*2^(bs.length+1)
  rw [idx_snoc bs b,Nat.pow_succ,Nat.mul_add,Nat.add_assoc,Nat.mul_comm 2 (_*_),Nat.mul_assoc]
noncomputable def growT:Nat→Nat
 | 0=>0
 | n+1=>2*growT n+3
@[elab_as_elim] theorem snoc_el {α:Type}{P:List α→Prop}{l:List α}{n:Nat} (h:l.length=n+1) (q:∀ a b,a.length=n→P (a++[b])):P l:=by
 have hne:l≠[]:=fun e=>nomatch (e▸h:([]:List α).length=n+1)
 rw [←List.dropLast_concat_getLast hne]
 exact q _ _ (by rw [List.length_dropLast,h];rfl)
section
variable {σ:St}{Φ:V→St→Prop}{a b c:Nat}{p q:Int}{ρ:List (Option V)}{m:Mem}{l:Addr}{xs:List V}{x:V}
theorem bShl1 (hj:q=b) (hb:b≤1000000) (h:Φ (.int ((2^b:Nat):Int)) σ):binW .LShift (.int 1) (.int q) σ Φ:=bShl (a:=1) rfl hj ⟨by decide,hb⟩ (by rw [Nat.one_shiftLeft];exact h)
theorem bPred (hx:0<a) (h:Φ (.int ((a - 1:Nat):Int)) σ):binW .Sub (.int (a:Nat)) (.int 1) σ Φ:=bSub (Int.ofNat_sub (m:=1) hx).symm h
theorem bShrE (hi:p=a) (hj:q=b) (e:a >>> b=c) (h:Φ (.int (c:Nat)) σ):binW .RShift (.int p) (.int q) σ Φ:=bShr hi hj (e▸h)
theorem bAndE (hi:p=a) (hj:q=b) (e:a &&& b=c) (h:Φ (.int (c:Nat)) σ):binW .BitAnd (.int p) (.int q) σ Φ:=bAnd hi hj (e▸h)
theorem slice_last (h:m l=some (.list (xs++[x]))) (k:∀ l' m',m l'=none→m' l'=some (.list xs)→Gr m m'→Φ (.ref l') ⟨ρ,m'⟩):sliceW (.ref l) .none (.int (-1)) ⟨ρ,m⟩ Φ:=by
 exact ⟨l,_,xs,none,some (-1),rfl,h,.none rfl rfl,.int _ rfl rfl,.but rfl rfl (by rw [List.length_append];exact List.take_left.symm),new_go k⟩
end
theorem ar0 (g:Nat):g≤2*g+3:=by omega
theorem ar1 {a g:Nat} (h:a+(2*g+3)<700000):a+g<700000:=by omega
theorem ar2 {a b g:Nat} (h:a+(2*g+3)<700000) (k:b≤a+g):b+g<700000:=by omega
theorem ar3 {a b c g:Nat} (k:b≤a+g) (j:c≤b+g):c≤a+2*g:=by omega
theorem ar4 {a c g:Nat} (h:a+(2*g+3)<700000) (j:c≤a+2*g):c<800000:=by omega
theorem tb {t h i:Nat} (hi:i<h):(t%2^h).testBit i=t.testBit i:=by rw [Nat.testBit_mod_two_pow,decide_eq_true hi];rfl
theorem pow8 {n:Nat} (h:n≤3):2^n≤1000000:=Nat.le_trans (Nat.pow_le_pow_right Nat.two_pos h) (nb rfl)
section
variable {G:GC}{r:Nat}{Ψ:Addr→Mem→Prop}{o:AigO}
theorem AigAt.pos {m:Mem}{A:AigA} (N:AigAt m o A):1<2*A.nodes.length:=Nat.lt_of_lt_of_le (Nat.lt_succ_self 1) (Nat.mul_le_mul_left 2 (at_lt N.ok.1))
theorem table_literal (hG:G.Ok):∀ (n r:Nat) (m:Mem) (A:AigA) (t:Nat) (ls:List Nat) (a:Addr) (Φ:V→Mem→Prop),n+4≤r→ls.length=n→n≤3→t<2^2^n→AigAt m o A→m a=some (.list (natL ls))→a≠o.ln→(∀ q∈ls,q<2*A.nodes.length) →
  A.nodes.length+growT n<700000→OpPost m o A (growT n) (fun v=>t.testBit (idx (ls.map (lit v)))) Φ→callW G r Ψ (.ref 279) [.ref o.x,.int t,.ref a] m Φ:=by
 intro n
 induction n with
 | zero =>
  intro r m A t ls a Φ hr hl _ ht N ha hne hq hs h
  have e:t<2:=ht
  refine run279 hG hr (s_asg (len_l ha ((natL_len _).trans hl) (bShl1 rfl (Nat.zero_le _) (a_nm ?_))))
  match t,e with
  | 0,_=>exact s_if (eq_n (b:=0) (if_y rfl (h.now N (q:=0) (Nat.lt_of_succ_lt N.pos) fun vals C=>by rw [lit0 C,Nat.zero_testBit])))
  | 1,_ =>
   refine s_if (eq_n (b:=0) (if_n0 Nat.one_ne_zero (s_if (bShl1 rfl (nb rfl) (bPred (nb rfl) (eq_n (if_y rfl (h.now N (q:=1) N.pos fun vals C=>?_))))))))
   rw [lit1 C,List.length_eq_zero_iff.mp hl];exact (by decide:true=Nat.testBit 1 0)
 | succ n ih =>
  intro r m A t ls a Φ hr hl hn ht N ha hne hq hs h
  have hr':n+4≤r - 1:=Nat.le_sub_one_of_lt hr
  have pp:0<2^2^(n+1):=Nat.pow_pos Nat.two_pos
  refine run279 hG hr (s_asg (len_l ha ((natL_len _).trans hl) (bShl1 rfl (Nat.le_trans hn (nb rfl)) (a_nm ?_))))
  by_cases h0:t=0
  ·refine s_if (eq_n (b:=0) (if_y h0 (h.now N (q:=0) (Nat.lt_of_succ_lt N.pos) fun vals C=>?_)))
   rw [lit0 C,h0,Nat.zero_testBit]
  by_cases h1:t=2^2^(n+1) - 1
  ·refine s_if (eq_n (b:=0) (if_n0 h0 (s_if (bShl1 rfl (pow8 hn) (bPred pp (eq_n (if_y h1 (h.now N (q:=1) N.pos fun vals C=>?_))))))))
   rw [lit1 C,h1,Nat.testBit_two_pow_sub_one]
   have:=idx_lt (ls.map (lit vals))
   rw [List.length_map,hl] at this
   exact (decide_eq_true this).symm
  refine s_if (eq_n (b:=0) (if_n0 h0 (s_if (bShl1 rfl (pow8 hn) (bPred pp (eq_n (if_n0 h1 (s_asg (bShrE (b:=1) (c:=2^n) rfl rfl (by rw [Nat.shiftRight_eq_div_pow];exact Nat.mul_div_cancel _ Nat.two_pos)
   (a_nm (s_asg (bShl1 rfl (pow8 (Nat.le_of_succ_le hn)) (bPred (Nat.pow_pos Nat.two_pos) (bAndE rfl rfl (Nat.and_two_pow_sub_one_eq_mod _ _) (a_nm (s_asg (bShrE rfl rfl (Nat.shiftRight_eq_div_pow _ _) (a_nm (s_asg ?_)))))))))))))))))))
  revert ha hq h
  refine snoc_el hl fun l0 b hl0 ha hq h=>?_
  rw [natL_snoc] at ha
  refine slice_last ha fun a1 m1 n1 k1 g1=>?_
  have N1:=N.keep g1
  have ne1:=N.newL n1
  have hq0:∀ q∈l0,q<2*A.nodes.length:=fun q hq'=>hq q (List.mem_append_left _ hq')
  have hqb:b<2*A.nodes.length:=hq b (List.mem_append_right _ (.head _))
  have hlow:t%2^2^n<2^2^n:=Nat.mod_lt _ (Nat.pow_pos Nat.two_pos)
  have hhigh:t / 2^2^n<2^2^n:=Nat.div_lt_of_lt_mul (by rw [←Nat.pow_add,←Nat.two_mul,Nat.mul_comm];exact ht)
  have bits:∀ vals,t.testBit (idx ((l0++[b]).map (lit vals)))=if lit vals b then (t / 2^2^n).testBit (idx (l0.map (lit vals))) else (t%2^2^n).testBit (idx (l0.map (lit vals))):=fun vals=>by
   have hi:=idx_lt (l0.map (lit vals))
   rw [List.length_map,hl0] at hi
   rw [List.map_append,List.map_cons,List.map_nil,idx_snoc,List.length_map,hl0]
   cases lit vals b with
   | true=>rw [if_pos rfl,Nat.testBit_div_two_pow];exact congrArg _ (congrArg (_+·) (Nat.one_mul _))
   | false=>rw [if_neg Bool.false_ne_true,tb hi];exact congrArg _ (congrArg (_+·) (Nat.zero_mul _))
  have hn':=Nat.le_of_succ_le hn
  by_cases hle:t%2^2^n=t / 2^2^n
  ·refine a_nm (s_if (eq_n (if_y hle (s_ret (ih _ m1 A _ l0 a1 _ hr' hl0 hn' hlow N1 k1 ne1 hq0 (ar1 hs) (((h.gr g1).mono (ar0 _) fun v=>?_:OpPost m1 o A (growT n) _ Φ)))))))
   exact ((bits v).trans (by rw [hle];exact ite_self _)).symm
  refine a_nm (s_if (eq_n (if_n0 hle (s_asg (ih _ m1 A _ l0 a1 _ hr' hl0 hn' hhigh N1 k1 ne1 hq0 (ar1 hs) fun m2 A2 q2 N2 le2 i2 lt2 v2 s2=>a_nm (s_asg ?_))))))
  have k2:=s2.list N1 ne1 k1
  have b2:=s2.list N1 hne (g1 ha)
  have up2:=fun {q} (h:q<2*A.nodes.length)=>Nat.lt_of_lt_of_le h (Nat.mul_le_mul_left 2 le2.len)
  refine ih _ m2 A2 _ l0 a1 _ hr' hl0 hn' hlow N2 k2 ne1 (fun q h=>up2 (hq0 q h)) (ar2 hs i2) fun m3 A3 q3 N3 le3 i3 lt3 v3 s3=>a_nm (s_ret (meth261 N3 a_lmux ?_))
  have up3:=fun {q} (h:q<2*A2.nodes.length)=>Nat.lt_of_lt_of_le h (Nat.mul_le_mul_left 2 le3.len)
  refine it_ln (k:=1) (s3.list N2 hne b2) Nat.one_pos (by rw [List.length_append];exact Nat.le_add_left _ _) (v:=.int b) (by rw [List.length_append];exact List.getElem?_concat_length) (lmux hG (Nat.le_trans (Nat.le_add_left _ _) hr') N3 (up3 (up2 hqb)) lt3 (up3 lt2) (ar4 hs (ar3 i2 i3))
   (h.then (le2.trans le3) (ar3 i2 i3) (Nat.le_refl _) ((g1.al.trans s2).trans s3) fun vals C=>?_))
  show (if lit vals b then lit vals q2 else lit vals q3)=_
  rw [v3 vals C,v2 vals (le3.cons C)]
  exact (bits vals).symm
end
noncomputable def Par.num:Par→Nat
 | .tab n=>n
 | .cel n=>n
 | _=>0
noncomputable def tabOf (kd:Kd) (p:Par):Nat:=match kd with
 | .buf=>2
 | .not=>1
 | .and=>8
 | .or=>14
 | .xor=>6
 | .nand=>7
 | .nor=>1
 | .xnor=>9
 | .mux=>228
 | _=>p.num
noncomputable def cellF (kd:Kd) (p:Par) (bs:List Bool):Bool:=(tabOf kd p).testBit (idx bs)
section
variable (p:Par) (x y z:Bool)
theorem cellF_mux:cellF .mux p [x,y,z]=if x then z else y:=by show Nat.testBit 228 (idx [x,y,z])=_;revert x y z;decide
theorem cellF_buf:cellF .buf p [x]=x:=by show Nat.testBit 2 (idx [x])=_;revert x;decide
theorem cellF_not:cellF .not p [x]=!x:=by show Nat.testBit 1 (idx [x])=_;revert x;decide
theorem cellF_and:cellF .and p [x,y]=(x&&y):=by show Nat.testBit 8 (idx [x,y])=_;revert x y;decide
theorem cellF_nand:cellF .nand p [x,y]=!(x&&y):=by show Nat.testBit 7 (idx [x,y])=_;revert x y;decide
theorem cellF_or:cellF .or p [x,y]=(x||y):=by show Nat.testBit 14 (idx [x,y])=_;revert x y;decide
theorem cellF_nor:cellF .nor p [x,y]=!(x||y):=by show Nat.testBit 1 (idx [x,y])=_;revert x y;decide
theorem cellF_xor:cellF .xor p [x,y]=(x != y):=by show Nat.testBit 6 (idx [x,y])=_;revert x y;decide
theorem cellF_xnor:cellF .xnor p [x,y]=!(x != y):=by show Nat.testBit 9 (idx [x,y])=_;revert x y;decide
end
noncomputable def combOk (kd:Kd) (p:Par) (n:Nat):Prop:=match kd with
 | .lut=>(1≤n∧n≤3)∧∃ t,p=.tab t∧t<2^2^n
 | .cell=>(1≤n∧n≤3)∧∃ t,p=.cel t∧t<2^2^n
 | .not=>n=1∧p=.none
 | .buf=>n=1∧p=.none
 | .mux=>n=3∧p=.none
 | .flop=>False
 | .latch=>False
 | _=>n=2∧p=.none
section
variable {α:Type}{l:List α}{P:List α→Prop}
theorem len0_el {l:List α}{n:Nat} (h:l.length=n+1) (q:∀ a l',l'.length=n→P (a::l')):P l:=by
 cases l with
 | nil=>exact nomatch h
 | cons a l=>exact q a l (Nat.succ.inj h)
@[elab_as_elim] theorem len1_el (h:l.length=1) (q:∀ a,P [a]):P l:=len0_el h fun a l' e=>List.length_eq_zero_iff.mp e▸q a
@[elab_as_elim] theorem len2_el (h:l.length=2) (q:∀ a b,P [a,b]):P l:=len0_el h fun a l' e=>len1_el (P:=fun l=>P (a::l)) e (q a)
@[elab_as_elim] theorem len3_el (h:l.length=3) (q:∀ a b c,P [a,b,c]):P l:=len0_el h fun a l' e=>len2_el (P:=fun l=>P (a::l)) e (q a)
end
section
variable {X:PX}{x0 x2 x3:Option V}{m:Mem}{kd kd':Kd}{e:Ex}{rest:Sxs}{Φ:Fl→St→Prop}
theorem kn (kd':Kd) (hk:decide (kd=kd')=false) (h:semB X rest ⟨[x0,some (.str kd.str),x2,x3],m⟩ Φ):semB X (.cons (.ifS (.cmp .Eq (.var 1) (.str kd'.str)) (.cons (.ret e) .nil) .nil) rest) ⟨[x0,some (.str kd.str),x2,x3],m⟩ Φ:=by
 refine s_if (eq_s ?_)
 rw [Kd.eq_dec,hk]
 exact h
theorem ky (h:(sem X e).val ⟨[x0,some (.str kd.str),x2,x3],m⟩ (retK Φ)):semB X (.cons (.ifS (.cmp .Eq (.var 1) (.str kd.str)) (.cons (.ret e) .nil) .nil) rest) ⟨[x0,some (.str kd.str),x2,x3],m⟩ Φ:=s_if (eq_s (if_y rfl h))
end
section
variable {G:GC}{r:Nat}{Ψ:Addr→Mem→Prop}{m:Mem}{o:AigO}{A:AigA}{Φ:V→Mem→Prop}
theorem OpPost.neg {k:Nat}{f:(Nat→Bool)→Bool}{ρ:List (Option V)}{Θ:V→St→Prop} (h:OpPost m o A k f fun v m'=>Θ v ⟨ρ,m'⟩):OpPost m o A k (fun v=>!f v) fun v m'=>binW .BitXor v (.int 1) ⟨ρ,m'⟩ Θ :=
 fun m' A' q h1 h2 h3 h4 h5 h6=>bXor (b:=1) rfl rfl (h m' A' _ h1 h2 h3 (xor1_lt h4) (fun v C=>by rw [lit_not,h5 v C];exact Bool.not_not _) h6)
theorem gr21:∀ n,n≤3→growT n≤21:=by decide
theorem lt4 {n k:Nat} (h:n≤3) (hr:7≤k):n+4≤k:=Nat.le_trans (Nat.add_le_add_right h 4) hr
theorem cell_literal (hG:G.Ok) (hr:8≤r) {kd:Kd}{par:Par}{p:V}{ls:List Nat}{a:Addr} (N:AigAt m o A) (hk:combOk kd par ls.length) (hp:ParAt m p par) (ha:m a=some (.list (natL ls))) (hne:a≠o.ln) (hq:∀ q∈ls,q<2*A.nodes.length)
  (hs:A.nodes.length<600000) (h:OpPost m o A 21 (fun v=>cellF kd par (ls.map (lit v))) Φ):callW G r Ψ (.ref 286) [.ref o.x,.str kd.str,p,.ref a] m Φ:=by
 refine run286 hG hr ?_
 have h7:7≤r - 1:=pr hr rfl
 have hs8:A.nodes.length<800000:=Nat.lt_trans hs (nb rfl)
 have hs9:A.nodes.length<900000:=Nat.lt_trans hs (nb rfl)
 have tab:∀ t:Nat,ls.length≤3→t<2^2^ls.length→(∀ v,t.testBit (idx (ls.map (lit v)))=cellF kd par (ls.map (lit v)))→callW G (r - 1) Ψ (.ref 279) [.ref o.x,.int t,.ref a] m Φ:=fun t h2 ht e =>
  table_literal hG _ _ m A t ls a _ (lt4 h2 h7) rfl h2 ht N ha hne hq (Nat.lt_of_le_of_lt (Nat.add_le_add_left (gr21 _ h2) _) (Nat.lt_trans (Nat.add_lt_add_right hs 21) (nb rfl))) (h.mono (gr21 _ h2) e)
 cases kd with
 | flop=>exact hk.elim
 | latch=>exact hk.elim
 | lut =>
  obtain ⟨⟨_,h2⟩,t,rfl,ht⟩:=hk
  obtain rfl:p=.int t:=hp
  exact ky (kd:=.lut) (tab t h2 ht fun zz=>rfl)
 | cell =>
  obtain ⟨⟨_,h2⟩,t,rfl,ht⟩:=hk
  obtain ⟨b,x,rfl,hb,_⟩:=hp
  exact kn .lut rfl (ky (kd:=.cell) (it_t (k:=1) hb rfl (tab t h2 ht fun zz=>rfl)))
 | mux =>
  revert ha hq h
  refine len3_el hk.1 fun x y z ha hq h=>?_
  exact kn .lut rfl (kn .cell rfl (ky (kd:=.mux) (meth261 N a_lmux (it_l (k:=0) ha rfl (it_l (k:=1) ha rfl (it_l (k:=2) ha rfl (lmux hG (pr hr rfl) N (hq _ (.head _)) (hq _ (.tail _ (.head _))) (hq _ (.tail _ (.tail _ (.head _)))) hs8 (h.mono (nb rfl) fun v=>(cellF_mux _ _ _ _).symm))))))))
 | buf =>
  revert ha hq h
  refine len1_el hk.1 fun x ha hq h=>?_
  exact kn .lut rfl (kn .cell rfl (kn .mux rfl (ky (kd:=.buf) (it_l (k:=0) ha rfl (h.now N (hq _ (.head _)) fun v C=>(cellF_buf _ _).symm)))))
 | not =>
  revert ha hq h
  refine len1_el hk.1 fun x ha hq h=>?_
  exact kn .lut rfl (kn .cell rfl (kn .mux rfl (kn .buf rfl (ky (kd:=.not) (it_l (k:=0) ha rfl (bXor (b:=1) rfl rfl (h.now N (xor1_lt (hq _ (.head _))) fun v C=>(lit_not _).trans (cellF_not _ _).symm)))))))
 | and =>
  revert ha hq h
  refine len2_el hk.1 fun x y ha hq h=>?_
  exact kn .lut rfl (kn .cell rfl (kn .mux rfl (kn .buf rfl (kn .not rfl (ky (kd:=.and) (meth261 N a_land (it_l (k:=0) ha rfl (it_l (k:=1) ha rfl (land hG (pr hr rfl) N (hq _ (.head _)) (hq _ (.tail _ (.head _))) hs9 (h.mono (nb rfl) fun v=>(cellF_and _ _ _).symm))))))))))
 | nand =>
  revert ha hq h
  refine len2_el hk.1 fun x y ha hq h=>?_
  exact kn .lut rfl (kn .cell rfl (kn .mux rfl (kn .buf rfl (kn .not rfl (kn .and rfl (ky (kd:=.nand) (meth261 N a_land (it_l (k:=0) ha rfl (it_l (k:=1) ha rfl (land hG (pr hr rfl) N (hq _ (.head _)) (hq _ (.tail _ (.head _))) hs9 (OpPost.mono (OpPost.neg h) (nb rfl) fun v=>by show _=!cellF .nand _ [_,_];rw [cellF_nand];exact (Bool.not_not _).symm)))))))))))
 | or =>
  revert ha hq h
  refine len2_el hk.1 fun x y ha hq h=>?_
  exact kn .lut rfl (kn .cell rfl (kn .mux rfl (kn .buf rfl (kn .not rfl (kn .and rfl (kn .nand rfl (ky (kd:=.or) (meth261 N a_lor (it_l (k:=0) ha rfl (it_l (k:=1) ha rfl (lor hG (pr hr rfl) N (hq _ (.head _)) (hq _ (.tail _ (.head _))) hs9 (h.mono (nb rfl) fun v=>(cellF_or _ _ _).symm))))))))))))
 | nor =>
  revert ha hq h
  refine len2_el hk.1 fun x y ha hq h=>?_
  exact kn .lut rfl (kn .cell rfl (kn .mux rfl (kn .buf rfl (kn .not rfl (kn .and rfl (kn .nand rfl (kn .or rfl (ky (kd:=.nor) (meth261 N a_lor (it_l (k:=0) ha rfl (it_l (k:=1) ha rfl (lor hG (pr hr rfl) N (hq _ (.head _)) (hq _ (.tail _ (.head _))) hs9 (OpPost.mono (OpPost.neg h) (nb rfl) fun v=>by show _=!cellF .nor _ [_,_];rw [cellF_nor];exact (Bool.not_not _).symm)))))))))))))
 | xor =>
  revert ha hq h
  refine len2_el hk.1 fun x y ha hq h=>?_
  exact kn .lut rfl (kn .cell rfl (kn .mux rfl (kn .buf rfl (kn .not rfl (kn .and rfl (kn .nand rfl (kn .or rfl (kn .nor rfl (ky (kd:=.xor) (meth261 N a_lxor (it_l (k:=0) ha rfl (it_l (k:=1) ha rfl (lxor hG (pr hr rfl) N (hq _ (.head _)) (hq _ (.tail _ (.head _))) hs8 (h.mono (nb rfl) fun v=>(cellF_xor _ _ _).symm))))))))))))))
 | xnor =>
  revert ha hq h
  refine len2_el hk.1 fun x y ha hq h=>?_
  exact kn .lut rfl (kn .cell rfl (kn .mux rfl (kn .buf rfl (kn .not rfl (kn .and rfl (kn .nand rfl (kn .or rfl (kn .nor rfl (kn .xor rfl (ky (kd:=.xnor) (meth261 N a_lxor (it_l (k:=0) ha rfl (it_l (k:=1) ha rfl (lxor hG (pr hr rfl) N (hq _ (.head _)) (hq _ (.tail _ (.head _))) hs8 (OpPost.mono (OpPost.neg h) (nb rfl) fun v=>by show _=!cellF .xnor _ [_,_];rw [cellF_xnor];exact (Bool.not_not _).symm)))))))))))))))
theorem aig_new (hG:G.Ok) (hr:2≤r) (h:∀ o m',AigAt m' o ⟨[none],[],[]⟩→Gr m m'→m o.x=none→(∀ a∈o.all,m a=none)→Φ (.ref o.x) m'):callW G r Ψ (.ref 261) [] m Φ:=by
 refine pr1 hr (P:=fun r=>callW G r Ψ (.ref 261) [] m Φ) (new_ok hG c261 (init261 _) fun d x zz zz hne n1 n2=>?_)
 have g0:Gr m (upd (upd m d (.attrs [])) x (.inst 261 d)):=(Gr.upd n1).trans (Gr.upd ((upd_ne hne.symm).trans n2))
 have x0:upd (upd m d (.attrs [])) x (.inst 261 d) x=_:=upd_same _ _ _
 have d0:upd (upd m d (.attrs [])) x (.inst 261 d) d=_:=(upd_ne hne).trans (upd_same _ _ _)
 generalize upd (upd m d (.attrs [])) x (.inst 261 d)=m0 at g0 x0 d0
 refine run180 (k:=0) hG (pr hr rfl) (s_asg (w_list (nb rfl) fun ln m1 n1' l1 g1=>setA_go (g1 x0) c261 (g1 d0) (by decide) fun m2 d2 u2=>s_asg (w_list (nb rfl) fun li m3 n3 i3 g3=>?_)))
 have x2:=u2 hne.symm (g1 x0)
 have l2:=u2 (mn l1 (g1 d0) rfl) l1
 refine setA_go (g3 x2) c261 (g3 d2) (nb rfl) fun m4 d4 u4=>s_asg (w_list (nb rfl) fun lo m5 n5 o5 g5=>?_)
 have x4:=u4 hne.symm (g3 x2)
 have l4:=u4 (mn (g3 l2) (g3 d2) rfl) (g3 l2)
 have i4:=u4 (mn i3 (g3 d2) rfl) i3
 refine setA_go (g5 x4) c261 (g5 d4) (nb rfl) fun m6 d6 u6=>s_asg (new_go fun lt m7 n7 t7 g7=>?_)
 have x6:=u6 hne.symm (g5 x4)
 have l6:=u6 (mn (g5 l4) (g5 d4) rfl) (g5 l4)
 have i6:=u6 (mn (g5 i4) (g5 d4) rfl) (g5 i4)
 have o6:=u6 (mn o5 (g5 d4) rfl) o5
 have a2:=(g0.trans g1).set n1 u2
 have a4:=(a2.trans g3).set n1 u4
 have a6:=(a4.trans g5).set n1 u6
 refine setA_go (g7 x6) c261 (g7 d6) (nb rfl) fun m8 d8 u8=>?_
 refine ⟨rfl,h ⟨x,d,ln,li,lo,lt⟩ m8 ⟨[.none],[],⟨rfl,fun n l r q=>?_⟩,u8 hne.symm (g7 x6),d8,u8 (mn (g7 l6) (g7 d6) rfl) (g7 l6),u8 (mn (g7 i6) (g7 d6) rfl) (g7 i6),u8 (mn (g7 o6) (g7 d6) rfl) (g7 o6),u8 (mn t7 (g7 d6) rfl) t7,(fresh_ne n3 l2).symm,(fresh_ne n5 l4).symm,(fresh_ne n5 i4).symm,All2.nil.snoc rfl,Nat.zero_le _,fun l r v q=>nomatch q⟩
  ((a6.trans g7).set n1 u8) n2 (aall_el n1 (g0.old n1') (a2.old n3) (a4.old n5) (a6.old n7))⟩
 cases n with
 | zero=>exact nomatch q
 | succ n=>exact nomatch q
theorem aig_add_input (hG:G.Ok) (hr:1≤r) (N:AigAt m o A) (hs:A.nodes.length<900000) (hi:A.ins.length<900000) (h:∀ m',AigAt m' o ⟨A.nodes++[none],A.ins++[A.nodes.length],A.outs⟩→Same [o.ln,o.li] m m'→Φ (.int ((2*A.nodes.length:Nat):Int)) m'):callW G r Ψ (.ref 187) [.ref o.x] m Φ:=by
 obtain ⟨vs,es,ok,N⟩:=N
 have hl:vs.length=A.nodes.length:=N.10.1
 refine run187 hG hr (s_asg (N.aN (len_l N.3 hl (s_app (fun zz h=>N.aN h) N.3 (app_go N.3 (by rw [hl];exact b9 hs) fun m1 l1 u1=>?_)))))
 have N1:=N.node (v:=.none) (n:=none) rfl l1 u1
 refine s_app (fun zz h=>N1.aI h) N1.4 (app_go N1.4 (by rw [natL_len];exact b9 hi) fun m2 i2 u2=>s_ret (bMul (.inl p63) rfl (h m2 ⟨_,es,ok.snoc fun a b e=>noS rfl e,N1.setI (by rw [natL_snoc];exact i2) u2⟩ ((u1.same (.head _)).trans (u2.same (.tail _ (.head _)))))))
theorem aig_add_output (hG:G.Ok) (hr:1≤r) {q:Nat} (N:AigAt m o A) (hi:A.outs.length<900000) (h:∀ m',AigAt m' o ⟨A.nodes,A.ins,A.outs++[q]⟩→Up o.lo m m'→Φ .none m'):callW G r Ψ (.ref 194) [.ref o.x,.int q] m Φ:=by
 obtain ⟨vs,es,ok,N⟩:=N
 exact run194 hG hr (s_app (fun zz h=>N.aO h) N.5 (app_go N.5 (by rw [natL_len];exact b9 hi) fun m1 l1 u1=>h m1 ⟨vs,es,⟨ok.1,ok.2⟩,N.setO (by rw [natL_snoc];exact l1) u1⟩ u1))
end
noncomputable def dN (l:List (Nat × Nat)):List (K × V):=l.map fun p=>(.int p.1,.int p.2)
noncomputable def putN {α:Type} (n:Nat) (v:α):List (Nat × α)→List (Nat × α)
 | []=>[(n,v)]
 | p::l=>if p.1=n then (n,v)::l else p::putN n v l
theorem K_inj {a b:Nat} (h:K.int (a:Int)=K.int (b:Int)):a=b:=Int.ofNat.inj (At.int.inj (K.at.inj h))
theorem K_ne {a b:Nat} (h:a≠b):K.int (a:Int)≠K.int (b:Int):=fun e=>h (K_inj e)
theorem keyInt {m:Mem}{i:Int}:keyOf m (.int i)=some (.int i):=rfl
section
variable {α:Type}{n k:Nat}{v:α}{l:List (Nat × α)}
theorem lk_eq:List.lookup n ((n,v)::l)=some v:=by rw [List.lookup_cons,beq_self_eq_true]
theorem lk_ne (h:k≠n):List.lookup k ((n,v)::l)=l.lookup k:=by rw [List.lookup_cons,beq_false_of_ne h]
theorem dget_map (f:α→V) (n:Nat):∀ l:List (Nat × α),dget (.int (n:Int)) (l.map fun p=>(.int (p.1:Int),f p.2))=(l.lookup n).map f
 | []=>rfl
 | (k,v)::l=>by
  show (if K.int (k:Int)=K.int (n:Int) then some (f v) else dget (.int (n:Int)) (l.map fun p=>(.int (p.1:Int),f p.2)))=_
  by_cases h:k=n
  ·rw [h,if_pos rfl,lk_eq];rfl
  ·rw [if_neg (K_ne h),lk_ne (Ne.symm h),dget_map f n l]
theorem dput_map (f:α→V) (n:Nat) (v:α):∀ l:List (Nat × α),dput (.int (n:Int)) (f v) (l.map fun p=>(.int (p.1:Int),f p.2))=(putN n v l).map fun p=>(.int (p.1:Int),f p.2)
 | []=>rfl
 | (k,u)::l=>by
  show (if K.int (k:Int)=K.int (n:Int) then (K.int (n:Int),f v)::_ else (K.int (k:Int),f u)::dput (.int (n:Int)) (f v) (l.map fun p=>(.int (p.1:Int),f p.2)))=(if k=n then (n,v)::l else (k,u)::putN n v l).map _
  by_cases h:k=n
  ·rw [h,if_pos rfl,if_pos rfl];rfl
  ·rw [if_neg (K_ne h),if_neg h,dput_map f n v l];rfl
theorem lookup_putN (n k:Nat) (v:α):∀ l:List (Nat × α),(putN n v l).lookup k=if k=n then some v else l.lookup k
 | []=>by
  show List.lookup k [(n,v)]=_
  by_cases h:k=n
  ·rw [h,if_pos rfl,lk_eq]
  ·rw [if_neg h,lk_ne h]
 | (j,u)::l=>by
  show List.lookup k (if j=n then (n,v)::l else (j,u)::putN n v l)=_
  by_cases h:j=n
  ·rw [if_pos h,h]
   by_cases h':k=n
   ·rw [h',if_pos rfl,lk_eq]
   ·rw [if_neg h',lk_ne h',lk_ne h']
  ·rw [if_neg h]
   by_cases h':k=j
   ·rw [h',if_neg h,lk_eq,lk_eq]
   ·rw [lk_ne h',lk_ne h'];exact lookup_putN n k v l
theorem putN_len (n:Nat) (v:α):∀ l:List (Nat × α),(putN n v l).length≤l.length+1
 | []=>Nat.le_refl _
 | p::l=>by
  show (if p.1=n then (n,v)::l else p::putN n v l).length≤_
  by_cases h:p.1=n
  ·rw [if_pos h];exact Nat.le_succ _
  ·rw [if_neg h];exact Nat.succ_le_succ (putN_len n v l)
theorem putN_has:∀ {l:List (Nat × α)},(l.lookup n).isSome=true→(putN n v l).length=l.length
 | [],h=>nomatch h
 | p::l,h=>by
  show (if p.1=n then (n,v)::l else p::putN n v l).length=_
  by_cases q:p.1=n
  ·rw [if_pos q];rfl
  ·rw [if_neg q]
   exact congrArg (·+1) (putN_has (l:=l) ((lk_ne (v:=p.2) (l:=l) (Ne.symm q))▸h))
theorem putN_new:∀ {l:List (Nat × α)},n∉l.map (·.1)→putN n v l=l++[(n,v)]
 | [],_=>rfl
 | p::l,h=>by
  show (if p.1=n then (n,v)::l else p::putN n v l)=_
  rw [if_neg fun q=>h (List.mem_cons.mpr (.inl q.symm)),putN_new fun q=>h (.tail _ q)];rfl
theorem lookup_none:∀ {l:List (Nat × α)},n∉l.map (·.1)→l.lookup n=none
 | [],_=>rfl
 | (k,u)::l,h=>(lk_ne (v:=u) fun e=>h (List.mem_cons.mpr (.inl e))).trans (lookup_none fun q=>h (.tail _ q))
theorem lookup_some_mem:∀ {l:List (Nat × α)},l.lookup n=some v→(n,v)∈l
 | [],h=>nomatch h
 | (k,u)::l,h=>by
  by_cases e:n=k
  ·subst e;rw [lk_eq] at h;exact Option.some.inj h▸.head _
  ·exact .tail _ (lookup_some_mem ((lk_ne e).symm.trans h))
theorem lookup_of_mem:∀ {l:List (Nat × α)},(l.map (·.1)).Nodup→(n,v)∈l→l.lookup n=some v
 | (k,u)::l,nd,h=>by
  have nd:=List.nodup_cons.mp nd
  rcases List.mem_cons.mp h with e|h
  ·cases e;exact lk_eq
  ·exact (lk_ne fun (q:n=k)=>nd.1 (q▸List.mem_map.mpr ⟨_,h,rfl⟩)).trans (lookup_of_mem nd.2 h)
end
theorem dget_dN (n:Nat) (l:List (Nat × Nat)):dget (.int (n:Int)) (dN l)=(l.lookup n).map fun (v:Nat)=>.int v:=dget_map (fun (v:Nat)=>.int v) n l
theorem dget_dN_at {n v:Nat}{l:List (Nat × Nat)} (h:l.lookup n=some v):dget (.int (n:Int)) (dN l)=some (.int v):=by rw [dget_dN,h];rfl
theorem dput_dN (n v:Nat) (l:List (Nat × Nat)):dput (.int (n:Int)) (.int (v:Int)) (dN l)=dN (putN n v l):=dput_map (fun (v:Nat)=>.int v) n v l
theorem dN_len (l:List (Nat × Nat)):(dN l).length=l.length:=List.length_map _
noncomputable def dB (l:List Nat):List (K × V):=(l.map fun n=>(n,true)).map fun p=>(.int (p.1:Int),.bool p.2)
theorem dB_len (l:List Nat):(dB l).length=l.length:=by unfold dB;rw [List.length_map,List.length_map]
theorem ttk (l:List Nat):(l.map fun n=>(n,true)).map (·.1)=l:=by rw [List.map_map];exact List.map_id _
theorem dhas_dB {n:Nat}{l:List Nat} (h:n∉l):dhas (.int (n:Int)) (dB l)=false:=by
 unfold dhas dB
 rw [dget_map (fun b=>V.bool b),lookup_none (by rw [ttk];exact h)];rfl
theorem dput_dB {n:Nat}{l:List Nat} (h:n∉l):dput (.int (n:Int)) (.bool true) (dB l)=dB (l++[n]):=by
 unfold dB
 rw [dput_map (fun b=>V.bool b),putN_new (by rw [ttk];exact h),List.map_append (f:=fun n=>(n,true))];rfl
noncomputable def NetA.drv (N:NetA):List (Nat × Nat):=N.cells.zipIdx.map fun p=>(p.1.out,p.2)
noncomputable def NetA.inNets (N:NetA):List Nat:=N.ins.flatMap (·.2)
theorem drv_keys (l:List Cell) (n:Nat):((l.zipIdx n).map fun p=>(p.1.out,p.2)).map (·.1)=l.map (·.out):=by
 rw [List.map_map]
 exact (List.map_map (f:=Prod.fst) (g:=fun c:Cell=>c.out)).symm.trans (congrArg _ (List.zipIdx_map_fst n l))
theorem drvUpTo {N:NetA}{k:Nat}{c:Cell} (h:N.cells[k]?=some c):((N.cells.take (k+1)).zipIdx.map fun p=>(p.1.out,p.2))=((N.cells.take k).zipIdx.map fun p=>(p.1.out,p.2))++[(c.out,k)]:=by
 rw [List.take_add_one,h,List.zipIdx_append,List.map_append,List.length_take,Nat.min_eq_left (Nat.le_of_lt (at_lt h)),Nat.zero_add];rfl
section
variable {α:Type}{l D L rest:List α}{k:Nat}{x:α}
theorem split_at' (h:l[k]?=some x):l=l.take k++x::l.drop (k+1):=by
 have e:=List.getElem?_eq_some_iff.mp h
 conv=>lhs;rw [←List.take_append_drop k l,List.drop_eq_getElem_cons e.1,e.2]
theorem take_snoc (h:l[k]?=some x):l.take (k+1)=l.take k++[x]:=by rw [List.take_add_one,h];rfl
theorem map_snoc {β:Type} (f:α→β) (h:l[k]?=some x):(l.take (k+1)).map f=(l.take k).map f++[f x]:=by rw [take_snoc h,List.map_append];rfl
theorem nd_next (nd:D.Nodup) (e:D=L++x::rest):x∉L:=fun h=>(List.nodup_append.mp (e▸nd)).2.2 x h x (.head _) rfl
theorem len_next (e:D=L++x::rest):L.length<D.length:=by rw [e,List.length_append];exact Nat.lt_add_of_pos_right (Nat.succ_pos _)
end
theorem take_go {X:PX}{x0 x2 x3:Option V}{ρ:List (Option V)}{m:Mem}{l:Addr}{x:Nat}{D L rest:List Nat}{r:Sxs}{Φ:Fl→St→Prop} (nd:D.Nodup) (hD:D.length<1000000) (e:D=L++x::rest) (hl:m l=some (.dict (dB L)))
  (h:∀ m',m' l=some (.dict (dB (L++[x])))→Up l m m'→semB X r ⟨x0::some (.ref l)::x2::x3::some (.int x)::ρ,m'⟩ Φ) :
  semB X (.cons (.ifS (.cmp .In (.var 4) (.var 1)) (.cons .bad .nil) .nil) (.cons (.asg (.item (.var 1) (.var 4)) (.bool true)) r)) ⟨x0::some (.ref l)::x2::x3::some (.int x)::ρ,m⟩ Φ:=by
 have hn:=nd_next nd e
 refine s_if (in_d hl keyInt ?_)
 rw [dhas_dB hn]
 refine if_f (s_nil (s_asg (setD_go hl keyInt (by rw [dB_len];exact Nat.lt_trans (len_next e) hD) fun m' h' u=>?_)))
 rw [dput_dB hn] at h'
 exact h m' h' u
section
variable {G:GC}{r:Nat}{Ψ:Addr→Mem→Prop}{m:Mem}{x:Addr}{N:NetA}{Φ:V→Mem→Prop}
theorem drivers (hG:G.Ok) (hr:1≤r) (hN:NetR m (.ref x) N) (S:N.Small) (nd:(0::1::(N.inNets++N.cells.map (·.out))).Nodup) (h:∀ m' d,m d=none→m' d=some (.dict (dN N.drv))→Gr m m'→Φ (.ref d) m'):callW G r Ψ (.ref 152) [.ref x] m Φ:=by
 refine hN.el fun o nm vi vo vc bi bo a hpi hpo hcs=>?_
 have hD:(0::1::(N.inNets++N.cells.map (·.out))).length<1000000:=by
  have h1:=S.4
  have h2:=S.3
  have h3:N.inNets.length≤N.srcs.length:=by unfold NetA.srcs;rw [List.length_append];exact Nat.le_add_right _ _
  rw [List.length_cons,List.length_cons,List.length_append,List.length_map]
  omega
 refine run152 hG hr (s_asg (new_go fun l m1 n1 l1 g1=>s_for ((a.keep g1).aI ?_)))
 refine for_go (T:=Option V × Option V × Option V) (F:=fun x=>[some (.ref o.x),some (.ref l),x.1,x.2.1,x.2.2,none,none]) (x0:=(none,none,none)) (iter_list (g1 a.3)) (fun k zz μ=>A2 (μ l=some (.dict (dB (0::1::(N.ins.take k).flatMap (·.2))))) (Gr m μ)) (fun zz zz zz q=>q.2 a.3) ⟨l1,g1⟩ (fun k x m2 v Ψ' hv q hΨ=>?_) fun x m2 q=>s_asg (new_go fun f m3 n3 f3 g3=>?_)
 ·refine hpi.get hv fun p b t hp zz ht hb=>t_tup2 (q.2 ht) (s_for ?_)
  have ef:=flat_take (·.2) hp
  refine for_nats (F:=fun y=>[some (.ref o.x),some (.ref l),some (.str p.1),some (.ref b),y,none,none]) (x0:=x.2.2) (iter_list (q.2 hb)) (fun j zz μ=>A2 (μ l=some (.dict (dB (0::1::((N.ins.take k).flatMap (·.2)++p.2.take j))))) (Gr m μ)) (fun zz zz zz q=>q.2 hb) ⟨by rw [List.take_zero,List.append_nil];exact q.1,q.2⟩ (fun j y m4 net Ψ2 hj q4 hΨ2=>?_) fun y m4 q4=>hΨ (_,_,y) m4 ⟨?_,q4.2⟩
  ·refine take_go nd hD (rest:=p.2.drop (j+1)++((N.ins.drop (k+1)).flatMap (·.2)++N.cells.map (·.out))) ?_ q4.1 fun m5 l5 u5=>hΨ2 _ m5 ⟨?_,q4.2.set n1 u5⟩
   ·refine congrArg (0::1::·) ?_
    show N.ins.flatMap (·.2)++_=_
    conv=>lhs;rw [split_at' hp,List.flatMap_append,List.flatMap_cons];arg 1;arg 2;arg 1;rw [split_at' hj]
    simp only [List.append_assoc,List.cons_append]
    exact (List.append_assoc _ _ _).symm
   ·rw [take_snoc hj,←List.append_assoc];exact l5
  ·have:=q4.1
   rw [List.take_length,←ef] at this
   exact this
 have l2:=q.1
 rw [hpi.len,List.take_length] at l2
 have g3':=q.2.trans g3
 refine a_nm (s_for ((a.keep g3').aC (len_l (g3' a.5) hcs.len (w_range (b30 S.3) fun ra m4 n4 r4 g4=>?_))))
 have nf:=q.2.old n3
 have fl:=fresh_ne n3 l2
 refine for_range (T:=Option V × Option V) (F:=fun y=>[some (.ref o.x),some (.ref l),x.1,x.2.1,y.1,some (.ref f),y.2]) (x0:=(x.2.2,none)) r4 (b30 S.3) (fun k zz μ=>A4 (μ l=some (.dict (dB (0::1::(N.inNets++(N.cells.take k).map (·.out)))))) (μ f=some (.dict (dN ((N.cells.take k).zipIdx.map fun p=>(p.1.out,p.2))))) (μ ra=some (.range 0 N.cells.length 1)) (Gr m μ)) (fun zz zz zz q=>q.3)
  ⟨by rw [List.take_zero,List.map_nil,List.append_nil];exact g4 (g3 l2),g4 f3,r4,g3'.trans g4⟩ (fun k y m5 Ψ' hk q hΨ=>?_) fun y m5 q=>?_
 ·have hc:=List.getElem?_eq_getElem hk
  refine hcs.at hc fun t b p hv ht zz zz=>s_asg ((a.keep q.4).aC (it_l (q.4 a.5) hv (it_t (k:=1) (q.4 ht) rfl (a_nm ?_))))
  have e:(0::1::(N.inNets++N.cells.map (·.out)))=(0::1::(N.inNets++(N.cells.take k).map (·.out)))++N.cells[k].out::(N.cells.drop (k+1)).map (·.out):=by
   refine congrArg (0::1::·) ?_
   conv=>lhs;rw [split_at' hc,List.map_append]
   exact (List.append_assoc _ _ _).symm
  refine take_go nd hD e q.1 fun m6 l6 u6=>s_asg (setD_go (u6 fl q.2) keyInt (by rw [dN_len,List.length_map,List.length_zipIdx,List.length_take];exact Nat.lt_of_le_of_lt (Nat.min_le_right _ _) (b6 S.3)) fun m7 f7 u7=>hΨ (_,_) m7 ⟨?_,?_,u7 (mn q.3 q.2 rfl) (u6 (mn q.3 q.1 rfl) q.3),(q.4.set n1 u6).set nf u7⟩)
  ·rw [map_snoc _ hc,←List.append_assoc];exact u7 fl.symm l6
  ·rw [dput_dN,putN_new (by rw [drv_keys];exact fun z=>nd_next nd e (.tail _ (.tail _ (List.mem_append_right _ z)))),←drvUpTo hc] at f7
   exact f7
 ·have:=q.2
  rw [List.take_length] at this
  exact h m5 f nf this q.4
end
end
section
noncomputable def NetA.isComb (N:NetA) (i:Nat):Bool:=match N.cells[i]? with|some c=>!c.kd.state|none=>false
noncomputable def NetA.pred1 (N:NetA) (net:Nat):Option Nat:=match N.drv.lookup net with|some b=>if N.isComb b then some b else none|none=>none
noncomputable def NetA.preds (N:NetA) (i:Nat):List Nat:=match N.cells[i]? with|some c=>if c.kd.state then [] else c.ins.filterMap N.pred1|none=>[]
noncomputable def NetA.users (N:NetA) (k b:Nat):List Nat:=(List.range k).flatMap fun i=>((N.preds i).filter (·==b)).map fun zz=>i
noncomputable def NetA.Topo (N:NetA):Prop:=∀ i,N.isComb i=true→∀ p∈N.preds i,p<i
set_option tactic.hygienic true in
theorem preds_comb {N:NetA}{i p:Nat} (h:p∈N.preds i):N.isComb p=true:=by
 unfold NetA.preds at h
 split at h
 ·split at h
  ·cases h
  ·obtain ⟨net,_,e⟩:=List.mem_filterMap.mp h
   unfold NetA.pred1 at e
   split at e
   ·split at e
    ·rename_i hc;cases e;exact hc
    ·cases e
   ·cases e
 ·cases h
set_option tactic.hygienic true in
theorem isComb_lt {N:NetA}{i:Nat} (h:N.isComb i=true):i<N.cells.length:=by
 unfold NetA.isComb at h
 split at h
 ·rename_i c hc;exact (List.getElem?_eq_some_iff.mp hc).1
 ·cases h
theorem count_users (N:NetA) (b i:Nat):∀ k,(N.users k b).count i=if i<k then (N.preds i).count b else 0
 | 0=>by simp [NetA.users]
 | k+1=>by
  have ih:=count_users N b i k
  unfold NetA.users at ih ⊢
  rw [List.range_succ,List.flatMap_append,List.count_append,ih]
  simp only [List.flatMap_cons,List.flatMap_nil,List.append_nil]
  by_cases h:i=k
  ·subst h
   rw [if_neg (by exact Nat.lt_irrefl _),if_pos (by exact Nat.le_refl _)]
   rw [List.map_const',List.count_replicate_self,List.count_eq_length_filter,Nat.zero_add]
  ·have:(((N.preds k).filter (·==b)).map fun zz=>k).count i=0:=by
    apply List.count_eq_zero.mpr
    intro q
    obtain ⟨_,_,e⟩:=List.mem_map.mp q
    exact h e.symm
   rw [this]
   by_cases h2:i<k
   ·rw [if_pos h2,if_pos (by exact Nat.le_succ_of_le h2),Nat.add_zero]
   ·rw [if_neg h2,if_neg (by lia)]
theorem mem_users {N:NetA}{k b i:Nat} (h:i∈N.users k b):i<k∧b∈N.preds i:=by
 unfold NetA.users at h
 obtain ⟨j,h1,h2⟩:=List.mem_flatMap.mp h
 obtain ⟨p,h3,rfl⟩:=List.mem_map.mp h2
 obtain ⟨h4,h5⟩:=List.mem_filter.mp h3
 have:=beq_iff_eq.mp h5
 subst this
 exact ⟨List.mem_range.mp h1,h4⟩
set_option tactic.hygienic true in
theorem comb_of_pred {N:NetA}{i p:Nat} (h:p∈N.preds i):N.isComb i=true:=by
 unfold NetA.preds at h
 unfold NetA.isComb
 split at h
 ·rename_i c hc
  split at h
  ·cases h
  ·rename_i hs
   simpa using hs
 ·cases h
noncomputable def unmet (N:NetA) (T:List Nat) (i:Nat):List Nat:=(N.preds i).filter fun p=>!decide (p∈T)
structure Kahn (N:NetA) (t:Nat) (R:List Nat) (W:Nat→Nat):Prop where
 nd:R.Nodup
 comb:∀ i∈R,N.isComb i=true
 le:t≤R.length
 wait:∀ i,N.isComb i=true→W i=(unmet N (R.take t) i).length
 iff:∀ i,N.isComb i=true→(i∈R↔W i=0)
 ord:∀ k i,R[k]?=some i→∀ p∈N.preds i,p∈R.take k
structure KahnI (N:NetA) (T:List Nat) (b:Nat) (L:List Nat) (R:List Nat) (W:Nat→Nat):Prop where
 nd:R.Nodup
 comb:∀ i∈R,N.isComb i=true
 pre:∃ r,R=T++b::r
 wait:∀ i,N.isComb i=true→W i+L.count i=(unmet N T i).length
 iff:∀ i,N.isComb i=true→(i∈R↔W i=0)
 ord:∀ k i,R[k]?=some i→∀ p∈N.preds i,p∈R.take k
theorem unmet_ge {N:NetA}{T:List Nat}{b i:Nat} (hb:b∉T):(N.preds i).count b≤(unmet N T i).length:=by
 unfold unmet
 rw [List.count_eq_length_filter]
 have:(N.preds i).filter (·==b)=((N.preds i).filter fun p=>!decide (p∈T)).filter (·==b):=by
  rw [List.filter_filter]
  apply List.filter_congr
  intro x _
  by_cases e:x=b
  ·subst e;simp [hb]
  ·simp [e]
 rw [this]
 exact List.length_filter_le _ _
theorem unmet_step {N:NetA}{T:List Nat}{b i:Nat} (hb:b∉T):(unmet N (T++[b]) i).length+(N.preds i).count b=(unmet N T i).length:=by
 unfold unmet
 generalize N.preds i=l
 induction l with
 | nil=>rfl
 | cons p l ih =>
  rw [List.filter_cons,List.filter_cons,List.count_cons]
  by_cases hp:p∈T
  ·have hpb:p≠b:=fun q=>hb (q▸hp)
   rw [if_neg (show ¬((!decide (p∈T++[b]))=true) by simp [hp]),if_neg (show ¬((!decide (p∈T))=true) by simp [hp]),if_neg (show ¬((p==b)=true) by simpa using hpb)]
   exact ih
  ·by_cases hpb:p=b
   ·subst hpb
    rw [if_neg (show ¬((!decide (p∈T++[p]))=true) by simp),if_pos (show (!decide (p∈T))=true by simp [hp]),if_pos (show (p==p)=true by simp),List.length_cons];exact congrArg _ ih
   ·rw [if_pos (show (!decide (p∈T++[b]))=true by simp [hp,hpb]),if_pos (show (!decide (p∈T))=true by simp [hp]),if_neg (show ¬((p==b)=true) by simpa using hpb),List.length_cons,List.length_cons];lia
theorem Kahn.enter {N:NetA}{t b:Nat}{R:List Nat}{W:Nat→Nat} (K:Kahn N t R W) (h:R[t]?=some b):KahnI N (R.take t) b [] R W∧b∉R.take t:=by
 obtain ⟨hl,hb⟩:=List.getElem?_eq_some_iff.mp h
 have e:R=R.take t++b::R.drop (t+1):=by
  conv=>lhs;rw [←List.take_append_drop t R]
  rw [List.drop_eq_getElem_cons hl,hb]
 refine ⟨⟨K.nd,K.comb,⟨_,e⟩,fun i hi=>by rw [List.count_nil,Nat.add_zero];exact K.wait i hi,K.iff,K.ord⟩,fun q=>?_⟩
 have:=K.nd
 rw [e] at this
 exact (List.nodup_append.mp this).2.2 b q b List.mem_cons_self rfl
set_option tactic.hygienic true in
theorem KahnI.step {N:NetA}{T:List Nat}{b i:Nat}{L:List Nat}{R:List Nat}{W:Nat→Nat} (K:KahnI N T b L R W) (hb:b∉T) (hi:N.isComb i=true) (hc:(L++[i]).count i≤(N.preds i).count b) :
  0<W i∧KahnI N T b (L++[i]) (if W i=1 then R++[i] else R) (fun j=>if j=i then W i - 1 else W j):=by
 have hw:=K.wait i hi
 have hge:=unmet_ge (N:=N) (T:=T) (i:=i) hb
 have hc':L.count i+1≤(N.preds i).count b:=by
  rw [List.count_append] at hc;simpa using hc
 have pos:0<W i:=by lia
 have hnot:i∉R:=fun q=>by have:=(K.iff i hi).mp q;lia
 refine ⟨pos,?_⟩
 have wait':∀ j,N.isComb j=true→(if j=i then W i - 1 else W j)+(L++[i]).count j=(unmet N T j).length:=fun j hj=>by
  rw [List.count_append]
  by_cases e:j=i
  ·subst e;rw [if_pos rfl];simp;lia
  ·rw [if_neg e]
   have:[i].count j=0:=List.count_eq_zero.mpr (by simpa using e)
   rw [this];exact K.wait j hj
 by_cases h1:W i=1
 ·rw [if_pos h1]
  obtain ⟨r,hr⟩:=K.pre
  refine ⟨?_,?_,⟨r++[i],by rw [hr];simp⟩,wait',fun j hj=>?_,fun k j hk p hp=>?_⟩
  ·rw [List.nodup_append]
   exact ⟨K.nd,by simp,fun a ha c hc=>by simp at hc;subst hc;exact fun e=>hnot (e▸ha)⟩
  ·intro j hj
   rcases List.mem_append.mp hj with q|q
   ·exact K.comb j q
   ·simp at q;subst q;exact hi
  ·rw [List.mem_append]
   by_cases e:j=i
   ·subst e;simp;lia
   ·rw [if_neg e]
    simp only [List.mem_singleton,e,or_false]
    exact K.iff j hj
  ·rw [List.getElem?_append] at hk
   split at hk
   ·rename_i hl
    rw [List.take_append_of_le_length (by exact Nat.le_of_lt hl)]
    exact K.ord k j hk p hp
   ·rename_i hl
    cases hk0:k - R.length with
    | succ q=>rw [hk0] at hk;simp at hk
    | zero =>
     rw [hk0] at hk
     simp at hk
     subst hk
     have:k=R.length:=by lia
     subst this
     rw [List.take_append_of_le_length (Nat.le_refl _),List.take_length]
     by_cases hpT:p∈T
     ·rw [hr];exact List.mem_append_left _ hpT
     ·by_cases hpb:p=b
      ·rw [hr,hpb];simp
      ·exfalso
       have hs:=unmet_step (N:=N) (T:=T) (b:=b) (i:=i) hb
       have:p∈unmet N (T++[b]) i:=by
        unfold unmet
        rw [List.mem_filter]
        exact ⟨hp,by simp [hpT,hpb]⟩
       have:=List.length_pos_of_mem this
       lia
 ·rw [if_neg h1]
  refine ⟨K.nd,K.comb,K.pre,wait',fun j hj=>?_,K.ord⟩
  by_cases e:j=i
  ·subst e;rw [if_pos rfl]
   constructor
   ·intro q;exact absurd q hnot
   ·intro q;lia
  ·rw [if_neg e];exact K.iff j hj
theorem KahnI.leave {N:NetA}{t b:Nat}{R0 R:List Nat}{L:List Nat}{W:Nat→Nat} (K:KahnI N (R0.take t) b L R W) (ht:t≤R0.length) (hb:b∉R0.take t) (hL:∀ i,N.isComb i=true→L.count i=(N.preds i).count b):Kahn N (t+1) R W:=by
 obtain ⟨r,hr⟩:=K.pre
 have hlen:(R0.take t).length=t:=by rw [List.length_take];lia
 have e:R.take (t+1)=R0.take t++[b]:=by
  rw [hr,List.take_append,hlen]
  rw [List.take_of_length_le (by lia)]
  simp
 refine ⟨K.nd,K.comb,by rw [hr,List.length_append,hlen];simp,fun i hi=>?_,K.iff,K.ord⟩
 have h1:=K.wait i hi
 have h2:=unmet_step (N:=N) (T:=R0.take t) (b:=b) (i:=i) hb
 rw [hL i hi] at h1
 rw [e];lia
theorem Kahn.all {N:NetA}{R:List Nat}{W:Nat→Nat} (K:Kahn N R.length R W) (T:N.Topo):∀ i,N.isComb i=true→i∈R:=by
 intro i
 induction i using Nat.strongRecOn with
 | ind i ih =>
  intro hi
  refine (K.iff i hi).mpr ?_
  rw [K.wait i hi,List.take_length]
  have:unmet N R i=[]:=by
   unfold unmet
   rw [List.filter_eq_nil_iff]
   intro p hp
   simp [ih p (T i hi p hp) (preds_comb hp)]
  rw [this];rfl
structure Order (N:NetA) (R:List Nat):Prop where
 nd:R.Nodup
 comb:∀ i∈R,N.isComb i=true
 all:∀ i,N.isComb i=true→i∈R
 ord:∀ k i,R[k]?=some i→∀ p∈N.preds i,p∈R.take k
theorem Order.len {N:NetA}{R:List Nat} (O:Order N R):R.length+N.stIdx.length=N.cells.length:=by
 have h1:R.length=((List.range N.cells.length).filter N.isComb).length:=by
  refine Nat.le_antisymm (O.nd.length_le_of_subset fun i hi=>?_) (List.Nodup.length_le_of_subset (List.nodup_range.filter _) fun i hi=>?_)
  ·rw [List.mem_filter,List.mem_range];exact ⟨isComb_lt (O.comb i hi),O.comb i hi⟩
  ·exact O.all i (List.mem_filter.mp hi).2
 have h2:N.stIdx=(List.range N.cells.length).filter fun i=>!N.isComb i:=by
  unfold NetA.stIdx NetA.isComb
  apply List.filter_congr
  intro i hi
  rw [List.getElem?_eq_getElem (List.mem_range.mp hi),isSt_at (List.getElem?_eq_getElem (List.mem_range.mp hi))]
  exact (Bool.not_not _).symm
 rw [h1,h2]
 have:∀ (l:List Nat) (p:Nat→Bool),(l.filter p).length+(l.filter fun i=>!p i).length=l.length:=by
  intro l p
  induction l with
  | nil=>rfl
  | cons a l ih =>
   rw [List.filter_cons,List.filter_cons]
   cases p a <;> simp <;> lia
 rw [this,List.length_range]
end
section
open PySem PySem.W PyProof.Rows PySem.Calls
open Str (ofString)
inductive UAt (m0 m:Mem) (lr:Addr) (es:List (K × V)) (l:List Nat) (b:Nat):Prop
 | no (h:dget (.int (b:Int)) es=none) (e:l=[])
 | at (a:Addr) (h:dget (.int (b:Int)) es=some (.ref a)) (hm:m a=some (.list (natL l))) (h0:m0 a=none) (hr:a≠lr)
inductive UsersAt (m0 m:Mem) (lr:Addr) (es:List (K × V)) (uf:Nat→List Nat) (B:Nat):Prop
 | mk (at_:∀ b:Nat,UAt m0 m lr es (uf b) b) (inj:∀ (b b':Nat) a,dget (.int (b:Int)) es=some (.ref a)→dget (.int (b':Int)) es=some (.ref a)→b=b') (len:es.length≤B) (lens:∀ b,(uf b).length≤B)
section
variable {m0 m m':Mem}{lr a lu:Addr}{es:List (K × V)}{uf:Nat→List Nat}{B B' b k:Nat}
theorem UsersAt.keep (U:UsersAt m0 m lr es uf B) (h:∀ (a:Addr) (xs:List V),a≠lr→m a=some (.list xs)→m' a=some (.list xs)):UsersAt m0 m' lr es uf B :=
 ⟨fun b=>match U.1 b with
  | .no h e=>.no h e
  | .at a h1 h2 h3 h4=>.at a h1 (h a _ h4 h2) h3 h4,U.2,U.3,U.4⟩
theorem UsersAt.gr (U:UsersAt m0 m lr es uf B) (g:Gr m m'):UsersAt m0 m' lr es uf B:=U.keep fun zz zz zz e=>g e
theorem UsersAt.upr (U:UsersAt m0 m lr es uf B) (u:Up lr m m'):UsersAt m0 m' lr es uf B:=U.keep fun zz zz h e=>u h e
theorem UsersAt.up {d:List (K × V)} (U:UsersAt m0 m lr es uf B) (u:Up a m m') (h:m a=some (.dict d)):UsersAt m0 m' lr es uf B:=U.keep fun zz zz zz e=>u (mn e h rfl) e
theorem UsersAt.mono (U:UsersAt m0 m lr es uf B) (h:B≤B'):UsersAt m0 m lr es uf B':=⟨U.1,U.2,Nat.le_trans U.3 h,fun b=>Nat.le_trans (U.4 b) h⟩
theorem UsersAt.push (U:UsersAt m0 m lr es uf B) (ha:dget (.int (b:Int)) es=some (.ref a)) (h:m' a=some (.list (natL (uf b++[k])))) (u:Up a m m') :
  UsersAt m0 m' lr es (fun c=>if c=b then uf b++[k] else uf c) (B+1):=by
 refine ⟨fun c=>?_,U.2,Nat.le_succ_of_le U.3,fun c=>?_⟩
 ·by_cases q:c=b
  ·rw [if_pos q,q]
   cases U.1 b with
   | no h1 _=>exact noS h1 ha
   | «at» a' h1 h2 h3 h4 =>
    obtain rfl:a'=a:=V.ref.inj (Option.some.inj (h1.symm.trans ha))
    exact .at a' h1 h h3 h4
  ·rw [if_neg q]
   cases U.1 c with
   | no h1 e=>exact .no h1 e
   | «at» a' h1 h2 h3 h4=>exact .at a' h1 (u (fun e=>q (U.2 _ _ _ (e▸h1) ha)) h2) h3 h4
 ·by_cases q:c=b
  ·rw [if_pos q,List.length_append];exact Nat.succ_le_succ (U.4 b)
  ·rw [if_neg q];exact Nat.le_succ_of_le (U.4 c)
theorem UsersAt.new (U:UsersAt m0 m lr es uf B) (hb:dget (.int (b:Int)) es=none) (hn:m a=none) (ha:m' a=some (.list [])) (h0:m0 a=none) (hr:a≠lr) (g:∀ (c:Addr) (xs:List V),m c=some (.list xs)→m' c=some (.list xs)) :
  UsersAt m0 m' lr (dput (.int (b:Int)) (.ref a) es) uf (B+1):=by
 have old:∀ c:Nat,dget (.int (c:Int)) es≠some (.ref a):=fun c e=>by
  cases U.1 c with
  | no h1 _=>exact noS h1 e
  | «at» a' h1 h2 _ _=>exact noS hn (V.ref.inj (Option.some.inj (h1.symm.trans e))▸h2)
 refine ⟨fun c=>?_,fun c c' x e e'=>?_,Nat.le_trans (dput_len _ _ _) (Nat.succ_le_succ U.3),fun c=>Nat.le_succ_of_le (U.4 c)⟩
 ·by_cases q:b=c
  ·subst q
   refine .at a (by rw [dget_dput,if_pos rfl]) ?_ h0 hr
   cases U.1 b with
   | no _ e=>rw [e];exact ha
   | «at» a' h1 _ _ _=>exact noS hb h1
  ·have hd:dget (.int (c:Int)) (dput (.int (b:Int)) (.ref a) es)=dget (.int (c:Int)) es:=by rw [dget_dput,if_neg (K_ne q)]
   cases U.1 c with
   | no h1 e=>exact .no (hd.trans h1) e
   | «at» a' h1 h2 h3 h4=>exact .at a' (hd.trans h1) (g _ _ h2) h3 h4
 ·rw [dget_dput] at e e'
  by_cases q:b=c
  ·rw [if_pos (congrArg _ (congrArg _ q))] at e
   by_cases q':b=c'
   ·exact q.symm.trans q'
   ·rw [if_neg (K_ne q')] at e'
    exact absurd (e'.trans e.symm) (old c')
  ·rw [if_neg (K_ne q)] at e
   by_cases q':b=c'
   ·rw [if_pos (congrArg _ (congrArg _ q'))] at e'
    exact absurd (e.trans e'.symm) (old c)
   ·rw [if_neg (K_ne q')] at e'
    exact U.2 _ _ _ e e'
end
theorem drv_cell {N:NetA}{net b:Nat} (h:N.drv.lookup net=some b):∃ c,N.cells[b]?=some c:=by
 have:=lookup_some_mem h
 unfold NetA.drv at this
 obtain ⟨⟨c,i⟩,h1,h2⟩:=List.mem_map.mp this
 rw [List.mem_zipIdx_iff_getElem?] at h1
 exact ⟨c,(Prod.mk.inj h2).2▸h1⟩
theorem filterMap_take {α β:Type} (f:α→Option β) {l:List α}{k:Nat}{x:α} (h:l[k]?=some x):(l.take (k+1)).filterMap f=(l.take k).filterMap f++(f x).toList:=by
 rw [take_snoc h,List.filterMap_append,List.filterMap_cons]
 cases f x <;> rfl
theorem users_succ (N:NetA) (k b:Nat):N.users (k+1) b=N.users k b++((N.preds k).filter (·==b)).map fun zz=>k:=by
 unfold NetA.users
 rw [List.range_succ,List.flatMap_append,List.flatMap_singleton]
noncomputable def insUp (N:NetA) (k:Nat):Nat:=((N.cells.take k).flatMap (·.ins)).length
theorem insUp_succ {N:NetA}{k:Nat}{c:Cell} (h:N.cells[k]?=some c):insUp N (k+1)=insUp N k+c.ins.length:=by
 unfold insUp
 rw [flat_take (·.ins) h,List.length_append]
theorem insUp_le {N:NetA}{k:Nat}{c:Cell} (h:N.cells[k]?=some c):insUp N k+c.ins.length≤(N.cells.flatMap (·.ins)).length:=flat_le _ h
theorem isComb_at {N:NetA}{k:Nat}{c:Cell} (h:N.cells[k]?=some c):N.isComb k=!c.kd.state:=by unfold NetA.isComb;rw [h]
theorem preds_st {N:NetA}{k:Nat}{c:Cell} (h:N.cells[k]?=some c) (hs:c.kd.state=true):N.preds k=[]:=by unfold NetA.preds;rw [h];exact if_pos hs
theorem preds_cb {N:NetA}{k:Nat}{c:Cell} (h:N.cells[k]?=some c) (hs:c.kd.state=false):N.preds k=c.ins.filterMap N.pred1:=by unfold NetA.preds;rw [h];exact if_neg (hs▸Bool.false_ne_true)
theorem pred1_no {N:NetA}{net:Nat} (h:N.drv.lookup net=none):N.pred1 net=none:=by unfold NetA.pred1;rw [h]
theorem pred1_at {N:NetA}{net b:Nat}{c:Cell} (h:N.drv.lookup net=some b) (hc:N.cells[b]?=some c):N.pred1 net=if c.kd.state then none else some b:=by
 unfold NetA.pred1
 rw [h]
 show (if N.isComb b=true then some b else none)=_
 rw [isComb_at hc]
 cases c.kd.state <;> rfl
noncomputable def uP (N:NetA) (k:Nat) (l:List Nat) (b:Nat):List Nat:=N.users k b++(l.filter (·==b)).map fun zz=>k
theorem uP_nil (N:NetA) (k:Nat):uP N k []=N.users k:=funext fun zz=>List.append_nil _
theorem uP_snoc (N:NetA) (k:Nat) (l:List Nat) (b:Nat):uP N k (l++[b])=fun c=>if c=b then uP N k l b++[k] else uP N k l c:=funext fun c=>by
 unfold uP
 rw [List.filter_append,List.map_append,←List.append_assoc]
 by_cases q:c=b
 ·rw [if_pos q,q,List.filter_cons (xs:=[]),if_pos (beq_self_eq_true b)];rfl
 ·rw [if_neg q,List.filter_cons (xs:=[]),if_neg (fun e=>q (eq_of_beq e).symm)];exact List.append_nil _
section
variable {G:GC}{r:Nat}{Ψ:Addr→Mem→Prop}{o:NetO}{vc:List V}{N:NetA}
theorem ar5 {a j n t:Nat} (h:j<n) (q:a+n≤t) (z:t<100000):2*(a+j)+1<1000000:=by omega
theorem ar6 {a j:Nat}:2*(a+j)+1+1≤2*(a+(j+1)):=by omega
theorem oc_inner (hG:G.Ok) (hr:1≤r) {k:Nat}{c:Cell}{bc dd lw lu lr ra:Addr}{m0 m1:Mem}{es:List (K × V)}{x8 x9:Option V}{ow oa:MO}{rs:List V}{rest:Sxs}{Φ:Fl→St→Prop} (hcs:Cells m0 vc N.cells) (S:N.Small) (hc:N.cells[k]?=some c) (hst:c.kd.state=false)
  (hlc:m0 o.lc=some (.list vc)) (hbc:m0 bc=some (.tup (natL c.ins))) (hdd:m0 dd=some (.dict (dN N.drv)))
  (g1:Gr m0 m1) (ku:m1 lu=some (.dict es)) (nu:m0 lu=none) (U:UsersAt m0 m1 lr es (N.users k) (2*insUp N k)) (kw:m1 lw=some ow) (hw:Nat.beq ow.no 0=false) (ka:m1 ra=some oa) (ha:Nat.beq oa.no 0=false) (ha2:Nat.beq oa.no 2=false) (kr:m1 lr=some (.list rs)) (hwu:lw≠lu)
  (h:∀ m2 es2 x8 x9,Gr m0 m2→m2 lu=some (.dict es2)→UsersAt m0 m2 lr es2 (N.users (k+1)) (2*insUp N (k+1))→m2 lw=some ow→m2 ra=some oa→m2 lr=some (.list rs) →
   semB ⟨G,r,Ψ⟩ rest ⟨[some (.ref o.x),some (.ref dd),some (.ref o.lc),some (.ref lw),some (.ref lu),some (.ref lr),some (.int k),some (.int (N.preds k).length),x8,x9,none],m2⟩ Φ) :
  forK ⟨G,r,Ψ⟩ (.name 8) (.cons (.asg (.name 9) (.get (.var 1) (.var 8) (.neg (.int 1))))
   (.cons (.ifS (.and (.cmp .GtE (.var 9) (.int 0)) (.not (.call 61 (.cons (.item (.item (.var 2) (.var 9)) (.int 0)) .nil))))
    (.cons (.aug 7 .Add (.int 1))
    (.cons (.ifS (.cmp .NotIn (.var 9) (.var 4))
     (.cons (.asg (.item (.var 4) (.var 9)) (.list .nil))
     .nil)
     .nil)
    (.cons (.expr (.app (.item (.var 4) (.var 9)) (.var 6)))
    .nil)))
    .nil)
   .nil)) rest Φ (.ref bc) ⟨[some (.ref o.x),some (.ref dd),some (.ref o.lc),some (.ref lw),some (.ref lu),some (.ref lr),some (.int k),some (.int ((0:Nat):Int)),x8,x9,none],m1⟩:=by
 refine for_nats (T:=Nat × (Option V × Option V) × List (K × V)) (F:=fun x=>[some (.ref o.x),some (.ref dd),some (.ref o.lc),some (.ref lw),some (.ref lu),some (.ref lr),some (.int k),some (.int x.1),x.2.1.1,x.2.1.2,none]) (x0:=(0,(x8,x9),es)) (iter_tup (g1 hbc))
  (fun j x μ=>A7 (x.1=((c.ins.take j).filterMap N.pred1).length) (Gr m0 μ) (μ lu=some (.dict x.2.2)) (UsersAt m0 μ lr x.2.2 (uP N k ((c.ins.take j).filterMap N.pred1)) (2*(insUp N k+j))) (μ lw=some ow) (μ ra=some oa) (μ lr=some (.list rs))) (fun zz zz zz q=>q.2 hbc) ⟨rfl,g1,ku,(uP_nil N k).symm▸U,kw,ka,kr⟩ (fun j x m2 net Ψ' hj q hΨ=>?_) fun x m2 q=>?_
 ·have hft:=filterMap_take N.pred1 hj
  refine s_asg (isD (q.2 hdd) (get_d (q.2 hdd) keyInt ?_))
  rw [dget_dN]
  have skip:N.pred1 net=none→∀ x8 x9,Ψ' .next ⟨[some (.ref o.x),some (.ref dd),some (.ref o.lc),some (.ref lw),some (.ref lu),some (.ref lr),some (.int k),some (.int x.1),x8,x9,none],m2⟩:=fun hp x8 x9=>hΨ (x.1,(x8,x9),x.2.2) m2 (by
   rw [hft,hp]
   exact ⟨q.1.trans (congrArg _ (List.append_nil _).symm),q.2,q.3,(List.append_nil ((c.ins.take j).filterMap N.pred1)).symm▸q.4.mono (Nat.mul_le_mul_left 2 (Nat.le_succ _)),q.5,q.6,q.7⟩)
  cases hl:N.drv.lookup net with
  | none=>exact s_if (ge_i (in' (by decide) (skip (pred1_no hl) _ _)))
  | some b =>
   obtain ⟨cb,hcb⟩:=drv_cell hl
   refine s_if (ge_i (iy (Int.natCast_nonneg b) ?_))
   refine hcs.at hcb fun t bb p hv ht zz zz=>it_l (q.2 hlc) hv (it_t (k:=0) (q.2 ht) rfl (isState hG hr ?_))
   have hp:=pred1_at hl hcb
   cases hs:cb.kd.state with
   | true=>exact skip (hp.trans (if_pos hs)) _ _
   | false =>
    have hp:N.pred1 net=some b:=hp.trans (if_neg (hs▸Bool.false_ne_true))
    refine if_t (s_aug (iadd_go (aug_nm ?_)))
    have fin:∀ m3 es3 a,Gr m0 m3→m3 lu=some (.dict es3)→dget (.int (b:Int)) es3=some (.ref a)→UsersAt m0 m3 lr es3 (uP N k ((c.ins.take j).filterMap N.pred1)) (2*(insUp N k+j)+1)→m3 lw=some ow→m3 ra=some oa→m3 lr=some (.list rs) →
      semB ⟨G,r,Ψ⟩ (.cons (.expr (.app (.item (.var 4) (.var 9)) (.var 6))) .nil) ⟨[some (.ref o.x),some (.ref dd),some (.ref o.lc),some (.ref lw),some (.ref lu),some (.ref lr),some (.int k),some (.int (x.1+1:Nat)),some (.int net),some (.int b),none],m3⟩ Ψ':=by
     intro m3 es3 a g3 ku3 hg U3 kw3 ka3 kr3
     cases U3.1 b with
     | no h1 _=>exact noS h1 hg
     | «at» a' h1 hm h0 har =>
      obtain rfl:a'=a:=V.ref.inj (Option.some.inj (h1.symm.trans hg))
      refine s_app (fun zz h=>it_d ku3 keyInt hg h) hm (app_go hm (by rw [natL_len];exact Nat.lt_of_le_of_lt (U3.4 b) (ar5 (at_lt hj) (insUp_le hc) S.6)) fun m4 h4 u4=>hΨ (x.1+1,(_,_),es3) m4 ?_)
      rw [hft,hp]
      refine ⟨?_,g3.set h0 u4,u4 (mn ku3 hm rfl) ku3,?_,u4 (mn kw3 hm hw) kw3,u4 (mn ka3 hm ha) ka3,u4 har.symm kr3⟩
      ·rw [q.1,List.length_append];rfl
      ·rw [←natL_snoc] at h4
       have:=(U3.push hg h4 u4).mono ar6
       rw [←uP_snoc] at this
       exact this
    refine s_if (notin_d q.3 keyInt ?_)
    cases hb:dget (.int (b:Int)) x.2.2 with
    | some w =>
     have hh:dhas (.int (b:Int)) x.2.2=true:=by unfold dhas;rw [hb];rfl
     rw [hh]
     cases q.4.1 b with
     | no h1 _=>exact noS h1 hb
     | «at» a h1 _ _ _=>exact fin m2 _ a q.2 q.3 h1 (q.4.mono (Nat.le_succ _)) q.5 q.6 q.7
    | none =>
     have hh:dhas (.int (b:Int)) x.2.2=false:=by unfold dhas;rw [hb];rfl
     rw [hh]
     refine if_t (s_asg (w_list (nb rfl) fun a m3 n3 k3 g3=>setD_go (g3 q.3) keyInt (Nat.lt_of_le_of_lt q.4.3 (Nat.lt_of_succ_lt (ar5 (at_lt hj) (insUp_le hc) S.6))) fun m4 k4 u4=>?_))
     have n0:=q.2.old n3
     refine s_nil (fin m4 _ a ((q.2.trans g3).set nu u4) k4 (by rw [dget_dput,if_pos rfl]) (q.4.new hb n3 (u4 (mn k3 (g3 q.3) rfl) k3) n0 (fresh_ne n3 q.7) fun c xs e=>u4 (mn e q.3 rfl) (g3 e)) (u4 hwu (g3 q.5)) (u4 (mn (g3 q.6) (g3 q.3) ha2) (g3 q.6)) (u4 (mn (g3 q.7) (g3 q.3) rfl) (g3 q.7)))
 ·obtain ⟨q1,q2,q3,q4,q5,q6,q7⟩:=q
  rw [List.take_length,←preds_cb hc hst] at q1 q4
  rw [q1]
  refine h m2 _ _ _ q2 q3 ?_ q5 q6 q7
  rw [insUp_succ hc]
  exact (funext fun b=>users_succ N k b:N.users (k+1)=uP N k (N.preds k))▸q4
end
theorem order_le {N:NetA}{R:List Nat} (nd:R.Nodup) (hc:∀ i∈R,N.isComb i=true):R.length≤N.cells.length :=
 Nat.le_trans (nd.length_le_of_subset fun i hi=>List.mem_range.mpr (isComb_lt (hc i hi))) (Nat.le_of_eq List.length_range)
noncomputable def ready0 (N:NetA) (k:Nat):List Nat:=(List.range k).filter fun i=>N.isComb i&&(N.preds i).isEmpty
theorem ready0_succ (N:NetA) (k:Nat):ready0 N (k+1)=ready0 N k++if (N.isComb k&&(N.preds k).isEmpty)=true then [k] else []:=rangeF_succ _ _
theorem kahn0 {N:NetA}{W:List (Nat × Nat)} (hW:∀ i,N.isComb i=true→W.lookup i=some (N.preds i).length):Kahn N 0 (ready0 N N.cells.length) (fun i=>(W.lookup i).getD 0):=by
 refine ⟨List.nodup_range.filter _,fun i hi=>(Bool.and_eq_true_iff.mp (List.mem_filter.mp hi).2).1,Nat.zero_le _,fun i hi=>?_,fun i hi=>?_,fun k i hk p hp=>?_⟩
 ·rw [hW i hi,List.take_zero]
  unfold unmet
  exact (congrArg List.length (List.filter_eq_self.mpr fun p zz=>by rw [decide_eq_false List.not_mem_nil];rfl)).symm
 ·rw [hW i hi]
  refine ⟨fun q=>List.length_eq_zero_iff.mpr (List.isEmpty_iff.mp (Bool.and_eq_true_iff.mp (List.mem_filter.mp q).2).2),fun q=>List.mem_filter.mpr ⟨List.mem_range.mpr (isComb_lt hi),Bool.and_eq_true_iff.mpr ⟨hi,List.isEmpty_iff.mpr (List.length_eq_zero_iff.mp q)⟩⟩⟩
 ·rw [List.isEmpty_iff.mp (Bool.and_eq_true_iff.mp (List.mem_filter.mp (List.mem_of_getElem? hk)).2).2] at hp
  exact nomatch hp
section
variable {G:GC}{r:Nat}{Ψ:Addr→Mem→Prop}{m:Mem}{x dd:Addr}{N:NetA}{Φ:V→Mem→Prop}
theorem ordered_cells (hG:G.Ok) (hr:2≤r) (hN:NetR m (.ref x) N) (S:N.Small) (hdd:m dd=some (.dict (dN N.drv))) (T:N.Topo) (h:∀ m' l R,m l=none→m' l=some (.list (natL R))→Order N R→Gr m m'→Φ (.ref l) m'):callW G r Ψ (.ref 159) [.ref x,.ref dd] m Φ:=by
 refine hN.el fun o nm vi vo vc bi bo a hpi hpo hcs=>?_
 have hcl:=S.3
 refine run159 hG hr (s_asg (a.aC (s_asg (new_go fun lw m1 n1 k1 g1=>s_asg (new_go fun lu m2 n2 k2 g2=>s_asg (w_list (nb rfl) fun lr m3 n3 k3 g3=>s_for (len_l (g3 (g2 (g1 a.5))) hcs.len (w_range (b30 hcl) fun ra m4 n4 k4 g4=>?_))))))))
 have nu:=g1.old n2
 have nr:=(g1.trans g2).old n3
 have uw:=fresh_ne n2 k1
 have ru:=fresh_ne n3 k2
 refine for_rangeC (T:=(Option V × Option V × Option V × Option V) × List (K × V) × List (Nat × Nat)) (F:=fun y=>[some (.ref o.x),some (.ref dd),some (.ref o.lc),some (.ref lw),some (.ref lu),some (.ref lr),y.1.1,y.1.2.1,y.1.2.2.1,y.1.2.2.2,none]) (x0:=((none,none,none,none),[],[])) k4 (b30 hcl)
  (fun k y μ=>A8 (Gr m μ) (μ ra=some (.range 0 N.cells.length 1)) (μ lw=some (.dict (dN y.2.2))) (∀ i,i<k→N.isComb i=true→y.2.2.lookup i=some (N.preds i).length) (y.2.2.length≤k) (μ lu=some (.dict y.2.1)) (UsersAt m μ lr y.2.1 (N.users k) (2*insUp N k)) (μ lr=some (.list (natL (ready0 N k))))) (fun zz zz zz q=>q.2)
  ⟨((g1.trans g2).trans g3).trans g4,k4,g4 (g3 (g2 k1)),fun i hi=>absurd hi (Nat.not_lt_zero i),Nat.le_refl _,g4 (g3 k2),⟨fun b=>.no rfl rfl,fun b b' c q=>(nomatch q),Nat.zero_le _,fun b=>Nat.zero_le _⟩,g4 k3⟩ (fun k y m5 Ψ' hk q hΨ hC=>?_) fun y m5 q=>?_
 ·
  obtain ⟨q1,q2,q3,q4,q5,q6,q7,q8⟩:=q
  have hc:=List.getElem?_eq_getElem hk
  refine hcs.at hc fun t b p hv ht hb zz=>s_if (it_l (q1 a.5) hv (it_t (k:=0) (q1 ht) rfl (isState hG (pr hr rfl) (if_b0 (fun hs=>?_) fun hs=>?_))))
  ·refine hC ((_,_,_,_),y.2.1,y.2.2) m5 ⟨q1,q2,q3,fun i hi hci=>(Nat.lt_succ_iff_lt_or_eq.mp hi).elim (fun z=>q4 i z hci) fun z=>?_,Nat.le_succ_of_le q5,q6,?_,?_⟩
   ·rw [z,isComb_at hc,hs] at hci;exact nomatch hci
   ·rw [show N.users (k+1)=N.users k from funext fun b=>by rw [users_succ,preds_st hc hs];exact List.append_nil _]
    exact q7.mono (Nat.mul_le_mul_left 2 (insUp_succ hc▸Nat.le_add_right _ _))
   ·rw [ready0_succ,isComb_at hc,hs];exact (List.append_nil (ready0 N k)).symm▸q8
  ·refine s_asg (a_nm (s_for (it_l (q1 a.5) hv (it_t (k:=2) (q1 ht) rfl (oc_inner (x8:=y.1.2.2.1) (x9:=y.1.2.2.2) hG (pr hr rfl) hcs S hc hs a.5 hb hdd q1 q6 nu q7 q3 rfl q2 rfl rfl q8 uw.symm fun m6 es2 x8 x9 g6 u6 U6 w6 r6 l6=>s_asg (setD_go w6 keyInt (by rw [dN_len];exact Nat.lt_of_le_of_lt q5 (b6 (Nat.lt_trans hk hcl))) fun m7 w7 u7=>s_if ?_))))))
   rw [dput_dN] at w7
   have hW:∀ i,i<k+1→N.isComb i=true→(putN k (N.preds k).length y.2.2).lookup i=some (N.preds i).length:=fun i hi hci=>by
    rw [lookup_putN]
    by_cases q:i=k
    ·rw [if_pos q,q]
    ·rw [if_neg q];exact q4 i (Nat.lt_of_le_of_ne (Nat.le_of_lt_succ hi) q) hci
   have hl:=Nat.le_trans (putN_len k (N.preds k).length y.2.2) (Nat.succ_le_succ q5)
   have g7:=g6.set n1 u7
   have r7:=u7 (mn r6 w6 rfl) r6
   have v7:=u7 uw u6
   have l7:=u7 (mn l6 w6 rfl) l6
   have U7:=U6.up u7 w6
   refine eq_n (b:=0) (if_b0 (fun hp=>?_) fun hp=>?_)
   ·have hp0:=List.length_eq_zero_iff.mp (of_decide_eq_true hp)
    refine s_app (fun zz h=>h) l7 (app_go l7 (by rw [natL_len];exact Nat.lt_of_le_of_lt (rangeF_len _ _) (b6 (Nat.lt_trans hk hcl))) fun m8 l8 u8=>hΨ ((_,_,_,_),es2,_) m8 ⟨g7.set nr u8,u8 (mn r7 l7 rfl) r7,u8 (mn w7 l7 rfl) w7,hW,hl,u8 ru.symm v7,U7.upr u8,?_⟩)
    rw [ready0_succ,isComb_at hc,hs,hp0]
    show m8 lr=some (.list (natL (ready0 N k++[k])))
    rw [natL_snoc];exact l8
   ·have hp0:(N.preds k).isEmpty=false:=by
     cases e:N.preds k with
     | nil=>rw [e] at hp;exact nomatch hp
     | cons=>rfl
    refine hΨ ((_,_,_,_),es2,_) m7 ⟨g7,r7,w7,hW,hl,v7,U7,?_⟩
    rw [ready0_succ,isComb_at hc,hs,hp0];exact (List.append_nil (ready0 N k)).symm▸l7
 ·
  obtain ⟨q1,q2,q3,q4,q5,q6,q7,q8⟩:=q
  have hdom:∀ i,N.isComb i=true→(y.2.2.lookup i).isSome=true:=fun i hi=>by rw [q4 i (isComb_lt hi) hi];rfl
  refine s_asg (a_nm (s_while (T:=(Option V × Nat) × List Nat × List (Nat × Nat)) (F:=fun z=>[some (.ref o.x),some (.ref dd),some (.ref o.lc),some (.ref lw),some (.ref lu),some (.ref lr),z.1.1,y.1.2.1,y.1.2.2.1,y.1.2.2.2,some (.int z.1.2)]) (x0:=((y.1.1,0),_,y.2.2)) (n:=N.cells.length+1)
   (fun f z μ=>A9 (f+z.1.2=N.cells.length+1) (Gr m μ) (μ lw=some (.dict (dN z.2.2))) (z.2.2.length≤N.cells.length) (μ lu=some (.dict y.2.1)) (UsersAt m μ lr y.2.1 (N.users N.cells.length) (2*insUp N N.cells.length)) (μ lr=some (.list (natL z.2.1))) (Kahn N z.1.2 z.2.1 fun i=>(z.2.2.lookup i).getD 0) (∀ i,N.isComb i=true→(z.2.2.lookup i).isSome=true))
   ⟨rfl,q1,q3,q5,q6,q7,q8,kahn0 fun i hi=>q4 i (isComb_lt hi) hi,hdom⟩ (fun z m6 q=>?_) fun f z m6 Ψ' q hΨ=>?_))
  ·have:=Nat.le_trans q.8.le (order_le q.8.nd q.8.comb)
   rw [(Nat.zero_add _).symm.trans q.1] at this
   exact Nat.not_succ_le_self _ this
  obtain ⟨p1,p2,p3,p4,p5,p6,p7,K,p9⟩:=q
  refine len_l p7 (natL_len _) (lt_i ?_)
  by_cases hlt:z.1.2<z.2.1.length
  ·refine wh_y (Int.ofNat_lt.mpr hlt) ?_
   have hb:=List.getElem?_eq_getElem hlt
   obtain ⟨KI,hbn⟩:=K.enter hb
   generalize z.2.1[z.1.2]=b at hb KI hbn
   refine s_for (isD p5 (it_l p7 (natL_at hb) (w_list (nb rfl) fun le m7 n7 k7 g7=>get_d (g7 p5) keyInt ?_)))
   have w7:=g7 p3
   have hal:∀ (P:V→Prop),(∀ al,m7 al=some (.list (natL (N.users N.cells.length b)))→al≠lr→P (.ref al))→P ((dget (.int (b:Int)) y.2.1).getD (.ref le)):=fun P hP=>by
    cases p6.1 b with
    | no e1 e2=>rw [e1];exact hP le (e2▸k7) (fresh_ne n7 p7)
    | «at» a' e1 e2 _ e4=>rw [e1];exact hP a' (g7 e2) e4
   refine hal (fun v=>forK _ _ _ _ _ v _) fun al k al_r=>?_
   refine for_nats (T:=Option V × List Nat × List (Nat × Nat)) (F:=fun t=>[some (.ref o.x),some (.ref dd),some (.ref o.lc),some (.ref lw),some (.ref lu),some (.ref lr),t.1,y.1.2.1,y.1.2.2.1,y.1.2.2.2,some (.int z.1.2)]) (x0:=(z.1.1,z.2.1,z.2.2)) (iter_list k)
    (fun j t μ=>A9 (Gr m μ) (μ al=some (.list (natL (N.users N.cells.length b)))) (μ lw=some (.dict (dN t.2.2))) (t.2.2.length≤N.cells.length) (μ lu=some (.dict y.2.1)) (UsersAt m μ lr y.2.1 (N.users N.cells.length) (2*insUp N N.cells.length)) (μ lr=some (.list (natL t.2.1))) (KahnI N (z.2.1.take z.1.2) b ((N.users N.cells.length b).take j) t.2.1 fun i=>(t.2.2.lookup i).getD 0) (∀ i,N.isComb i=true→(t.2.2.lookup i).isSome=true)) (fun zz zz zz q=>q.2)
    ⟨p2.trans g7,k,w7,p4,g7 p5,p6.gr g7,g7 p7,KI,p9⟩ (fun j t m8 i Ψ2 hi q hΨ2=>?_) fun t m8 q=>?_
   ·obtain ⟨t1,t2,t3,t4,t5,t6,t7,K7,t9⟩:=q
    have him:=mem_users (List.mem_of_getElem? hi)
    have hci:=comb_of_pred him.2
    have htk:(N.users N.cells.length b).take (j+1)=(N.users N.cells.length b).take j++[i]:=take_snoc hi
    have hcnt:((N.users N.cells.length b).take j++[i]).count i≤(N.preds i).count b:=by
     have h8:=count_users N b i N.cells.length
     rw [if_pos (isComb_lt hci)] at h8
     rw [←htk,←h8]
     exact (List.take_sublist _ _).count_le _
    obtain ⟨hpos,K8⟩:=K7.step hbn hci hcnt
    obtain ⟨wv,hwv⟩:=Option.isSome_iff_exists.mp (t9 i hci)
    have hwv':((t.2.2.lookup i).getD 0)=wv:=by rw [hwv];rfl
    rw [hwv'] at hpos K8
    refine s_augI (it_d t3 keyInt (dget_dN_at hwv) (isub_go (setD_go t3 keyInt (by rw [dN_len];exact Nat.lt_of_le_of_lt t4 (b6 hcl)) fun m9 w9 u9=>?_)))
    rw [show (wv:Int) - 1=((wv - 1:Nat):Int) from (Int.ofNat_sub (m:=1) hpos).symm,dput_dN] at w9
    have hfun:(fun q=>((putN i (wv - 1) t.2.2).lookup q).getD 0)=fun j=>if j=i then wv - 1 else (t.2.2.lookup j).getD 0:=funext fun q=>by
     rw [lookup_putN]
     by_cases e:q=i
     ·rw [if_pos e,if_pos e];rfl
     ·rw [if_neg e,if_neg e]
    have hl:=(putN_has (v:=wv - 1) (t9 i hci)).symm▸t4
    have hd:∀ q,N.isComb q=true→((putN i (wv - 1) t.2.2).lookup q).isSome=true:=fun q hq=>by
     rw [lookup_putN]
     by_cases e:q=i
     ·rw [if_pos e];rfl
     ·rw [if_neg e];exact t9 q hq
    have k9:=u9 (mn t2 t3 rfl) t2
    have v9:=u9 uw t5
    have l9:=u9 (mn t7 t3 rfl) t7
    have U9:=t6.up u9 t3
    have g9:=t1.set n1 u9
    rw [←htk,←hfun] at K8
    refine s_if (it_d w9 keyInt (dget_dN_at (by rw [lookup_putN,if_pos rfl])) (eq_n (b:=0) (if_b0 (fun e=>?_) fun e=>?_)))
    ·have e1:wv=1:=Nat.le_antisymm (Nat.le_of_sub_eq_zero (of_decide_eq_true e)) hpos
     rw [if_pos e1] at K8
     refine s_app (fun zz h=>h) l9 (app_go l9 (by rw [natL_len];exact Nat.lt_of_le_of_lt (order_le K7.nd K7.comb) (b6 hcl)) fun m10 l10 u10=>hΨ2 (_,t.2.1++[i],putN i (wv - 1) t.2.2) m10 ⟨g9.set nr u10,u10 al_r k9,u10 (mn w9 l9 rfl) w9,hl,u10 ru.symm v9,U9.upr u10,by rw [natL_snoc];exact l10,K8,hd⟩)
    ·have e1:wv≠1:=fun z=>of_decide_eq_false e (by rw [z])
     rw [if_neg e1] at K8
     exact hΨ2 (_,t.2.1,putN i (wv - 1) t.2.2) m9 ⟨g9,k9,w9,hl,v9,U9,l9,K8,hd⟩
   ·obtain ⟨t1,t2,t3,t4,t5,t6,t7,K7,t9⟩:=q
    rw [List.take_length] at K7
    exact s_aug (iadd_go (aug_nm (hΨ ((t.1,z.1.2+1),t.2.1,t.2.2) m8 ⟨(Nat.succ_add_eq_add_succ f z.1.2).symm.trans p1,t1,t3,t4,t5,t6,t7,K7.leave K.le hbn fun i hi=>by rw [count_users,if_pos (isComb_lt hi)],t9⟩)))
  ·refine wh_n (fun e=>hlt (Int.ofNat_lt.mp e)) ?_
   have ht:=Nat.le_antisymm K.le (Nat.not_lt.mp hlt)
   rw [ht] at K
   exact h m6 lr z.2.1 nr p7 ⟨K.nd,K.comb,K.all T,K.ord⟩ p2
end
theorem Gr.new {m0 m m':Mem}{fp:List Addr} (x:Gr m0 m) (y:Same fp m m') (h:∀ a∈fp,m0 a=none):Gr m0 m':=fun a o e=>y a o (fun q=>noS (h a q) e) (x e)
theorem dhas_at {k:K}{es:List (K × V)}{v:V} (h:dget k es=some v):dhas k es=true:=by unfold dhas;rw [h];rfl
section
variable {G:GC}{r:Nat}{Ψ:Addr→Mem→Prop}{m:Mem}{x:Addr}{N:NetA}{Φ:V→Mem→Prop}
theorem literal_of (hG:G.Ok) (hr:1≤r) {dl:Addr}{es:List (K × V)}{net:Nat}{v:V} (hd:m dl=some (.dict es)) (hv:dget (.int (net:Int)) es=some v) (h:Φ v m):callW G r Ψ (.ref 293) [.ref dl,.int net] m Φ:=by
 refine run293 hG hr (s_if (notin_d hd keyInt ?_))
 rw [dhas_at hv]
 exact if_f (s_nil (s_ret (it_d hd keyInt hv h)))
theorem comb_order (hG:G.Ok) (hr:3≤r) (hN:NetR m (.ref x) N) (S:N.Small) (nd:(0::1::(N.inNets++N.cells.map (·.out))).Nodup) (T:N.Topo) (h:∀ m' l R,m l=none→m' l=some (.list (natL R))→Order N R→Gr m m'→Φ (.ref l) m'):callW G r Ψ (.ref 166) [.ref x] m Φ:=by
 refine run166 hG hr (s_asg (drivers hG (pr hr rfl) hN S nd fun m1 dd n1 d1 g1=>ordered_cells hG (pr hr rfl) (hN.keep g1) S d1 T fun m2 l R n2 l2 O g2=>s_if (len_l l2 (natL_len _) (state_cells hG (pr hr rfl) (hN.keep (g1.trans g2)) S fun m3 ls n3 l3 g3=>len_l l3 (natL_len _) (bAdd (Int.natCast_add _ _).symm ?_)))))
 have g:=(g1.trans g2).trans g3
 refine (hN.keep g).el fun o nm vi vo vc bi bo a hpi hpo hcs=>a.aC (len_l a.5 hcs.len (lt_i (if_n0 (fun e=>Nat.lt_irrefl _ (O.len▸Int.ofNat_lt.mp e)) ?_)))
 exact h m3 l R (g1.old n2) (g3 l2) O g
end
inductive NetCons (N:NetA) (w:Nat→Bool):Prop
 | mk (zero:w 0=false) (one:w 1=true) (cell:∀ c∈N.cells,c.kd.state=false→w c.out=cellF c.kd c.par (c.ins.map w))
noncomputable def Agree (is ss:List Nat) (vals w:Nat→Bool):Prop:=∀ (k i s:Nat),is[k]?=some i→ss[k]?=some s→vals i=w s
section
variable {m m':Mem}{o:AigO}{A:AigA}{a:Addr}{d:List (K × V)}{xs:List V}{mo:MO}
theorem AigO.mN:o.ln∈o.all:=.tail _ (.head _)
theorem AigO.mI:o.li∈o.all:=.tail _ (.tail _ (.head _))
theorem AigO.mO:o.lo∈o.all:=.tail _ (.tail _ (.tail _ (.head _)))
theorem AigO.mT:o.lt∈o.all:=.tail _ (.tail _ (.tail _ (.tail _ (.head _))))
theorem sub2 (h:a∈[o.ln,o.li]):a∈o.all:=(List.mem_cons.mp h).elim (fun e=>e▸o.mN) fun e=>List.mem_singleton.mp e▸o.mI
theorem AigAt.upD (x:AigAt m o A) (u:Up a m m') (h:m a=some (.dict d)) (ne:a≠o.lt):AigAt m' o A:=by
 obtain ⟨vs,es,ok,M⟩:=x
 exact ⟨vs,es,ok,u (mn M.1 h rfl) M.1,u (mn M.2 h rfl) M.2,u (mn M.3 h rfl) M.3,u (mn M.4 h rfl) M.4,u (mn M.5 h rfl) M.5,u ne.symm M.6,M.7,M.8,M.9,M.10.keep (u.tups h rfl),M.11⟩
theorem AigAt.upL (x:AigAt m o A) (u:Up a m m') (h:m a=some (.list xs)) (ne:a∉o.all):AigAt m' o A:=by
 obtain ⟨vs,es,ok,M⟩:=x
 exact ⟨vs,es,ok,u (mn M.1 h rfl) M.1,u (mn M.2 h rfl) M.2,u (fun e=>ne (e▸o.mN)) M.3,u (fun e=>ne (e▸o.mI)) M.4,u (fun e=>ne (e▸o.mO)) M.5,u (mn M.6 h rfl) M.6,M.7,M.8,M.9,M.10.keep (u.tups h rfl),M.11⟩
theorem AigAt.new (x:AigAt m o A) (h:m a=none):a∉o.all:=by
 obtain ⟨vs,es,ok,M⟩:=x
 exact fun q=>aall_el (P:=fun q=>a≠q) (fresh_ne h M.2) (fresh_ne h M.3) (fresh_ne h M.4) (fresh_ne h M.5) (fresh_ne h M.6) a q rfl
theorem AigAt.notL (x:AigAt m o A) (h:m a=some mo) (hk:Nat.beq mo.no 0=false):a≠o.ln∧a≠o.li∧a≠o.lo:=by
 obtain ⟨vs,es,ok,M⟩:=x
 exact ⟨mn h M.3 hk,mn h M.4 hk,mn h M.5 hk⟩
theorem AigAt.gr {m0:Mem} (g:Gr m0 m) (s:Al o m m') (hN:m0 o.ln=none) (hT:m0 o.lt=none):Gr m0 m':=fun zz zz e=>s (fresh_ne hN e).symm (fresh_ne hT e).symm (g e)
end
noncomputable def NetA.Driven (N:NetA) (net:Nat):Prop:=net=0∨net=1∨net∈N.srcs∨∃ i c,N.isComb i=true∧N.cells[i]?=some c∧c.out=net
theorem NetA.Driven.el {N:NetA}{net:Nat}{P:Prop} (h:N.Driven net) (a:net=0∨net=1∨net∈N.srcs→P) (b:∀ i c,N.isComb i=true→N.cells[i]?=some c→c.out=net→P):P:=by
 rcases h with q|q|q|⟨i,c,q1,q2,q3⟩
 ·exact a (.inl q)
 ·exact a (.inr (.inl q))
 ·exact a (.inr (.inr q))
 ·exact b i c q1 q2 q3
noncomputable abbrev NetA.Nd (N:NetA):Prop:=(0::1::(N.inNets++N.cells.map (·.out))).Nodup
inductive NetA.Good (N:NetA):Prop
 | mk (small:N.Small) (nd:N.Nd) (topo:N.Topo) (comb:∀ c∈N.cells,c.kd.state=false→combOk c.kd c.par c.ins.length) (tinyC:N.cells.length<100) (tinyS:N.srcs.length<1000)
inductive LitOk (N:NetA) (A:AigA) (L:List (Nat × Nat)):Prop
 | mk (low:∀ net q,L.lookup net=some q→q<2*A.nodes.length) (val:∀ net q,L.lookup net=some q→∀ vals w,Cons A.nodes vals→NetCons N w→Agree A.ins N.srcs vals w→lit vals q=w net) (key:∀ net q,L.lookup net=some q→N.Driven net)
theorem LitOk.le {N:NetA}{A B:AigA}{L:List (Nat × Nat)} (x:LitOk N A L) (h:A.Le B):LitOk N B L :=
 ⟨fun net q e=>Nat.lt_of_lt_of_le (x.1 net q e) (Nat.mul_le_mul_left 2 h.len),fun net q e vals w C Cw Ag=>x.2 net q e vals w (h.cons C) Cw (by obtain ⟨_,_,_,hi,_⟩:=h;rw [hi] at Ag;exact Ag),x.3⟩
theorem LitOk.put {N:NetA}{A:AigA}{L:List (Nat × Nat)}{s q0:Nat} (x:LitOk N A L) (h1:q0<2*A.nodes.length) (h2:∀ vals w,Cons A.nodes vals→NetCons N w→Agree A.ins N.srcs vals w→lit vals q0=w s) (h3:N.Driven s):LitOk N A (putN s q0 L):=by
 have go:∀ (P:Nat→Nat→Prop),P s q0→(∀ net q,L.lookup net=some q→P net q)→∀ net q,(putN s q0 L).lookup net=some q→P net q:=fun P a b net q e=>by
  rw [lookup_putN] at e
  by_cases z:net=s
  ·rw [if_pos z] at e;exact z▸Option.some.inj e▸a
  ·rw [if_neg z] at e;exact b net q e
 exact ⟨go _ h1 x.1,go _ h2 x.2,go (fun net zz=>N.Driven net) h3 x.3⟩
theorem has_put {L:List (Nat × Nat)}{s q0 net:Nat} (h:(L.lookup net).isSome=true∨net=s):((putN s q0 L).lookup net).isSome=true:=by
 rw [lookup_putN]
 by_cases z:net=s
 ·rw [if_pos z];rfl
 ·rw [if_neg z];exact h.elim id fun e=>absurd e z
theorem combOk_len {kd:Kd}{p:Par}{n:Nat} (h:combOk kd p n):n≤3:=by
 cases kd with
 | flop=>exact h.elim
 | latch=>exact h.elim
 | lut=>exact h.1.2
 | cell=>exact h.1.2
 | _=>exact Nat.le_trans (Nat.le_of_eq h.1) (nb rfl)
inductive Shp (n:Nat) (ns:Nodes):Prop
 | mk (e:Nodes) (h:ns=List.replicate (n+1) none++e) (he:∀ x∈e,x≠none)
theorem Shp.le {n:Nat}{A B:AigA} (h:Shp n A.nodes) (l:A.Le B):Shp n B.nodes:=by
 obtain ⟨e,h1,h2⟩:=h
 obtain ⟨f,k1,k2,_,_⟩:=l
 exact ⟨e++f,by rw [k1,h1,List.append_assoc],fun x hx=>(List.mem_append.mp hx).elim (h2 x) (k2 x)⟩
inductive Built (N:NetA) (A:AigA):Prop
 | mk (shape:Shp N.srcs.length A.nodes) (ins:A.ins=List.range' 1 N.srcs.length) (outs:A.outs.length=N.snks.length) (low:∀ q∈A.outs,q<2*A.nodes.length)
  (val:∀ vals w,Cons A.nodes vals→NetCons N w→Agree A.ins N.srcs vals w→A.outs.map (lit vals)=N.snks.map w) (len:A.nodes.length<100000)
section
variable {N:NetA}
theorem NetA.Nd.outs (nd:N.Nd):(N.cells.map (·.out)).Nodup:=(List.nodup_append.mp (List.nodup_cons.mp (List.nodup_cons.mp nd).2).2).2.1
theorem drv_of (nd:N.Nd) {i:Nat}{c:Cell} (hi:N.cells[i]?=some c):N.drv.lookup c.out=some i :=
 lookup_of_mem (by unfold NetA.drv;rw [drv_keys];exact nd.outs) (List.mem_map.mpr ⟨(c,i),List.mem_zipIdx_iff_getElem?.mpr hi,rfl⟩)
theorem mem_preds (nd:N.Nd) {i b:Nat}{c d:Cell} (hi:N.cells[i]?=some c) (hs:c.kd.state=false) (hb:N.cells[b]?=some d) (hbc:N.isComb b=true) (h:d.out∈c.ins):b∈N.preds i:=by
 rw [preds_cb hi hs,List.mem_filterMap]
 rw [isComb_at hb,Bool.not_eq_true'] at hbc
 exact ⟨d.out,h,(pred1_at (drv_of nd hb) hb).trans (if_neg (hbc▸Bool.false_ne_true))⟩
theorem lit_input {A:AigA}{L:List (Nat × Nat)}{j s:Nat} (x:LitOk N A L) (hj:N.srcs[j]?=some s) (hl:A.ins.length=j):LitOk N ⟨A.nodes++[none],A.ins++[A.nodes.length],A.outs⟩ (putN s (2*A.nodes.length) L):=by
 have hn:(A.nodes++[none]).length=A.nodes.length+1:=List.length_append
 have x':LitOk N ⟨A.nodes++[none],A.ins++[A.nodes.length],A.outs⟩ L:=⟨fun net q e=>hn▸Nat.lt_of_lt_of_le (x.1 net q e) (Nat.mul_le_mul_left 2 (Nat.le_succ _)),fun net q e vals w C Cw Ag=>x.2 net q e vals w ⟨C.1,fun n l r h=>C.2 n l r (at_snoc h)⟩ Cw fun k i s hk hs=>Ag k i s (at_snoc hk) hs,x.3⟩
 refine x'.put (hn▸Nat.mul_lt_mul_of_pos_left (Nat.lt_succ_self _) Nat.two_pos) (fun vals w C Cw Ag=>?_) (.inr (.inr (.inl (List.mem_of_getElem? hj))))
 rw [lit_even]
 exact Ag j _ s (hl▸List.getElem?_concat_length) hj
theorem lit0s:LitOk N ⟨[none],[],[]⟩ [(0,0),(1,1)]:=by
 have go:∀ (P:Nat→Nat→Prop),P 0 0→P 1 1→∀ net q,List.lookup net [(0,0),(1,1)]=some q→P net q:=fun P a b net q e=>by
  rcases List.mem_cons.mp (lookup_some_mem e) with h|h
  ·cases h;exact a
  ·cases List.mem_singleton.mp h;exact b
 exact ⟨go (fun zz q=>q<2*1) (by decide) (by decide),go _ (fun vals w C Cw zz=>by rw [lit0 C,Cw.1]) (fun vals w C Cw zz=>by rw [lit1 C,Cw.2]),go (fun net zz=>N.Driven net) (.inl rfl) (.inr (.inl rfl))⟩
theorem All2.map_eq {α β γ:Type}{R:α→β→Prop}{xs:List α}{ys:List β}{f:α→γ}{g:β→γ} (h:All2 R xs ys) (e:∀ x y,R x y→f x=g y):xs.map f=ys.map g:=by
 apply List.ext_getElem?
 intro k
 rw [List.getElem?_map,List.getElem?_map]
 cases hk:xs[k]? with
 | none=>rw [List.getElem?_eq_none_iff.mpr (h.1▸List.getElem?_eq_none_iff.mp hk)];rfl
 | some x=>exact h.get hk fun y hy r=>by rw [hy];exact congrArg some (e x y r)
theorem lits_low {A:AigA}{L:List (Nat × Nat)}{qs l:List Nat} (x:LitOk N A L) (h:All2 (fun q net=>L.lookup net=some q) qs l):∀ q∈qs,q<2*A.nodes.length:=fun q hq=>by
 obtain ⟨k,hk⟩:=List.mem_iff_getElem?.mp hq
 exact h.get hk fun net zz e=>x.1 net q e
end
theorem repl_snoc (n:Nat):List.replicate n (none:Option (Nat × Nat))++[none]=List.replicate (n+1) none:=List.replicate_succ'.symm
section
variable {G:GC}{r:Nat}{Ψ:Addr→Mem→Prop}{m:Mem}{N:NetA}{o:AigO}{dl:Addr}{rest:Sxs}{Φ:Fl→St→Prop}{x y3 y4 y5 y6 y7 y8 y9:Option V}{m1:Mem}
inductive FnS (N:NetA) (m:Mem) (o:AigO) (dl:Addr) (L:List (Nat × Nat)) (A:AigA) (μ:Mem):Prop
 | mk (g:Gr m μ) (d:μ dl=some (.dict (dN L))) (a:AigAt μ o A) (l:LitOk N A L)
theorem FnS.gr {L:List (Nat × Nat)}{A:AigA}{μ μ':Mem} (s:FnS N m o dl L A μ) (g:Gr μ μ'):FnS N m o dl L A μ':=⟨s.1.trans g,g s.2,s.3.keep g,s.4⟩
theorem ar7 {j n:Nat} (h:j<n) (z:n<1000):j+2<1000000:=by omega
theorem fn_inputs (hG:G.Ok) (hr:1≤r) (hnd:m dl=none) (ho:∀ a∈o.all,m a=none) (dlt:dl≠o.lt) (S:N.Good) {ls:Addr} (hls:ls∉o.all) (kl:m1 ls=some (.list (natL N.srcs))) (F0:FnS N m o dl [(0,0),(1,1)] ⟨[none],[],[]⟩ m1)
  (fin:∀ y L A m',FnS N m o dl L A m'→L.length≤N.srcs.length+2→A.nodes=List.replicate (N.srcs.length+1) none→A.ins=List.range' 1 N.srcs.length→A.outs=[]→(∀ net,net=0∨net=1∨net∈N.srcs→(L.lookup net).isSome=true) →
   semB ⟨G,r,Ψ⟩ rest ⟨[x,some (.ref o.x),some (.ref dl),y,none,none,none,none,none,none],m'⟩ Φ) :
  forK ⟨G,r,Ψ⟩ (.name 3) (.cons (.asg (.item (.var 2) (.var 3)) (.meth (.var 1) (ofString "add_input") .nil)) .nil) rest Φ (.ref ls) ⟨[x,some (.ref o.x),some (.ref dl),none,none,none,none,none,none,none],m1⟩:=by
 refine for_nats (T:=Option V × List (Nat × Nat) × AigA) (F:=fun t=>[x,some (.ref o.x),some (.ref dl),t.1,none,none,none,none,none,none]) (x0:=(none,_,_)) (iter_list kl)
  (fun j t μ=>A7 (FnS N m o dl t.2.1 t.2.2 μ) (μ ls=some (.list (natL N.srcs))) (t.2.1.length≤j+2) (t.2.2.nodes=List.replicate (j+1) none) (t.2.2.ins=List.range' 1 j) (t.2.2.outs=[]) (∀ net,net=0∨net=1∨net∈N.srcs.take j→(t.2.1.lookup net).isSome=true)) (fun zz zz zz q=>q.2)
  ⟨F0,kl,Nat.le_refl _,rfl,rfl,rfl,fun net hn=>?_⟩ (fun j t μ s Ψ' hs q hΨ=>?_) fun t μ q=>?_
 ·rcases hn with rfl|rfl|hn
  ·rfl
  ·rfl
  ·exact nomatch hn
 ·obtain ⟨⟨g,kd,A4,LO⟩,kl,hLl,hnodes,hins,houts,hdom⟩:=q
  have hnl:t.2.2.nodes.length=j+1:=by rw [hnodes];exact List.length_replicate
  have hil:t.2.2.ins.length=j:=by rw [hins];exact List.length_range'
  have hj:=at_lt hs
  have b9':∀ k,k≤j+1→k<900000:=fun k h=>Nat.lt_of_le_of_lt (Nat.le_trans h hj) (Nat.lt_trans S.6 (nb rfl))
  have nl:=A4.notL kd rfl
  refine s_asg (meth261 A4 a_add_input (aig_add_input hG hr A4 (b9' _ (Nat.le_of_eq hnl)) (b9' _ (Nat.le_succ_of_le (Nat.le_of_eq hil))) fun m5 A5 s5=>?_))
  have kd5:=s5 _ _ (fun e=>(List.mem_cons.mp e).elim nl.1 fun e=>nl.2.1 (List.mem_singleton.mp e)) kd
  refine setD_go kd5 keyInt (by rw [dN_len];exact Nat.lt_of_le_of_lt hLl (ar7 hj S.6)) fun m6 d6 u6=>hΨ (_,putN s (2*t.2.2.nodes.length) t.2.1,_) m6 ⟨⟨(g.new s5 fun a h=>ho a (sub2 h)).set hnd u6,by rw [←dput_dN];exact d6,A5.upD u6 kd5 dlt,lit_input LO hs hil⟩,u6 (mn (s5 _ _ (fun e=>hls (sub2 e)) kl) kd5 rfl) (s5 _ _ (fun e=>hls (sub2 e)) kl),Nat.le_trans (putN_len _ _ _) (Nat.succ_le_succ hLl),?_,?_,houts,fun net hn=>has_put ?_⟩
  ·show t.2.2.nodes++[none]=_;rw [hnodes,repl_snoc]
  ·show t.2.2.ins++[t.2.2.nodes.length]=_
   rw [hins,hnl,List.range'_concat,Nat.one_mul,Nat.add_comm j 1]
  ·rcases hn with hn|hn|hn
   ·exact .inl (hdom net (.inl hn))
   ·exact .inl (hdom net (.inr (.inl hn)))
   ·rw [take_snoc hs] at hn
    exact (List.mem_append.mp hn).imp (fun q=>hdom net (.inr (.inr q))) List.mem_singleton.mp
 ·obtain ⟨q1,_,q3,q4,q5,q6,q7⟩:=q
  rw [List.take_length] at q7
  exact fin _ _ _ _ q1 q3 q4 q5 q6 q7
theorem fn_row (hG:G.Ok) (hr:1≤r) {L:List (Nat × Nat)}{A:AigA}{row b:Addr}{l:List Nat} (F0:FnS N m o dl L A m1) (hnr:m row=none) (hro:row∉o.all) (kb:m b=some (.tup (natL l))) (kr:m1 row=some (.list [])) (hl:l.length≤3)
  (hb:∀ net∈l,L.lookup net=none→∀ m' dl es Φ',m' dl=some (.dict es)→dget (.int (net:Int)) es=none→callW G r Ψ (.ref 293) [.ref dl,.int net] m' Φ')
  (fin:∀ y qs m',FnS N m o dl L A m'→m' row=some (.list (natL qs))→All2 (fun q net=>L.lookup net=some q) qs l→Up row m1 m'→semB ⟨G,r,Ψ⟩ rest ⟨[x,some (.ref o.x),some (.ref dl),y,y4,y5,y6,y7,y8,some (.ref row)],m'⟩ Φ) :
  forK ⟨G,r,Ψ⟩ (.name 3) (.cons (.expr (.app (.var 9) (.call 293 (.cons (.var 2) (.cons (.var 3) .nil))))) .nil) rest Φ (.ref b) ⟨[x,some (.ref o.x),some (.ref dl),y3,y4,y5,y6,y7,y8,some (.ref row)],m1⟩:=by
 refine for_nats (T:=Option V × List Nat) (F:=fun t=>[x,some (.ref o.x),some (.ref dl),t.1,y4,y5,y6,y7,y8,some (.ref row)]) (x0:=(y3,[])) (iter_tup (F0.1 kb))
  (fun j t μ=>A4 (FnS N m o dl L A μ) (μ row=some (.list (natL t.2))) (All2 (fun q net=>L.lookup net=some q) t.2 (l.take j)) (Up row m1 μ)) (fun zz zz zz q=>q.1.1 kb) ⟨F0,kr,.nil,Gr.refl.up⟩ (fun j t μ net Ψ' hj q hΨ=>?_) fun t μ q=>?_
 ·obtain ⟨F,kr,h,u⟩:=q
  refine s_app (fun zz h=>h) kr ?_
  cases hlk:L.lookup net with
  | none=>exact hb net (List.mem_of_getElem? hj) hlk μ dl _ _ F.2 (by rw [dget_dN,hlk];rfl)
  | some q =>
   refine literal_of hG hr F.2 (dget_dN_at hlk) (app_go kr (by rw [natL_len,h.1,List.length_take];exact Nat.lt_of_le_of_lt (Nat.min_le_right _ _) (Nat.lt_of_le_of_lt hl (nb rfl))) fun m2 k2 u2=>hΨ (_,t.2++[q]) m2 ⟨⟨F.1.set hnr u2,u2 (mn F.2 kr rfl) F.2,F.3.upL u2 kr hro,F.4⟩,by rw [natL_snoc];exact k2,?_,u.trans u2⟩)
   rw [take_snoc hj];exact h.snoc hlk
 ·have h:=q.3
  rw [List.take_length] at h
  exact fin _ _ _ q.1 q.2 h q.4
theorem ar8 {t n c s l:Nat} (h:t<n) (hn:n≤c) (hc:c<100) (hs:s<1000) (hl:l≤s+1+21*t):l<600000:=by omega
theorem ar9 {t n c s l:Nat} (h:t<n) (hn:n≤c) (hc:c<100) (hs:s<1000) (hl:l≤s+2+t):l<1000000:=by omega
theorem ar10 {a b s t:Nat} (h:a≤b+21) (q:b≤s+1+21*t):a≤s+1+21*(t+1):=by omega
theorem ar11 {a s t c:Nat} (h:a≤s+1+21*t) (ht:t≤c) (hc:c<100) (hs:s<1000):a<100000:=by omega
theorem fn_cells (hG:G.Ok) (hr:9≤r) (hnd:m dl=none) (ho:∀ a∈o.all,m a=none) (dlt:dl≠o.lt) (S:N.Good) {no:NetO}{nm:V}{n:Nat}{vi vo vc:List V} (a:NetM m no nm n vi vo vc) (hcs:Cells m vc N.cells) {Bad:Nat→Prop} (hdr:∀ i c,N.isComb i=true→N.cells[i]?=some c→∀ net∈c.ins,N.Driven net∨Bad net)
  (hbad:∀ net,Bad net→∀ r' m' dl es Φ',3≤r'→m' dl=some (.dict es)→dget (.int (net:Int)) es=none→callW G r' Ψ (.ref 293) [.ref dl,.int net] m' Φ')
  {lq:Addr}{R:List Nat} (O:Order N R) (hq:lq∉o.all) (kq:m1 lq=some (.list (natL R))) {L:List (Nat × Nat)}{A:AigA} (F0:FnS N m o dl L A m1) (hLl:L.length≤N.srcs.length+2) (hnodes:A.nodes=List.replicate (N.srcs.length+1) none) (hins:A.ins=List.range' 1 N.srcs.length) (houts:A.outs=[]) (hdom:∀ net,net=0∨net=1∨net∈N.srcs→(L.lookup net).isSome=true)
  (fin:∀ y3 y4 y5 y6 y7 y8 y9 L A m',FnS N m o dl L A m'→A.nodes.length<100000→Shp N.srcs.length A.nodes→A.ins=List.range' 1 N.srcs.length→A.outs=[]→(∀ net,N.Driven net→(L.lookup net).isSome=true)→(∀ i c,N.isComb i=true→N.cells[i]?=some c→∀ net∈c.ins,N.Driven net) →
   semB ⟨G,r,Ψ⟩ rest ⟨[some (.ref no.x),some (.ref o.x),some (.ref dl),y3,y4,y5,y6,y7,y8,y9],m'⟩ Φ) :
  forK ⟨G,r,Ψ⟩ (.name 4) (.cons (.asg (.tup (.cons (.name 5) (.cons (.name 6) (.cons (.name 7) (.cons (.name 8) .nil))))) (.item (.attr (.var 0) .cells) (.var 4)))
  (.cons (.asg (.name 9) (.list .nil))
  (.cons (.forS (.name 3) (.var 7)
   (.cons (.expr (.app (.var 9) (.call 293 (.cons (.var 2) (.cons (.var 3) .nil)))))
   .nil))
  (.cons (.asg (.item (.var 2) (.var 6)) (.call 286 (.cons (.var 1) (.cons (.var 5) (.cons (.var 8) (.cons (.var 9) .nil))))))
  .nil)))) rest Φ (.ref lq) ⟨[some (.ref no.x),some (.ref o.x),some (.ref dl),y3,y4,y5,y6,y7,y8,y9],m1⟩:=by
 have hRl:=order_le O.nd O.comb
 refine for_nats (T:=(Option V × Option V × Option V × Option V × Option V × Option V × Option V) × List (Nat × Nat) × AigA) (F:=fun t=>[some (.ref no.x),some (.ref o.x),some (.ref dl),t.1.1,t.1.2.1,t.1.2.2.1,t.1.2.2.2.1,t.1.2.2.2.2.1,t.1.2.2.2.2.2.1,t.1.2.2.2.2.2.2]) (x0:=((y3,y4,y5,y6,y7,y8,y9),L,A)) (iter_list kq)
  (fun k t μ=>A10 (FnS N m o dl t.2.1 t.2.2 μ) (μ lq=some (.list (natL R))) (t.2.1.length≤N.srcs.length+2+k) (t.2.2.nodes.length≤N.srcs.length+1+21*k) (Shp N.srcs.length t.2.2.nodes) (t.2.2.ins=List.range' 1 N.srcs.length) (t.2.2.outs=[]) (∀ net,net=0∨net=1∨net∈N.srcs→(t.2.1.lookup net).isSome=true) (∀ b∈R.take k,∀ d,N.cells[b]?=some d→(t.2.1.lookup d.out).isSome=true) (∀ b∈R.take k,∀ d,N.cells[b]?=some d→∀ net∈d.ins,N.Driven net)) (fun zz zz zz q=>q.2)
  ⟨F0,kq,hLl,hnodes▸Nat.le_of_eq List.length_replicate,⟨[],by rw [List.append_nil];exact hnodes,fun zz h=>(nomatch h)⟩,hins,houts,hdom,fun zz h=>(nomatch h),fun zz h=>(nomatch h)⟩ (fun k t m6 i Ψ' hi q hΨ=>?_) fun t μ q=>?_
 ·obtain ⟨F,kq,hLl,hnl,hsh,hins,houts,hdom,hdo,hdd⟩:=q
  have hk:=at_lt hi
  have hci:=O.comb i (List.mem_of_getElem? hi)
  have hc:=List.getElem?_eq_getElem (isComb_lt hci)
  generalize N.cells[i]'(isComb_lt hci)=c at hc
  have hst:c.kd.state=false:=Bool.not_eq_true' _▸((isComb_at hc).symm.trans hci)
  have hcm:=List.mem_of_getElem? hc
  have hck:=S.4 c hcm hst
  have hl3:=combOk_len hck
  refine hcs.at hc fun tc b p hv ht hb hp=>s_asg ((a.keep F.1).aC (it_l (F.1 a.5) hv ?_))
  refine t_tup4 (F.1 ht) (s_asg (w_list (nb rfl) fun row m7 n7 k7 g7=>a_nm (s_for ?_)))
  have hro:=F.3.new n7
  refine fn_row hG (Nat.le_trans (nb rfl) hr) (F.gr g7) (F.1.old n7) hro hb k7 hl3 (fun net hn hlk m' dl es Φ' hd hg=>?_) fun y qs m8 F8 k8 hqs u8=>s_asg ?_
  ·refine hbad net ((hdr i c hci hc net hn).elim (fun q=>absurd hlk fun e=>?_) id) _ m' dl es Φ' (Nat.le_trans (nb rfl) hr) hd hg
   have:(t.2.1.lookup net).isSome=true:=q.el (hdom net) fun b' d q1 q2 q3=>q3▸hdo b' (O.ord k i hi b' (mem_preds S.2 hc hst q2 q1 (q3▸hn))) d q2
   rw [e] at this;exact nomatch this
  ·have hql:qs.length=c.ins.length:=hqs.1
   refine cell_literal hG (Nat.le_trans (nb rfl) hr) (kd:=c.kd) (par:=c.par) (ls:=qs) F8.3 (hql▸hck) (hp.keep F8.1.tups) k8 (fun e=>hro (e▸o.mN)) (lits_low F8.4 hqs) (ar8 hk hRl S.5 S.6 hnl) fun m9 A9 q9 A9' le9 l9 lt9 v9 s9=>?_
   have kd9:=s9 (F8.3.notL F8.2 rfl).1 dlt F8.2
   have kq9:=s9 (fun (e:lq=o.ln)=>hq (e▸o.mN)) (fun (e:lq=o.lt)=>hq (e▸o.mT)) (u8 (fresh_ne n7 kq).symm (g7 kq))
   have LO9:=(F8.4.le le9).put lt9 (fun vals w C Cw Ag=>(v9 vals C).trans ?_) (.inr (.inr (.inr ⟨i,c,hci,hc,rfl⟩)))
   ·refine setD_go kd9 keyInt (by rw [dN_len];exact ar9 hk hRl S.5 S.6 hLl) fun m10 d10 u10=>hΨ ((_,_,_,_,_,_,_),putN c.out q9 t.2.1,A9) m10 ⟨⟨(AigAt.gr F8.1 s9 (ho _ o.mN) (ho _ o.mT)).set hnd u10,by rw [←dput_dN];exact d10,A9'.upD u10 kd9 dlt,LO9⟩,u10 (mn kq9 kd9 rfl) kq9,Nat.le_trans (putN_len _ _ _) (Nat.succ_le_succ hLl),ar10 l9 hnl,hsh.le le9,?_,?_,fun net hn=>has_put (.inl (hdom net hn)),fun b' hb' d hd=>has_put ?_,fun b' hb' d hd=>?_⟩
    ·obtain ⟨_,_,_,e,_⟩:=le9;exact e.trans hins
    ·obtain ⟨_,_,_,_,e⟩:=le9;exact e.trans houts
    ·rw [take_snoc hi] at hb'
     refine (List.mem_append.mp hb').imp (fun z=>hdo b' z d hd) fun z=>?_
     rw [List.mem_singleton.mp z,hc] at hd
     exact Option.some.inj hd▸rfl
    ·rw [take_snoc hi] at hb'
     refine (List.mem_append.mp hb').elim (fun z=>hdd b' z d hd) fun z net hn=>?_
     rw [List.mem_singleton.mp z,hc] at hd
     obtain ⟨j,hj⟩:=List.mem_iff_getElem?.mp (Option.some.inj hd▸hn:net∈c.ins)
     exact hqs.at hj fun q zz e=>F.4.3 net q e
   ·show cellF c.kd c.par (qs.map (lit vals))=w c.out
    rw [hqs.map_eq (g:=w) fun q net e=>(F8.4.le le9).2 net q e vals w C Cw Ag]
    exact (Cw.3 c hcm hst).symm
 ·obtain ⟨F,kq,hLl,hnl,hsh,hins,houts,hdom,hdo,hdd⟩:=q
  rw [List.take_length] at hdo hdd
  exact fin _ _ _ _ _ _ _ _ _ _ F (ar11 hnl hRl S.5 S.6) hsh hins houts (fun net hn=>hn.el (hdom net) fun i c q1 q2 q3=>q3▸hdo i (O.all i q1) c q2) fun i c hi hc=>hdd i (O.all i hi) c hc
end
section
variable {G:GC}{r:Nat}{Ψ:Addr→Mem→Prop}{m:Mem}{N:NetA}{o:AigO}{dl:Addr}{rest:Sxs}{x y3 y4 y5 y6 y7 y8 y9:Option V}{m1:Mem}
theorem fn_sinks (hG:G.Ok) (hr:1≤r) {Φ:Fl→St→Prop} (ho:∀ a∈o.all,m a=none) (S:N.Small) {lk:Addr} (hk:lk∉o.all) (kk:m1 lk=some (.list (natL N.snks))) {L:List (Nat × Nat)}{A:AigA} (F0:FnS N m o dl L A m1) (ha:A.outs=[]) (hall:∀ net∈N.snks,(L.lookup net).isSome=true)
  (fin:∀ y qs m',FnS N m o dl L ⟨A.nodes,A.ins,qs⟩ m'→All2 (fun q net=>L.lookup net=some q) qs N.snks→semB ⟨G,r,Ψ⟩ rest ⟨[x,some (.ref o.x),some (.ref dl),y,y4,y5,y6,y7,y8,y9],m'⟩ Φ) :
  forK ⟨G,r,Ψ⟩ (.name 3) (.cons (.expr (.meth (.var 1) (ofString "add_output") (.cons (.call 293 (.cons (.var 2) (.cons (.var 3) .nil))) .nil))) .nil) rest Φ (.ref lk) ⟨[x,some (.ref o.x),some (.ref dl),y3,y4,y5,y6,y7,y8,y9],m1⟩:=by
 refine for_nats (T:=Option V × List Nat) (F:=fun t=>[x,some (.ref o.x),some (.ref dl),t.1,y4,y5,y6,y7,y8,y9]) (x0:=(y3,A.outs)) (iter_list kk)
  (fun j t μ=>A3 (FnS N m o dl L ⟨A.nodes,A.ins,t.2⟩ μ) (μ lk=some (.list (natL N.snks))) (All2 (fun q net=>L.lookup net=some q) t.2 (N.snks.take j))) (fun zz zz zz q=>q.2) ⟨F0,kk,by rw [ha];exact .nil⟩ (fun j t μ net Ψ' hj q hΨ=>?_) fun t μ q=>?_
 ·obtain ⟨F,kk,h⟩:=q
  obtain ⟨q,hq⟩:=Option.isSome_iff_exists.mp (hall net (List.mem_of_getElem? hj))
  refine s_expr (meth261 F.3 a_add_output (literal_of hG hr F.2 (dget_dN_at hq) (aig_add_output hG hr F.3 ?_ fun m2 A2 u2=>⟨rfl,hΨ (_,t.2++[q]) m2 ⟨⟨F.1.set (ho _ o.mO) u2,u2 (F.3.notL F.2 rfl).2.2 F.2,A2,F.4.1,F.4.2,F.4.3⟩,u2 (fun e=>hk (e▸o.mO)) kk,?_⟩⟩)))
  ·show t.2.length<900000
   rw [h.1,List.length_take]
   exact Nat.lt_of_le_of_lt (Nat.min_le_right _ _) (Nat.lt_trans S.5 (nb rfl))
  ·rw [take_snoc hj];exact h.snoc hq
 ·obtain ⟨F,_,h⟩:=q
  rw [List.take_length] at h
  exact fin _ _ _ F h
theorem from_netlist {Φ:V→Mem→Prop}{x:Addr} (hG:G.Ok) (hr:12≤r) (hN:NetR m (.ref x) N) (S:N.Good) {Bad:Nat→Prop} (hdr:∀ i c,N.isComb i=true→N.cells[i]?=some c→∀ net∈c.ins,N.Driven net∨Bad net) (hsk:∀ net∈N.snks,N.Driven net)
  (hbad:∀ net,Bad net→∀ r' m' dl es Φ',3≤r'→m' dl=some (.dict es)→dget (.int (net:Int)) es=none→callW G r' Ψ (.ref 293) [.ref dl,.int net] m' Φ')
  (h:∀ m' o A,AigAt m' o A→Built N A→Gr m m'→m o.x=none→(∀ a∈o.all,m a=none)→(∀ i c,N.isComb i=true→N.cells[i]?=some c→∀ net∈c.ins,N.Driven net)→Φ (.ref o.x) m'):callW G r Ψ (.ref 300) [.ref x] m Φ:=by
 have hN0:=hN
 refine hN.el (C:=fun x=>NetR m (.ref x) N→callW G r Ψ (.ref 300) [.ref x] m Φ) (fun no nm vi vo vc bi bo a hpi hpo hcs hN=>?_) hN0
 refine run300 hG hr (s_asg (aig_new hG (pr hr rfl) fun o m1 A1 g1 hx ho=>s_asg (new_go fun dl m2 n2 k2 g2=>?_)))
 have A2:=A1.keep g2
 have g12:=g1.trans g2
 have a2:=a.keep g12
 have dlt:dl≠o.lt:=fun e=>A1.new n2 (e▸o.mT)
 refine a_nm (s_for (e_meth a2.1 a2.2 m_sources (sources hG (pr hr rfl) (hN.keep g12) S.1 fun m3 ls n3 k3 g3=>?_)))
 refine fn_inputs hG (pr hr rfl) (g1.old n2) ho dlt S (A2.new n3) k3 ⟨g12.trans g3,g3 k2,A2.keep g3,lit0s⟩ fun y3 L A m4 F4 hl hn hi hu hdom=>?_
 refine s_for (comb_order hG (pr hr rfl) (hN.keep F4.1) S.1 S.2 S.3 fun m5 lq R n5 k5 O g5=>?_)
 refine fn_cells hG (pr hr rfl) (g1.old n2) ho dlt S a hcs hdr hbad O (F4.3.new n5) k5 (F4.gr g5) hl hn hi hu hdom fun y3 y4 y5 y6 y7 y8 y9 L A m6 F6 hlen hsh hi hu hdom hdd=>?_
 have a6:=a.keep F6.1
 refine s_for (e_meth a6.1 a6.2 m_sinks (sinks hG (pr hr rfl) (hN.keep F6.1) S.1 fun m7 lk n7 k7 g7=>?_))
 refine fn_sinks hG (pr hr rfl) ho S.1 (F6.3.new n7) k7 (F6.gr g7) hu (fun net hn=>hdom net (hsk net hn)) fun y qs m8 F8 hqs=>?_
 exact h m8 o ⟨A.nodes,A.ins,qs⟩ F8.3 ⟨hsh,hi,hqs.1,lits_low F8.4 hqs,fun vals w C Cw Ag=>hqs.map_eq fun q net e=>F8.4.2 net q e vals w C Cw Ag,hlen⟩ F8.1 hx ho hdd
end
noncomputable def boolL (l:List Bool):List V:=l.map .bool
theorem boolL_len (l:List Bool):(boolL l).length=l.length:=List.length_map _
theorem boolL_at {l:List Bool}{k:Nat}{b:Bool} (h:l[k]?=some b):(boolL l)[k]?=some (.bool b):=by unfold boolL;rw [List.getElem?_map,h];rfl
theorem boolL_set (l:List Bool) (k:Nat) (b:Bool):(boolL l).set k (.bool b)=boolL (l.set k b):=List.map_set.symm
section
variable {X:PX}{m:Mem}{ρ:List (Option V)}{Φ:V→St→Prop}{a:Addr}{n:Nat}{x:V}
theorem bRep (h:m a=some (.list [x])) (hn:n<1000000) (k:∀ l m',m l=none→m' l=some (.list (List.replicate n x))→Gr m m'→Φ (.ref l) ⟨ρ,m'⟩):binW .Mult (.ref a) (.int (n:Nat)) ⟨ρ,m⟩ Φ:=by
 exact .rep a n x rfl rfl rfl h ⟨Int.natCast_nonneg _,Int.ofNat_lt.mpr hn⟩ (new_go k)
theorem w_down (hn:n<2^29) (h0:0<n) (h:∀ l m',m l=none→m' l=some (.range ((n:Int) - 1) (-1) (-1))→Gr m m'→Φ (.ref l) ⟨ρ,m'⟩):biW .range [.int ((n:Int) - 1),.int (-1),.int (-1)] ⟨ρ,m⟩ Φ:=by
 exact .i (.three _ _ _ rfl ⟨⟨by omega,by decide,by decide,by decide⟩,new_go h⟩)
theorem iter_down (h:m a=some (.range ((n:Int) - 1) (-1) (-1))) (h0:0<n) (hn:n<2^29):iterOf m (.ref a)=some (a,.range ((n:Int) - 1) (-1) (-1),(List.range n).map fun k=>.int (((n - 1 - k:Nat):Int))):=by
 rw [iter_of h]
 have e:rangeN ((n:Int) - 1) (-1) (-1)=n:=by
  unfold rangeN Builtin.Range.rangeSize
  rw [if_neg (by decide),if_pos (by lia),show (- -1:Int)=1 from rfl,Int.ediv_one]
  lia
 show Option.map _ (if _ then some (rangeL ((n:Int) - 1) (-1) (-1)) else none)=_
 rw [if_pos ⟨by omega,by decide,by decide,by decide⟩]
 unfold rangeL
 rw [e]
 refine congrArg (fun l=>some (a,MO.range ((n:Int) - 1) (-1) (-1),l)) (List.map_congr_left fun i hi=>congrArg V.int ?_)
 have:=List.mem_range.mp hi
 omega
theorem for_down {T:Type}{F:T→List (Option V)}{b r:Sxs}{x0:T}{Φ:Fl→St→Prop}{i:Nat} (h:m a=some (.range ((n:Int) - 1) (-1) (-1))) (h00:0<n) (hn:n<2^29) (Inv:Nat→T→Mem→Prop) (hI:∀ k x m,Inv k x m→m a=some (.range ((n:Int) - 1) (-1) (-1))) (h0:Inv 0 x0 m)
  (step:∀ k x m (Ψ:Fl→St→Prop),k<n→Inv k x m→(∀ x' m',Inv (k+1) x' m'→Ψ .next ⟨F x',m'⟩)→semB X b ⟨put (F x) i (.int ((n - 1 - k:Nat):Int)),m⟩ Ψ)
  (fin:∀ x m,Inv n x m→semB X r ⟨F x,m⟩ Φ):forK X (.name i) b r Φ (.ref a) ⟨F x0,m⟩:=by
 refine for_go (iter_down h h00 hn) Inv hI h0 (fun k x m v Ψ hv q hΨ=>?_) fun x m q=>fin x m ?_
 ·rw [List.getElem?_map] at hv
  cases e:(List.range n)[k]? with
  | none=>rw [e] at hv;exact noS rfl hv
  | some k' =>
   rw [e] at hv
   have h1:=List.getElem?_eq_some_iff.mp e
   obtain ⟨h1,h2⟩:=h1
   rw [List.getElem_range] at h2
   rw [←Option.some.inj hv,←h2]
   exact step k x m Ψ (List.length_range (n:=n)▸h1) q hΨ
 ·rw [List.length_map,List.length_range] at q;exact q
end
inductive UsedOk (A:AigA) (U:List Bool):Prop
 | mk (len:U.length=A.nodes.length) (outs:∀ q∈A.outs,U[q / 2]?=some true) (kids:∀ (n l r:Nat),A.nodes[n]?=some (some (l,r))→U[n]?=some true→U[l / 2]?=some true∧U[r / 2]?=some true)
theorem set_true {U:List Bool}{k j:Nat} (h:U[j]?=some true):(U.set k true)[j]?=some true:=by
 by_cases e:k=j
 ·rw [e,List.getElem?_set_self (at_lt h)]
 ·rw [List.getElem?_set_ne e];exact h
theorem set_at {U:List Bool}{k:Nat} (h:k<U.length):(U.set k true)[k]?=some true:=List.getElem?_set_self h
theorem ar12 {n j:Nat} (h:j<n):n - 1 - j<n:=by omega
theorem ar13 {n j i:Nat} (h:n≤i+(j+1)) (q:¬n≤i+j):i=n - 1 - j:=by omega
theorem ar14 {n i j:Nat} (h:j<n) (q:n≤i+j):n - 1 - j<i:=by omega
theorem ar15' {l n:Nat} (h:l<2*n):l / 2<n:=half_lt h
theorem ar15 {l n k:Nat} (h:l<2*n) (q:n<k):l / 2<k:=by omega
section
variable {G:GC}{r:Nat}{Ψ:Addr→Mem→Prop}{m:Mem}{o:AigO}{A:AigA}{Φ:V→Mem→Prop}
theorem used_nodes (hG:G.Ok) (hr:1≤r) (N:AigAt m o A) (hs:A.nodes.length<100000) (hlow:∀ q∈A.outs,q<2*A.nodes.length) (h:∀ m' l U,m l=none→m' l=some (.list (boolL U))→UsedOk A U→Gr m m'→Φ (.ref l) m'):callW G r Ψ (.ref 272) [.ref o.x] m Φ:=by
 obtain ⟨vs,es,ok,M⟩:=N
 have pos:=at_lt ok.1
 have hs29:A.nodes.length<2^29:=Nat.lt_trans hs (nb rfl)
 have hvl:=M.10.1
 refine run272 hG hr (s_asg (w_list (nb rfl) fun l0 m1 n1 k1 g1=>(M.keep g1).aN (len_l (g1 M.3) hvl (bRep k1 (b6'' hs) fun l m2 n2 k2 g2=>s_for ?_))))
 have g12:=g1.trans g2
 have nl:=g1.old n2
 refine (M.keep g12).aO ?_
 refine for_nats (T:=Option V × List Bool) (F:=fun t=>[some (.ref o.x),some (.ref l),t.1,none,none]) (x0:=(none,List.replicate A.nodes.length false)) (iter_list (g12 M.5)) (fun j t μ=>A4 (Gr m μ) (μ l=some (.list (boolL t.2))) (t.2.length=A.nodes.length) (∀ q∈A.outs.take j,t.2[q / 2]?=some true)) (fun zz zz zz q=>q.1 M.5)
  ⟨g12,by unfold boolL;rw [List.map_replicate];exact k2,List.length_replicate,fun zz h=>nomatch h⟩ (fun j t m3 q Ψ' hq ⟨g3,k3,hU,hm⟩ hΨ=>s_asg (bShrE (b:=1) (c:=q / 2) rfl rfl rfl (setL_go k3 (by rw [boolL_len,hU];exact half_lt (hlow q (List.mem_of_getElem? hq))) fun m4 k4 u4=>hΨ (_,t.2.set (q / 2) true) m4 ⟨g3.set nl u4,by rw [←boolL_set];exact k4,by rw [List.length_set];exact hU,fun q' hq'=>?_⟩))) fun t m3 ⟨g3,k3,hU,hm⟩=>?_
 ·rw [take_snoc hq] at hq'
  refine (List.mem_append.mp hq').elim (fun z=>set_true (hm q' z)) fun z=>?_
  rw [List.mem_singleton.mp z]
  exact set_at (by rw [hU];exact half_lt (hlow q (List.mem_of_getElem? hq)))
 rw [List.take_length] at hm
 refine s_for ((M.keep g3).aN (len_l (g3 M.3) hvl (bSub rfl (w_down hs29 pos fun ra m4 n4 k4 g4=>?_))))
 refine for_down (T:=(Option V × Option V) × List Bool) (F:=fun u=>[some (.ref o.x),some (.ref l),t.1,u.1.1,u.1.2]) (x0:=((none,none),t.2)) k4 pos hs29 (fun j u μ=>A6 (Gr m μ) (μ ra=some (.range ((A.nodes.length:Int) - 1) (-1) (-1))) (μ l=some (.list (boolL u.2))) (u.2.length=A.nodes.length) (∀ q∈A.outs,u.2[q / 2]?=some true)
   (∀ (n l r:Nat),A.nodes.length≤n+j→A.nodes[n]?=some (some (l,r))→u.2[n]?=some true→u.2[l / 2]?=some true∧u.2[r / 2]?=some true)) (fun zz zz zz q=>q.2)
  ⟨g3.trans g4,k4,g4 k3,hU,hm,fun n l r hn he=>absurd (at_lt he) (Nat.not_lt_of_le hn)⟩ (fun j u m5 Ψ' hj ⟨g5,ka,k5,hU,hm,hk⟩ hΨ=>?_) fun u m5 ⟨g5,ka,k5,hU,hm,hk⟩=>h m5 l u.2 nl k5 ⟨hU,hm,fun n l r=>hk n l r (Nat.le_add_left _ _)⟩ g5
 have M5:=M.keep g5
 have hnl:=ar12 hj
 have hnd:=List.getElem?_eq_getElem hnl
 have hnU:A.nodes.length - 1 - j<u.2.length:=by rw [hU];exact hnl
 have hb:=List.getElem?_eq_getElem hnU
 generalize A.nodes[A.nodes.length - 1 - j]'hnl=nd at hnd
 generalize u.2[A.nodes.length - 1 - j]'hnU=b at hb
 refine M5.10.at hnd fun v hv hn=>s_asg (M5.aN (it_l M5.3 hv (s_if (it_l k5 (boolL_at hb) ?_))))
 have stay:∀ x3 x4,(∀ p,nd=some p→b=true→False)→Ψ' .next ⟨[some (.ref o.x),some (.ref l),t.1,x3,x4],m5⟩:=fun x3 x4 hc=>hΨ ((x3,x4),u.2) m5 ⟨g5,ka,k5,hU,hm,fun n l r hn he hu=>by
  by_cases hn':A.nodes.length≤n+j
  ·exact hk n l r hn' he hu
  ·have e:=ar13 hn hn'
   rw [e] at he hu
   exact (hc _ (Option.some.inj (hnd.symm.trans he)) (Option.some.inj (hb.symm.trans hu))).elim⟩
 cases b with
 | false=>exact stay _ _ fun zz zz e=>nomatch e
 | true =>
  cases nd with
  | none =>
   obtain rfl:v=.none:=hn
   exact isnot_n (stay _ _ fun zz e=>nomatch e)
  | some p =>
   obtain ⟨tp,rfl,ht⟩:=hn
   have low:=ok.2 _ p.1 p.2 hnd
   have h1:=ar15 low.1 hnl
   have h2:=ar15 low.2 hnl
   refine isnot_r (if_t (s_asg (it_t (k:=0) ht rfl (bShrE (b:=1) (c:=p.1 / 2) rfl rfl rfl (setL_go k5 (by rw [boolL_len,hU];exact h1) fun m6 k6 u6=>s_asg (it_t (k:=1) (u6 (mn ht k5 rfl) ht) rfl (bShrE (b:=1) (c:=p.2 / 2) rfl rfl rfl (setL_go k6 (by rw [List.length_set,boolL_len,hU];exact h2) fun m7 k7 u7 =>
    hΨ ((_,_),(u.2.set (p.1 / 2) true).set (p.2 / 2) true) m7 ⟨(g5.set nl u6).set nl u7,u7 (mn (u6 (mn ka k5 rfl) ka) k6 rfl) (u6 (mn ka k5 rfl) ka),by rw [←boolL_set,←boolL_set];exact k7,by rw [List.length_set,List.length_set];exact hU,fun q hq=>set_true (set_true (hm q hq)),fun n l' r' hn he hu=>?_⟩))))))))
   by_cases hn':A.nodes.length≤n+j
   ·have hln:=ar14 hj hn'
    rw [List.getElem?_set_ne (Nat.ne_of_lt (Nat.lt_trans (ar15' low.2) hln)),List.getElem?_set_ne (Nat.ne_of_lt (Nat.lt_trans (ar15' low.1) hln))] at hu
    have q:=hk n l' r' hn' he hu
    exact ⟨set_true (set_true q.1),set_true (set_true q.2)⟩
   ·rw [ar13 hn hn',hnd] at he
    cases he
    exact ⟨set_true (set_at (by rw [hU];exact h1)),set_at (by rw [List.length_set,hU];exact h2)⟩
end
inductive CellsW (cs:List Cell) (w:Nat→Bool):Prop
 | mk (zero:w 0=false) (one:w 1=true) (cell:∀ c∈cs,c.kd.state=false→w c.out=cellF c.kd c.par (c.ins.map w))
noncomputable def NetA.combs (N:NetA):List Cell:=N.cells.filter fun c=>!c.kd.state
noncomputable abbrev Dn (Sg:List Nat) (cs:List Cell):List Nat:=0::1::(Sg++cs.map (·.out))
inductive Mk (A:AigA) (Sg:List Nat) (N:NetA) (L:List (Nat × Nat)):Prop
 | mk (nd:(Dn Sg N.combs).Nodup) (lt:∀ n∈Dn Sg N.combs,n<N.count) (kinds:∀ c∈N.combs,(c.kd=.and∨c.kd=.not)∧combOk c.kd c.par c.ins.length)
  (seq:∀ (k:Nat) c,N.combs[k]?=some c→∀ net∈c.ins,net∈Dn Sg (N.combs.take k)) (keyM:∀ q n,L.lookup q=some n→n∈Dn Sg N.combs) (keyV:∀ q n,L.lookup q=some n→∀ vals w,Cons A.nodes vals→CellsW N.cells w→Agree A.ins Sg vals w→w n=lit vals q)
section
variable {A:AigA}{Sg:List Nat}{N:NetA}{L:List (Nat × Nat)}{c:Cell}{n:Nat}
theorem CellsW.left {a b:List Cell}{w:Nat→Bool} (h:CellsW (a++b) w):CellsW a w:=⟨h.1,h.2,fun c hc=>h.3 c (List.mem_append_left _ hc)⟩
theorem combs_t {cs:List Cell} (h:c.kd.state=true):(cs++[c]).filter (fun c=>!c.kd.state)=cs.filter fun c=>!c.kd.state:=by
 rw [List.filter_append,List.filter_cons (xs:=[]),h];exact List.append_nil _
theorem combs_f {cs:List Cell} (h:c.kd.state=false):(cs++[c]).filter (fun c=>!c.kd.state)=(cs.filter fun c=>!c.kd.state)++[c]:=by
 rw [List.filter_append,List.filter_cons (xs:=[]),h];rfl
theorem states_t {cs:List Cell} (h:c.kd.state=true):(cs++[c]).filter (·.kd.state)=cs.filter (·.kd.state)++[c]:=by
 rw [List.filter_append,List.filter_cons (xs:=[]),h];rfl
theorem states_f {cs:List Cell} (h:c.kd.state=false):(cs++[c]).filter (·.kd.state)=cs.filter (·.kd.state):=by
 rw [List.filter_append,List.filter_cons (xs:=[]),h];exact List.append_nil _
theorem Mk.state (K:Mk A Sg N L) (hs:c.kd.state=true):Mk A Sg { N with cells:=N.cells++[c] } L:=by
 have e:NetA.combs { N with cells:=N.cells++[c] }=N.combs:=combs_t hs
 refine ⟨?_,?_,?_,?_,?_,fun q n h vals w C Cw Ag=>K.6 q n h vals w C Cw.left Ag⟩ <;> rw [e]
 ·exact K.1
 ·exact K.2
 ·exact K.3
 ·exact K.4
 ·exact K.5
theorem Dn_snoc (cs:List Cell):Dn Sg (cs++[c])=Dn Sg cs++[c.out]:=by
 unfold Dn
 rw [List.map_append,←List.append_assoc];rfl
theorem Mk.add (K:Mk A Sg N L) {kd:Kd}{ins:List Nat} (hk:kd=.and∨kd=.not) (hst:kd.state=false) (ho:combOk kd .none ins.length) (hi:∀ n∈ins,n∈Dn Sg N.combs) {q:Nat}
  (hv:∀ vals w,Cons A.nodes vals→CellsW N.cells w→Agree A.ins Sg vals w→cellF kd .none (ins.map w)=lit vals q) :
  Mk A Sg { N with count:=N.count+1,cells:=N.cells++[⟨kd,N.count,ins,.none⟩] } (putN q N.count L):=by
 have ec:NetA.combs { N with count:=N.count+1,cells:=N.cells++[⟨kd,N.count,ins,.none⟩] }=N.combs++[⟨kd,N.count,ins,.none⟩]:=combs_f hst
 have go:∀ (P:Nat→Nat→Prop),P q N.count→(∀ q n,L.lookup q=some n→P q n)→∀ q' n,(putN q N.count L).lookup q'=some n→P q' n:=fun P a b q' n e=>by
  rw [lookup_putN] at e
  by_cases z:q'=q
  ·rw [if_pos z] at e;exact z▸Option.some.inj e▸a
  ·rw [if_neg z] at e;exact b q' n e
 refine ⟨?_,fun n hn=>?_,fun c hc=>?_,fun k c hc net hn=>?_,go (fun zz n=>n∈Dn Sg (NetA.combs { N with count:=N.count+1,cells:=N.cells++[⟨kd,N.count,ins,.none⟩] })) ?_ fun q n e=>?_,go _ (fun vals w C Cw Ag=>?_) fun q n e vals w C Cw Ag=>K.6 q n e vals w C Cw.left Ag⟩
 ·rw [ec,Dn_snoc,List.nodup_append]
  exact ⟨K.1,List.nodup_cons.mpr ⟨List.not_mem_nil,List.nodup_nil⟩,fun a ha b hb=>List.mem_singleton.mp hb▸Nat.ne_of_lt (K.2 a ha)⟩
 ·rw [ec,Dn_snoc] at hn
  exact (List.mem_append.mp hn).elim (fun z=>Nat.lt_succ_of_lt (K.2 n z)) fun z=>List.mem_singleton.mp z▸Nat.lt_succ_self _
 ·rw [ec] at hc
  refine (List.mem_append.mp hc).elim (K.3 c) fun z=>?_
  rw [List.mem_singleton.mp z];exact ⟨hk,ho⟩
 ·rw [ec] at hc ⊢
  refine snoc_at hc (fun z=>?_) fun e z=>?_
  ·rw [List.take_append_of_le_length (Nat.le_of_lt (at_lt z))]
   exact K.4 k c z net hn
  ·rw [←z] at hn
   rw [e,List.take_left]
   exact hi net hn
 ·rw [ec,Dn_snoc];exact List.mem_append_right _ (.head _)
 ·rw [ec,Dn_snoc];exact List.mem_append_left _ (K.5 q n e)
 ·exact (Cw.3 ⟨kd,N.count,ins,.none⟩ (List.mem_append_right _ (.head _)) hst).trans (hv vals w C Cw.left Ag)
end
noncomputable def makF (nx dn:Addr):MO:=.attrs [(.netlist,.ref nx),(.nets,.ref dn)]
inductive MS (m0 m:Mem) (o:NetO) (nm:V) (mx md dn:Addr) (A:AigA) (Sg:List Nat) (N:NetA) (L:List (Nat × Nat)) (bi bo:List Addr) (B:Nat):Prop
 | mk (x_:m mx=some (.inst 324 md)) (d_:m md=some (makF o.x dn)) (n_:m dn=some (.dict (dN L))) (x:NetAt m o nm N bi bo) (K:Mk A Sg N L) (s:Gr m0 m) (md:md≠o.d) (bc:N.cells.length≤B) (bl:L.length≤B)
inductive Fresh (m0:Mem) (o:NetO) (mx md dn:Addr):Prop
 | mk (x:m0 o.x=none) (all:∀ a∈o.all,m0 a=none) (mx:m0 mx=none) (md:m0 md=none) (dn:m0 dn=none)
noncomputable def Am (o:NetO) (dn:Addr) (m m':Mem):Prop:=∀ ⦃a q⦄,a≠o.d→a≠o.lc→a≠dn→m a=some q→m' a=some q
section
variable {m m' m'' m0:Mem}{o:NetO}{nm:V}{N:NetA}{bi bo:List Addr}{a mx md dn:Addr}{A:AigA}{Sg:List Nat}{L:List (Nat × Nat)}{B:Nat}{mo:MO}{xs:List V}
theorem Am.refl:Am o dn m m:=fun zz zz zz zz zz h=>h
theorem Am.trans (x:Am o dn m m') (y:Am o dn m' m''):Am o dn m m'':=fun zz zz a b c h=>y a b c (x a b c h)
theorem Gr.am (g:Gr m m'):Am o dn m m':=fun zz zz zz zz zz h=>g h
theorem NetAt.el {P:Prop} (x:NetAt m o nm N bi bo) (k:∀ vi vo vc,NetM m o nm N.count vi vo vc→P):P:=by
 obtain ⟨vi,vo,vc,a,_,_,_⟩:=x
 exact k vi vo vc a
theorem NetAt.x (x:NetAt m o nm N bi bo):m o.x=some (.inst 134 o.d):=x.el fun zz zz zz a=>a.1
theorem NetAt.d (x:NetAt m o nm N bi bo):m o.d=some (o.f nm N.count):=x.el fun zz zz zz a=>a.2
theorem NetAt.lc (x:NetAt m o nm N bi bo) (h:m a=some mo) (hk:Nat.beq mo.no 0=false):a≠o.lc:=x.el fun zz zz zz a=>mn h a.5 hk
theorem NetAt.new (x:NetAt m o nm N bi bo) (h:m a=none):a∉o.all:=x.el fun zz zz zz a=>a.new h
theorem Ports.off {vs:List V}{ps:List (Str × List Nat)}{bs:List Addr} (h:Ports m o vs ps bs) (u:Up a m m') (t:Tups m m') (ha:a∉bs):Ports m' o vs ps bs:=h.keep t (u.same (.head _)) fun b hb e=>ha (List.mem_singleton.mp e▸hb)
theorem Ports.list {vs:List V}{ps:List (Str × List Nat)}{bs:List Addr} (h:Ports m o vs ps bs) {b:Addr} (hb:b∈bs):∃ l,m b=some (.list l):=by
 obtain ⟨k,hk⟩:=List.mem_iff_getElem?.mp hb
 have hp:k<ps.length:=h.1▸at_lt hk
 refine All2.at h.2 (List.getElem?_zip_eq_some (z:=(ps[k],b)).mpr ⟨List.getElem?_eq_getElem hp,hk⟩) fun v zz hv=>?_
 obtain ⟨_,_,_,e⟩:=hv
 exact ⟨_,e⟩
theorem NetAt.off (x:NetAt m o nm N bi bo) (u:Up a m m') (t:Tups m m') (hx:a≠o.x) (h:a∉o.all) (hb:a∉bi++bo):NetAt m' o nm N bi bo :=
 x.keep (fp:=[a]) t (u.same (.head _)) (fun e=>hx (List.mem_singleton.mp e).symm) (fun q hq e=>h (List.mem_singleton.mp e▸hq)) (fun q hq e=>hb (List.mem_append_left _ (List.mem_singleton.mp e▸hq))) fun q hq e=>hb (List.mem_append_right _ (List.mem_singleton.mp e▸hq))
theorem NetAt.upD {d:List (K × V)} (x:NetAt m o nm N bi bo) (u:Up a m m') (h:m a=some (.dict d)):NetAt m' o nm N bi bo:=by
 obtain ⟨vi,vo,vc,M,hi,ho,hc⟩:=x
 have nl:∀ {vs ps bs},Ports m o vs ps bs→a∉bs:=fun p hb=>by
  obtain ⟨l,e⟩:=p.list hb
  exact mn h e rfl rfl
 exact ⟨vi,vo,vc,⟨u (mn M.1 h rfl) M.1,u (mn M.2 h rfl) M.2,u (mn M.3 h rfl) M.3,u (mn M.4 h rfl) M.4,u (mn M.5 h rfl) M.5,M.6,M.7,M.8⟩,hi.off u (u.tups h rfl) (nl hi),ho.off u (u.tups h rfl) (nl ho),hc.keep (u.tups h rfl)⟩
theorem NetAt.newP (x:NetAt m o nm N bi bo) (h:m a=none):a∉bi++bo:=by
 obtain ⟨vi,vo,vc,M,hi,ho,hc⟩:=x
 have nl:∀ {vs ps bs},Ports m o vs ps bs→a∉bs:=fun p hb=>by
  obtain ⟨l,e⟩:=p.list hb
  exact noS h e
 exact fun q=>(List.mem_append.mp q).elim (nl hi) (nl ho)
theorem MS.gr (M:MS m0 m o nm mx md dn A Sg N L bi bo B) (g:Gr m m'):MS m0 m' o nm mx md dn A Sg N L bi bo B:=⟨g M.1,g M.2,g M.3,M.4.gr g,M.5,M.6.trans g,M.7,M.8,M.9⟩
inductive Off (m0:Mem) (o:NetO) (bi bo:List Addr) (a:Addr):Prop
 | mk (h0:m0 a=none) (h2:a∉o.all) (h3:a∉bi++bo)
theorem MS.off (M:MS m0 m o nm mx md dn A Sg N L bi bo B) (F:Off m0 o bi bo a) (h:m a=some (.list xs)) (u:Up a m m'):MS m0 m' o nm mx md dn A Sg N L bi bo B :=
 ⟨u (mn M.1 h rfl) M.1,u (mn M.2 h rfl) M.2,u (mn M.3 h rfl) M.3,M.4.off u (u.tups h rfl) (mn h M.4.x rfl) F.2 F.3,M.5,M.6.set F.1 u,M.7,M.8,M.9⟩
theorem MS.new (M:MS m0 m o nm mx md dn A Sg N L bi bo B) (h:m a=none):Off m0 o bi bo a:=⟨M.6.old h,M.4.new h,M.4.newP h⟩
theorem MS.list (M:MS m0 m o nm mx md dn A Sg N L bi bo B) (s:Am o dn m m') (ha:a∉o.all) (h:m a=some (.list xs)):m' a=some (.list xs) :=
 s (mn h M.4.d rfl) (fun e=>ha (e▸o.mC)) (mn h M.3 rfl) h
end
section
variable {G:GC}{r:Nat}{Ψ:Addr→Mem→Prop}{m0 m:Mem}{o:NetO}{nm:V}{mx md dn:Addr}{A:AigA}{Sg:List Nat}{N:NetA}{L:List (Nat × Nat)}{bi bo:List Addr}{B:Nat}{Φ:V→Mem→Prop}
theorem maker_new (hG:G.Ok) (hr:2≤r) {nx:Addr} (h:∀ mx md dn m',m' mx=some (.inst 324 md)→m' md=some (makF nx dn)→m' dn=some (.dict (dN [(0,0),(1,1)]))→Gr m m'→m mx=none→m md=none→m dn=none→Φ (.ref mx) m'):callW G r Ψ (.ref 324) [.ref nx] m Φ:=by
 refine pr1 hr (P:=fun r=>callW G r Ψ (.ref 324) [.ref nx] m Φ) (new_ok hG c324 (init324 _) fun d x zz zz hne n1 n2=>?_)
 have g0:Gr m (upd (upd m d (.attrs [])) x (.inst 324 d)):=(Gr.upd n1).trans (Gr.upd ((upd_ne hne.symm).trans n2))
 have x0:upd (upd m d (.attrs [])) x (.inst 324 d) x=_:=upd_same _ _ _
 have d0:upd (upd m d (.attrs [])) x (.inst 324 d) d=_:=(upd_ne hne).trans (upd_same _ _ _)
 generalize upd (upd m d (.attrs [])) x (.inst 324 d)=m1 at g0 x0 d0
 refine run314 (k:=0) hG (pr hr rfl) (s_asg (setA_go x0 c324 d0 (by decide) fun m2 d2 u2=>s_asg (new_go fun dn m3 n3 k3 g3=>setA_go (g3 (u2 hne.symm x0)) c324 (g3 d2) (nb rfl) fun m4 d4 u4=>?_)))
 have g2:=g0.set n1 u2
 exact ⟨rfl,h x d dn m4 (u4 hne.symm (g3 (u2 hne.symm x0))) d4 (u4 (mn k3 (g3 d2) rfl) k3) ((g2.trans g3).set n1 u4) n2 n1 (g2.old n3)⟩
noncomputable def Keeps (L L':List (Nat × Nat)):Prop:=∀ ⦃q n⦄,L.lookup q=some n→L'.lookup q=some n
theorem Keeps.some {L L':List (Nat × Nat)} (h:Keeps L L') {q:Nat} (e:(L.lookup q).isSome=true):(L'.lookup q).isSome=true:=by
 obtain ⟨n,hn⟩:=Option.isSome_iff_exists.mp e
 rw [h hn];rfl
theorem Keeps.put {q n:Nat} (h:L.lookup q=none):Keeps L (putN q n L):=fun q' n' e=>by
 rw [lookup_putN]
 by_cases z:q'=q
 ·rw [z] at e;exact noS h e
 ·rw [if_neg z];exact e
theorem dhas_dN (q:Nat) (L:List (Nat × Nat)):dhas (.int (q:Int)) (dN L)=(L.lookup q).isSome:=by unfold dhas;rw [dget_dN,Option.isSome_map]
theorem b8 {a b:Nat} (h:a≤b) (q:b<800000):a<900000:=Nat.lt_of_le_of_lt h (Nat.lt_trans q (nb rfl))
inductive MN (N L N' L':_):Prop
 | mk (k:Keeps L L') (i:NetA.ins N'=NetA.ins N) (u:NetA.outs N'=NetA.outs N) (s:NetA.states N'=NetA.states N)
theorem MN.refl:MN N L N L:=⟨fun zz zz e=>e,rfl,rfl,rfl⟩
theorem MN.trans {N1 N2:NetA}{L1 L2:List (Nat × Nat)} (x:MN N L N1 L1) (y:MN N1 L1 N2 L2):MN N L N2 L2:=⟨fun zz zz e=>y.1 (x.1 e),y.2.trans x.2,y.3.trans x.3,y.4.trans x.4⟩
theorem MS.cell (M:MS m0 m o nm mx md dn A Sg N L bi bo B) (F:Fresh m0 o mx md dn) {m1 m2:Mem}{kd:Kd}{ins:List Nat}{q t b:Nat} (hk:kd=.and∨kd=.not) (hst:kd.state=false) (ho:combOk kd .none ins.length) (hi:∀ n∈ins,n∈Dn Sg N.combs)
  (hv:∀ vals w,Cons A.nodes vals→CellsW N.cells w→Agree A.ins Sg vals w→cellF kd .none (ins.map w)=lit vals q) (h1:m1 t=some (.tup [.str kd.str,.int N.count,.ref b,.none])) (h2:m1 b=some (.tup (natL ins))) (h3:∀ c,CellAt m1 (.ref t) c→NetAt m1 o nm { N with count:=N.count+1,cells:=N.cells++[c] } bi bo) (s:Same [o.d,o.lc] m m1)
  (h4:m2 dn=some (.dict (dput (.int (q:Int)) (.int (N.count:Nat)) (dN L)))) (u:Up dn m1 m2):MS m0 m2 o nm mx md dn A Sg { N with count:=N.count+1,cells:=N.cells++[⟨kd,N.count,ins,.none⟩] } (putN q N.count L) bi bo (B+1)∧Am o dn m m2:=by
 have st:∀ {a:Addr}{x:MO},a≠o.d→a≠o.lc→m a=some x→m1 a=some x:=fun {a x} n1 n2 e=>s a x (fun z=>(List.mem_cons.mp z).elim n1 fun z=>n2 (List.mem_singleton.mp z)) e
 have x1:=h3 ⟨kd,N.count,ins,.none⟩ ⟨t,b,.none,rfl,h1,h2,rfl⟩
 have n1:=st (mn M.3 M.4.d rfl) (M.4.lc M.3 rfl) M.3
 have m1x:=st (mn M.1 M.4.d rfl) (M.4.lc M.1 rfl) M.1
 have m1d:=st M.7 (M.4.lc M.2 rfl) M.2
 exact ⟨⟨u (mn m1x n1 rfl) m1x,u (mn m1d n1 rfl) m1d,by rw [←dput_dN];exact h4,x1.upD u n1,M.5.add hk hst ho hi hv,(M.6.new s fun a z=>(List.mem_cons.mp z).elim (fun e=>e▸F.2 _ o.mD) fun e=>List.mem_singleton.mp e▸F.2 _ o.mC).set F.5 u,M.7,by rw [List.length_append];exact Nat.succ_le_succ M.8,Nat.le_trans (putN_len _ _ _) (Nat.succ_le_succ M.9)⟩,fun a q z1 z2 z3 e=>u z3 (st z1 z2 e)⟩
theorem states_nc {c:Cell} (h:c.kd.state=false) (n:Nat):NetA.states { N with count:=n,cells:=N.cells++[c] }=N.states:=states_f h
theorem ms_net (hG:G.Ok) (hr:3≤r) {q:Nat} (M:MS m0 m o nm mx md dn A Sg N L bi bo B) (F:Fresh m0 o mx md dn) (hq:(L.lookup q).isSome=true∨(L.lookup (q ^^^ 1)).isSome=true) (hB:B<800000)
  (h:∀ m' N' L' n,MS m0 m' o nm mx md dn A Sg N' L' bi bo (B+1)→L'.lookup q=some n→MN N L N' L'→Am o dn m m'→Φ (.int n) m') :
  callW G r Ψ (.ref 321) [.ref mx,.int q] m Φ:=by
 refine run321 hG hr (s_if (attr_go M.1 c324 M.2 (v:=.ref dn) rfl rfl (notin_d M.3 keyInt ?_)))
 rw [dhas_dN]
 cases hl:L.lookup q with
 | some n=>exact if_f (s_nil (s_ret (attr_go M.1 c324 M.2 (v:=.ref dn) rfl rfl (it_d M.3 keyInt (dget_dN_at hl) (h m N L n ⟨M.1,M.2,M.3,M.4,M.5,M.6,M.7,Nat.le_succ_of_le M.8,Nat.le_succ_of_le M.9⟩ hl .refl .refl)))))
 | none =>
  obtain ⟨n1,hn1⟩:=Option.isSome_iff_exists.mp (hq.elim (fun z=>nomatch hl▸z) id)
  refine if_t (s_asg (attr_go M.1 c324 M.2 (v:=.ref o.x) rfl rfl (e_meth M.4.x M.4.d m_add_cell (attr_go M.1 c324 M.2 (v:=.ref dn) rfl rfl (bXor (b:=1) rfl rfl (it_d M.3 keyInt (dget_dN_at hn1) (w_tup (nb rfl) fun t m1 n1' k1 g1=>?_)))))))
  have M1:=M.gr g1
  refine add_cell3 hG (pr hr rfl) (b8 M.8 hB) M1.4 (xs:=natL [n1]) (seqOf_tup k1) fun m2 t' b h1 h2 h3 s2=>?_
  have st:∀ {a:Addr}{x:MO},a≠o.d→a≠o.lc→m1 a=some x→m2 a=some x:=fun {a x} n1 n2 e=>s2 a x (fun z=>(List.mem_cons.mp z).elim n1 fun z=>n2 (List.mem_singleton.mp z)) e
  have n2:=st (mn M1.3 M1.4.d rfl) (M1.4.lc M1.3 rfl) M1.3
  refine attr_go (st (mn M1.1 M1.4.d rfl) (M1.4.lc M1.1 rfl) M1.1) c324 (st M1.7 (M1.4.lc M1.2 rfl) M1.2) (v:=.ref dn) rfl rfl (setD_go n2 keyInt (by rw [dN_len];exact b9 (b8 M.9 hB)) fun m3 d3 u3=>s_nil ?_)
  have M3:=M1.cell F (kd:=.not) (ins:=[n1]) (q:=q) (.inr rfl) rfl ⟨rfl,rfl⟩ (fun n hn=>List.mem_singleton.mp hn▸M.5.5 _ _ hn1) (fun vals w C Cw Ag=>by
   show cellF .not .none [w n1]=_
   rw [cellF_not,M.5.6 _ _ hn1 vals w C Cw Ag,lit_not];exact Bool.not_not _) h1 h2 h3 s2 d3 u3
  have hlk:(putN q N.count L).lookup q=some N.count:=by rw [lookup_putN,if_pos rfl]
  exact s_ret (attr_go M3.1.1 c324 M3.1.2 (v:=.ref dn) rfl rfl (it_d M3.1.3 keyInt (dget_dN_at hlk) (h m3 _ _ N.count M3.1 hlk ⟨Keeps.put hl,rfl,rfl,states_nc rfl _⟩ (g1.am.trans M3.2))))
end
noncomputable def mkPorts:Nat→List (Str × List Nat)→List (Str × List Nat)
 | _,[]=>[]
 | s,p::ps=>(p.1,List.range' s p.2.length)::mkPorts (s+p.2.length) ps
noncomputable def shP (p:Str × List Nat):Str × Nat:=(p.1,p.2.length)
noncomputable def shC (c:Cell):Kd × Par × Nat:=(c.kd,c.par,c.ins.length)
theorem mkPorts_snoc:∀ (ps:List (Str × List Nat)) (s:Nat) (p:Str × List Nat),mkPorts s (ps++[p])=mkPorts s ps++[(p.1,List.range' (s+(ps.flatMap (·.2)).length) p.2.length)]
 | [],s,p=>rfl
 | q::ps,s,p=>by
  show (q.1,_)::mkPorts (s+q.2.length) (ps++[p])=(q.1,_)::_++_
  rw [mkPorts_snoc ps,List.flatMap_cons,List.length_append,Nat.add_assoc];rfl
theorem mkPorts_flat:∀ (ps:List (Str × List Nat)) (s:Nat),(mkPorts s ps).flatMap (·.2)=List.range' s (ps.flatMap (·.2)).length
 | [],s=>rfl
 | p::ps,s=>by
  show ((p.1,List.range' s p.2.length)::mkPorts (s+p.2.length) ps).flatMap (·.2)=_
  rw [List.flatMap_cons,mkPorts_flat ps,List.flatMap_cons,List.length_append,←List.range'_append_1]
theorem mkPorts_len:∀ (ps:List (Str × List Nat)) (s:Nat),(mkPorts s ps).length=ps.length
 | [],s=>rfl
 | p::ps,s=>congrArg (·+1) (mkPorts_len ps _)
theorem mkPorts_shape:∀ (ps:List (Str × List Nat)) (s:Nat),(mkPorts s ps).map shP=ps.map shP
 | [],s=>rfl
 | p::ps,s=>by
  show shP (p.1,List.range' s p.2.length)::(mkPorts (s+p.2.length) ps).map shP=shP p::_
  rw [mkPorts_shape ps]
  exact congrArg (fun n=>(p.1,n)::_) List.length_range'
theorem flat_sh {α β γ:Type}{f:α→List β}{sh:α→γ} (g:γ→Nat) (hg:∀ x,(f x).length=g (sh x)) {a b:List α} (h:a.map sh=b.map sh):(a.flatMap f).length=(b.flatMap f).length:=by
 have e:∀ l:List α,l.map (fun x=>(f x).length)=(l.map sh).map g:=fun l=>by rw [List.map_map];exact List.map_congr_left fun x zz=>hg x
 rw [List.length_flatMap,List.length_flatMap,e,e,h]
theorem flat_P {a b:List (Str × List Nat)} (h:a.map shP=b.map shP):(a.flatMap (·.2)).length=(b.flatMap (·.2)).length:=flat_sh (·.2) (fun zz=>rfl) h
theorem flat_C {a b:List Cell} (h:a.map shC=b.map shC):(a.flatMap (·.ins)).length=(b.flatMap (·.ins)).length:=flat_sh (·.2.2) (fun zz=>rfl) h
theorem All2.append {α β:Type}{R:α→β→Prop}{xs xs':List α}{ys ys':List β} (h:All2 R xs ys) (q:All2 R xs' ys'):All2 R (xs++xs') (ys++ys'):=by
 refine ⟨by rw [List.length_append,List.length_append,h.1,q.1],fun k x y a b=>?_⟩
 rcases Nat.lt_or_ge k xs.length with l|l
 ·rw [List.getElem?_append_left l] at a
  rw [List.getElem?_append_left (h.1▸l)] at b
  exact h.2 a b
 ·rw [List.getElem?_append_right l] at a
  rw [List.getElem?_append_right (h.1▸l),←h.1] at b
  exact q.2 a b
noncomputable def Got (A:AigA) (L:List (Nat × Nat)) (ns:List Nat):Prop:=All2 (fun n q=>L.lookup q=some n) ns (A.outs.take ns.length)
theorem Got.app {A:AigA}{L L':List (Nat × Nat)}{ns ns':List Nat}{l:Nat} (g:Got A L ns) (hk:Keeps L L') (h:All2 (fun n q=>L'.lookup q=some n) ns' ((A.outs.drop ns.length).take l)) (hl:ns'.length=l):Got A L' (ns++ns'):=by
 unfold Got
 rw [List.length_append,List.take_add,hl]
 exact (g.mono fun zz zz e=>hk e).append h
theorem slice_go {m:Mem}{ρ:List (Option V)}{l:Addr}{xs:List Nat}{i n:Nat}{Φ:V→St→Prop} (h:m l=some (.list (natL xs))) (hb:i+n≤xs.length) (q:∀ a m',m a=none→m' a=some (.list (natL ((xs.drop i).take n)))→Gr m m'→Φ (.ref a) ⟨ρ,m'⟩):sliceW (.ref l) (.int (i:Nat)) (.int ((i+n:Nat):Int)) ⟨ρ,m⟩ Φ:=by
 refine ⟨l,_,_,_,_,rfl,h,.int _ rfl rfl,.int _ rfl rfl,.run i (i+n) rfl rfl (Nat.le_add_right _ _) (by rw [natL_len];exact hb) ?_,new_go q⟩
 rw [Nat.add_sub_cancel_left]
 unfold natL
 rw [List.map_take,List.map_drop]
inductive Made (N:NetA) (A:AigA) (N':NetA):Prop
 | mk (ins:N'.ins=mkPorts 2 N.ins) (outs:N'.outs.map shP=N.outs.map shP) (sts:N'.states.map shC=N.states.map shC) (srcs:N'.srcs=List.range' 2 N.srcs.length)
  (L:List (Nat × Nat)) (K:Mk A N'.srcs N' L) (got:All2 (fun n q=>L.lookup q=some n) N'.snks A.outs) (size:N'.cells.length<700000)
theorem stIdx_all (N:NetA):All2 (fun i c=>N.cells[i]?=some c∧c.kd.state=true) N.stIdx N.states:=by
 have gen:∀ n,n≤N.cells.length→All2 (fun i c=>N.cells[i]?=some c∧c.kd.state=true) ((List.range n).filter (isSt N.cells)) ((N.cells.take n).filter (·.kd.state)):=by
  intro n
  induction n with
  | zero=>exact fun zz=>.nil
  | succ n ih =>
   intro hn
   have hc:=List.getElem?_eq_getElem hn
   rw [rangeF_succ,filt_take hc,isSt_at hc]
   refine (ih (Nat.le_of_succ_le hn)).append ?_
   cases hs:(N.cells[n]'hn).kd.state with
   | false=>exact .nil
   | true=>exact All2.snoc .nil ⟨hc,hs⟩
 have:=gen N.cells.length (Nat.le_refl _)
 rw [List.take_length] at this
 exact this
theorem stIdx_len (N:NetA):N.stIdx.length=N.states.length:=(stIdx_all N).1
section
variable {G:GC}{r:Nat}{Ψ:Addr→Mem→Prop}{m0 m:Mem}{o:NetO}{nm:V}{mx md dn:Addr}{A:AigA}{Sg:List Nat}{N:NetA}{L:List (Nat × Nat)}{bi bo:List Addr}{B:Nat}
noncomputable def Av (L:List (Nat × Nat)) (q:Nat):Prop:=(L.lookup q).isSome=true∨(L.lookup (q ^^^ 1)).isSome=true
theorem Av.keep {L':List (Nat × Nat)}{q:Nat} (h:Av L q) (k:Keeps L L'):Av L' q:=h.imp k.some k.some
theorem ar16 {B l j k:Nat} (h:B+l<k) (q:j<l):B+j<k:=by omega
theorem row_go (hG:G.Ok) (hr:3≤r) {oa:AigO}{vsA:List V}{esA:List (K × V)}{r0 r2 r4 r5 r6 r7 r8 r9 r10 r11 r12 r13 r14 x16 x17 r18 r19 r20:Option V}{at' l:Nat}{z:Ex}{rest:Sxs}{Φ:Fl→St→Prop}
  (M:MS m0 m o nm mx md dn A Sg N L bi bo B) (F:Fresh m0 o mx md dn) (hA:AigM m0 oa vsA A esA) (hav:∀ q∈A.outs,Av L q) (hl:at'+l≤A.outs.length) (hB:B+l<700000)
  (hz:∀ m' x16 (Φ':V→St→Prop),Gr m m'→Φ' (.int l) ⟨[r0,some (.ref oa.x),r2,some (.ref mx),r4,r5,r6,r7,r8,r9,r10,r11,r12,r13,r14,some (.int at'),x16,x17,r18,r19,r20],m'⟩→(sem ⟨G,r,Ψ⟩ z).val ⟨[r0,some (.ref oa.x),r2,some (.ref mx),r4,r5,r6,r7,r8,r9,r10,r11,r12,r13,r14,some (.int at'),x16,x17,r18,r19,r20],m'⟩ Φ')
  (fin:∀ x17 row m' N' L' ns,MS m0 m' o nm mx md dn A Sg N' L' bi bo (B+l)→MN N L N' L'→m' row=some (.list (natL ns))→ns.length=l→All2 (fun n q=>L'.lookup q=some n) ns ((A.outs.drop at').take l)→Am o dn m m' →
   semB ⟨G,r,Ψ⟩ rest ⟨[r0,some (.ref oa.x),r2,some (.ref mx),r4,r5,r6,r7,r8,r9,r10,r11,r12,r13,r14,some (.int at'),some (.ref row),x17,r18,r19,r20],m'⟩ Φ) :
  semB ⟨G,r,Ψ⟩ (.cons (.asg (.name 16) (.list .nil)) (.cons (.forS (.name 17) (.slice (.attr (.var 1) .outputs) (.var 15) (.bin .Add (.var 15) z)) (.cons (.expr (.app (.var 16) (.meth (.var 3) (ofString "net") (.cons (.var 17) .nil)))) .nil)) rest))
   ⟨[r0,some (.ref oa.x),r2,some (.ref mx),r4,r5,r6,r7,r8,r9,r10,r11,r12,r13,r14,some (.int at'),x16,x17,r18,r19,r20],m⟩ Φ:=by
 refine s_asg (w_list (nb rfl) fun row m1 n1 k1 g1=>s_for (((hA.keep M.6).keep g1).aO (hz m1 (some (.ref row)) _ g1 (bAdd (Int.natCast_add _ _).symm (slice_go (g1 (M.6 hA.5)) hl fun sl m2 n2 k2 g2=>?_)))))
 have M2:=(M.gr g1).gr g2
 have kr:=g2 k1
 have Fr:=M.new n1
 have Fs:=(M.gr g1).new n2
 have sr:=fresh_ne n2 k1
 have hlq:((A.outs.drop at').take l).length=l:=by rw [List.length_take,List.length_drop];exact Nat.min_eq_left (Nat.le_sub_of_add_le' hl)
 refine for_nats (T:=Option V × NetA × List (Nat × Nat) × List Nat) (F:=fun t=>[r0,some (.ref oa.x),r2,some (.ref mx),r4,r5,r6,r7,r8,r9,r10,r11,r12,r13,r14,some (.int at'),some (.ref row),t.1,r18,r19,r20]) (x0:=(x17,N,L,[])) (iter_list k2)
  (fun j t μ=>A6 (MS m0 μ o nm mx md dn A Sg t.2.1 t.2.2.1 bi bo (B+j)) (MN N L t.2.1 t.2.2.1) (μ sl=some (.list (natL ((A.outs.drop at').take l)))) (μ row=some (.list (natL t.2.2.2))) (All2 (fun n q=>t.2.2.1.lookup q=some n) t.2.2.2 (((A.outs.drop at').take l).take j)) (Am o dn m μ)) (fun zz zz zz q=>q.3)
  ⟨M2,.refl,k2,kr,.nil,(g1.trans g2).am⟩ (fun j t m3 q Ψ' hq ⟨M3,n3,k3,r3,h3,a3⟩ hΨ=>?_) fun t m3 ⟨M3,n3,k3,r3,h3,a3⟩=>?_
 ·have hj:=at_lt hq
  refine s_app (fun zz h=>h) r3 (e_meth M3.1 M3.2 k_net (ms_net hG hr M3 F ((hav q (List.mem_of_mem_drop (List.mem_of_mem_take (List.mem_of_getElem? hq)))).keep n3.1) (Nat.lt_trans (ar16 (hlq▸hB) hj) (nb rfl)) fun m4 N4 L4 n M4 hl4 n4 a4=>?_))
  have r4':=M3.list a4 Fr.2 r3
  have k4:=M3.list a4 Fs.2 k3
  refine app_go r4' ?_ fun m5 r5' u5=>hΨ (_,N4,L4,t.2.2.2++[n]) m5 ⟨M4.off Fr r4' u5,n3.trans n4,u5 sr k4,by rw [natL_snoc];exact r5',?_,fun a x z1 z2 z3 e=>u5 (fresh_ne n1 e).symm (a4 z1 z2 z3 (a3 z1 z2 z3 e))⟩
  ·rw [natL_len,h3.1,List.length_take]
   exact Nat.lt_of_le_of_lt (Nat.min_le_right _ _) (hlq.symm▸Nat.lt_of_le_of_lt (Nat.le_add_left l B) (Nat.lt_trans hB (nb rfl)))
  ·rw [take_snoc hq]
   exact (h3.mono fun zz zz e=>n4.1 e).snoc hl4
 ·rw [List.take_length] at h3
  rw [hlq] at M3
  exact fin _ row m3 _ _ _ M3 n3 r3 (h3.1.trans hlq) h3 a3
end
noncomputable def tln:Nat→Sxs→Sxs
 | 0,s=>s
 | n+1,s=>tl (tln n s)
section
variable {m0 m m':Mem}{o:NetO}{nm:V}{mx md dn a:Addr}{A:AigA}{Sg:List Nat}{N:NetA}{L:List (Nat × Nat)}{bi bo:List Addr}{B B':Nat}{mo:MO}{c:Cell}{b:Addr}{p:Str × List Nat}
theorem NetAt.lo (x:NetAt m o nm N bi bo) (h:m a=some mo) (hk:Nat.beq mo.no 0=false):a≠o.lo:=x.el fun zz zz zz a=>mn h a.4 hk
theorem MS.mono (M:MS m0 m o nm mx md dn A Sg N L bi bo B) (h:B≤B'):MS m0 m o nm mx md dn A Sg N L bi bo B':=⟨M.1,M.2,M.3,M.4,M.5,M.6,M.7,Nat.le_trans M.8 h,Nat.le_trans M.9 h⟩
theorem MS.drive (M:MS m0 m o nm mx md dn A Sg N L bi bo B) (F:Fresh m0 o mx md dn) (x:NetAt m' o nm { N with cells:=N.cells++[c] } bi bo) (hs:c.kd.state=true) (u:Up o.lc m m'):MS m0 m' o nm mx md dn A Sg { N with cells:=N.cells++[c] } L bi bo (B+1) :=
 ⟨u (M.4.lc M.1 rfl) M.1,u (M.4.lc M.2 rfl) M.2,u (M.4.lc M.3 rfl) M.3,x,M.5.state hs,M.6.set (F.2 _ o.mC) u,M.7,by rw [List.length_append];exact Nat.succ_le_succ M.8,Nat.le_succ_of_le M.9⟩
theorem MS.out (M:MS m0 m o nm mx md dn A Sg N L bi bo B) (F:Fresh m0 o mx md dn) (x:NetAt m' o nm { N with outs:=N.outs++[p] } bi (bo++[b])) (u:Up o.lo m m'):MS m0 m' o nm mx md dn A Sg { N with outs:=N.outs++[p] } L bi (bo++[b]) B :=
 ⟨u (M.4.lo M.1 rfl) M.1,u (M.4.lo M.2 rfl) M.2,u (M.4.lo M.3 rfl) M.3,x,⟨M.5.1,M.5.2,M.5.3,M.5.4,M.5.5,M.5.6⟩,M.6.set (F.2 _ o.mO) u,M.7,M.8,M.9⟩
end
section
variable {G:GC}{r:Nat}{Ψ:Addr→Mem→Prop}{m0:Mem}{o:NetO}{nm:V}{mx md dn:Addr}{A:AigA}{N:NetA}{oa:AigO}{no:NetO}{nm0:V}{vi vo vc vsA:List V}{esA:List (K × V)}{bi0 bo0:List Addr}{Φ:V→Mem→Prop}
theorem ar17 {B a l i s n k:Nat} (h:B+s+n<600000) (q:a+l≤s) (hi:i<n):B+a+i+l<700000:=by omega
theorem ar18 {B a l i:Nat}:B+a+i+l+1=B+(a+l)+(i+1):=by omega
theorem ar19 {B a i s n:Nat} (h:B+s+n<600000) (q:a≤s) (hi:i≤n):B+a+i<700000:=by omega
theorem ar20 {x B a i s n l:Nat} (h:B+s+n<600000) (q:a+l≤s) (hi:i<n) (hx:x≤B+a+i+l):x<900000:=by omega
theorem tn_states (hG:G.Ok) (hr:3≤r) (F:Fresh m0 o mx md dn) (S:N.Good) (a:NetM m0 no nm0 N.count vi vo vc) (hcs:Cells m0 vc N.cells) (hA:AigM m0 oa vsA A esA) (hol:A.outs.length=N.snks.length) {L0:List (Nat × Nat)}{lst lo:Addr}{B:Nat}{x4 x5 x6 x9 x10 x11 x12 x13 x14 x16 x17 x18 x19 x20:Option V}{m:Mem}{Nm:NetA}{bi bo:List Addr}{at0:Nat}
  (M:MS m0 m o nm mx md dn A (List.range' 2 N.srcs.length) Nm L0 bi bo B) (hI:Nm.ins=mkPorts 2 N.ins) (hst:Nm.states=[]) (kst:m lst=some (.list (natL N.stIdx))) (klo:m lo=some (.list (natL (List.range' (2+(N.ins.flatMap (·.2)).length) N.stIdx.length)))) (st0:lst∉o.all) (lo0:lo∉o.all)
  (hav:∀ q∈A.outs,Av L0 q) (hgot:Got A L0 (Nm.outs.flatMap (·.2))) (hat:at0=(Nm.outs.flatMap (·.2)).length) (hout:Nm.outs.map shP=N.outs.map shP) (hB:B+N.snks.length+N.states.length<600000)
  (h:∀ m' N' bi bo,NetAt m' o nm N' bi bo→Made N A N'→Gr m0 m'→Φ (.ref o.x) m') :
  semB ⟨G,r,Ψ⟩ (tln 13 ir335) ⟨[some (.ref no.x),some (.ref oa.x),some (.ref o.x),some (.ref mx),x4,x5,x6,some (.ref lst),some (.ref lo),x9,x10,x11,x12,x13,x14,some (.int at0),x16,x17,x18,x19,x20],m⟩ (fun fl σ'=>Φ fl.val σ'.m):=by
 have hsl:=stIdx_len N
 have hs100:N.stIdx.length<2^30:=Nat.lt_of_le_of_lt (rangeF_len _ _) (b30 S.1.3)
 have hs2:N.snks.length=(N.outs.flatMap (·.2)).length+(N.states.flatMap (·.ins)).length:=List.length_append
 refine s_for (len_l kst (natL_len _) (w_range hs100 fun ra m1 n1 k1 g1=>?_))
 refine for_range (T:=(Option V × Option V × Option V × Option V × Option V × Option V × Option V) × Nat × NetA × List (Nat × Nat)) (F:=fun t=>[some (.ref no.x),some (.ref oa.x),some (.ref o.x),some (.ref mx),x4,x5,x6,some (.ref lst),some (.ref lo),x9,t.1.1,x11,x12,x13,t.1.2.1,some (.int t.2.1),t.1.2.2.1,t.1.2.2.2.1,t.1.2.2.2.2.1,t.1.2.2.2.2.2.1,t.1.2.2.2.2.2.2]) (x0:=((x10,x14,x16,x17,x18,x19,x20),at0,Nm,L0)) k1 hs100
  (fun i t μ=>A11 (MS m0 μ o nm mx md dn A (List.range' 2 N.srcs.length) t.2.2.1 t.2.2.2 bi bo (B+t.2.1+i)) (Keeps L0 t.2.2.2) (t.2.2.1.ins=mkPorts 2 N.ins) (t.2.2.1.outs=Nm.outs) (μ lst=some (.list (natL N.stIdx))) (μ lo=some (.list (natL (List.range' (2+(N.ins.flatMap (·.2)).length) N.stIdx.length)))) (μ ra=some (.range 0 N.stIdx.length 1))
   (t.2.2.1.states.map shC=(N.states.take i).map shC) (t.2.2.1.states.map (·.out)=List.range' (2+(N.ins.flatMap (·.2)).length) i) (Got A t.2.2.2 (t.2.2.1.outs.flatMap (·.2)++t.2.2.1.states.flatMap (·.ins))) (t.2.1=(t.2.2.1.outs.flatMap (·.2)++t.2.2.1.states.flatMap (·.ins)).length)) (fun zz zz zz q=>q.7)
  ⟨(M.gr g1).mono (Nat.le_add_right _ _),fun zz zz e=>e,hI,rfl,g1 kst,g1 klo,k1,by rw [hst];rfl,by rw [hst];rfl,by rw [hst];exact (List.append_nil (Nm.outs.flatMap (·.2))).symm▸hgot,by rw [hst];exact hat.trans (congrArg _ (List.append_nil _).symm)⟩ (fun i t m2 Ψ' hi ⟨M2,hk2,hI2,hO2,kst2,klo2,kra2,hsh,hso,hg2,ha2⟩ hΨ=>?_) fun t m2 ⟨M2,hk2,hI2,hO2,kst2,klo2,kra2,hsh,hso,hg2,ha2⟩=>?_
 ·have hp:=List.getElem?_eq_getElem hi
  refine (stIdx_all N).get hp fun c hcst hcc=>hcs.at hcc.1 fun tc b pv hv ht hb hpar=>s_asg ((a.keep M2.6).aC (it_l kst2 (natL_at hp) (it_l (M2.6 a.5) hv (t_tup4 (M2.6 ht) ?_))))
  have hat2:t.2.1+c.ins.length≤N.snks.length:=by
   rw [ha2,List.length_append,hO2,flat_P hout,flat_C hsh,hs2,Nat.add_assoc]
   exact Nat.add_le_add_left (flat_le (·.ins) hcst) _
  have hi':i<N.states.length:=hsl▸hi
  refine row_go hG hr M2 F hA (fun q hq=>(hav q hq).keep hk2) (hol.symm▸hat2) (ar17 (k:=0) hB hat2 hi') (fun m' x16 Φ' g h=>len_t (g (M2.6 hb)) (natL_len _) h) fun x17 row m5 N5 L5 ns M5 n5 krow hnl hns a5=>?_
  have klo5:=M2.list a5 lo0 klo2
  refine s_expr (e_meth M5.4.x M5.4.d m_drive (it_l klo5 (natL_at (n:=2+(N.ins.flatMap (·.2)).length+i) (by rw [List.getElem?_range' hi,Nat.one_mul])) (tupOf_go (seqOf_list krow) fun tp m6 k6 g6=>?_)))
  have M6:=M5.gr g6
  refine drive hG (Nat.lt_of_lt_of_le (nb rfl) hr) (ar20 hB hat2 hi' M6.8) M6.4 (seqOf_tup k6) fun m7 t' b' h1 h2 h3 u7=>⟨rfl,?_⟩
  have M7:=M6.drive F (h3 ⟨c.kd,2+(N.ins.flatMap (·.2)).length+i,ns,c.par⟩ ⟨t',b',pv,rfl,h1,h2,hpar.keep (M6.6.set (F.2 _ o.mC) u7).tups⟩) hcc.2 u7
  have ul:∀ {q:Addr}{xs:List V},q∉o.all→m2 q=some (.list xs)→m7 q=some (.list xs):=fun {q xs} hq e=>u7 (fun z=>hq (z▸o.mC)) (g6 (M2.list a5 hq e))
  have kra7:m7 ra=some (.range 0 N.stIdx.length 1):=by
   have e5:=a5 (mn kra2 M2.4.d rfl) (M2.4.lc kra2 rfl) (mn kra2 M2.3 rfl) kra2
   exact u7 (M6.4.lc (g6 e5) rfl) (g6 e5)
  refine s_aug (len_t (M7.6 hb) (natL_len _) (iadd_go (aug_nm (hΨ ((_,_,_,_,_,_,_),t.2.1+c.ins.length,{ N5 with cells:=N5.cells++[⟨c.kd,2+(N.ins.flatMap (·.2)).length+i,ns,c.par⟩] },L5) m7 ?_))))
  have es:NetA.states { N5 with cells:=N5.cells++[⟨c.kd,2+(N.ins.flatMap (·.2)).length+i,ns,c.par⟩] }=t.2.2.1.states++[⟨c.kd,2+(N.ins.flatMap (·.2)).length+i,ns,c.par⟩]:=(states_t (c:=(⟨c.kd,2+(N.ins.flatMap (·.2)).length+i,ns,c.par⟩:Cell)) hcc.2).trans (congrArg (·++_) n5.4)
  have ea:N5.outs.flatMap (·.2)++(t.2.2.1.states++[(⟨c.kd,2+(N.ins.flatMap (·.2)).length+i,ns,c.par⟩:Cell)]).flatMap (·.ins)=(t.2.2.1.outs.flatMap (·.2)++t.2.2.1.states.flatMap (·.ins))++ns:=by
   rw [n5.3,List.flatMap_append,List.flatMap_singleton,List.append_assoc]
  refine ⟨by rw [←ar18];exact M7,fun zz zz e=>n5.1 (hk2 e),n5.2.trans hI2,n5.3.trans hO2,ul st0 kst2,ul lo0 klo2,kra7,?_,?_,?_,?_⟩ <;> rw [es]
  ·rw [List.map_append,hsh,map_snoc _ hcst]
   exact congrArg (fun n=>(N.states.take i).map shC++[(c.kd,c.par,n)]) hnl
  ·rw [List.map_append,hso,List.range'_concat,Nat.one_mul];rfl
  ·rw [ea]
   exact hg2.app n5.1 (ha2▸hns) hnl
  ·rw [ea,List.length_append,←ha2,hnl]
 ·rw [hsl,List.take_length] at hsh
  have hlen:(t.2.2.1.outs.flatMap (·.2)++t.2.2.1.states.flatMap (·.ins)).length=A.outs.length:=by
   rw [List.length_append,hO2,flat_P hout,flat_C hsh,hol,hs2]
  have hsrc:t.2.2.1.srcs=List.range' 2 N.srcs.length:=by
   have e:N.srcs.length=(N.ins.flatMap (·.2)).length+N.states.length:=by unfold NetA.srcs;rw [List.length_append,List.length_map]
   unfold NetA.srcs at e ⊢
   rw [hI2,hso,mkPorts_flat,hsl,e,←List.range'_append_1]
  unfold Got at hg2
  rw [hlen,List.take_length] at hg2
  exact h m2 _ bi bo M2.4 ⟨hI2,by rw [hO2];exact hout,hsh,hsrc,_,hsrc.symm▸M2.5,hg2,Nat.lt_of_le_of_lt M2.8 (ar19 hB (by rw [ha2,hlen,hol];exact Nat.le_refl _) (Nat.le_of_eq hsl))⟩ M2.6
theorem ar21 {B a l s n:Nat} (h:B+s+s+n<600000) (q:a+l≤s):B+a+l<700000:=by omega
theorem ar22 {B a s n:Nat} (h:B+s+s+n<600000) (q:a≤s):B+a+s+n<600000:=by omega
theorem tn_outs (hG:G.Ok) (hr:3≤r) (F:Fresh m0 o mx md dn) (S:N.Good) (a:NetM m0 no nm0 N.count vi vo vc) (hpo:Ports m0 no vo N.outs bo0) (hcs:Cells m0 vc N.cells) (hA:AigM m0 oa vsA A esA) (hol:A.outs.length=N.snks.length) {L0:List (Nat × Nat)}{lst lo:Addr}{B:Nat}{x4 x5 x6 x9 x10 x11 x12 x13 x14 x15 x16 x17 x18 x19 x20:Option V}{m:Mem}{Nm:NetA}{bi bo:List Addr}
  (M:MS m0 m o nm mx md dn A (List.range' 2 N.srcs.length) Nm L0 bi bo B) (hI:Nm.ins=mkPorts 2 N.ins) (hst:Nm.states=[]) (hno:Nm.outs=[]) (kst:m lst=some (.list (natL N.stIdx))) (klo:m lo=some (.list (natL (List.range' (2+(N.ins.flatMap (·.2)).length) N.stIdx.length)))) (st0:lst∉o.all) (lo0:lo∉o.all)
  (hav:∀ q∈A.outs,Av L0 q) (hB:B+N.snks.length+N.snks.length+N.states.length<600000)
  (h:∀ m' N' bi bo,NetAt m' o nm N' bi bo→Made N A N'→Gr m0 m'→Φ (.ref o.x) m') :
  semB ⟨G,r,Ψ⟩ (tln 11 ir335) ⟨[some (.ref no.x),some (.ref oa.x),some (.ref o.x),some (.ref mx),x4,x5,x6,some (.ref lst),some (.ref lo),x9,x10,x11,x12,x13,x14,x15,x16,x17,x18,x19,x20],m⟩ (fun fl σ'=>Φ fl.val σ'.m):=by
 have hos:(N.outs.flatMap (·.2)).length≤N.snks.length:=by unfold NetA.snks;rw [List.length_append];exact Nat.le_add_right _ _
 refine s_asg (a_nm (s_for ((a.keep M.6).aO ?_)))
 refine for_go (T:=(Option V × Option V × Option V × Option V) × Nat × NetA × List (Nat × Nat) × List Addr) (F:=fun t=>[some (.ref no.x),some (.ref oa.x),some (.ref o.x),some (.ref mx),x4,t.1.1,t.1.2.1,some (.ref lst),some (.ref lo),x9,x10,x11,x12,x13,x14,some (.int t.2.1),t.1.2.2.1,t.1.2.2.2,x18,x19,x20]) (x0:=((x5,x6,x16,x17),0,Nm,L0,bo)) (iter_list (M.6 a.4))
  (fun j t μ=>A10 (MS m0 μ o nm mx md dn A (List.range' 2 N.srcs.length) t.2.2.1 t.2.2.2.1 bi t.2.2.2.2 (B+t.2.1)) (Keeps L0 t.2.2.2.1) (t.2.2.1.ins=mkPorts 2 N.ins) (t.2.2.1.states=[]) (μ lst=some (.list (natL N.stIdx))) (μ lo=some (.list (natL (List.range' (2+(N.ins.flatMap (·.2)).length) N.stIdx.length))))
   (t.2.2.1.outs.map shP=(N.outs.take j).map shP) (Got A t.2.2.2.1 (t.2.2.1.outs.flatMap (·.2))) (t.2.1=(t.2.2.1.outs.flatMap (·.2)).length) (t.2.2.1.outs.length=(N.outs.take j).length)) (fun zz zz zz q=>q.1.6 a.4)
  ⟨M,fun zz zz e=>e,hI,hst,kst,klo,by rw [hno];rfl,by rw [hno];exact .nil,by rw [hno];rfl,by rw [hno];rfl⟩ (fun j t m2 v Ψ' hv ⟨M2,hk2,hI2,hS2,kst2,klo2,hsh,hg2,ha2,hon⟩ hΨ=>?_) fun t m2 ⟨M2,hk2,hI2,hS2,kst2,klo2,hsh,hg2,ha2,hon⟩=>?_
 ·refine hpo.get hv fun p b tp hp hb ht hbl=>t_tup2 (M2.6 ht) ?_
  have hat2:t.2.1+p.2.length≤N.snks.length:=by
   rw [ha2,flat_P hsh]
   exact Nat.le_trans (flat_le (·.2) hp) hos
  refine row_go hG hr M2 F hA (fun q hq=>(hav q hq).keep hk2) (hol.symm▸hat2) (ar21 hB hat2) (fun m' x16 Φ' g h=>len_l (g (M2.6 hbl)) (natL_len _) h) fun x17 row m5 N5 L5 ns M5 n5 krow hnl hns a5=>?_
  have hon5:N5.outs.length<900000:=by rw [n5.3,hon,List.length_take];exact Nat.lt_of_le_of_lt (Nat.min_le_right _ _) (Nat.lt_trans S.1.2 (nb rfl))
  refine s_expr (e_meth M5.4.x M5.4.d m_add_output (add_output hG (Nat.lt_of_lt_of_le (nb rfl) hr) (l:=ns) hon5 M5.4 (seqOf_list krow) fun m6 b6 n6 x6 u6=>⟨rfl,?_⟩))
  have M6:=M5.out F x6 u6
  have ul:∀ {q:Addr}{xs:List V},q∉o.all→m2 q=some (.list xs)→m6 q=some (.list xs):=fun {q xs} hq e=>u6 (fun z=>hq (z▸o.mO)) (M2.list a5 hq e)
  refine s_aug (len_l (M6.6 hbl) (natL_len _) (iadd_go (aug_nm (hΨ ((_,_,_,_),t.2.1+p.2.length,{ N5 with outs:=N5.outs++[(p.1,ns)] },L5,t.2.2.2.2++[b6]) m6 ⟨by rw [←Nat.add_assoc];exact M6,fun zz zz e=>n5.1 (hk2 e),n5.2.trans hI2,n5.4.trans hS2,ul st0 kst2,ul lo0 klo2,?_,?_,?_,?_⟩))))
  ·show (N5.outs++[(p.1,ns)]).map shP=_
   rw [n5.3,List.map_append,hsh,map_snoc _ hp]
   exact congrArg (fun n=>(N.outs.take j).map shP++[(p.1,n)]) hnl
  ·show Got A L5 ((N5.outs++[(p.1,ns)]).flatMap (·.2))
   rw [n5.3,List.flatMap_append,List.flatMap_singleton]
   exact hg2.app n5.1 (ha2▸hns) hnl
  ·show _=((N5.outs++[(p.1,ns)]).flatMap (·.2)).length
   rw [n5.3,List.flatMap_append,List.flatMap_singleton,List.length_append,←ha2,hnl]
  ·show (N5.outs++[(p.1,ns)]).length=_
   rw [n5.3,List.length_append,hon,take_snoc hp,List.length_append];rfl
 ·rw [hpo.len,List.take_length] at hsh
  exact tn_states hG hr F S a hcs hA hol M2 hI2 hS2 kst2 klo2 st0 lo0 (fun q hq=>(hav q hq).keep hk2) hg2 ha2 hsh (ar22 hB (by rw [ha2,flat_P hsh];exact hos)) h
end
theorem Shp.lt {n k:Nat}{ns:Nodes}{p:Nat × Nat} (s:Shp n ns) (h:ns[k]?=some (some p)):n<k:=by
 obtain ⟨e,he,_⟩:=s
 refine (Nat.lt_or_ge k (n+1)).elim (fun l=>?_) id
 rw [he,List.getElem?_append_left (by rw [List.length_replicate];exact l),List.getElem?_replicate,if_pos l] at h
 exact noS rfl (Option.some.inj h)
theorem Shp.el {n k:Nat}{ns:Nodes}{P:Prop} (s:Shp n ns) (h:n<k) (hl:k<ns.length) (q:∀ p,ns[k]?=some (some p)→P):P:=by
 have e:=List.getElem?_eq_getElem hl
 obtain ⟨f,he,hf⟩:=s
 cases hx:ns[k] with
 | some p=>rw [hx] at e;exact q p e
 | none =>
  rw [hx,he,List.getElem?_append_right (by rw [List.length_replicate];exact h)] at e
  exact absurd rfl (hf none (List.mem_of_getElem? e))
theorem ev {P:Nat→Prop}{q:Nat} (h:P (2*(q / 2))):P q∨P (q ^^^ 1):=by
 rcases Nat.mod_two_eq_zero_or_one q with e|e
 ·left
  have:=Nat.div_add_mod q 2
  rw [e] at this
  exact this▸h
 ·right
  have:=Nat.div_add_mod (q ^^^ 1) 2
  rw [xor1_div,xor1_mod,e] at this
  exact this▸h
noncomputable def Hd (A:AigA) (U:List Bool) (L:List (Nat × Nat)) (k:Nat):Prop:=∀ ⦃c p⦄,c<k→A.nodes[c]?=some (some p)→U[c]?=some true→(L.lookup (2*c)).isSome=true
section
variable {A:AigA}{n:Nat}{L L':List (Nat × Nat)}{U:List Bool}{k q:Nat}
theorem avail (s:Shp n A.nodes) (hin:∀ c,c≤n→(L.lookup (2*c)).isSome=true) (hd:Hd A U L k) (hq:q / 2<k) (hl:q / 2<A.nodes.length) (hu:U[q / 2]?=some true):Av L q :=
 ev (P:=fun x=>(L.lookup x).isSome=true) ((Nat.lt_or_ge n (q / 2)).elim (fun h=>s.el h hl fun p e=>hd hq e hu) (hin _))
theorem Hd.succ (h:Hd A U L k) (kk:∀ q,(L.lookup q).isSome=true→(L'.lookup q).isSome=true) (z:∀ p,A.nodes[k]?=some (some p)→U[k]?=some true→(L'.lookup (2*k)).isSome=true):Hd A U L' (k+1):=fun c p hc hp hu =>
 (Nat.lt_succ_iff_lt_or_eq.mp hc).elim (fun l=>kk _ (h l hp hu)) fun e=>by
  subst e;exact z p hp hu
theorem put_some (h:(L.lookup q).isSome=true):((putN k n L).lookup q).isSome=true:=by
 rw [lookup_putN]
 by_cases e:q=k
 ·rw [if_pos e];rfl
 ·rw [if_neg e];exact h
end
theorem ar23 {q s k:Nat} (h:q≤2*s+1) (l:s<k):q≠2*k:=by omega
theorem ar24 {B n k:Nat} (hB:B≤5000) (hn:n<100000) (h:k<n):B+3*k+1+1<800000:=by omega
theorem ar25 {B n s t c:Nat} (hB:B≤5000) (hn:n<100000) (h:s<100000) (q:t≤c) (hc:c<100):B+3*n+s+s+t<600000:=by omega
section
variable {G:GC}{r:Nat}{Ψ:Addr→Mem→Prop}{m0:Mem}{o:NetO}{nm:V}{mx md dn:Addr}{A:AigA}{N:NetA}{oa:AigO}{no:NetO}{nm0:V}{vi vo vc:List V}{bi0 bo0:List Addr}{Φ:V→Mem→Prop}
theorem tn_nodes (hG:G.Ok) (hr:3≤r) (F:Fresh m0 o mx md dn) (S:N.Good) (a:NetM m0 no nm0 N.count vi vo vc) (hpo:Ports m0 no vo N.outs bo0) (hcs:Cells m0 vc N.cells) (hA:AigAt m0 oa A) (Bu:Built N A) {L0:List (Nat × Nat)}{lst lo:Addr}{B:Nat}{x4 x5 x6 x9 x10:Option V}{m:Mem}{Nm:NetA}{bi bo:List Addr}
  (M:MS m0 m o nm mx md dn A (List.range' 2 N.srcs.length) Nm L0 bi bo B) (hI:Nm.ins=mkPorts 2 N.ins) (hst:Nm.states=[]) (hno:Nm.outs=[]) (kst:m lst=some (.list (natL N.stIdx))) (klo:m lo=some (.list (natL (List.range' (2+(N.ins.flatMap (·.2)).length) N.stIdx.length)))) (st0:lst∉o.all) (lo0:lo∉o.all)
  (hin:∀ c,c≤N.srcs.length→(L0.lookup (2*c)).isSome=true) (hmax:∀ q n,L0.lookup q=some n→q≤2*N.srcs.length+1) (hB:B≤5000)
  (h:∀ m' N' bi bo,NetAt m' o nm N' bi bo→Made N A N'→Gr m0 m'→Φ (.ref o.x) m') :
  semB ⟨G,r,Ψ⟩ (tln 9 ir335) ⟨[some (.ref no.x),some (.ref oa.x),some (.ref o.x),some (.ref mx),x4,x5,x6,some (.ref lst),some (.ref lo),x9,x10,none,none,none,none,none,none,none,none,none,none],m⟩ (fun fl σ'=>Φ fl.val σ'.m):=by
 have hA':=hA
 obtain ⟨vs,es,ok,MA⟩:=hA'
 refine s_asg (used_nodes hG (Nat.le_trans (nb rfl) hr) (hA.keep M.6) Bu.6 Bu.4 fun m1 lu U n1 k1 UO g1=>a_nm (s_for (((MA.keep M.6).keep g1).aN (len_l (g1 (M.6 MA.3)) MA.10.1 (w_range (Nat.lt_trans Bu.6 (nb rfl)) fun ra m2 n2 k2 g2=>?_)))))
 have lu0:=(M.new n1).2
 refine for_range (T:=(Option V × Option V × Option V) × NetA × List (Nat × Nat)) (F:=fun t=>[some (.ref no.x),some (.ref oa.x),some (.ref o.x),some (.ref mx),x4,x5,x6,some (.ref lst),some (.ref lo),x9,x10,some (.ref lu),t.1.1,t.1.2.1,t.1.2.2,none,none,none,none,none,none]) (x0:=((none,none,none),Nm,L0)) k2 (Nat.lt_trans Bu.6 (nb rfl))
  (fun k t μ=>A10 (MS m0 μ o nm mx md dn A (List.range' 2 N.srcs.length) t.2.1 t.2.2 bi bo (B+3*k)) (Keeps L0 t.2.2) (t.2.1.ins=mkPorts 2 N.ins) (t.2.1.outs=[]) (t.2.1.states=[]) (μ lst=some (.list (natL N.stIdx))) (μ lo=some (.list (natL (List.range' (2+(N.ins.flatMap (·.2)).length) N.stIdx.length)))) (μ lu=some (.list (boolL U))) (μ ra=some (.range 0 A.nodes.length 1)) (Hd A U t.2.2 k)) (fun zz zz zz q=>q.9)
  ⟨(M.gr g1).gr g2,fun zz zz e=>e,hI,hno,hst,g2 (g1 kst),g2 (g1 klo),g2 k1,k2,fun zz zz hc=>absurd hc (Nat.not_lt_zero _)⟩ (fun k t m3 Ψ' hk ⟨M3,kk3,hI3,hO3,hS3,kst3,klo3,ku3,kra3,hd⟩ hΨ=>?_) fun t m3 ⟨M3,kk3,hI3,hO3,hS3,kst3,klo3,ku3,kra3,hd⟩ =>
  tn_outs hG hr F S a hpo hcs MA Bu.3 M3 hI3 hS3 hO3 kst3 klo3 st0 lo0 (fun q hq=>avail Bu.1 (fun c hc=>kk3.some (hin c hc)) hd (half_lt (Bu.4 q hq)) (half_lt (Bu.4 q hq)) (UO.2 q hq)) (ar25 hB Bu.6 S.1.5 (List.length_filter_le _ _) S.5) h
 have MA3:=MA.keep M3.6
 have hkU:k<U.length:=by rw [UO.1];exact hk
 have hnd:=List.getElem?_eq_getElem hk
 have hub:=List.getElem?_eq_getElem hkU
 generalize A.nodes[k]'hk=nd at hnd
 generalize U[k]'hkU=b at hub
 have stay:∀ x13,(∀ p,nd=some p→b=true→False)→Ψ' .next ⟨[some (.ref no.x),some (.ref oa.x),some (.ref o.x),some (.ref mx),x4,x5,x6,some (.ref lst),some (.ref lo),x9,x10,some (.ref lu),some (.int k),x13,t.1.2.2,none,none,none,none,none,none],m3⟩:=fun x13 hc =>
  hΨ ((_,x13,_),t.2) m3 ⟨M3.mono (Nat.add_le_add_left (Nat.mul_le_mul_left 3 (Nat.le_succ k)) B),kk3,hI3,hO3,hS3,kst3,klo3,ku3,kra3,hd.succ (fun zz e=>e) fun p hp hu=>(hc p (Option.some.inj (hnd.symm.trans hp)) (Option.some.inj (hub.symm.trans hu))).elim⟩
 refine MA3.10.at hnd fun v hv hn=>s_asg (MA3.aN (it_l MA3.3 hv (s_if ?_)))
 cases nd with
 | none =>
  obtain rfl:v=.none:=hn
  exact isnot_n (stay _ fun zz e=>nomatch e)
 | some p =>
  obtain ⟨tp,rfl,ht⟩:=hn
  refine isnot_r (it_l ku3 (boolL_at hub) ?_)
  cases b with
  | false=>exact stay _ fun zz zz e=>nomatch e
  | true =>
   have low:=ok.2 _ p.1 p.2 hnd
   have u:=UO.3 k p.1 p.2 hnd hub
   have hin3:∀ c,c≤N.srcs.length→(t.2.2.lookup (2*c)).isSome=true:=fun c hc=>kk3.some (hin c hc)
   have hB3:=ar24 hB Bu.6 hk
   have hB2:=Nat.lt_of_succ_lt hB3
   have hl1:=half_lt low.1
   have hl2:=half_lt low.2
   refine if_t (s_asg (e_meth M3.1 M3.2 k_net (it_t (k:=0) ht rfl (ms_net hG hr M3 F (avail Bu.1 hin3 hd hl1 (Nat.lt_trans hl1 hk) u.1) (Nat.lt_of_succ_lt hB2) fun m4 N4 L4 n1' M4 hl4 n4 a4=>?_))))
   have tt:m4 tp=_:=a4 (mn ht M3.4.d rfl) (M3.4.lc ht rfl) (mn ht M3.3 rfl) ht
   have kra4:=a4 (mn kra3 M3.4.d rfl) (M3.4.lc kra3 rfl) (mn kra3 M3.3 rfl) kra3
   refine e_meth M4.1 M4.2 k_net (it_t (k:=1) tt rfl (ms_net hG hr M4 F ((avail Bu.1 hin3 hd hl2 (Nat.lt_trans hl2 hk) u.2).keep n4.1) hB2 fun m5 N5 L5 n2' M5 hl5 n5 a5=>w_tup (nb rfl) fun t5 m6 n6 k6 g6=>a_nm (s_asg ?_)))
   have kra5:=a5 (mn kra4 M4.4.d rfl) (M4.4.lc kra4 rfl) (mn kra4 M4.3 rfl) kra4
   have M6:=M5.gr g6
   refine e_meth M6.4.x M6.4.d m_add_cell (add_cell3 hG (Nat.le_trans (nb rfl) hr) (b8 M6.8 hB3) M6.4 (xs:=natL [n1',n2']) (seqOf_tup k6) fun m7 t' b h1 h2 h3 s7=>?_)
   have st:∀ {a:Addr}{x:MO},a≠o.d→a≠o.lc→m6 a=some x→m7 a=some x:=fun {a x} n1 n2 e=>s7 a x (fun z=>(List.mem_cons.mp z).elim n1 fun z=>n2 (List.mem_singleton.mp z)) e
   refine attr_go (st (mn M6.1 M6.4.d rfl) (M6.4.lc M6.1 rfl) M6.1) c324 (st M6.7 (M6.4.lc M6.2 rfl) M6.2) (v:=.ref dn) rfl rfl (bMul (.inl (nb rfl)) (Int.natCast_mul 2 k).symm (setD_go (st (mn M6.3 M6.4.d rfl) (M6.4.lc M6.3 rfl) M6.3) keyInt (by rw [dN_len];exact b9 (b8 M6.9 hB3)) fun m8 d8 u8=>s_nil ?_))
   have e1:L5.lookup p.1=some n1':=n5.1 hl4
   have M8:=M6.cell F (kd:=.and) (ins:=[n1',n2']) (q:=2*k) (.inl rfl) rfl ⟨rfl,rfl⟩ (fun n hn=>(List.mem_cons.mp hn).elim (fun e=>e▸M6.5.5 _ _ e1) fun z=>List.mem_singleton.mp z▸M6.5.5 _ _ hl5) (fun vals w C Cw Ag=>by
    show cellF .and .none [w n1',w n2']=_
    rw [cellF_and,M6.5.6 _ _ e1 vals w C Cw Ag,M6.5.6 _ _ hl5 vals w C Cw Ag,lit_even]
    exact (C.2 k p.1 p.2 hnd).symm) h1 h2 h3 s7 d8 u8
   have ul:∀ {q:Addr}{xs:List V},q∉o.all→m3 q=some (.list xs)→m8 q=some (.list xs):=fun {q xs} hq e=>M6.list M8.2 hq (g6 (M4.list a5 hq (M3.list a4 hq e)))
   refine hΨ ((_,_,_),{ N5 with count:=N5.count+1,cells:=N5.cells++[⟨.and,N5.count,[n1',n2'],.none⟩] },putN (2*k) N5.count L5) m8 ⟨M8.1,fun q n e=>?_,n5.2.trans (n4.2.trans hI3),n5.3.trans (n4.3.trans hO3),(states_nc rfl _).trans (n5.4.trans (n4.4.trans hS3)),ul st0 kst3,ul lo0 klo3,ul lu0 ku3,M8.2 (mn (g6 kra5) M6.4.d rfl) (M6.4.lc (g6 kra5) rfl) (mn (g6 kra5) M6.3 rfl) (g6 kra5),hd.succ (fun q e=>put_some (n5.1.some (n4.1.some e))) fun zz zz zz=>by rw [lookup_putN,if_pos rfl];rfl⟩
   rw [lookup_putN,if_neg (ar23 (hmax q n e) (Bu.1.lt hnd))]
   exact n5.1 (n4.1 (kk3 e))
end
noncomputable def inL:Nat→List (Nat × Nat)
 | 0=>[(0,0),(1,1)]
 | n+1=>putN (2*(1+n)) (2+n) (inL n)
theorem inL_len:∀ n,(inL n).length≤n+2
 | 0=>Nat.le_refl _
 | n+1=>Nat.le_trans (putN_len _ _ _) (Nat.succ_le_succ (inL_len n))
theorem inL_el {q v:Nat}{P:Nat→Nat→Prop} (h0:P 0 0) (h1:P 1 1):∀ {n},(inL n).lookup q=some v→(∀ k,k<n→P (2*(1+k)) (2+k))→P q v
 | 0,h,_=>match q,h with
  | 0,h=>Option.some.inj h▸h0
  | 1,h=>Option.some.inj h▸h1
  | _+2,h=>noS rfl h
 | n+1,h,h2=>by
  unfold inL at h
  rw [lookup_putN] at h
  by_cases e:q=2*(1+n)
  ·rw [if_pos e] at h
   exact e▸Option.some.inj h▸h2 n (Nat.lt_succ_self n)
  ·rw [if_neg e] at h
   exact inL_el h0 h1 h fun k hk=>h2 k (Nat.lt_succ_of_lt hk)
theorem inL_has {c:Nat}:∀ {n},c≤n→((inL n).lookup (2*c)).isSome=true
 | 0,h=>by rw [Nat.le_zero.mp h];rfl
 | n+1,h=>by
  unfold inL
  refine (Nat.le_succ_iff.mp h).elim (fun l=>put_some (inL_has l)) fun e=>?_
  rw [lookup_putN,e,if_pos (congrArg (2*·) (Nat.add_comm n 1))];rfl
theorem dn0 (n:Nat):Dn (List.range' 2 n) []=List.range' 0 (n+2):=congrArg (fun l=>0::1::l) (List.append_nil _)
theorem ar26 {x c n:Nat} (h:x<0+(n+2)) (q:n+2≤c):x<c:=by omega
theorem ar27 {k n:Nat} (h:k<n):2+k<0+(n+2):=by omega
theorem mk0 {A:AigA}{n t c:Nat} (hi:A.ins=List.range' 1 t) (hn:n≤t) (hc:n+2≤c) {ps:List (Str × List Nat)}:Mk A (List.range' 2 n) ⟨c,ps,[],[]⟩ (inL n):=by
 have e:Dn (List.range' 2 n) (NetA.combs ⟨c,ps,[],[]⟩)=List.range' 0 (n+2):=dn0 n
 refine ⟨by rw [e];exact List.nodup_range',fun x hx=>?_,fun c hc=>(nomatch hc),fun k c hc=>noS rfl hc,fun q v h=>?_,fun q v h vals w C Cw Ag=>?_⟩
 ·rw [e] at hx
  exact ar26 (List.mem_range'_1.mp hx).2 hc
 ·rw [e]
  exact List.mem_range'_1.mpr (inL_el (P:=fun zz v=>0≤v∧v<0+(n+2)) ⟨Nat.zero_le _,ar26 (n:=0) (nb rfl) (Nat.le_trans (Nat.le_add_left 2 n) (Nat.le_add_left _ 0))⟩ ⟨Nat.zero_le _,ar26 (n:=0) (nb rfl) (Nat.le_trans (Nat.le_add_left 2 n) (Nat.le_add_left _ 0))⟩ h fun k hk=>⟨Nat.zero_le _,ar27 hk⟩)
 ·refine inL_el (P:=fun q v=>w v=lit vals q) (by rw [lit0 C,Cw.1]) (by rw [lit1 C,Cw.2]) h fun k hk=>?_
  rw [lit_even]
  refine (Ag k (1+k) (2+k) ?_ ?_).symm
  ·rw [hi,List.getElem?_range' (Nat.lt_of_lt_of_le hk hn),Nat.one_mul]
  ·rw [List.getElem?_range' hk,Nat.one_mul]
section
variable {m m' m0:Mem}{o:NetO}{nm:V}{N N':NetA}{bi bo bi' bo':List Addr}{a mx md dn:Addr}{A:AigA}{Sg Sg':List Nat}{L:List (Nat × Nat)}{B q n:Nat}{mo:MO}
theorem NetAt.li (x:NetAt m o nm N bi bo) (h:m a=some mo) (hk:Nat.beq mo.no 0=false):a≠o.li:=x.el fun zz zz zz a=>mn h a.3 hk
theorem off2 {a b c:Addr}{x:MO} (s:Same [b,c] m m') (n1:a≠b) (n2:a≠c) (e:m a=some x):m' a=some x:=s a x (fun z=>(List.mem_cons.mp z).elim n1 fun z=>n2 (List.mem_singleton.mp z)) e
theorem MS.inp (M:MS m0 m o nm mx md dn A Sg N L bi bo B) (F:Fresh m0 o mx md dn) (x:NetAt m' o nm N' bi' bo') (K:Mk A Sg' N' L) (hc:N'.cells.length≤B) (s:Same [o.d,o.li] m m'):MS m0 m' o nm mx md dn A Sg' N' L bi' bo' B :=
 ⟨off2 s (mn M.1 M.4.d rfl) (M.4.li M.1 rfl) M.1,off2 s M.7 (M.4.li M.2 rfl) M.2,off2 s (mn M.3 M.4.d rfl) (M.4.li M.3 rfl) M.3,x,K,M.6.new s fun a z=>(List.mem_cons.mp z).elim (fun e=>e▸F.2 _ o.mD) fun e=>List.mem_singleton.mp e▸F.2 _ o.mI,M.7,hc,M.9⟩
theorem MS.dict (M:MS m0 m o nm mx md dn A Sg N L bi bo B) (F:Fresh m0 o mx md dn) (K:Mk A Sg' N (putN q n L)) (hl:(putN q n L).length≤B) (h4:m' dn=some (.dict (dput (.int (q:Int)) (.int (n:Nat)) (dN L)))) (u:Up dn m m'):MS m0 m' o nm mx md dn A Sg' N (putN q n L) bi bo B :=
 ⟨u (mn M.1 M.3 rfl) M.1,u (mn M.2 M.3 rfl) M.2,by rw [←dput_dN];exact h4,M.4.upD u M.3,K,M.6.set F.5 u,M.7,M.8,hl⟩
@[elab_as_elim] theorem NetR.elp {v:V}{P:V→Prop} (h:NetR m v N) (q:∀ o nm vi vo vc bi bo,nm.plain=true→NetM m o nm N.count vi vo vc→Ports m o vi N.ins bi→Ports m o vo N.outs bo→Cells m vc N.cells→NetR m (.ref o.x) N→P (.ref o.x)):P v:=by
 have h':=h
 obtain ⟨o,nm,bi,bo,rfl,hp,vi,vo,vc,a,h1,h2,h3⟩:=h
 exact q o nm vi vo vc bi bo hp a h1 h2 h3 h'
theorem Off.nd (f:Off m0 o bi bo a):a≠o.d:=fun e=>f.2 (e▸o.mD)
theorem Off.ni (f:Off m0 o bi bo a):a≠o.li:=fun e=>f.2 (e▸o.mI)
end
section
variable {G:GC}{r:Nat}{Ψ:Addr→Mem→Prop}{m:Mem}{v:V}{A:AigA}{N:NetA}{oa:AigO}{Φ:V→Mem→Prop}
theorem new_net_at {o:NetO}{nm:V}{Nm:NetA}{bi bo:List Addr} (hG:G.Ok) (hr:1≤r) (y:NetAt m o nm Nm bi bo) (h:∀ m',NetAt m' o nm { Nm with count:=Nm.count+1 } bi bo→Up o.d m m'→Φ (.int Nm.count) m'):callW G r Ψ (.ref 82) [.ref o.x] m Φ:=by
 obtain ⟨vi,vo,vc,a,hpi,hpo,hcs⟩:=y
 exact new_net hG hr a fun m1 a1 u1=>h m1 ⟨vi,vo,vc,a1,hpi.up u1 (u1.tups a.2 rfl) o.mD,hpo.up u1 (u1.tups a.2 rfl) o.mD,hcs.keep (u1.tups a.2 rfl)⟩ u1
theorem ar28 {a l t s:Nat} (h:a+l≤t) (q:t≤s) (z:s<1000):l<1000:=by omega
theorem ar29 {a l t s:Nat} (h:a+l≤t) (q:t≤s) (z:s<1000):a+l<1000000:=by omega
theorem ar30 {k s:Nat} (h:k<s):2*(1+k)≤2*s+1:=by omega
theorem ar31 {t s i S:Nat} (e:S=t+s) (h:i+1≤S):i+1+2≤2+t+s:=by omega
theorem ar32 {s:Nat} (h:s<1000):s+2≤5000:=by omega
theorem ar33 {t s i S:Nat} (e:S=t+s) (z:S<1000) (h:i<s):i<1000000:=by omega
theorem ar34 {S:Nat} (z:S<1000):S<1000000:=by omega
theorem to_netlist (hG:G.Ok) (hr:6≤r) (hN:NetR m v N) (S:N.Good) (hA:AigAt m oa A) (Bu:Built N A) (h:∀ m' y N',NetR m' (.ref y) N'→Made N A N'→Gr m m'→Φ (.ref y) m'):callW G r Ψ (.ref 335) [v,.ref oa.x] m Φ:=by
 refine hN.elp fun no nm vi vo vc bi0 bo0 hp a hpi hpo hcs hN=>?_
 have hA':=hA
 obtain ⟨vs,es,ok,MA⟩:=hA'
 have hS:=S.6
 have P0:∀ {m:Mem}{o:NetO},Ports m o [] [] []:=fun {m o}=>⟨rfl,.nil,fun zz h=>nomatch h⟩
 have hsrc:N.srcs.length=(N.ins.flatMap (·.2)).length+N.stIdx.length:=by unfold NetA.srcs;rw [List.length_append,List.length_map,stIdx_len]
 have hinl:(N.ins.flatMap (·.2)).length≤N.srcs.length:=hsrc▸Nat.le_add_right _ _
 refine run335 hG hr (s_asg (a.attr rfl hp (netlist_new hG (pr hr rfl) fun o m1 N1 g1 hox hoall=>a_nm (s_asg (maker_new hG (pr hr rfl) fun mx md dn m2 x2 d2 n2 g12 nmx nmd ndn=>a_nm (s_asg (w_list (nb rfl) fun ls m3 n3 k3 g3=>a_nm (s_for ((a.keep ((g1.trans g12).trans g3)).aI ?_)))))))))
 have F:Fresh m o mx md dn:=⟨hox,hoall,g1.old nmx,g1.old nmd,g1.old ndn⟩
 have y1:NetAt m1 o nm ⟨2,[],[],[]⟩ [] []:=⟨[],[],[],N1,P0,P0,.nil⟩
 have M2:MS m m2 o nm mx md dn A (List.range' 2 0) ⟨2,[],[],[]⟩ (inL 0) [] [] (N.srcs.length+2):=⟨x2,d2,n2,y1.gr g12,mk0 Bu.2 (Nat.zero_le _) (Nat.le_refl 2),g1.trans g12,fresh_ne nmd N1.2,Nat.zero_le _,Nat.le_add_left 2 _⟩
 have hw:∀ {j p},N.ins[j]?=some p→((N.ins.take j).flatMap (·.2)).length+p.2.length≤(N.ins.flatMap (·.2)).length:=fun {j p} hp=>flat_le (·.2) hp
 refine for_go (T:=(Option V × Option V) × List Addr) (F:=fun t=>[some (.ref no.x),some (.ref oa.x),some (.ref o.x),some (.ref mx),some (.ref ls),t.1.1,t.1.2,none,none,none,none,none,none,none,none,none,none,none,none,none,none]) (x0:=((none,none),[])) (iter_list (g3 (M2.6 a.3)))
  (fun j t μ=>A3 (MS m μ o nm mx md dn A (List.range' 2 0) ⟨2+((N.ins.take j).flatMap (·.2)).length,mkPorts 2 (N.ins.take j),[],[]⟩ (inL 0) t.2 [] (N.srcs.length+2)) (μ ls=some (.list (natL (List.range' 2 ((N.ins.take j).flatMap (·.2)).length)))) (Off m o t.2 [] ls)) (fun zz zz zz q=>q.1.6 a.3)
  ⟨M2.gr g3,k3,M2.new n3⟩ (fun j t m4 w Ψ' hv ⟨M4,kl4,of4⟩ hΨ=>?_) fun t m4 ⟨M4,kl4,of4⟩=>?_
 ·refine hpi.get hv fun p b tp hp hb ht hbl=>t_tup2 (M4.6 ht) (s_ext (fun zz h=>h) kl4 (e_meth M4.4.x M4.4.d m_add_input (len_l (M4.6 hbl) (natL_len _) (add_input hG (pr hr rfl) (ar28 (hw hp) hinl hS) (by rw [mkPorts_len,List.length_take];exact Nat.lt_of_le_of_lt (Nat.min_le_right _ _) (Nat.lt_trans S.1.1 (nb rfl))) M4.4 fun m5 b5 l5 nb nl ne kl5 y5 s5=>?_))))
  have kls5:=off2 s5 of4.nd of4.ni kl4
  have of5:Off m o (t.2++[b5]) [] ls:=⟨of4.1,of4.2,fun z=>(List.mem_append.mp ((List.append_nil (t.2++[b5]))▸z)).elim (fun z=>of4.3 (List.mem_append_left _ z)) fun z=>fresh_ne nb kl4 (List.mem_singleton.mp z).symm⟩
  refine ext_go kls5 (seqOf_list kl5) (by rw [natL_len,natL_len,List.length_range',List.length_range'];exact ar29 (hw hp) hinl hS) fun m6 kl6 u6=>hΨ ((_,_),t.2++[b5]) m6 ?_
  have e1:((N.ins.take (j+1)).flatMap (·.2)).length=((N.ins.take j).flatMap (·.2)).length+p.2.length:=by rw [flat_take _ hp,List.length_append]
  have e2:mkPorts 2 (N.ins.take (j+1))=_:=(congrArg (mkPorts 2) (take_snoc hp)).trans (mkPorts_snoc _ 2 p)
  refine ⟨?_,by rw [e1,←List.range'_append_1,natL_app];exact kl6,of5⟩
  rw [e1,e2,←Nat.add_assoc]
  exact (M4.inp F y5 (mk0 Bu.2 (Nat.zero_le _) (Nat.le_add_right_of_le (Nat.le_add_right _ _))) (Nat.zero_le _) s5).off of5 kls5 u6
 rw [hpi.len,List.take_length] at M4 kl4
 refine s_asg (state_cells hG (pr hr rfl) (hN.keep M4.6) S.1 fun m5 lst n5 k5 g5=>a_nm (s_asg (w_list (nb rfl) fun lo m6 n6 k6 g6=>a_nm (s_for ?_))))
 have ot:=M4.new n5
 have M5:=M4.gr g5
 have oo:=M5.new n6
 have nls:lo≠ls:=fresh_ne n6 (g5 kl4)
 have nlt:lo≠lst:=fresh_ne n6 k5
 refine for_nats (T:=Option V) (F:=fun x9=>[some (.ref no.x),some (.ref oa.x),some (.ref o.x),some (.ref mx),some (.ref ls),t.1.1,t.1.2,some (.ref lst),some (.ref lo),x9,none,none,none,none,none,none,none,none,none,none,none]) (x0:=none) (iter_list (g6 k5))
  (fun i zz μ=>A4 (MS m μ o nm mx md dn A (List.range' 2 0) ⟨2+(N.ins.flatMap (·.2)).length+i,mkPorts 2 N.ins,[],[]⟩ (inL 0) t.2 [] (N.srcs.length+2)) (μ ls=some (.list (natL (List.range' 2 (N.ins.flatMap (·.2)).length)))) (μ lst=some (.list (natL N.stIdx))) (μ lo=some (.list (natL (List.range' (2+(N.ins.flatMap (·.2)).length) i))))) (fun zz zz zz q=>q.3)
  ⟨M5.gr g6,g6 (g5 kl4),g6 k5,k6⟩ (fun i x9 m7 p Ψ' hp ⟨M7,kl7,kst7,klo7⟩ hΨ=>s_app (fun zz h=>h) klo7 (e_meth M7.4.x M7.4.d m_new_net (new_net_at hG (pr hr rfl) M7.4 fun m8 y8 u8=>app_go (u8 oo.nd klo7) (by rw [natL_len,List.length_range'];exact ar33 hsrc hS (at_lt hp)) fun m9 k9 u9=>hΨ _ m9
   ⟨(M7.inp F y8 (mk0 Bu.2 (Nat.zero_le _) (Nat.le_add_right_of_le (Nat.le_add_right_of_le (Nat.le_add_right _ _)))) (Nat.zero_le _) (u8.same (.head _))).off oo (u8 oo.nd klo7) u9,u9 nls.symm (u8 of4.nd kl7),u9 nlt.symm (u8 ot.nd kst7),by rw [natL_range_succ];exact k9⟩))) fun x9 m7 ⟨M7,kl7,kst7,klo7⟩=>?_
 refine s_ext (fun zz h=>h) kl7 (ext_go kl7 (seqOf_list klo7) (by rw [natL_len,natL_len,List.length_range',List.length_range',←hsrc];exact ar34 hS) fun m8 k8 u8=>?_)
 rw [←natL_app,List.range'_append_1,←hsrc] at k8
 have M8:=M7.off of4 kl7 u8
 refine s_for ((MA.keep M8.6).aI (len_l (M8.6 MA.4) (by rw [natL_len,Bu.2,List.length_range']) (w_range (b30 hS) fun ra m9 n9 k9 g9=>?_)))
 have nst:lst≠ls:=fresh_ne n5 kl4
 refine for_range (T:=Option V) (F:=fun x10=>[some (.ref no.x),some (.ref oa.x),some (.ref o.x),some (.ref mx),some (.ref ls),t.1.1,t.1.2,some (.ref lst),some (.ref lo),x9,x10,none,none,none,none,none,none,none,none,none,none]) (x0:=none) k9 (b30 hS)
  (fun i zz μ=>A5 (MS m μ o nm mx md dn A (List.range' 2 i) ⟨2+(N.ins.flatMap (·.2)).length+N.stIdx.length,mkPorts 2 N.ins,[],[]⟩ (inL i) t.2 [] (N.srcs.length+2)) (μ ls=some (.list (natL (List.range' 2 N.srcs.length)))) (μ lst=some (.list (natL N.stIdx))) (μ lo=some (.list (natL (List.range' (2+(N.ins.flatMap (·.2)).length) N.stIdx.length)))) (μ ra=some (.range 0 N.srcs.length 1))) (fun zz zz zz q=>q.5)
  ⟨M8.gr g9,g9 k8,g9 (u8 nst kst7),g9 (u8 nls klo7),k9⟩ (fun i x10 m10 Ψ' hi ⟨M10,kl,kst,klo,kra⟩ hΨ=>s_asg (it_l kl (natL_at (n:=2+i) (by rw [List.getElem?_range' hi,Nat.one_mul])) (attr_go M10.1 c324 M10.2 (v:=.ref dn) rfl rfl ((MA.keep M10.6).aI (it_l (M10.6 MA.4) (natL_at (n:=1+i) (by rw [Bu.2,List.getElem?_range' hi,Nat.one_mul])) (bMul (.inl (nb rfl)) (Int.natCast_mul 2 (1+i)).symm (setD_go M10.3 keyInt (by rw [dN_len];exact Nat.lt_of_le_of_lt M10.9 (Nat.lt_of_le_of_lt (ar32 hS) (nb rfl))) fun m11 d11 u11=>hΨ _ m11
   ⟨M10.dict F (mk0 (n:=i+1) Bu.2 hi (ar31 hsrc hi)) (Nat.le_trans (inL_len (i+1)) (Nat.succ_le_succ (Nat.succ_le_succ hi))) d11 u11,u11 (mn kl M10.3 rfl) kl,u11 (mn kst M10.3 rfl) kst,u11 (mn klo M10.3 rfl) klo,u11 (mn kra M10.3 rfl) kra⟩))))))) fun x10 m10 ⟨M10,kl,kst,klo,kra⟩ =>
  tn_nodes hG (pr hr rfl) F S a hpo hcs hA Bu M10 rfl rfl rfl kst klo ot.2 oo.2 (fun c hc=>inL_has hc) (fun q v hq=>inL_el (P:=fun q zz=>q≤2*N.srcs.length+1) (Nat.zero_le _) (Nat.le_add_left 1 _) hq fun k hk=>ar30 hk) (ar32 hS) fun m' N' bi bo yN mk g=>h m' o.x N' ⟨o,nm,bi,bo,rfl,hp,yN⟩ mk g
end
noncomputable def intV (l:List Int):List V:=l.map .int
theorem intV_len (l:List Int):(intV l).length=l.length:=List.length_map _
theorem natL_ne_hand {P:List Nat}{a b c d:V}{hc:Addr}:natL P≠[.ref hc,a,b,c,d]:=fun e=>by
 cases P with
 | nil=>exact nomatch e
 | cons x xs=>exact nomatch (List.cons.inj e).1
theorem intV_ne_hand {P:List Int}{a b c d:V}{hc:Addr}:intV P≠[.ref hc,a,b,c,d]:=fun e=>by
 cases P with
 | nil=>exact nomatch e
 | cons x xs=>exact nomatch (List.cons.inj e).1
inductive HandOk (m:Mem) (h hc:Addr):Prop
 | mk (cs:List Int) (p:Nat) (cur seed z:Int) (h1:m h=some (.list [.ref hc,.int p,.int cur,.int seed,.int z])) (h2:m hc=some (.list (intV cs))) (h3:p≤cs.length) (h4:cs.length<1000)
theorem ls_ne {m:Mem}{a b:Addr}{xs ys:List V} (h1:m a=some (.list xs)) (h2:m b=some (.list ys)) (h:xs≠ys):a≠b:=mem_ne h1 h2 fun e=>h (MO.list.inj e)
theorem HandOk.keep {m m':Mem}{h hc:Addr}{fp:List Addr} (H:HandOk m h hc) (s:Same fp m m') (hf:hc∉fp) (hh:h∉fp):HandOk m' h hc:=by
 obtain ⟨cs,p,cur,seed,z,h1,h2,h3,h4⟩:=H
 exact ⟨cs,p,cur,seed,z,s _ _ hh h1,s _ _ hf h2,h3,h4⟩
theorem HandOk.gr {m m':Mem}{h hc:Addr} (H:HandOk m h hc) (g:Gr m m'):HandOk m' h hc:=H.keep (fp:=[]) g.same List.not_mem_nil List.not_mem_nil
theorem HandOk.off {m:Mem}{h hc pa:Addr}{P:List Nat} (H:HandOk m h hc) (hp:m pa=some (.list (natL P))):pa≠h:=by
 obtain ⟨cs,p,cur,seed,z,h1,_,_,_⟩:=H
 exact ls_ne hp h1 natL_ne_hand
theorem ar35 (n:Nat):(-1:Int) - (n:Int)=-((n+1:Nat):Int):=by omega
theorem ar36 {n:Nat} (h:0<n∧n<2^30):0<(n:Int)∧(n:Int)<2^30:=by omega
theorem ar37 {n k:Nat} (h:k<min n 6):k+1≤n∧n - (k+1)<n:=by omega
theorem ar38 {n:Nat} (h:0<n∧n<1000):0<min n 6∧min n 6<2^30:=by omega
theorem min6 (n:Nat):(if (6:Int)<(n:Int) then (6:Int) else (n:Int))=((min n 6:Nat):Int):=by
 by_cases h:(6:Int)<n
 ·rw [if_pos h];omega
 ·rw [if_neg h];omega
section
variable {p q:Int}{σ:St}{Φ:V→St→Prop}
theorem bDivI (z:0<q∧q<2^30) (h:Φ (.int (p / q)) σ):binW .FloorDiv (.int p) (.int q) σ Φ:=.int _ _ rfl rfl ⟨z,h⟩
theorem bModI (z:0<q) (h:Φ (.int (p%q)) σ):binW .Mod (.int p) (.int q) σ Φ:=.int _ _ rfl rfl ⟨z,h⟩
theorem bModN {l:Nat} (z:0<l) (h:∀ n:Nat,n<l→Φ (.int n) σ):binW .Mod (.int p) (.int (l:Nat)) σ Φ:=by
 refine bModI (Int.natCast_pos.mpr z) ?_
 have h1:=Int.emod_nonneg p (Int.ne_of_gt (Int.natCast_pos.mpr z))
 have h2:=Int.emod_lt_of_pos p (Int.natCast_pos.mpr z)
 rw [←Int.toNat_of_nonneg h1] at h2 ⊢
 exact h _ (Int.ofNat_lt.mp h2)
theorem w_min {n:Nat} (h:Φ (.int ((min n 6:Nat):Int)) σ):biW .min [.int (n:Nat),.int 6] σ Φ:=by
 exact .i ⟨_,_,rfl,by rw [min6];exact h⟩
end
section
variable {G:GC}{r:Nat}{Ψ:Addr→Mem→Prop}{m:Mem}{h hc:Addr}{Φ:V→Mem→Prop}
theorem law_pick (hG:G.Ok) (hr:1≤r) {lim:Nat} (H:HandOk m h hc) (hl:0<lim∧lim<2^30) (k:∀ m' (n:Nat),n<lim→HandOk m' h hc→Up h m m'→Φ (.int n) m'):callW G r Ψ (.ref 342) [.ref h,.int lim] m Φ:=by
 obtain ⟨cs,p,cur,seed,z,h1,h2,h3,h4⟩:=H
 have hne:=ls_ne h2 h1 intV_ne_hand
 have fin:∀ (m1:Mem) (p:Nat) (cur:Int) (x2:Option V),m1 h=some (.list [.ref hc,.int p,.int cur,.int seed,.int z])→m1 hc=some (.list (intV cs))→p≤cs.length→Up h m m1 →
   semB ⟨G,r - 1,Ψ⟩ (tln 1 ir342) ⟨[some (.ref h),some (.int lim),x2,none],m1⟩ (fun fl σ'=>Φ fl.val σ'.m):=fun m1 p cur x2 k1 k2 hp u1 =>
  s_asg (it_l (k:=2) k1 rfl (bModN hl.1 fun n hn=>a_nm (s_asg (it_l (k:=2) k1 rfl (bDivI (ar36 hl) (setL_go (k:=2) k1 (nb rfl) fun m2 k3 u2=>s_ret (k m2 n hn ⟨cs,p,_,seed,z,k3,u2 hne k2,hp,h4⟩ (u1.trans u2))))))))
 refine run342 hG hr (s_if (it_l (k:=2) h1 rfl (eq_i ?_)))
 by_cases hc0:cur=0
 ·refine if_y hc0 (s_if (it_l (k:=1) h1 rfl (it_l (k:=0) h1 rfl (len_l h2 (intV_len cs) (eq_n ?_)))))
  by_cases hp:p=cs.length
  ·exact if_y hp (s_asg (it_l (k:=3) h1 rfl (bMul (.inr (nb rfl)) rfl (bModI (by decide) (setL_go (k:=3) h1 (nb rfl) fun m1 k1 u1=>s_ret (it_l (k:=3) k1 rfl (bDivI (by decide) (bModN hl.1 fun n hn=>k m1 n hn ⟨cs,p,cur,_,z,k1,u1 hne h2,h3,h4⟩ u1))))))))
  ·have hpl:p<cs.length:=Nat.lt_of_le_of_ne h3 hp
   refine if_n0 hp (s_asg (it_l (k:=0) h1 rfl (it_l (k:=1) h1 rfl (it_l h2 (v:=.int cs[p]) (by unfold intV;rw [List.getElem?_map,List.getElem?_eq_getElem hpl];rfl) (a_nm (s_asg (it_l (k:=1) h1 rfl (bAdd (Int.natCast_add p 1).symm (setL_go (k:=1) h1 (nb rfl) fun m1 k1 u1=>s_asg (ge_i ?_))))))))))
   by_cases hge:cs[p]≥0
   ·exact iy hge (setL_go (k:=2) k1 (nb rfl) fun m2 k2 u2=>s_nil (fin m2 (p+1) _ _ k2 (u2 hne (u1 hne h2)) hpl (u1.trans u2)))
   ·exact in' hge ((setL_go (k:=2) k1 (nb rfl) fun m2 k2 u2=>s_nil (fin m2 (p+1) _ _ k2 (u2 hne (u1 hne h2)) hpl (u1.trans u2))))
 ·exact if_n0 hc0 (fin m p cur _ h1 h2 h3 fun zz zz zz e=>e)
theorem law_near (hG:G.Ok) (hr:2≤r) {pa:Addr}{P:List Nat} (H:HandOk m h hc) (hp:m pa=some (.list (natL P))) (hP:0<P.length∧P.length<1000) (k:∀ m' (n:Nat),n∈P→HandOk m' h hc→Up h m m'→Φ (.int n) m'):callW G r Ψ (.ref 356) [.ref h,.ref pa] m Φ:=by
 have hne:=H.off hp
 refine run356 hG hr (s_if (law_pick hG (pr hr rfl) (lim:=3) H (by decide) fun m1 n1 hn1 H1 u1=>eq_i ?_))
 have hp1:=u1 hne hp
 by_cases h0:(n1:Int)=0
 ·exact if_y h0 (s_ret (len_l hp1 (natL_len P) (law_pick hG (pr hr rfl) (lim:=P.length) H1 ⟨hP.1,b30 hP.2⟩ fun m2 n2 hn2 H2 u2=>it_l (u2 hne hp1) (natL_at (List.getElem?_eq_getElem hn2)) (k m2 _ (List.getElem_mem hn2) H2 (u1.trans u2)))))
 ·refine if_n0 h0 (s_ret ((len_l hp1 (natL_len P) (w_min (law_pick hG (pr hr rfl) (lim:=min P.length 6) H1 (ar38 hP) fun m2 n2 hn2 H2 u2=>bSub (ar35 n2) ?_)))))
  have hi:=ar37 hn2
  exact it_ln (u2 hne hp1) (Nat.succ_pos _) (by rw [natL_len];exact hi.1) (by rw [natL_len];exact natL_at (List.getElem?_eq_getElem hi.2)) (k m2 _ (List.getElem_mem hi.2) H2 (u1.trans u2))
end
noncomputable def tabD:List (K × V):=dputs [(K.str (ofString "buf"),V.int 2),(K.str (ofString "not"),V.int 1),(K.str (ofString "and"),V.int 8),(K.str (ofString "or"),V.int 14),(K.str (ofString "xor"),V.int 6),(K.str (ofString "nand"),V.int 7),(K.str (ofString "nor"),V.int 1),(K.str (ofString "xnor"),V.int 9),(K.str (ofString "mux"),V.int 228)] []
theorem tabD_get (kd:Kd) (p:Par) (n:Nat) (h:combOk kd p n) (h1:kd≠.lut) (h2:kd≠.cell):dget (K.str kd.str) tabD=some (.int (tabOf kd p)):=by
 cases kd <;> first|exact absurd rfl h1|exact absurd rfl h2|exact h.elim|(obtain ⟨_,rfl⟩:=h;kernel_rfl)
noncomputable def stL:List V:=[.str (ofString "flop"),.str (ofString "latch")]
theorem in_states {m:Mem}{ρ:List (Option V)}{a:Addr}{kd:Kd}{k:Bool→St→Prop} (hm:m a=some (.list stL)) (h:k kd.state ⟨ρ,m⟩):cmpW .In (.str kd.str) (.ref a) ⟨ρ,m⟩ k:=by
 refine .i (.list a _ (.str kd.str) [.str (ofString "flop"),.str (ofString "latch")] rfl hm (.str _) (.cons (.str _) (.cons (.str _) .nil)) ?_ (by decide +kernel) (Nat.zero_le _) ?_)
 ·cases kd <;> decide +kernel
 ·have:([PyData.str (ofString "flop"),PyData.str (ofString "latch")].any fun y=>PyData.eqv y (PyData.str kd.str))=kd.state:=by cases kd <;> decide +kernel
  rw [this];exact h
noncomputable def cdK (elt:PT V) (acc:List V) (Φ:List V→St→Prop) (b:Bool) (σ:St):Prop:=if b then pushW elt acc σ Φ else Φ acc σ
theorem cd_go {c:PT Bool}{elt:PT V}{acc:List V}{σ:St}{Φ:List V→St→Prop} (h:c σ (cdK elt acc Φ)):condW c elt acc σ Φ:=h
section
variable {X:PX}{p:Option V}{m:Mem}{kd:Kd}{e:Ex}{rest:Sxs}{Φ:Fl→St→Prop}
theorem kn0 (kd':Kd) (hk:kd≠kd') (h:semB X rest ⟨[some (.str kd.str),p],m⟩ Φ):semB X (.cons (.ifS (.cmp .Eq (.var 0) (.str kd'.str)) (.cons (.ret e) .nil) .nil) rest) ⟨[some (.str kd.str),p],m⟩ Φ:=by
 refine s_if (eq_s ?_)
 rw [Kd.eq_dec]
 exact if_n0 hk h
theorem ky0 (h:(sem X e).val ⟨[some (.str kd.str),p],m⟩ (retK Φ)):semB X (.cons (.ifS (.cmp .Eq (.var 0) (.str kd.str)) (.cons (.ret e) .nil) .nil) rest) ⟨[some (.str kd.str),p],m⟩ Φ:=s_if (eq_s (if_y rfl h))
end
noncomputable def Pre (bs:List Bool) (k j:Nat):Prop:=∀ q,q<j→bs[q]?=some (k.testBit q)
theorem ar39 (b:Bool) (x k:Nat):b.toNat+2*x=k↔b=k.testBit 0∧x=k / 2:=by
 rw [Nat.testBit_zero]
 cases b
 ·rw [eq_comm (a:=false),decide_eq_false_iff_not]
  show 0+2*x=k↔_
  omega
 ·rw [eq_comm (a:=true),decide_eq_true_iff]
  show 1+2*x=k↔_
  omega
theorem pre_cons {b:Bool}{bs:List Bool}{k n:Nat}:Pre (b::bs) k (n+1)↔b=k.testBit 0∧Pre bs (k / 2) n :=
 ⟨fun e=>⟨Option.some.inj (e 0 (Nat.succ_pos _)),fun q hq=>(e (q+1) (Nat.succ_lt_succ hq)).trans (congrArg some (Nat.testBit_succ _ _))⟩,fun e q hq=>by
  cases q with
  | zero=>exact congrArg some e.1
  | succ q=>exact (e.2 q (Nat.lt_of_succ_lt_succ hq)).trans (congrArg some (Nat.testBit_succ _ _).symm)⟩
theorem idx_iff:∀ (bs:List Bool) (k:Nat),k<2^bs.length→(idx bs=k↔Pre bs k bs.length)
 | [],k,h=>⟨fun zz zz h=>absurd h (Nat.not_lt_zero _),fun zz=>(Nat.lt_one_iff.mp h).symm⟩
 | b::bs,k,h=>(ar39 b (idx bs) k).trans ((and_congr_right fun zz=>idx_iff bs (k / 2) (Nat.div_lt_of_lt_mul (by rw [Nat.mul_comm];exact h))).trans pre_cons.symm)
theorem pre_succ {bs:List Bool}{k j:Nat}{b:Bool} (hb:bs[j]?=some b):Pre bs k (j+1)↔Pre bs k j∧b=k.testBit j :=
 ⟨fun e=>⟨fun q hq=>e q (Nat.lt_succ_of_lt hq),Option.some.inj (hb.symm.trans (e j (Nat.lt_succ_self j)))⟩,fun e q hq=>(Nat.lt_succ_iff_lt_or_eq.mp hq).elim (e.1 q) fun z=>by rw [z,hb,e.2]⟩
theorem ite_b {c:Bool}{A B:Prop} (h:c=true→A) (h':c=false→B):if c=true then A else B:=by
 cases c with
 | true=>exact h rfl
 | false=>exact h' rfl
theorem p30 {n:Nat} (h:n≤3):2^n<2^30:=Nat.pow_lt_pow_right (Nat.le_refl 2) (Nat.lt_of_le_of_lt h (nb rfl))
theorem lt8 {n k:Nat} (h:n≤3) (q:k<2^n):k<8:=Nat.lt_of_lt_of_le q (Nat.pow_le_pow_right Nat.two_pos h)
theorem p30' {k:Nat} (h:k<8):0<2^k∧2^k<2^30:=⟨Nat.two_pow_pos k,Nat.pow_lt_pow_right (Nat.le_refl 2) (Nat.lt_trans h (nb rfl))⟩
theorem p60 {k:Nat} (h:k<8):2<2^60∧k≤1000000:=⟨nb rfl,Nat.le_of_lt (Nat.lt_trans h (nb rfl))⟩
theorem sub_bit {R w i:Nat} (hw:w<2^R) (hi:i<R):(2^R - 1 - w).testBit i=!w.testBit i:=by
 rw [Nat.sub_sub,Nat.add_comm 1 w,Nat.testBit_two_pow_sub_succ hw,decide_eq_true hi,Bool.true_and]
theorem sub_lt' {R w:Nat}:2^R - 1 - w<2^R:=Nat.lt_of_le_of_lt (Nat.sub_le _ _) (Nat.sub_one_lt (Nat.ne_of_gt (Nat.two_pow_pos R)))
theorem ar40 {R w:Nat} (hw:w<2^R):((2^R - 1:Nat):Int) - (w:Int)=((2^R - 1 - w:Nat):Int):=(Int.ofNat_sub (Nat.le_sub_one_of_lt hw)).symm
section
variable {G:GC}{r:Nat}{Ψ:Addr→Mem→Prop}{m:Mem}{v:V}{N:NetA}{Φ:V→Mem→Prop}
theorem law_table (hG:G.Ok) (hr:1≤r) {kd:Kd}{par:Par}{p:V}{n:Nat} (hk:combOk kd par n) (hp:ParAt m p par) (h:∀ m',Gr m m'→Φ (.int (tabOf kd par)) m'):callW G r Ψ (.ref 349) [.str kd.str,p] m Φ:=by
 refine run349 hG hr ?_
 by_cases h1:kd=.lut
 ·subst h1
  obtain ⟨_,t,rfl,_⟩:=hk
  obtain rfl:p=.int t:=hp
  exact ky0 (kd:=.lut) (h m .refl)
 by_cases h2:kd=.cell
 ·subst h2
  obtain ⟨_,t,rfl,_⟩:=hk
  obtain ⟨b,y,rfl,hb,_⟩:=hp
  exact kn0 .lut h1 (ky0 (kd:=.cell) (it_t (k:=1) hb rfl (h m .refl)))
 exact kn0 .lut h1 (kn0 .cell h2 (s_ret (new_go fun d m' n1 k1 g1=>it_d k1 (key:=K.str kd.str) rfl (tabD_get kd par n hk h1 h2) (h m' g1))))
theorem law_states (hG:G.Ok) (hr:1≤r) (hN:NetR m v N) (S:N.cells.length<900000) (h:∀ m' l vs,m l=none→m' l=some (.list vs)→Cells m' vs N.states→Gr m m'→Φ (.ref l) m'):callW G r Ψ (.ref 366) [v] m Φ:=by
 refine hN.elp fun o nm vi vo vc bi bo hp a hpi hpo hcs zz=>callW.any (run366 hG hr (s_ret (e_comp quiet_no (a.aC (comp_if (iter_list a.5) (fun k acc μ=>A2 (Gr m μ) (Cells μ acc ((N.cells.take k).filter (·.kd.state)))) (fun zz zz zz q=>q.1 a.5) ⟨.refl,.nil⟩ (fun k acc m1 w Ψ' hv q hΨ=>?_) fun acc m1 q l m2 n2 k2 g2=>?_)))))
 ·revert hΨ
  refine hcs.get hv fun c t b p hc ht hb hpar hΨ=>cd_go (it_t (k:=0) (q.1 ht) rfl (w_list (nb rfl) fun ql m2 n2 k2 g2=>in_states (kd:=c.kd) k2 ?_))
  have g:=q.1.trans g2
  have e:=filt_take (p:=fun c:Cell=>c.kd.state) hc
  refine ite_b (fun hs=>⟨?_,hΨ _ m2 ⟨g,?_⟩⟩) fun hs=>hΨ _ m2 ⟨g,?_⟩
  ·rw [q.2.1]
   exact Nat.lt_of_le_of_lt (List.length_filter_le _ _) (Nat.lt_of_le_of_lt (List.length_take_le' _ _) (b9 S))
  ·rw [e,hs]
   exact (q.2.keep g2.tups).snoc ⟨t,b,p,rfl,g ht,g hb,hpar.keep g.tups⟩
  ·rw [e,hs]
   exact (List.append_nil _).symm▸q.2.keep g2.tups
 ·have hc:=q.2
  rw [hcs.len,List.take_length] at hc
  exact h m2 l acc (q.1.old n2) k2 (hc.keep g2.tups) (q.1.trans g2)
theorem law_word (hG:G.Ok) (hr:1≤r) {t R:Nat}{ws:List Nat}{wa:Addr} (hw:m wa=some (.list (natL ws))) (hws:∀ w∈ws,w<2^R) (hl:ws.length≤3) (h:∀ m' (n:Nat),n<2^R→(∀ i,i<R→n.testBit i=t.testBit (idx (ws.map (·.testBit i))))→Gr m m'→Φ (.int n) m'):callW G r Ψ (.ref 378) [.int t,.ref wa,.int ((2^R - 1:Nat):Int)] m Φ:=by
 refine run378 hG hr (s_asg (a_nm (s_for (len_l hw (natL_len ws) (bPow (a:=2) (b:=ws.length) rfl rfl (p60 (Nat.lt_of_le_of_lt hl (nb rfl))) (w_range (p30 hl) fun ra m1 n1 k1 g1=>?_))))))
 refine for_range (T:=Nat × Option V × Option V × Option V) (F:=fun x=>[some (.int t),some (.ref wa),some (.int ((2^R - 1:Nat):Int)),some (.int x.1),x.2.1,x.2.2.1,x.2.2.2]) (x0:=(0,none,none,none)) k1 (p30 hl)
  (fun k x μ=>A4 (Gr m μ) (μ ra=some (.range 0 (2^ws.length:Nat) 1)) (x.1<2^R) (∀ i,i<R→(x.1.testBit i=true↔t.testBit (idx (ws.map (·.testBit i)))=true∧idx (ws.map (·.testBit i))<k))) (fun zz zz zz q=>q.2)
  ⟨g1,k1,Nat.two_pow_pos R,fun i zz=>by rw [Nat.zero_testBit];exact ⟨fun e=>(nomatch e),fun e=>absurd e.2 (Nat.not_lt_zero _)⟩⟩ (fun k x m2 Ψ' hk q hΨ=>?_) fun x m2 q=>s_ret (h m2 x.1 q.3 (fun i hi=>Bool.eq_iff_iff.mpr ((q.4 i hi).trans ⟨fun e=>e.1,fun e=>⟨e,by have:=idx_lt (ws.map (·.testBit i));rwa [List.length_map] at this⟩⟩)) q.1)
 have hk8:=lt8 hl hk
 refine s_if (bPow (a:=2) (b:=k) rfl rfl (p60 hk8) (bDiv (a:=t) (b:=2^k) rfl rfl (p30' hk8) (bMod (b:=2) rfl rfl Nat.two_pos (eq_n ?_))))
 rw [←Nat.testBit_eq_decide_div_mod_eq]
 refine if_b0 (fun hb=>?_) fun hb=>hΨ (x.1,some (.int k),x.2.2.1,x.2.2.2) m2 ⟨q.1,q.2,q.3,fun i hi=>(q.4 i hi).trans (and_congr_right fun e=>⟨Nat.lt_succ_of_lt,fun z=>(Nat.lt_succ_iff_lt_or_eq.mp z).elim id fun z=>by rw [z,hb] at e;exact nomatch e⟩)⟩
 refine s_asg (a_nm (s_for (len_l (q.1 hw) (natL_len ws) (w_range (b30 (Nat.lt_of_le_of_lt hl (nb rfl))) fun rb m3 n3 k3 g3=>?_))))
 refine for_range (T:=Nat × Option V) (F:=fun y=>[some (.int t),some (.ref wa),some (.int ((2^R - 1:Nat):Int)),some (.int x.1),some (.int k),some (.int y.1),y.2]) (x0:=(2^R - 1,_)) k3 (b30 (Nat.lt_of_le_of_lt hl (nb rfl)))
  (fun j y μ=>A3 (μ=m3) (y.1<2^R) (∀ i,i<R→(y.1.testBit i=true↔Pre (ws.map (·.testBit i)) k j))) (fun zz zz zz z=>z.1▸k3)
  ⟨rfl,Nat.sub_one_lt (Nat.ne_of_gt (Nat.two_pow_pos R)),fun i hi=>by rw [Nat.testBit_two_pow_sub_one,decide_eq_true hi];exact ⟨fun zz zz h=>absurd h (Nat.not_lt_zero _),fun zz=>rfl⟩⟩ (fun j y m4 Ψ2 hj z hΨ2=>?_) fun y m4 z=>?_
 ·have hj8:=Nat.lt_of_lt_of_le hj (Nat.le_trans hl (nb (m:=8) rfl))
  have hwj:=List.getElem?_eq_getElem hj
  have hwl:=hws _ (List.getElem_mem hj)
  have hw4:m4 wa=_:=z.1▸g3 (q.1 hw)
  have fin:∀ w:Nat,w<2^R→(∀ i,i<R→(w.testBit i=true↔(ws[j]).testBit i=k.testBit j))→binW .BitAnd (.int y.1) (.int w) ⟨[some (.int t),some (.ref wa),some (.int ((2^R - 1:Nat):Int)),some (.int x.1),some (.int k),some (.int y.1),some (.int j)],m4⟩ (asgK ⟨G,r - 1,Ψ⟩ (.name 5) .nil Ψ2):=fun w hw' hwb =>
   bAnd rfl rfl (a_nm (hΨ2 (y.1 &&& w,_) m4 ⟨z.1,Nat.and_lt_two_pow _ hw',fun i hi=>by
    rw [Nat.testBit_and,Bool.and_eq_true,z.3 i hi,hwb i hi]
    exact (pre_succ (by rw [List.getElem?_map,hwj];rfl)).symm⟩))
  refine s_asg (bPow (a:=2) (b:=j) rfl rfl (p60 hj8) (bDiv (a:=k) (b:=2^j) rfl rfl (p30' hj8) (bMod (b:=2) rfl rfl Nat.two_pos (eq_n ?_))))
  rw [←Nat.testBit_eq_decide_div_mod_eq]
  refine ite_b (fun hbj=>it_l hw4 (natL_at hwj) (fin _ hwl fun i hi=>by rw [hbj])) fun hbj=>it_l hw4 (natL_at hwj) (bSub (ar40 hwl) (fin _ sub_lt' fun i hi=>?_))
  rw [sub_bit hwl hi,hbj]
  cases (ws[j]).testBit i with
  | true=>exact ⟨fun e=>(nomatch e),fun e=>nomatch e⟩
  | false=>exact ⟨fun zz=>rfl,fun zz=>rfl⟩
 ·refine s_asg (bOr rfl rfl (a_nm (s_nil (hΨ (x.1 ||| y.1,_,_,_) m4 ⟨z.1▸q.1.trans g3,z.1▸g3 q.2,Nat.or_lt_two_pow q.3 z.2,fun i hi=>?_⟩))))
  have hi2:=idx_iff (ws.map (·.testBit i)) k (by rw [List.length_map];exact hk)
  rw [List.length_map] at hi2
  rw [Nat.testBit_or,Bool.or_eq_true,q.4 i hi,z.3 i hi,←hi2,Nat.lt_succ_iff_lt_or_eq,and_or_left]
  exact or_congr_right ⟨fun e=>⟨e▸hb,e⟩,fun e=>e.2⟩
end
section
variable {X:PX}{ρ:List (Option V)}{m:Mem}{σ:St}{T:Type}{F:T→List (Option V)}{a t k:Addr}{mo:MO}{tt:V→St→(St→Prop)→Prop}{inner:List V→St→(List V→St→Prop)→Prop}{xs ys acc:List V}{v:V}{x0:T}
theorem compT_go {Φ:List V→St→Prop} (Inv:Nat→T→List V→Mem→Prop) (hI:∀ k x acc m,Inv k x acc m→m a=some mo)
  (step:∀ k x acc m v (Ψ:List V→St→Prop),xs[k]?=some v→Inv k x acc m→(∀ x' acc' m',Inv (k+1) x' acc' m'→Ψ acc' ⟨F x',m'⟩)→tt v ⟨F x,m⟩ fun σ1=>inner acc σ1 Ψ)
  (fin:∀ x acc m',Inv xs.length x acc m'→Φ acc ⟨F x,m'⟩):∀ (n k:Nat) (x:T) (acc:List V) (m:Mem),k+n=xs.length→Inv k x acc m→compW a mo tt inner (xs.drop k) acc ⟨F x,m⟩ Φ
 | 0,k,x,acc,m,hk,h=>by
  have hk:k=xs.length:=hk
  subst hk
  rw [List.drop_eq_nil_of_le (Nat.le_refl _)]
  exact ⟨hI _ _ _ _ h,fin _ _ _ h⟩
 | n+1,k,x,acc,m,hk,h=>by
  have hl:k<xs.length:=hk▸Nat.lt_add_of_pos_right (Nat.succ_pos n)
  rw [List.drop_eq_getElem_cons hl]
  exact ⟨hI _ _ _ _ h,step k x acc m _ _ (List.getElem?_eq_getElem hl) h fun x' acc' m' h'=>compT_go Inv hI step fin n (k+1) x' acc' m' ((Nat.succ_add_eq_add_succ k n).trans hk) h'⟩
theorem compT {Φ:List V→St→Prop} (Inv:Nat→T→List V→Mem→Prop) (hI:∀ k x acc m,Inv k x acc m→m a=some mo) (h0:Inv 0 x0 acc m)
  (step:∀ k x acc m v (Ψ:List V→St→Prop),xs[k]?=some v→Inv k x acc m→(∀ x' acc' m',Inv (k+1) x' acc' m'→Ψ acc' ⟨F x',m'⟩)→tt v ⟨F x,m⟩ fun σ1=>inner acc σ1 Ψ)
  (fin:∀ x acc m',Inv xs.length x acc m'→Φ acc ⟨F x,m'⟩):compW a mo tt inner xs acc ⟨F x0,m⟩ Φ:=compT_go Inv hI step fin xs.length 0 x0 acc m (Nat.zero_add _) h0
noncomputable def ovK (K:Addr→MO→List V→St→Prop) (v:V) (σ:St):Prop:=overW (PT.lit v) σ K
theorem over_of {e:PT V}{K:Addr→MO→List V→St→Prop} (h:e σ (ovK K)):overW e σ K:=h
theorem ov_go {K:Addr→MO→List V→St→Prop} (hv:iterOf m v=some (a,mo,xs)) (h:K a mo xs ⟨ρ,m⟩):ovK K v ⟨ρ,m⟩:=by
 show match iterOf m v with|some (a,mo,xs)=>K a mo xs ⟨ρ,m⟩|none=>False
 rw [hv];exact h
theorem e_comp2 {elt it it':Ex}{t t':Tg}{j:Nat}{Φ:V→St→Prop} (hq:X.quiet) (h:(sem X it).val σ (ovK fun a mo xs σ1=>compW a mo (semT X t) (fun acc σ2 Ψ=>overW (sem X it').val σ2 fun a' mo' xs' σ3=>compW a' mo' (semT X t') (pushW (sem X elt).val) xs' acc σ3 Ψ) xs [] ⟨σ1.ρ++List.replicate j none,σ1.m⟩ (madeW σ1.ρ Φ))) :
  X.quiet∧overW (sem X it).val σ fun a mo xs σ1=>compW a mo (semT X t) (fun acc σ2 Ψ=>overW (sem X it').val σ2 fun a' mo' xs' σ3=>compW a' mo' (semT X t') (pushW (sem X elt).val) xs' acc σ3 Ψ) xs [] ⟨σ1.ρ++List.replicate j none,σ1.m⟩ (madeW σ1.ρ Φ):=⟨hq,h⟩
theorem iaddL_go {l:Addr}{Φ:V→St→Prop} (hm:m l=some (.list xs)) (hy:m k=some (.list ys)) (hn:xs.length+ys.length<1000000) (h:∀ m',m' l=some (.list (xs++ys))→Up l m m'→Φ (.ref l) ⟨ρ,m'⟩):iopW .Add (.ref l) (.ref k) ⟨ρ,m⟩ Φ:=by
 exact .ext l k xs ys rfl rfl rfl hm hy hn (h _ (upd_same _ _ _) .upd)
theorem it_tn {k:Nat}{Φ:V→St→Prop} (h:m t=some (.tup xs)) (h0:0<k) (hk:k≤xs.length) (hv:xs[xs.length - k]?=some v) (q:Φ v ⟨ρ,m⟩):itemW (.ref t) (.int (-(k:Int))) ⟨ρ,m⟩ Φ:=by
 exact .tup t xs _ v rfl h rfl ((pick_neg h0 hk).trans hv) q
theorem sum_natL:∀ l:List Nat,sumI (natL l)=some ((l.sum:Nat):Int)
 | []=>rfl
 | a::l=>by
  show (sumI (natL l)).map ((a:Int)+·)=_
  rw [sum_natL l,List.sum_cons,Int.natCast_add];rfl
theorem w_sum {l:List Nat}{Φ:V→St→Prop} (h:m a=some (.list (natL l))) (q:Φ (.int (l.sum:Nat)) ⟨ρ,m⟩):biW .sum [.ref a] ⟨ρ,m⟩ Φ:=by
 exact .i ⟨_,rfl,a,_,_,rfl,h,sum_natL l,q⟩
end
noncomputable def qn:Par→Str
 | .flop _ q _=>qName q
 | .latch q _=>qName q
 | _=>ofString ""
inductive stOk (c:Cell):Prop
 | flop (e q i:Nat) (h:c.par=.flop e q i)
 | latch (q i:Nat) (h:c.par=.latch q i)
noncomputable def portKeys (p:Str × List Nat):List K:=(List.range p.2.length).map fun (s:Nat)=>.tup [.str p.1,.int s]
theorem portKeys_len (p:Str × List Nat):(portKeys p).length=p.2.length:=by unfold portKeys;rw [List.length_map,List.length_range]
noncomputable def NetA.keysL (N:NetA):List K:=N.ins.flatMap portKeys++N.states.map fun c=>.str (qn c.par)
noncomputable def KeysAt (m:Mem) (vs:List V) (ks:List K):Prop:=All2 (fun v k=>keyOf m v=some k) vs ks
theorem keyOf_tup {m:Mem}{t:Addr}{xs:List V}{as:List At} (h:m t=some (.tup xs)) (e:atsOf xs=some as):keyOf m (.ref t)=some (.tup as):=by unfold keyOf;simp only [h,e]
theorem keyOf_keep {m m':Mem} (t:Tups m m') {v:V}{k:K} (h:keyOf m v=some k):keyOf m' v=some k:=by
 unfold keyOf at h ⊢
 cases v with
 | ref a =>
  dsimp only at h ⊢
  cases hm:m a with
  | none=>rw [hm] at h;exact noS rfl h
  | some o =>
   rw [hm] at h
   cases o with
   | tup xs=>rw [t hm];exact h
   | _=>exact noS rfl h
 | _=>exact h
theorem KeysAt.keep {m m':Mem}{vs:List V}{ks:List K} (t:Tups m m') (h:KeysAt m vs ks):KeysAt m' vs ks:=h.mono fun zz zz e=>keyOf_keep t e
theorem par_q {m:Mem}{ρ:List (Option V)}{v:V}{c:Cell}{Φ:V→St→Prop} (hp:ParAt m v c.par) (hs:stOk c) (h:Φ (.str (qn c.par)) ⟨ρ,m⟩):itemW v (.int (-2)) ⟨ρ,m⟩ Φ:=by
 cases hs with
 | flop e q i hc =>
  rw [hc] at hp h
  obtain ⟨a,rfl,ha⟩:=hp
  exact it_tn (k:=2) ha Nat.two_pos (nb rfl) rfl h
 | latch q i hc =>
  rw [hc] at hp h
  obtain ⟨a,rfl,ha⟩:=hp
  exact it_tn (k:=2) ha Nat.two_pos (Nat.le_refl 2) rfl h
inductive WordAt (es:List (K × V)) (R:Nat) (k:K):Prop
 | mk (n:Nat) (h:dget k es=some (.int n)) (hn:n<2^R)
inductive SumL (acc:List V) (k:Nat):Prop
 | mk (l:List Nat) (e:acc=natL l) (s:l.sum<2^k) (n:l.length≤k)
theorem ar41 {a l T n j:Nat} (h:a+l≤T) (q:T+n≤10) (hj:j<l):a+j<1000000:=by omega
theorem ar42 {a l T n:Nat} (h:a+l≤T) (q:T+n≤10):l<2^30:=by omega
theorem ar43 {n:Nat} (h:n≤10):n<1000000:=by omega
theorem p10 {n:Nat} (h:n≤10):2^n≤1024:=Nat.pow_le_pow_right Nat.two_pos h
theorem ar44 {n k:Nat} (h:n≤1024) (q:k<n):2<2^60∧k≤1000000:=by omega
theorem ar45 {n k j:Nat} (h:n≤1024) (q:k<n) (z:j≤k):j<1000000:=by omega
theorem ar46 {s k:Nat} (h:s<2^k):s+2^k<2^(k+1):=by rw [Nat.pow_succ];omega
theorem ar47 {n i:Nat} (h:n≤10) (q:i<n):2<2^60∧i≤1000000:=by omega
theorem ar48 {n i:Nat} (h:n≤10) (q:i<n):0<2^i∧2^i<2^30:=⟨Nat.two_pow_pos i,Nat.pow_lt_pow_right (Nat.le_refl 2) (by omega)⟩
theorem ar49 {n i l:Nat} (h:n≤10) (q:i<n) (z:l≤i):l<1000000:=by omega
theorem ar50 {n:Nat} (h:n≤1024):n<2^30:=by omega
theorem ar51 {n:Nat} (h:n≤10):n<2^30:=by omega
theorem ar52 {n:Nat} (h:n≤10):2<2^60∧n≤1000000:=by omega
theorem ar53 {n:Nat} (h:n≤1024):2<2^60∧n≤1000000:=by omega
theorem one_sub {n:Nat}:((2^n:Nat):Int) - 1=((2^n - 1:Nat):Int):=(Int.ofNat_sub Nat.one_le_two_pow).symm
section
variable {G:GC}{r:Nat}{Ψ:Addr→Mem→Prop}{m:Mem}{v:V}{N:NetA}{Φ:V→Mem→Prop}
theorem law_patterns (hG:G.Ok) (hr:3≤r) (hN:NetR m v N) (hst:∀ c∈N.states,stOk c) (hk:N.keysL.length≤10) (hc:N.cells.length<100000)
  (h:∀ m' t pd es,m' t=some (.tup [.ref pd,.int ((2^2^N.keysL.length - 1:Nat):Int)])→m' pd=some (.dict es)→(∀ k∈N.keysL,WordAt es (2^N.keysL.length) k)→Gr m m'→Φ (.ref t) m'):callW G r Ψ (.ref 371) [v] m Φ:=by
 have hk':(N.ins.flatMap portKeys).length+(N.states.map fun c=>K.str (qn c.par)).length≤10:=by rw [←List.length_append];exact hk
 refine hN.elp fun o nm vi vo vc bi bo hp a hpi hpo hcs hN=>callW.any (run371 hG hr (s_asg (e_comp2 quiet_no (a.aI (ov_go (iter_list a.3) ?_)))))
 refine compT (T:=Option V × Option V × Option V) (F:=fun x=>[some (.ref o.x),none,none,none,none,x.1,x.2.1,x.2.2]) (x0:=(none,none,none)) (fun k x acc μ=>A2 (Gr m μ) (KeysAt μ acc ((N.ins.take k).flatMap portKeys))) (fun zz zz zz zz q=>q.1 a.3) ⟨.refl,.nil⟩ (fun k x acc m1 w Ψ' hv q hΨ=>?_) fun x acc m1 q=>new_go fun kl m2 n2 k2 g2=>a_nm ?_
 ·refine hpi.get hv fun p b tp hp hb ht hbl=>t_tup2 (q.1 ht) ?_
  have hf:=flat_le portKeys hp
  rw [portKeys_len] at hf
  refine over_of (len_l (q.1 hbl) (natL_len _) (w_range (ar42 hf hk') fun ra m2 n2 k2 g2=>ov_go (iter_range k2 (ar42 hf hk')) ?_))
  refine compT (T:=Option V) (F:=fun y=>[some (.ref o.x),none,none,none,none,some (.str p.1),some (.ref b),y]) (x0:=x.2.2) (fun j y acc μ=>A3 (Gr m μ) (μ ra=some (.range 0 p.2.length 1)) (KeysAt μ acc ((N.ins.take k).flatMap portKeys++(List.range j).map fun (s:Nat)=>.tup [.str p.1,.int s]))) (fun zz zz zz zz z=>z.2)
   ⟨q.1.trans g2,k2,(List.append_nil _).symm▸q.2.keep g2.tups⟩ (fun j y acc m3 w2 Ψ2 hv2 z hΨ2=>range_el hv2 fun hj=>w_tup (nb rfl) fun tp m4 n4 k4 g4=>⟨?_,hΨ2 _ _ m4 ⟨z.1.trans g4,g4 z.2,?_⟩⟩) fun y acc m3 z=>hΨ (some (.str p.1),some (.ref b),y) acc m3 ⟨z.1,?_⟩
  ·have z3:=z.3
   rw [range_len] at z3
   rw [flat_take portKeys hp]
   exact z3
  ·rw [z.3.1,List.length_append,List.length_map,List.length_range]
   exact ar41 hf hk' hj
  ·rw [List.range_succ,List.map_append,←List.append_assoc]
   exact (z.3.keep g4.tups).snoc (keyOf_tup k4 rfl)
 have q2:=q.2
 rw [hpi.len,List.take_length] at q2
 have g:=q.1.trans g2
 refine s_aug (e_comp quiet_no (law_states hG (pr hr rfl) (hN.keep g) (Nat.lt_trans hc (nb rfl)) fun m3 ls vs n3 k3 hvs g3=>comp_go (iter_list k3) (by rw [hvs.1];exact Nat.lt_of_le_of_lt (List.length_filter_le _ _) (b6'' hc)) (fun k acc2 μ=>A2 (Gr m3 μ) (KeysAt μ acc2 ((N.states.take k).map fun c=>.str (qn c.par)))) (fun zz zz zz q=>q.1 k3) ⟨.refl,.nil⟩ (fun k acc2 m4 w Ψ' hv z hΨ=>?_) fun acc2 m4 z hl k2l m5 n5 k5 g5=>?_))
 ·revert hΨ
  refine hvs.get hv fun c t b p hcc ht hb hpar hΨ=>it_t (k:=3) (z.1 ht) rfl (par_q (hpar.keep z.1.tups) (hst c (List.mem_of_getElem? hcc)) (hΨ _ _ ⟨z.1,?_⟩))
  rw [take_snoc hcc,List.map_append]
  exact z.2.snoc rfl
 have z2:=z.2
 rw [hvs.1,List.take_length] at z2
 have g35:=(g3.trans z.1).trans g5
 have kl5:=g35 k2
 have ha:=(q2.keep (g2.trans g35).tups).append (z2.keep g5.tups)
 have hal:acc.length+acc2.length=N.keysL.length:=by have:=ha.1;rw [List.length_append] at this;exact this
 refine iaddL_go kl5 k5 (hal▸ar43 hk) fun m6 k6 u6=>aug_nm ?_
 have ha6:KeysAt m6 (acc++acc2) N.keysL:=KeysAt.keep (u6.tups kl5 rfl) ha
 have g6:Gr m m6:=(g.trans g35).set (q.1.old n2) u6
 have hlen:=ha6.1
 generalize acc++acc2=keys at k6 ha6 hlen
 have hk2:=p10 hk
 refine s_asg (len_l k6 hlen (bPow (a:=2) (b:=N.keysL.length) rfl rfl (ar52 hk) (a_nm (s_asg (new_go fun pd m7 n7 k7 g7=>a_nm (s_for (len_l (g7 k6) hlen (w_range (ar51 hk) fun ra m8 n8 k8 g8=>?_))))))))
 refine for_range (T:=Option V × List (K × V)) (F:=fun t=>[some (.ref o.x),some (.ref kl),some (.int ((2^N.keysL.length:Nat):Int)),some (.ref pd),t.1]) (x0:=(none,[])) k8 (ar51 hk)
  (fun i t μ=>A7 (Gr m μ) (μ kl=some (.list keys)) (μ ra=some (.range 0 N.keysL.length 1)) (μ pd=some (.dict t.2)) (KeysAt μ keys N.keysL) (t.2.length≤i) (∀ k∈N.keysL.take i,WordAt t.2 (2^N.keysL.length) k)) (fun zz zz zz q=>q.3)
  ⟨(g6.trans g7).trans g8,g8 (g7 k6),k8,g8 k7,ha6.keep (g7.trans g8).tups,Nat.le_refl 0,fun zz h=>nomatch h⟩ (fun i t m9 Ψ' hi ⟨g9,kl9,kr9,kd9,ha9,hl9,hw9⟩ hΨ=>?_) fun t m9 ⟨g9,kl9,kr9,kd9,ha9,hl9,hw9⟩=>?_
 ·refine s_asg (e_comp quiet_no (w_range (ar50 hk2) fun rb ma na ka ga=>comp_if (iter_range ka (ar50 hk2)) (fun k acc μ=>A2 (μ=ma) (SumL acc k)) (fun zz zz zz q=>q.1▸ka) ⟨rfl,[],rfl,Nat.zero_lt_one,Nat.le_refl 0⟩ (fun row acc3 mb w Ψ2 hv2 ⟨e,l,el,hs,hl⟩ hΨ2=>?_) fun acc3 mb ⟨e,l,el,hs,hl⟩ sl mc nc kc gc=>?_))
  ·revert hΨ2
   refine range_el hv2 fun hrow hΨ2=>cd_go (bPow (a:=2) (b:=i) rfl rfl (ar47 hk hi) (bDiv (a:=row) (b:=2^i) rfl rfl (ar48 hk hi) (bMod (b:=2) rfl rfl Nat.two_pos (eq_n ?_))))
   refine ite_b (fun zz=>bPow (a:=2) (b:=row) rfl rfl (ar44 hk2 hrow) ⟨?_,hΨ2 _ mb ⟨e,l++[2^row],?_,?_,?_⟩⟩) fun zz=>hΨ2 _ mb ⟨e,l,el,Nat.lt_of_lt_of_le hs (Nat.pow_le_pow_right Nat.two_pos (Nat.le_succ row)),Nat.le_succ_of_le hl⟩
   ·rw [el,natL_len];exact ar45 hk2 hrow hl
   ·rw [el,natL_snoc]
   ·rw [List.sum_append,List.sum_singleton];exact ar46 hs
   ·rw [List.length_append];exact Nat.succ_le_succ hl
  ·subst e el
   rw [range_len] at hs
   have g10:=ga.trans gc
   have hik:i<keys.length:=hlen▸hi
   have hv:=List.getElem?_eq_getElem hik
   refine w_sum kc (it_l (g10 kl9) hv ((ha9.keep g10.tups).get hv fun kk hkk hko=>setD_go (g10 kd9) hko (ar49 hk hi hl9) fun m11 d11 u11=>hΨ (_,dput kk (.int (l.sum:Nat)) t.2) m11
    ⟨(g9.trans g10).set (g6.old n7) u11,u11 (mn (g10 kl9) (g10 kd9) rfl) (g10 kl9),u11 (mn (g10 kr9) (g10 kd9) rfl) (g10 kr9),d11,(ha9.keep g10.tups).keep (u11.tups (g10 kd9) rfl),Nat.le_trans (dput_len _ _ _) (Nat.succ_le_succ hl9),fun q hq=>?_⟩))
   by_cases e:kk=q
   ·exact ⟨l.sum,by rw [dget_dput,if_pos e],hs⟩
   ·rw [take_snoc hkk] at hq
    refine (List.mem_append.mp hq).elim (fun z=>?_) fun z=>absurd (List.mem_singleton.mp z).symm e
    obtain ⟨n,h1,h2⟩:=hw9 q z
    exact ⟨n,by rw [dget_dput,if_neg e];exact h1,h2⟩
 ·rw [List.take_length] at hw9
  exact s_ret (bPow (a:=2) (b:=2^N.keysL.length) rfl rfl (ar53 hk2) (bSub one_sub (w_tup (nb rfl) fun t2 m10 n10 k10 g10=>h m10 t2 pd t.2 k10 (g10 kd9) hw9 (g9.trans g10))))
end
noncomputable def portSK (p:Str × List Nat):List (Nat × K):=p.2.zipIdx.map fun q=>(q.1,.tup [.str p.1,.int (q.2:Nat)])
noncomputable def NetA.sk (N:NetA):List (Nat × K):=N.ins.flatMap portSK++N.states.map fun c=>(c.out,.str (qn c.par))
theorem portSK_fst (p:Str × List Nat):(portSK p).map (·.1)=p.2:=by
 unfold portSK
 rw [List.map_map]
 exact List.zipIdx_map_fst 0 p.2
theorem portSK_snd (p:Str × List Nat):(portSK p).map (·.2)=portKeys p:=by
 unfold portSK portKeys
 rw [List.map_map,List.range_eq_range',←List.zipIdx_map_snd,List.map_map];rfl
theorem sk_fst (N:NetA):N.sk.map (·.1)=N.srcs:=by
 unfold NetA.sk NetA.srcs
 rw [List.map_append,List.map_flatMap,List.map_map]
 exact congrArg (fun f:Str × List Nat→List Nat=>N.ins.flatMap f++_) (funext portSK_fst)
theorem sk_snd (N:NetA):N.sk.map (·.2)=N.keysL:=by
 unfold NetA.sk NetA.keysL
 rw [List.map_append,List.map_flatMap,List.map_map]
 exact congrArg (fun f:Str × List Nat→List K=>N.ins.flatMap f++_) (funext portSK_snd)
noncomputable def val (L:List (Nat × Nat)) (n:Nat):Nat:=(L.lookup n).getD 0
inductive SrcW (es:List (K × V)) (R:Nat) (L:List (Nat × Nat)) (p:Nat × K):Prop
 | mk (n:Nat) (h:dget p.2 es=some (.int n)) (hn:n<2^R) (hl:L.lookup p.1=some n)
inductive WOk (es:List (K × V)) (R:Nat) (S:List (Nat × K)) (L:List (Nat × Nat)):Prop
 | mk (zero:L.lookup 0=some 0) (one:L.lookup 1=some (2^R - 1)) (src:∀ p∈S,SrcW es R L p)
section
variable {es:List (K × V)}{R:Nat}{S:List (Nat × K)}{L:List (Nat × Nat)}{net n:Nat}{k:K}
theorem put_ne {q:Nat} (h:q≠net):(putN net n L).lookup q=L.lookup q:=by rw [lookup_putN,if_neg h]
theorem WOk.keep (W:WOk es R S L) (hnew:net∉0::1::S.map (·.1)):WOk es R S (putN net n L) :=
 ⟨(put_ne fun e:0=net=>hnew (e▸.head _)).trans W.1,(put_ne fun e:1=net=>hnew (e▸.tail _ (.head _))).trans W.2,fun p hp=>by
  obtain ⟨q,h1,h2,h3⟩:=W.3 p hp
  exact ⟨q,h1,h2,(put_ne fun e:p.1=net=>hnew (e▸.tail _ (.tail _ (List.mem_map_of_mem hp)))).trans h3⟩⟩
theorem WOk.add (W:WOk es R S L) (hk:dget k es=some (.int n)) (hn:n<2^R) (hnew:net∉0::1::S.map (·.1)):WOk es R (S++[(net,k)]) (putN net n L) :=
 ⟨(W.keep hnew).1,(W.keep hnew).2,fun p hp=>(List.mem_append.mp hp).elim (fun z=>(W.keep hnew).3 p z) fun z=>by
  rw [List.mem_singleton.mp z]
  exact ⟨n,hk,hn,by rw [lookup_putN,if_pos rfl]⟩⟩
end
inductive WNet (N:NetA):Prop
 | mk (nd:(0::1::(N.srcs++N.combs.map (·.out))).Nodup)
  (seq:∀ (k:Nat) c,N.combs[k]?=some c→∀ net∈c.ins,net∈0::1::(N.srcs++(N.combs.take k).map (·.out)))
  (ok:∀ c∈N.combs,combOk c.kd c.par c.ins.length) (st:∀ c∈N.states,stOk c) (size:N.cells.length<800000) (keys:N.keysL.length≤10)
inductive CW (R:Nat) (L:List (Nat × Nat)) (c:Cell):Prop
 | mk (n:Nat) (h:L.lookup c.out=some n) (hn:n<2^R) (hb:∀ i,i<R→n.testBit i=cellF c.kd c.par (c.ins.map fun q=>(val L q).testBit i))
noncomputable def CDone (N:NetA) (R k:Nat) (L:List (Nat × Nat)):Prop:=∀ ⦃j:Nat⦄ ⦃c⦄,j<k→N.combs[j]?=some c→CW R L c
inductive Words (N:NetA) (es:List (K × V)) (R:Nat) (L:List (Nat × Nat)):Prop
 | mk (w:WOk es R N.sk L) (c:CDone N R N.combs.length L)
section
variable {m:Mem}{a:Addr}{kd:Kd}{n:Nat}{ρ:List (Option V)}{Φ:Bool→St→Prop}
theorem notin_states (hm:m a=some (.list stL)) (h:Φ (!kd.state) ⟨ρ,m⟩):cmpW .NotIn (.str kd.str) (.ref a) ⟨ρ,m⟩ Φ:=by
 have:=in_states (kd:=kd) (ρ:=ρ) (k:=fun b σ=>Φ (!b) σ) hm h
 unfold cmpW at this ⊢
 exact this
theorem rds_t:∀ n,RDs m (List.replicate n (.bool true)) (List.replicate n (.bool true))
 | 0=>.nil
 | n+1=>.cons (.bool true) (rds_t n)
theorem cl_t:∀ n,PyData.canLayAll0 (List.replicate n (.bool true))=true
 | 0=>rfl
 | n+1=>by rw [List.replicate_succ];unfold PyData.canLayAll0;rw [cl_t n];rfl
theorem false_in_trues (hm:m a=some (.list (List.replicate n (.bool true)))) (h:Φ false ⟨ρ,m⟩):cmpW .In (.bool false) (.ref a) ⟨ρ,m⟩ Φ:=by
 refine .i (.list a _ (.bool false) (List.replicate n (.bool true)) rfl hm (.bool _) (rds_t n) rfl (cl_t n) (by decide) ?_)
 have:((List.replicate n (PyData.bool true)).any fun y=>PyData.eqv y (.bool false))=false:=by
  rw [List.any_eq_false]
  intro y hy
  rw [List.eq_of_mem_replicate hy]
  decide
 rw [this];exact h
end
section
variable {Sg:List Nat}{cs as bs:List Cell}{N:NetA}{L:List (Nat × Nat)}{es:List (K × V)}{R k n net a b:Nat}{c:Cell}
theorem val_put (h:b≠a):val (putN a n L) b=val L b:=by unfold val;rw [lookup_putN,if_neg h]
theorem Dn_sub (h:as ⊆ bs):Dn Sg as ⊆ Dn Sg bs:=List.cons_subset_cons _ (List.cons_subset_cons _ fun x hx=>(List.mem_append.mp hx).elim (List.mem_append_left _) fun z=>List.mem_append_right _ (List.map_subset _ h z))
theorem Dn_el {P:Nat→Prop} (h:n∈Dn Sg cs) (h0:P 0) (h1:P 1) (hs:∀ x∈Sg,P x) (hc:∀ c∈cs,P c.out):P n :=
 (List.mem_cons.mp h).elim (fun e=>e▸h0) fun h=>(List.mem_cons.mp h).elim (fun e=>e▸h1) fun h=>(List.mem_append.mp h).elim (hs n) fun z=>by
  obtain ⟨c,h1,h2⟩:=List.mem_map.mp z
  exact h2▸hc c h1
theorem out_ne (h:cs[k]?=some c) (nd:(Dn Sg cs).Nodup) (hm:net∈Dn Sg (cs.take k)):net≠c.out:=by
 have e:Dn Sg cs=Dn Sg (cs.take k)++(c.out::(cs.drop (k+1)).map (·.out)):=(congrArg (Dn Sg) (split_at' h)).trans (by
  unfold Dn
  rw [List.map_append,List.map_cons,←List.append_assoc];rfl)
 rw [e] at nd
 exact (List.nodup_append.mp nd).2.2 net hm c.out (.head _)
theorem CDone.step (W:WNet N) (D:CDone N R k L) (hc:N.combs[k]?=some c) (hn:n<2^R) (hv:∀ i,i<R→n.testBit i=cellF c.kd c.par (c.ins.map fun q=>(val L q).testBit i)):CDone N R (k+1) (putN c.out n L):=by
 have kp:∀ {j:Nat}{d},j≤k→N.combs[j]?=some d→∀ i,(d.ins.map fun q=>(val (putN c.out n L) q).testBit i)=d.ins.map fun q=>(val L q).testBit i:=fun {j d} hj hd i=>List.map_congr_left fun q hq=>by
  rw [val_put (out_ne (Sg:=N.srcs) hc W.1 (Dn_sub (List.take_subset_take_left N.combs hj) (W.2 j d hd q hq)))]
 intro j d hj hd
 refine (Nat.lt_succ_iff_lt_or_eq.mp hj).elim (fun l=>?_) fun e=>?_
 ·obtain ⟨q,h1,h2,h3⟩:=D l hd
  exact ⟨q,(put_ne (out_ne (Sg:=N.srcs) hc W.1 (List.mem_cons_of_mem _ (List.mem_cons_of_mem _ (List.mem_append_right _ (List.mem_map_of_mem (List.mem_of_getElem? (i:=j) (by rw [List.getElem?_take_of_lt l];exact hd)))))))).trans h1,h2,fun i hi=>by rw [kp (Nat.le_of_lt l) hd];exact h3 i hi⟩
 ·subst e
  rw [hc] at hd
  cases hd
  exact ⟨n,by rw [lookup_putN,if_pos rfl],hn,fun i hi=>by rw [kp (Nat.le_refl _) hc];exact hv i hi⟩
inductive Kn (R:Nat) (L:List (Nat × Nat)) (q:Nat):Prop
 | mk (n:Nat) (h:L.lookup q=some n) (hn:n<2^R)
theorem known (Wk:WOk es R N.sk L) (D:CDone N R k L) (h:net∈Dn N.srcs (N.combs.take k)):Kn R L net:=by
 refine Dn_el h ⟨0,Wk.1,Nat.two_pow_pos R⟩ ⟨_,Wk.2,Nat.sub_one_lt (Nat.ne_of_gt (Nat.two_pow_pos R))⟩ (fun x hx=>?_) fun c hc=>?_
 ·rw [←sk_fst] at hx
  obtain ⟨p,h1,rfl⟩:=List.mem_map.mp hx
  obtain ⟨n,_,h2,h3⟩:=Wk.3 p h1
  exact ⟨n,h3,h2⟩
 ·obtain ⟨j,hj⟩:=List.mem_iff_getElem?.mp hc
  have hjk:j<k:=Nat.lt_of_lt_of_le (at_lt hj) (List.length_take_le _ _)
  rw [List.getElem?_take_of_lt hjk] at hj
  obtain ⟨n,h2,h3,_⟩:=D hjk hj
  exact ⟨n,h2,h3⟩
theorem sk_new {sk S T:List (Nat × K)}{p:Nat × K} (nd:(0::1::sk.map (·.1)).Nodup) (e:sk=S++p::T):p.1∉0::1::S.map (·.1):=by
 rw [e,List.map_append,List.map_cons,←List.cons_append,←List.cons_append] at nd
 exact fun q=>(List.nodup_append.mp nd).2.2 _ q _ (.head _) rfl
theorem sk_key {S T:List (Nat × K)}{p:Nat × K} (e:N.sk=S++p::T):p.2∈N.keysL:=by
 rw [←sk_snd,e]
 exact List.mem_map_of_mem (List.mem_append_right _ (.head _))
theorem portSK_len (p:Str × List Nat):(portSK p).length=p.2.length:=by unfold portSK;rw [List.length_map,List.length_zipIdx]
theorem portSK_at {p:Str × List Nat}{j:Nat} (h:p.2[j]?=some net):(portSK p)[j]?=some (net,.tup [.str p.1,.int (j:Nat)]):=by
 unfold portSK
 rw [List.getElem?_map,List.getElem?_zipIdx,h,Option.map_some,Option.map_some,Nat.zero_add]
theorem sk_in {p:Str × List Nat}{j:Nat} (hp:N.ins[k]?=some p) (hj:p.2[j]?=some net):N.sk=((N.ins.take k).flatMap portSK++(portSK p).take j)++(net,.tup [.str p.1,.int (j:Nat)])::((portSK p).drop (j+1)++((N.ins.drop (k+1)).flatMap portSK++N.states.map fun c=>(c.out,K.str (qn c.par)))):=by
 have e1:N.ins.flatMap portSK=(N.ins.take k).flatMap portSK++(portSK p++(N.ins.drop (k+1)).flatMap portSK):=(congrArg (List.flatMap portSK) (split_at' hp)).trans (by rw [List.flatMap_append,List.flatMap_cons])
 unfold NetA.sk
 rw [e1]
 refine (congrArg (fun z=>(N.ins.take k).flatMap portSK++(z++(N.ins.drop (k+1)).flatMap portSK)++_) (split_at' (portSK_at hj))).trans ?_
 simp only [List.append_assoc,List.cons_append]
theorem sk_st (hc:N.states[k]?=some c):N.sk=(N.ins.flatMap portSK++(N.states.take k).map fun c=>(c.out,K.str (qn c.par)))++(c.out,.str (qn c.par))::(N.states.drop (k+1)).map fun c=>(c.out,K.str (qn c.par)):=by
 unfold NetA.sk
 refine (congrArg (fun z:List Cell=>N.ins.flatMap portSK++z.map fun c=>(c.out,K.str (qn c.par))) (split_at' hc)).trans ?_
 rw [List.map_append,List.map_cons,List.append_assoc]
end
inductive PS (N:NetA) (es:List (K × V)) (R:Nat) (m:Mem) (j:Nat) (acc:List V) (L:List (Nat × Nat)):Prop
 | first (h:j=0) (hc:Cells m acc N.combs) (w:WOk es R N.sk L) (n:L.length≤12+N.states.length)
 | done (h:0<j) (e:acc=[]) (w:Words N es R L)
theorem ar54 {a l T:Nat} (h:a+l≤T) (q:T≤10):l<2^30:=by omega
theorem ar55 {a l T L j:Nat} (h:a+l≤T) (q:T≤10) (hL:L≤2+a+j) (hj:j<l):L<1000000:=by omega
theorem ar56 {n c k L:Nat} (h:n≤c) (z:c<800000) (hk:k<n) (hL:L≤12+k):L<1000000:=by omega
theorem ar57 {n s c k L:Nat} (h:n≤c) (q:s≤10) (z:c<800000) (hk:k<n) (hL:L≤12+s+k):L<1000000:=by omega
theorem ar58 {L a:Nat} (h:L≤2+a) (q:a≤10):L≤12:=by omega
theorem ar59 {n c:Nat} (h:n≤c) (z:c<800000):n<2^30:=by omega
section
variable {G:GC}{r:Nat}{Ψ:Addr→Mem→Prop}{m:Mem}{pd:Addr}{v:V}{N:NetA}{es:List (K × V)}{R:Nat}{Φ:V→Mem→Prop}
theorem law_words (hG:G.Ok) (hr:3≤r) (hN:NetR m v N) (W:WNet N) (hp:m pd=some (.dict es)) (hes:∀ k∈N.keysL,WordAt es R k)
  (h:∀ m' l L,m l=none→m' l=some (.dict (dN L))→Words N es R L→Gr m m'→Φ (.ref l) m'):callW G r Ψ (.ref 383) [v,.ref pd,.int ((2^R - 1:Nat):Int)] m Φ:=by
 have hsk:N.sk.length≤10:=by have e:=congrArg List.length (sk_snd N);rw [List.length_map] at e;rw [e];exact W.6
 have hsk2:(N.ins.flatMap portSK).length+N.states.length≤10:=by unfold NetA.sk at hsk;rw [List.length_append,List.length_map] at hsk;exact hsk
 have hsk3:=Nat.le_trans (Nat.le_add_right _ _) hsk2
 have ndS:(0::1::N.sk.map (·.1)).Nodup:=by
  rw [sk_fst]
  exact (List.nodup_append.mp (show ((0::1::N.srcs)++N.combs.map (·.out)).Nodup from W.1)).1
 have hsl:N.states.length≤N.cells.length:=List.length_filter_le _ _
 have hcl:N.combs.length≤N.cells.length:=List.length_filter_le _ _
 refine hN.elp fun o nm vi vo vc bi bo hpl a hpi hpo hcs hN=>callW.any (run383 hG hr (s_asg (new_go fun l m1 n1 k1 g1=>a_nm (s_for ((a.keep g1).aI ?_)))))
 have k1:m1 l=some (.dict (dN [(0,0),(1,2^R - 1)])):=k1
 refine for_go (T:=(Option V × Option V × Option V) × List (Nat × Nat)) (F:=fun t=>[some (.ref o.x),some (.ref pd),some (.int ((2^R - 1:Nat):Int)),some (.ref l),t.1.1,t.1.2.1,t.1.2.2,none,none,none,none]) (x0:=((none,none,none),[(0,0),(1,2^R - 1)])) (iter_list (g1 a.3))
  (fun k t μ=>A4 (Up l m1 μ) (μ l=some (.dict (dN t.2))) (WOk es R ((N.ins.take k).flatMap portSK) t.2) (t.2.length≤2+((N.ins.take k).flatMap portSK).length)) (fun zz zz zz q=>q.1 (fresh_ne n1 a.3).symm (g1 a.3))
  ⟨fun zz zz zz e=>e,k1,⟨rfl,rfl,fun zz h=>nomatch h⟩,Nat.le_refl 2⟩ (fun k t m2 w Ψ' hv q hΨ=>?_) fun t m2 q=>?_
 ·have gq:Gr m m2:=g1.set n1 q.1
  refine hpi.get hv fun p b tp hpp hb ht hbl=>t_tup2 (gq ht) ?_
  have hf:=flat_le portSK hpp
  rw [portSK_len] at hf
  have hrg:=ar54 hf hsk3
  refine s_for (len_l (gq hbl) (natL_len _) (w_range hrg fun ra m3 n3 k3 g3=>?_))
  have ral:=fresh_ne n3 q.2
  refine for_range (T:=Option V × List (Nat × Nat)) (F:=fun y=>[some (.ref o.x),some (.ref pd),some (.int ((2^R - 1:Nat):Int)),some (.ref l),some (.str p.1),some (.ref b),y.1,none,none,none,none]) (x0:=(t.1.2.2,t.2)) k3 hrg
   (fun j y μ=>A4 (Up l m3 μ) (μ l=some (.dict (dN y.2))) (WOk es R ((N.ins.take k).flatMap portSK++(portSK p).take j) y.2) (y.2.length≤2+((N.ins.take k).flatMap portSK).length+j)) (fun zz zz zz z=>z.1 ral k3)
   ⟨fun zz zz zz e=>e,g3 q.2,(List.append_nil _).symm▸q.3,q.4⟩ (fun j y m4 Ψ2 hj z hΨ2=>?_) fun y m4 z=>hΨ ((_,_,y.1),y.2) m4 ⟨q.1.trans (g3.up.trans z.1),z.2,?_,?_⟩
  ·have gz:Gr m m4:=(gq.trans g3).set n1 z.1
   have hnj:=List.getElem?_eq_getElem hj
   have hsp:=sk_in hpp hnj
   obtain ⟨wn,hw1,hw2⟩:=hes _ (sk_key hsp)
   refine s_asg (w_tup (nb rfl) fun t5 m5 n5 k5 g5=>it_d (g5 (gz hp)) (keyOf_tup k5 rfl) hw1 (it_l (g5 (gz hbl)) (natL_at hnj) (setD_go (g5 z.2) keyInt (by rw [dN_len];exact ar55 hf hsk3 z.4 hj) fun m6 d6 u6=>hΨ2 (_,putN p.2[j] wn y.2) m6 ⟨z.1.trans (g5.up.trans u6),by rw [←dput_dN];exact d6,?_,Nat.le_trans (putN_len _ _ _) (Nat.succ_le_succ z.4)⟩)))
   rw [take_snoc (portSK_at hnj),←List.append_assoc]
   exact z.3.add hw1 hw2 (sk_new ndS hsp)
  ·have z3:=z.3
   rw [←portSK_len,List.take_length] at z3
   rw [flat_take portSK hpp]
   exact z3
  ·rw [flat_take portSK hpp,List.length_append,portSK_len,←Nat.add_assoc]
   exact z.4
 have gq:Gr m m2:=g1.set n1 q.1
 have q3:=q.3
 have q4:=q.4
 rw [hpi.len,List.take_length] at q3 q4
 refine s_for (law_states hG (pr hr rfl) (hN.keep gq) (Nat.lt_trans W.5 (nb rfl)) fun m3 ls vs n3 k3 hvs g3=>?_)
 have lsl:=fresh_ne n3 q.2
 have kl3:=g3 q.2
 refine for_go (T:=Option V × List (Nat × Nat)) (F:=fun y=>[some (.ref o.x),some (.ref pd),some (.int ((2^R - 1:Nat):Int)),some (.ref l),t.1.1,t.1.2.1,t.1.2.2,y.1,none,none,none]) (x0:=(none,t.2)) (iter_list k3)
  (fun k y μ=>A4 (Up l m3 μ) (μ l=some (.dict (dN y.2))) (WOk es R (N.ins.flatMap portSK++(N.states.take k).map fun c=>(c.out,.str (qn c.par))) y.2) (y.2.length≤12+k)) (fun zz zz zz z=>z.1 lsl k3)
  ⟨fun zz zz zz e=>e,kl3,(List.append_nil _).symm▸q3,ar58 q4 hsk3⟩ (fun k y m4 w Ψ' hv z hΨ=>?_) fun y m4 z=>?_
 ·have gz:Gr m m4:=(gq.trans g3).set n1 z.1
  have tz:=z.1.tups kl3 rfl
  refine hvs.get hv fun c tc b p hcc ht hb hpar=>?_
  have hsp:=sk_st hcc
  obtain ⟨wn,hw1,hw2⟩:=hes _ (sk_key hsp)
  refine s_asg (it_t (k:=3) (tz ht) rfl (par_q (hpar.keep tz) (W.4 c (List.mem_of_getElem? hcc)) (it_d (gz hp) rfl hw1 (it_t (k:=1) (tz ht) rfl (setD_go z.2 keyInt (by rw [dN_len];exact ar56 hsl W.5 (at_lt hcc) z.4) fun m6 d6 u6=>hΨ (_,putN c.out wn y.2) m6 ⟨z.1.trans u6,by rw [←dput_dN];exact d6,?_,Nat.le_trans (putN_len _ _ _) (Nat.succ_le_succ z.4)⟩)))))
  rw [take_snoc hcc,List.map_append,←List.append_assoc]
  exact z.3.add hw1 hw2 (sk_new ndS hsp)
 have gz:Gr m m4:=(gq.trans g3).set n1 z.1
 have W4:=z.3
 have L4:=z.4
 rw [hvs.1] at L4
 rw [hvs.1,List.take_length] at W4
 refine s_asg (e_comp quiet_no ((a.keep gz).aC (comp_if (iter_list (gz a.5)) (fun k acc μ=>A2 (Gr m4 μ) (Cells μ acc ((N.cells.take k).filter fun c=>!c.kd.state))) (fun zz zz zz q=>q.1 (gz a.5)) ⟨.refl,.nil⟩ (fun k acc m5 w Ψ' hv q hΨ=>?_) fun acc m5 q lf m6 n6 k6 g6=>?_)))
 ·revert hΨ
  refine hcs.get hv fun c tc b p hc ht hb hpar hΨ=>cd_go (it_t (k:=0) (q.1 (gz ht)) rfl (w_list (nb rfl) fun ql m6 n6 k6 g6=>notin_states (kd:=c.kd) k6 ?_))
  have g:=q.1.trans g6
  have e:=filt_take (p:=fun c:Cell=>!c.kd.state) hc
  refine ite_b (fun hs=>⟨?_,hΨ _ m6 ⟨g,?_⟩⟩) fun hs=>hΨ _ m6 ⟨g,?_⟩
  ·rw [q.2.1]
   exact Nat.lt_of_le_of_lt (List.length_filter_le _ _) (Nat.lt_of_le_of_lt (List.length_take_le' _ _) (Nat.lt_trans W.5 (nb rfl)))
  ·rw [e,hs]
   exact (q.2.keep g6.tups).snoc ⟨tc,b,p,rfl,g (gz ht),g (gz hb),hpar.keep (gz.trans g).tups⟩
  ·rw [e,hs]
   exact (List.append_nil _).symm▸q.2.keep g6.tups
 have hacc:=q.2
 rw [hcs.len,List.take_length] at hacc
 have hacc:Cells m6 acc N.combs:=hacc.keep g6.tups
 have g46:=q.1.trans g6
 have kl6:=g46 z.2
 have hrg:=ar59 hcl W.5
 refine a_nm (s_for (len_l k6 hacc.1 (w_range hrg fun ra m7 n7 k7 g7=>?_)))
 have kl7:=g7 kl6
 have ral:=fresh_ne n7 kl6
 have g07:=(gz.trans g46).trans g7
 refine for_range (T:=(Option V × Option V × Option V) × Addr × List V × List (Nat × Nat)) (F:=fun x=>[some (.ref o.x),some (.ref pd),some (.int ((2^R - 1:Nat):Int)),some (.ref l),t.1.1,t.1.2.1,t.1.2.2,x.1.1,some (.ref x.2.1),x.1.2.1,x.1.2.2]) (x0:=((y.1,none,none),lf,acc,y.2)) k7 hrg
  (fun j x μ=>A4 (Up l m7 μ) (μ l=some (.dict (dN x.2.2.2))) (μ x.2.1=some (.list x.2.2.1)) (PS N es R μ j x.2.2.1 x.2.2.2)) (fun zz zz zz q=>q.1 ral k7)
  ⟨fun zz zz zz e=>e,kl7,g7 k6,.first rfl (hacc.keep g7.tups) W4 L4⟩ (fun j x m8 Ψ' hj q hΨ=>?_) fun x m8 q=>s_ret (h m8 l x.2.2.2 n1 q.2 ?_ (g07.set n1 q.1))
 ·refine s_asg (w_list (nb rfl) fun ag m9 n9 k9 g9=>a_nm (s_for ?_))
  have kl9:=g9 q.2
  have klf:=g9 q.3
  have fin:∀ (x7:Option V) m10 L',Up l m9 m10→m10 l=some (.dict (dN L'))→Words N es R L' →
    semB ⟨G,r - 1,noΨ⟩ (.cons (.asg (.name 8) (.var 10)) .nil) ⟨[some (.ref o.x),some (.ref pd),some (.int ((2^R - 1:Nat):Int)),some (.ref l),t.1.1,t.1.2.1,t.1.2.2,x7,some (.ref x.2.1),some (.int j),some (.ref ag)],m10⟩ Ψ':=fun x7 m10 L' u k10 WL =>
   s_asg (a_nm (hΨ ((x7,some (.int j),some (.ref ag)),ag,[],L') m10 ⟨q.1.trans (g9.up.trans u),k10,u (mn k9 kl9 rfl) k9,.done (Nat.succ_pos _) rfl WL⟩))
  have hps:=q.4
  cases hps with
  | done hj e WL =>
   refine for_go (T:=Unit) (F:=fun zz=>[some (.ref o.x),some (.ref pd),some (.int ((2^R - 1:Nat):Int)),some (.ref l),t.1.1,t.1.2.1,t.1.2.2,x.1.1,some (.ref x.2.1),some (.int j),some (.ref ag)]) (x0:=()) (iter_list klf) (fun zz zz μ=>μ=m9) (fun zz zz zz z=>z▸klf) rfl (fun k zz m10 w Ψ2 hv z hΨ2=>noS rfl (e▸hv)) fun zz m10 z=>fin _ m10 x.2.2.2 (z▸fun zz zz zz e=>e) (z▸kl9) WL
  | first hj0 hacc8 W8 L8 =>
   have hacc9:=hacc8.keep g9.tups
   refine for_go (T:=Option V × List (Nat × Nat)) (F:=fun y=>[some (.ref o.x),some (.ref pd),some (.int ((2^R - 1:Nat):Int)),some (.ref l),t.1.1,t.1.2.1,t.1.2.2,y.1,some (.ref x.2.1),some (.int j),some (.ref ag)]) (x0:=(x.1.1,x.2.2.2)) (iter_list klf)
    (fun k y μ=>A5 (Up l m9 μ) (μ l=some (.dict (dN y.2))) (WOk es R N.sk y.2) (CDone N R k y.2) (y.2.length≤12+N.states.length+k)) (fun zz zz zz z=>z.1 (mn klf kl9 rfl) klf)
    ⟨fun zz zz zz e=>e,kl9,W8,fun zz zz h=>absurd h (Nat.not_lt_zero _),L8⟩ (fun k y m10 w Ψ2 hv z hΨ2=>?_) fun y m10 z=>fin y.1 m10 y.2 z.1 z.2 ⟨z.3,hacc8.1▸z.4⟩
   have tz:=z.1.tups kl9 rfl
   refine hacc9.get hv fun c tc b p hcc ht hb hpar=>?_
   have hok:=W.3 c (List.mem_of_getElem? hcc)
   have hl3:=combOk_len hok
   have hx:c.ins.length<1000000:=Nat.lt_of_le_of_lt hl3 (nb rfl)
   have hkn:∀ q∈c.ins,Kn R y.2 q:=fun q hq=>known z.3 z.4 (W.2 k c hcc q hq)
   refine s_if (e_comp quiet_no (it_t (k:=2) (tz ht) rfl (comp_nats (g:=fun zz=>.bool true) (iter_tup (tz hb)) (tz hb) hx (fun n Ψ3 hn hΨ3=>in_d z.2 keyInt (by
    obtain ⟨wn,hwn,_⟩:=hkn n hn
    rw [dhas_dN,hwn];exact hΨ3)) fun bl m11 n11 k11 g11=>false_in_trues (n:=c.ins.length) (by rw [←List.map_const'];exact k11) (if_f (s_asg ?_)))))
   refine it_t (k:=0) (g11 (tz ht)) rfl (it_t (k:=3) (g11 (tz ht)) rfl (law_table hG (pr hr rfl) hok ((hpar.keep tz).keep g11.tups) fun m12 g12=>e_comp quiet_no (it_t (k:=2) (g12 (g11 (tz ht))) rfl (comp_nats (g:=fun q=>.int (val y.2 q)) (iter_tup (g12 (g11 (tz hb)))) (g12 (g11 (tz hb))) hx (fun n Ψ3 hn hΨ3=>it_d (g12 (g11 z.2)) keyInt (by
    obtain ⟨wn,hwn,_⟩:=hkn n hn
    unfold val
    rw [hwn];exact dget_dN_at hwn) hΨ3) fun wl m13 n13 k13 g13=>?_))))
   have k13:m13 wl=some (.list (natL (c.ins.map (val y.2)))):=by
    unfold natL
    rw [List.map_map];exact k13
   refine law_word hG (pr hr rfl) k13 (fun w hw=>?_) (by rw [List.length_map];exact hl3) fun m14 n hn hbits g14=>?_
   ·obtain ⟨q,hq,rfl⟩:=List.mem_map.mp hw
    obtain ⟨wn,hwn,hlt⟩:=hkn q hq
    unfold val
    rw [hwn];exact hlt
   ·have g1014:=((g11.trans g12).trans g13).trans g14
    refine it_t (k:=1) (g1014 (tz ht)) rfl (setD_go (g1014 z.2) keyInt (by rw [dN_len];exact ar57 hcl (Nat.le_trans (Nat.le_add_left _ _) hsk2) W.5 (at_lt hcc) z.5) fun m15 d15 u15=>s_nil (hΨ2 (_,putN c.out n y.2) m15 ⟨z.1.trans (g1014.up.trans u15),by rw [←dput_dN];exact d15,z.3.keep ?_,z.4.step W hcc hn fun i hi=>by rw [hbits i hi,List.map_map];rfl,Nat.le_trans (putN_len _ _ _) (Nat.succ_le_succ z.5)⟩))
    rw [sk_fst]
    exact fun e=>out_ne (Sg:=N.srcs) hcc W.1 (Dn_sub (as:=[]) (List.nil_subset _) (by unfold Dn;rw [List.map_nil,List.append_nil];exact e)) rfl
 ·have hps:=q.4
  cases hps with
  | first h0 _ W7 _=>exact ⟨W7,fun j c hj hc=>absurd hj (h0▸Nat.not_lt_zero _)⟩
  | done _ _ WL=>exact WL
end
noncomputable def LTs (m m':Mem):Prop:=A2 (∀ ⦃a xs⦄,m a=some (.list xs)→m' a=some (.list xs)) (Tups m m')
theorem Gr.lts {m m':Mem} (g:Gr m m'):LTs m m':=⟨fun zz zz e=>g e,g.tups⟩
theorem Up.lts {m m':Mem}{a:Addr}{es:List (K × V)} (u:Up a m m') (h:m a=some (.dict es)):LTs m m':=⟨fun zz zz e=>u (mn e h rfl) e,u.tups h rfl⟩
mutual
theorem RD.keep {m m':Mem} (s:LTs m m'):∀ {v:V}{d:PyData},RD m v d→RD m' v d
 | _,_,.none=>.none
 | _,_,.bool b=>.bool b
 | _,_,.int i=>.int i
 | _,_,.str x=>.str x
 | _,_,.list hm hs=>.list (s.1 hm) (RDs.keep s hs)
 | _,_,.tup hm hs=>.tup (s.2 hm) (RDs.keep s hs)
theorem RDs.keep {m m':Mem} (s:LTs m m'):∀ {vs:List V}{ds:List PyData},RDs m vs ds→RDs m' vs ds
 | _,_,.nil=>.nil
 | _,_,.cons h t=>.cons (RD.keep s h) (RDs.keep s t)
end
theorem RDs.snoc {m:Mem}:∀ {vs:List V}{ds:List PyData}{v:V}{d:PyData},RDs m vs ds→RD m v d→RDs m (vs++[v]) (ds++[d])
 | _,_,_,_,.nil,h=>.cons h .nil
 | _,_,_,_,.cons a b,h=>.cons a (RDs.snoc b h)
theorem RDs.words {m:Mem}{L:List (Nat × Nat)}:∀ l:List Nat,RDs m (l.map fun q=>.int (val L q:Nat)) (l.map fun n=>.int (val L n:Nat))
 | []=>.nil
 | a::l=>.cons (.int _) (RDs.words l)
theorem RDs.len {m:Mem}:∀ {vs:List V}{ds:List PyData},RDs m vs ds→vs.length=ds.length
 | _,_,.nil=>rfl
 | _,_,.cons _ b=>congrArg (·+1) (RDs.len b)
noncomputable def parD:Par→PyData
 | .none=>.none
 | .tab n=>.int n
 | .cel n=>.none
 | .flop e q i=>.tuple [.int e,.str (qName q),.int i]
 | .latch q i=>.tuple [.str (qName q),.int i]
theorem parRD {m:Mem}{v:V}{c:Cell} (hs:stOk c) (h:ParAt m v c.par):RD m v (parD c.par):=by
 cases hs with
 | flop e q i hc =>
  rw [hc] at h ⊢
  obtain ⟨a,rfl,ha⟩:=h
  exact .tup ha (.cons (.int e) (.cons (.str _) (.cons (.int i) .nil)))
 | latch q i hc =>
  rw [hc] at h ⊢
  obtain ⟨a,rfl,ha⟩:=h
  exact .tup ha (.cons (.str _) (.cons (.int i) .nil))
noncomputable def wordsD (L:List (Nat × Nat)) (l:List Nat):PyData:=.list (l.map fun n=>.int (val L n:Nat))
noncomputable def portD (L:List (Nat × Nat)) (p:Str × List Nat):PyData:=.tuple [.str p.1,wordsD L p.2]
noncomputable def stateD (L:List (Nat × Nat)) (c:Cell):K × PyData:=(.str (qn c.par),.tuple [.str c.kd.str,parD c.par,wordsD L c.ins])
noncomputable def ED (m:Mem) (es:List (K × V)) (E:List (K × PyData)):Prop:=A2 (es.map (·.1)=E.map (·.1)) (RDs m (es.map (·.2)) (E.map (·.2)))
theorem ED.keep {m m':Mem} (s:LTs m m') {es:List (K × V)}{E:List (K × PyData)} (h:ED m es E):ED m' es E:=⟨h.1,h.2.keep s⟩
theorem ED.snoc {m:Mem}{es:List (K × V)}{E:List (K × PyData)}{k:K}{v:V}{d:PyData} (h:ED m es E) (q:RD m v d):ED m (es++[(k,v)]) (E++[(k,d)]):=by
 refine ⟨by rw [List.map_append,List.map_append,h.1];rfl,?_⟩
 rw [List.map_append,List.map_append]
 exact h.2.snoc q
theorem ED.len {m:Mem}{es:List (K × V)}{E:List (K × PyData)} (h:ED m es E):es.length=E.length:=by
 have:=congrArg List.length h.1
 rw [List.length_map,List.length_map] at this;exact this
inductive SinksAt (m0 m:Mem) (v:V) (D:List PyData) (E:List (K × PyData)):Prop
 | mk (t lp ds:Addr) (es:List (K × V)) (hv:v=.ref t) (ht:m t=some (.tup [.ref lp,.ref ds])) (hl:RD m (.ref lp) (.list D)) (hd:m ds=some (.dict es)) (he:ED m es E) (hn:m0 ds=none)
section
variable {G:GC}{r:Nat}{Ψ:Addr→Mem→Prop}{m:Mem}{pd:Addr}{v:V}{N:NetA}{es:List (K × V)}{R k:Nat}{c:Cell}{L:List (Nat × Nat)}{Φ:V→Mem→Prop}
theorem cp_go {X:PX}{elt cond:Ex}{t:Tg}{j:Nat}{ρ:List (Option V)}{Φ:V→St→Prop}{a:Addr}{mo:MO}{xs:List V} (hv:iterOf m v=some (a,mo,xs)) (h:compW a mo (semT X t) (condW (sem X cond).tru (sem X elt).val) xs [] ⟨ρ++List.replicate j none,m⟩ (madeW ρ Φ)):cpK X elt t cond j Φ v ⟨ρ,m⟩ :=
 ov_go (K:=fun a mo xs σ1=>compW a mo (semT X t) (condW (sem X cond).tru (sem X elt).val) xs [] ⟨σ1.ρ++List.replicate j none,σ1.m⟩ (madeW σ1.ρ Φ)) hv h
theorem st_new (hq:(N.states.map fun c=>qn c.par).Nodup) (hc:N.states[k]?=some c):K.str (qn c.par)∉((N.states.take k).map (stateD L)).map (·.1):=fun z=>by
 rw [List.map_map] at z
 obtain ⟨d,h1,h2⟩:=List.mem_map.mp z
 have e:=congrArg (List.map fun c:Cell=>qn c.par) (split_at' hc)
 rw [e,List.map_append,List.map_cons] at hq
 have h2:K.str (qn d.par)=K.str (qn c.par):=h2
 injection h2 with h2
 injection h2 with h2
 exact (List.nodup_append.mp hq).2.2 _ (List.mem_map_of_mem h1) _ (.head _) h2
theorem val_getD {q:Nat}{w:V} (h:Kn R L q):(dget (.int (q:Int)) (dN L)).getD w=.int (val L q:Nat):=by
 obtain ⟨n,h1,_⟩:=h
 unfold val
 rw [dget_dN_at h1,h1];rfl
theorem law_sinks (hG:G.Ok) (hr:5≤r) (hN:NetR m v N) (W:WNet N) (hp:m pd=some (.dict es)) (hes:∀ k∈N.keysL,WordAt es R k) (hkn:∀ q∈N.snks,q∈Dn N.srcs N.combs) (hq:(N.states.map fun c=>qn c.par).Nodup) (hsn:N.snks.length<100000) (hou:N.outs.length<1000)
  (h:∀ m' v L,Words N es R L→SinksAt m m' v (N.outs.map (portD L)) (N.states.map (stateD L))→Gr m m'→Φ v m'):callW G r Ψ (.ref 388) [v,.ref pd,.int ((2^R - 1:Nat):Int)] m Φ:=by
 have hsl:N.states.length≤N.cells.length:=List.length_filter_le _ _
 refine hN.elp fun o nm vi vo vc bi bo hpl a hpi hpo hcs hN=>callW.any (run388 hG hr (s_asg (law_words hG (pr hr rfl) hN W hp hes fun m1 wl L n1 kw WL g1=>a_nm (s_asg (e_comp quiet_no ((a.keep g1).aO (cp_go (iter_list (g1 a.4)) ?_)))))))
 have kn:∀ q∈N.snks,Kn R L q:=fun q hq=>known (k:=N.combs.length) WL.1 WL.2 (by rw [List.take_length];exact hkn q hq)
 refine compT (T:=Option V × Option V) (F:=fun x=>[some (.ref o.x),some (.ref pd),some (.int ((2^R - 1:Nat):Int)),some (.ref wl),none,none,none,x.1,x.2]) (x0:=(none,none)) (fun k x acc μ=>A2 (Gr m1 μ) (RDs μ acc ((N.outs.take k).map (portD L)))) (fun zz zz zz zz q=>q.1 (g1 a.4)) ⟨.refl,.nil⟩ (fun k x acc m2 w Ψ' hv q hΨ=>?_) fun x acc m2 q=>new_go fun lp m3 n3 k3 g3=>a_nm ?_
 ·refine hpo.get hv fun p b tp hp' hb ht hbl=>?_
  have g:=g1.trans q.1
  have hpm:∀ z∈p.2,Kn R L z:=fun z hz=>kn z (List.mem_append_left _ (List.mem_flatMap.mpr ⟨p,List.mem_of_getElem? hp',hz⟩))
  have hpl:p.2.length<1000000:=Nat.lt_of_le_of_lt (Nat.le_trans (Nat.le_add_left _ _) (Nat.le_trans (flat_le (·.2) hp') (by unfold NetA.snks;rw [List.length_append];exact Nat.le_add_right _ _))) (b6'' hsn)
  refine t_tup2 (g ht) (cd_go (e_comp quiet_no (comp_nats (g:=fun q=>.int (val L q:Nat)) (iter_list (g hbl)) (g hbl) hpl (fun n Ψ3 hn hΨ3=>isD (q.1 kw) (get_d (q.1 kw) keyInt (by rw [val_getD (hpm n hn)];exact hΨ3))) fun lw m3 n3 k3 g3=>w_tup (nb rfl) fun t4 m4 n4 k4 g4=>⟨?_,hΨ (_,_) _ m4 ⟨q.1.trans (g3.trans g4),?_⟩⟩)))
  ·rw [q.2.len,List.length_map]
   exact Nat.lt_of_le_of_lt (List.length_take_le' _ _) (b6 hou)
  ·rw [take_snoc hp',List.map_append]
   exact (q.2.keep (g3.trans g4).lts).snoc (.tup k4 (.cons (.str _) (.cons (.list (g4 k3) (RDs.words _)) .nil)))
 have q2:=q.2
 rw [hpo.len,List.take_length] at q2
 have gq:=(g1.trans q.1).trans g3
 refine s_asg (new_go fun ds m4 n4 k4 g4=>a_nm (s_for (law_states hG (pr hr rfl) (hN.keep (gq.trans g4)) (Nat.lt_trans W.5 (nb rfl)) fun m5 ls vs n5 k5 hvs g5=>?_)))
 have k4:m4 ds=some (.dict []):=k4
 have kd5:=g5 k4
 have kw3:=(q.1.trans g3) kw
 have dsw:=fresh_ne n4 kw3
 have kw5:=g5 (g4 kw3)
 have lsd:=fresh_ne n5 k4
 have hD5:RD m5 (.ref lp) (.list (N.outs.map (portD L))):=.list (g5 (g4 k3)) (q2.keep ((g3.trans g4).trans g5).lts)
 have g05:=(gq.trans g4).trans g5
 have nds:=gq.old n4
 refine for_go (T:=Option V × List (K × V)) (F:=fun y=>[some (.ref o.x),some (.ref pd),some (.int ((2^R - 1:Nat):Int)),some (.ref wl),some (.ref lp),some (.ref ds),y.1]) (x0:=(none,[])) (iter_list k5)
  (fun k y μ=>A3 (Up ds m5 μ) (μ ds=some (.dict y.2)) (ED μ y.2 ((N.states.take k).map (stateD L)))) (fun zz zz zz z=>z.1 lsd k5)
  ⟨fun zz zz zz e=>e,kd5,rfl,.nil⟩ (fun k y m6 w Ψ' hv z hΨ=>?_) fun y m6 z=>?_
 ·have tz:=z.1.tups kd5 rfl
  refine hvs.get hv fun c tc b p hcc ht hb hpar=>?_
  have hso:=W.4 c (List.mem_of_getElem? hcc)
  have hcm:∀ z∈c.ins,Kn R L z:=fun z hz=>kn z (List.mem_append_right _ (List.mem_flatMap.mpr ⟨c,List.mem_of_getElem? hcc,hz⟩))
  have hcl:c.ins.length<1000000:=Nat.lt_of_le_of_lt (Nat.le_trans (Nat.le_add_left _ _) (Nat.le_trans (flat_le (·.ins) hcc) (by unfold NetA.snks;rw [List.length_append];exact Nat.le_add_left _ _))) (b6'' hsn)
  have kw6:=z.1 dsw.symm kw5
  have hel:y.2.length<1000000:=by
   rw [z.3.len,List.length_map]
   exact Nat.lt_of_le_of_lt (List.length_take_le' _ _) (Nat.lt_of_le_of_lt hsl (Nat.lt_trans W.5 (nb rfl)))
  refine s_asg (it_t (k:=0) (tz ht) rfl (it_t (k:=3) (tz ht) rfl (e_comp quiet_no (it_t (k:=2) (tz ht) rfl (comp_nats (g:=fun q=>.int (val L q:Nat)) (iter_tup (tz hb)) (tz hb) hcl (fun n Ψ3 hn hΨ3=>isD kw6 (get_d kw6 keyInt (by rw [val_getD (hcm n hn)];exact hΨ3))) fun lw m7 n7 k7 g7=>w_tup (nb rfl) fun t8 m8 n8 k8 g8 =>
   it_t (k:=3) (g8 (g7 (tz ht))) rfl (par_q ((hpar.keep tz).keep (g7.trans g8).tups) hso (setD_go (g8 (g7 z.2)) (key:=.str (qn c.par)) rfl hel fun m9 d9 u9=>hΨ (_,y.2++[(.str (qn c.par),.ref t8)]) m9 ⟨z.1.trans ((g7.trans g8).up.trans u9),?_,?_⟩)))))))
  ·rw [←dput_new (show K.str (qn c.par)∉y.2.map (·.1) by rw [z.3.1];exact st_new hq hcc)]
   exact d9
  ·rw [take_snoc hcc,List.map_append]
   have l9:=u9.lts (g8 (g7 z.2))
   exact ((z.3.keep (g7.trans g8).lts).keep l9).snoc (RD.keep l9 (.tup k8 (.cons (.str _) (.cons (parRD hso ((hpar.keep tz).keep (g7.trans g8).tups)) (.cons (.list (g8 k7) (RDs.words _)) .nil)))))
 have z3:=z.3
 rw [hvs.1,List.take_length] at z3
 exact s_ret (w_tup (nb rfl) fun t7 m7 n7 k7 g7=>h m7 _ L WL ⟨t7,lp,ds,y.2,rfl,k7,(hD5.keep (z.1.lts kd5)).keep g7.lts,g7 z.2,z3.keep g7.lts,nds⟩ ((g05.set nds z.1).trans g7))
end
inductive GenC (base:Nat) (cs:List Cell):Prop
 | mk (out:∀ (k:Nat) c,cs[k]?=some c→c.out=base+k) (ok:∀ c∈cs,combOk c.kd c.par c.ins.length) (ins:∀ (k:Nat) c,cs[k]?=some c→∀ q∈c.ins,q<base+k)
inductive GSt (c:Cell) (k:Nat):Prop
 | flop (e i:Nat) (h1:c.kd=.flop) (h2:c.par=.flop e k i)
 | latch (i:Nat) (h1:c.kd=.latch) (h2:c.par=.latch k i)
inductive GenS (n0 cnt:Nat) (ss:List Cell):Prop
 | mk (out:∀ (k:Nat) c,ss[k]?=some c→c.out=n0+k) (ok:∀ (k:Nat) c,ss[k]?=some c→GSt c k) (len:∀ c∈ss,c.ins.length=4) (ins:∀ c∈ss,∀ q∈c.ins,q<cnt)
noncomputable def genIns (wa wb:Nat):List (Str × List Nat):=[(ofString "a",List.range' 2 wa),(ofString "b",List.range' (2+wa) wb)]
inductive Wd (wa wb h n:Nat):Prop
 | mk (a1:1≤wa) (a2:wa≤2) (b1:1≤wb) (b2:wb≤2) (h2:h≤2) (n2:n≤10)
inductive Gen (N:NetA) (wa wb h:Nat) (cs ss:List Cell) (ly lz:List Nat):Prop
 | mk (w:Wd wa wb h cs.length) (ins:N.ins=genIns wa wb) (cells:N.cells=cs++ss) (cok:GenC (2+wa+wb+h) cs) (sok:GenS (2+wa+wb) (2+wa+wb+h+cs.length) ss) (sl:ss.length=h) (count:N.count=2+wa+wb+h+cs.length)
  (outs:N.outs=[(ofString "y",ly),(ofString "z",lz)]) (ly1:ly.length≤3) (ly2:∀ q∈ly,q<N.count) (lz1:lz.length=1) (lz2:∀ q∈lz,q<N.count)
noncomputable def kindsL:List Kd:=[.and,.not,.mux,.xor,.or,.buf,.lut,.nand,.nor,.xnor,.cell]
noncomputable def kindsV:List V:=kindsL.map fun k=>.str k.str
inductive LN (m:Mem) (h hc:Addr) (o:NetO) (pa:Addr) (nm:V) (N:NetA) (bi bo:List Addr):Prop
 | mk (H:HandOk m h hc) (x:NetAt m o nm N bi bo) (p:m pa=some (.list (natL (List.range N.count)))) (lo:0<N.count) (hi:N.count<900) (pb:pa∉bi++bo)
inductive LNs (m0:Mem) (h hc:Addr) (o:NetO) (pa:Addr):Prop
 | mk (hx:h≠o.x) (ha:h∉o.all) (hp:h≠pa) (cx:hc≠o.x) (ca:hc∉o.all) (cp:hc≠pa) (px:pa≠o.x) (pall:pa∉o.all) (ox:m0 o.x=none) (oa:∀ a∈o.all,m0 a=none) (p0:m0 pa=none)
theorem Ports.nat {m:Mem}{o:NetO}{vs:List V}{ps:List (Str × List Nat)}{bs:List Addr} (h:Ports m o vs ps bs) {b:Addr} (hb:b∈bs):∃ l:List Nat,m b=some (.list (natL l)):=by
 obtain ⟨k,hk⟩:=List.mem_iff_getElem?.mp hb
 have hp:k<ps.length:=h.1▸at_lt hk
 refine All2.at h.2 (List.getElem?_zip_eq_some (z:=(ps[k],b)).mpr ⟨List.getElem?_eq_getElem hp,hk⟩) fun v zz hv=>?_
 obtain ⟨_,_,_,e⟩:=hv
 exact ⟨_,e⟩
section
variable {G:GC}{r:Nat}{Ψ:Addr→Mem→Prop}{m0 m m':Mem}{h hc pa:Addr}{o:NetO}{nm:V}{N:NetA}{bi bo:List Addr}
theorem LN.upH (x:LN m h hc o pa nm N bi bo) (s:LNs m0 h hc o pa) (H':HandOk m' h hc) (u:Up h m m'):LN m' h hc o pa nm N bi bo:=by
 have H:=x.1
 obtain ⟨cs,p,cur,seed,zz,h1,_,_,_⟩:=H
 have hb:h∉bi++bo:=fun z=>by
  have y:=x.2
  obtain ⟨vi,vo,vc,a,hpi,hpo,hcs⟩:=y
  have no:∀ {vs ps bs},Ports m o vs ps bs→h∈bs→False:=fun q z=>by
   obtain ⟨l,e⟩:=q.nat z
   exact ls_ne e h1 natL_ne_hand rfl
  exact (List.mem_append.mp z).elim (no hpi) (no hpo)
 exact ⟨H',x.2.off u (u.tups h1 rfl) s.1 s.2 hb,u s.3.symm x.3,x.4,x.5,x.6⟩
theorem ln_pick (hG:G.Ok) (hr:1≤r) {Φ:V→Mem→Prop}{lim:Nat} (x:LN m h hc o pa nm N bi bo) (s:LNs m0 h hc o pa) (hl:0<lim∧lim<2^30) (k:∀ m' (n:Nat),n<lim→LN m' h hc o pa nm N bi bo→Up h m m'→Φ (.int n) m'):callW G r Ψ (.ref 342) [.ref h,.int lim] m Φ :=
 law_pick hG hr x.1 hl fun m' n hn H' u=>k m' n hn (x.upH s H' u) u
theorem ln_near (hG:G.Ok) (hr:2≤r) {Φ:V→Mem→Prop} (x:LN m h hc o pa nm N bi bo) (s:LNs m0 h hc o pa) (k:∀ m' (n:Nat),n<N.count→LN m' h hc o pa nm N bi bo→Up h m m'→Φ (.int n) m'):callW G r Ψ (.ref 356) [.ref h,.ref pa] m Φ :=
 law_near hG hr x.1 x.3 (by rw [List.length_range];exact ⟨x.4,Nat.lt_trans x.5 (nb rfl)⟩) fun m' n hn H' u=>k m' n (List.mem_range.mp hn) (x.upH s H' u) u
theorem LN.gr (x:LN m h hc o pa nm N bi bo) (g:Gr m m'):LN m' h hc o pa nm N bi bo:=⟨x.1.gr g,x.2.gr g,g x.3,x.4,x.5,x.6⟩
inductive NL (N:NetA) (w:Nat) (acc:List V):Prop
 | mk (l:List Nat) (e:acc=natL l) (n:l.length=w) (q:∀ z∈l,z<N.count)
theorem cw_go {ρ:List (Option V)}{ra:Addr}{w i j:Nat}{elt:Ex}{Φ:V→St→Prop} (x:LN m h hc o pa nm N bi bo) (hw:w<1000) (kr:m ra=some (.range 0 (w:Nat) 1))
  (he:∀ u m' (Ψ':V→St→Prop),LN m' h hc o pa nm N bi bo→(∀ m'' (n:Nat),n<N.count→LN m'' h hc o pa nm N bi bo→Up h m' m''→Ψ' (.int n) ⟨put (ρ++List.replicate j none) i u,m''⟩)→(sem ⟨G,r,noΨ⟩ elt).val ⟨put (ρ++List.replicate j none) i u,m'⟩ Ψ')
  (k:∀ (l:List Nat) la m',l.length=w→(∀ q∈l,q<N.count)→LN m' h hc o pa nm N bi bo→m la=none→m' la=some (.list (natL l))→Up h m m'→Φ (.ref la) ⟨ρ,m'⟩):cpK ⟨G,r,noΨ⟩ elt (.name i) (.bool true) j Φ (.ref ra) ⟨ρ,m⟩:=by
 have H:=x.1
 obtain ⟨cs,p,cur,seed,zz,h1,_,_,_⟩:=H
 refine comp_go (iter_range kr (b30 hw)) (by rw [range_len];exact b6 hw) (fun j acc μ=>A3 (LN μ h hc o pa nm N bi bo) (Up h m μ) (NL N j acc)) (fun zz zz zz q=>q.2 (mn kr h1 rfl) kr) ⟨x,fun zz zz zz e=>e,[],rfl,rfl,fun zz h=>nomatch h⟩ (fun j' acc m1 v Ψ' hv q hΨ=>he _ _ _ q.1 fun m2 n hn x2 u2=>hΨ _ m2 ⟨x2,q.2.trans u2,?_⟩) fun acc m1 q hl la m2 n2 k2 g2=>?_
 ·obtain ⟨l,e,hl,hq⟩:=q.3
  exact ⟨l++[n],by rw [natL_snoc,e],by rw [List.length_append,hl];rfl,fun z hz=>(List.mem_append.mp hz).elim (hq z) fun z=>List.mem_singleton.mp z▸hn⟩
 ·obtain ⟨l,e,hl,hq⟩:=q.3
  rw [range_len] at hl
  have H1:=q.1.1
  obtain ⟨_,_,_,_,_,e1,_,_,_⟩:=H1
  exact k l la m2 hl hq (q.1.gr g2) (q.2.old e1 n2) (e▸k2) (q.2.trans g2.up)
theorem LN.nh {a:Addr} (x:LN m h hc o pa nm N bi bo) (n:m a=none):a≠h:=by
 have H:=x.1
 obtain ⟨_,_,_,_,_,e1,_,_,_⟩:=H
 exact fresh_ne n e1
theorem HandOk.nh {a:Addr} (H:HandOk m h hc) (n:m a=none):a≠h:=by
 obtain ⟨_,_,_,_,_,e1,_,_,_⟩:=H
 exact fresh_ne n e1
theorem HandOk.nc {a:Addr} (H:HandOk m h hc) (n:m a=none):a≠hc:=by
 obtain ⟨_,_,_,_,_,_,e2,_,_⟩:=H
 exact fresh_ne n e2
end
noncomputable def combBody:Sxs:=match tln 4 ir361 with
 | .cons (.forS _ _ b) _=>b
 | _=>.nil
noncomputable def wide0:Kd→Nat
 | .not=>1
 | .buf=>1
 | .mux=>3
 | _=>2
noncomputable def isLC2:Kd→Bool
 | .lut=>true
 | .cell=>true
 | _=>false
noncomputable def d3:List (K × V):=dputs [(K.str (ofString "not"),V.int 1),(K.str (ofString "buf"),V.int 1),(K.str (ofString "mux"),V.int 3)] []
theorem d3_get (kd:Kd):(dget (K.str kd.str) d3).getD (.int 2)=.int (wide0 kd):=by cases kd <;> kernel_rfl
theorem in_lc {m:Mem}{a:Addr}{kd:Kd}{ρ:List (Option V)}{Φ:Bool→St→Prop} (hm:m a=some (.list [.str (ofString "lut"),.str (ofString "cell")])) (h:Φ (isLC2 kd) ⟨ρ,m⟩):cmpW .In (.str kd.str) (.ref a) ⟨ρ,m⟩ Φ:=by
 refine .i (.list a _ (.str kd.str) [.str (ofString "lut"),.str (ofString "cell")] rfl hm (.str _) (.cons (.str _) (.cons (.str _) .nil)) ?_ (by decide +kernel) (Nat.zero_le _) ?_)
 ·cases kd <;> decide +kernel
 ·have:([PyData.str (ofString "lut"),PyData.str (ofString "cell")].any fun y=>PyData.eqv y (PyData.str kd.str))=isLC2 kd:=by cases kd <;> decide +kernel
  rw [this];exact h
theorem kinds_el {n:Nat}{P:Prop} (h:n<11) (q:∀ kd∈kindsL,kindsV[n]?=some (.str kd.str)→P):P :=
 q kindsL[n] (List.getElem_mem h) (by unfold kindsV;rw [List.getElem?_map,List.getElem?_eq_getElem (show n<kindsL.length from h)];rfl)
theorem range_snoc (n:Nat):natL (List.range (n+1))=natL (List.range n)++[.int n]:=by rw [List.range_succ,natL_snoc]
theorem ar60 {n:Nat} (h:n<3):((1+n:Nat):Int)=1+(n:Int)∧1+n≤3:=by omega
theorem w_str {p:Int}{σ:St}{Φ:V→St→Prop} (hp:p.natAbs<2^60) (h:Φ (.str (ofString (toString p))) σ):biW .str [.int p] σ Φ:=by
 exact .i ⟨_,rfl,_,rfl,hp,h⟩
theorem bCat {x y:Str}{σ:St}{Φ:V→St→Prop} (hn:x.length+y.length≤1000000) (h:Φ (.str (x++y)) σ):binW .Add (.str x) (.str y) σ Φ:=by
 exact .str _ _ rfl rfl rfl hn h
theorem cLay {n:Nat} (h:n<256):(ofString "C").length+(ofString (toString (n:Int))).length≤1000000∧PyData.canLay0 (.str (ofString "C"++ofString (toString (n:Int))))=true:=by
 have h1:∀ n:Fin 256,(ofString (toString ((n.val:Nat):Int))).length≤10∧PyData.canLay0 (.str (ofString "C"++ofString (toString ((n.val:Nat):Int))))=true:=by decide +kernel
 have hc1:(ofString "C").length=1:=by decide +kernel
 exact ⟨hc1▸Nat.le_trans (Nat.add_le_add_left (h1 ⟨n,h⟩).1 1) (nb rfl),(h1 ⟨n,h⟩).2⟩
theorem p256 {n:Nat} (h:n≤3):2^2^n≤256:=Nat.pow_le_pow_right Nat.two_pos (Nat.pow_le_pow_right Nat.two_pos h)
theorem ar61 {n:Nat} (h:n≤3):2<2^60∧2^n≤1000000:=⟨nb rfl,Nat.le_trans (Nat.pow_le_pow_right Nat.two_pos h) (nb rfl)⟩
theorem ar62 {n:Nat} (h:n≤3):0<2^2^n∧2^2^n<2^30:=⟨Nat.two_pow_pos _,Nat.lt_of_le_of_lt (p256 h) (nb rfl)⟩
theorem ar63 {n k:Nat} (h:n≤3) (q:k<2^2^n):(k:Int).natAbs<2^60:=Nat.lt_of_lt_of_le (Nat.lt_of_lt_of_le q (p256 h)) (nb rfl)
theorem ar64 {n:Nat} (h:n<800):n<1000000:=by omega
theorem wide_ok {kd:Kd} (h:kd∈kindsL) (q:isLC2 kd=false):combOk kd .none (wide0 kd):=by
 cases kd <;> first|exact ⟨rfl,rfl⟩|(cases q;done)|(simp [kindsL] at h)
theorem lc_lut {kd:Kd} (h:isLC2 kd=true) (q:kd≠.cell):kd=.lut:=by
 cases kd <;> first|rfl|(cases h;done)|exact absurd rfl q
section
variable {G:GC}{r:Nat}{Ψ:Addr→Mem→Prop}{m0 m:Mem}{h hc pa ka:Addr}{o:NetO}{nm:V}{N:NetA}{bi bo:List Addr}
theorem ln_comb (hG:G.Ok) (hr:4≤r) {x7 x8 x9 x10 x11 x12 x13 x14 x15:Option V}{outs:V}{Φ:Fl→St→Prop} (x:LN m h hc o pa nm N bi bo) (s:LNs m0 h hc o pa) (hk:m ka=some (.list kindsV)) (kne:ka≠h) (hcl:N.cells.length<100)
  (k:∀ (c:Cell) m' x8 x9 x10,c.out=N.count→combOk c.kd c.par c.ins.length→(∀ q∈c.ins,q<N.count)→LN m' h hc o pa nm { N with count:=N.count+1,cells:=N.cells++[c] } bi bo→Same [h,pa,o.d,o.lc] m m'→Φ .next ⟨[some (.ref h),some (.int 10),some (.int 2),some (.ref ka),some (.ref o.x),some (.ref pa),some outs,x7,x8,x9,x10,x11,x12,x13,x14,x15],m'⟩) (hcnt:N.count<800) :
  semB ⟨G,r,noΨ⟩ combBody ⟨[some (.ref h),some (.int 10),some (.int 2),some (.ref ka),some (.ref o.x),some (.ref pa),some outs,x7,x8,x9,x10,x11,x12,x13,x14,x15],m⟩ Φ:=by
 have h1r:1≤r:=Nat.le_trans (nb rfl) hr
 have h2r:2≤r:=Nat.le_trans (nb rfl) hr
 refine s_asg (len_l hk (rfl:kindsV.length=11) (ln_pick hG h1r (lim:=11) x s (by decide) fun m1 n1 hn1 x1 u1=>kinds_el hn1 fun kd hkd hkv=>it_l (u1 kne hk) hkv (a_nm (s_asg (new_go fun d m2 n2 k2 g2=>isD k2 (get_d (es:=d3) k2 (key:=K.str kd.str) rfl ?_))))))
 rw [d3_get]
 refine a_nm (s_asg (a_nm ?_))
 have fin:∀ (m3:Mem) (w:Nat) (p:V) (par:Par),LN m3 h hc o pa nm N bi bo→Up h m m3→combOk kd par w→ParAt m3 p par →
   semB ⟨G,r,noΨ⟩ (tln 4 combBody) ⟨[some (.ref h),some (.int 10),some (.int 2),some (.ref ka),some (.ref o.x),some (.ref pa),some outs,x7,some (.str kd.str),some (.int w),some p,x11,x12,x13,x14,x15],m3⟩ Φ:=fun m3 w p par x3 u3 hok hp=>by
  have hw:w<1000:=Nat.lt_of_le_of_lt (combOk_len hok) (nb rfl)
  refine s_app (fun zz h=>h) x3.3 (e_meth x3.2.x x3.2.d m_add_cell (e_comp quiet_no (w_range (b30 hw) fun ra m4 n4 k4 g4=>cw_go (x3.gr g4) hw k4 (fun zz zz zz x k=>ln_near hG h2r x s k) fun l la m5 hl hq x5 n5 k5 u5=>add_cell hG h2r (Nat.lt_trans hcl (nb rfl)) x5.2 (xs:=natL l) (seqOf_list k5) fun m6 t b h1 h2 h3 s6=>?_)))
  have p6:=off2 s6 (fun e:pa=o.d=>s.8 (e▸o.mD)) (fun e:pa=o.lc=>s.8 (e▸o.mC)) x5.3
  refine app_go p6 (by rw [natL_len,List.length_range];exact ar64 hcnt) fun m7 k7 u7=>?_
  have H4:=(x3.gr g4).1
  obtain ⟨_,_,_,_,_,e4,_,_,_⟩:=H4
  have t6:=x5.2.tups s6 fun a z=>(List.mem_cons.mp z).elim (fun e=>e▸o.mD) fun e=>List.mem_singleton.mp e▸o.mC
  have no:∀ {a:Addr},a∉o.all→a∉[o.d,o.lc]:=fun {a} z q=>(List.mem_cons.mp q).elim (fun e=>z (e▸o.mD)) fun e=>z (List.mem_singleton.mp e▸o.mC)
  have x7':=(h3 ⟨kd,N.count,l,par⟩ ⟨t,b,p,rfl,h1,h2,((hp.keep g4.tups).keep (u5.tups e4 rfl)).keep t6⟩).off u7 (u7.tups p6 rfl) s.7 s.8 x5.6
  exact k ⟨kd,N.count,l,par⟩ m7 _ _ _ rfl (hl.symm▸hok) hq ⟨(x5.1.keep s6 (no s.5) (no s.2)).keep (fp:=[pa]) (u7.same (.head _)) (fun z=>s.6 (List.mem_singleton.mp z)) fun z=>s.3 (List.mem_singleton.mp z),x7',by rw [range_snoc];exact k7,Nat.succ_pos _,Nat.lt_of_le_of_lt hcnt (nb rfl),x5.6⟩
   ((((u3.trans g4.up).trans u5).same (.head _)).trans ((s6.mono fun zz z=>.tail _ (.tail _ z)).trans (u7.same (.tail _ (.head _)))))
 have x2:=x1.gr g2
 refine s_if (w_list (nb rfl) fun ql m3 n3 k3 g3=>in_lc k3 ?_)
 have x3:=x2.gr g3
 have u3:Up h m m3:=(u1.trans g2.up).trans g3.up
 refine if_b (fun hlc=>?_) fun hlc=>s_nil (fin m3 (wide0 kd) .none .none x3 u3 (wide_ok hkd hlc) rfl)
 refine s_asg (ln_pick hG h1r (lim:=3) x3 s (by decide) fun m4 n4 hn4 x4 u4=>bAdd (ar60 hn4).1.symm (a_nm (s_asg ?_)))
 have hw:=(ar60 hn4).2
 refine bPow (a:=2) (b:=1+n4) rfl rfl (p60 (Nat.lt_of_le_of_lt hw (nb rfl))) (bPow (a:=2) (b:=2^(1+n4)) rfl rfl (ar61 hw) (ln_pick hG h1r (lim:=2^2^(1+n4)) x4 s (ar62 hw) fun m5 n5 hn5 x5 u5=>a_nm (s_asg ?_)))
 refine eq_s ?_
 have u05:=(u3.trans u4).trans u5
 rw [show ofString "cell"=Kd.cell.str from rfl,Kd.eq_dec]
 by_cases hce:kd=.cell
 ·have cl:=cLay (Nat.lt_of_lt_of_le hn5 (p256 hw))
  subst hce
  exact iy rfl (w_str (ar63 hw hn5) (bCat cl.1 (w_tup (nb rfl) fun tp m6 n6 k6 g6=>a_nm (s_nil (fin m6 (1+n4) (.ref tp) (.cel n5) (x5.gr g6) (u05.trans g6.up) ⟨⟨Nat.le_add_right 1 n4,hw⟩,n5,rfl,hn5⟩ ⟨tp,_,rfl,k6,cl.2⟩)))))
 ·have hlt:=lc_lut hlc hce
  subst hlt
  exact in' hce (a_nm (s_nil (fin m5 (1+n4) (.int n5) (.tab n5) x5 u05 ⟨⟨Nat.le_add_right 1 n4,hw⟩,n5,rfl,hn5⟩ rfl)))
end
noncomputable def stateBody:Sxs:=match tln 5 ir361 with
 | .cons (.forS _ _ b) _=>b
 | _=>.nil
theorem qlen {t:Nat} (h:t<2):(ofString "q").length+(ofString (toString ((t:Nat):Int))).length≤1000000:=by
 have hs:∀ n:Fin 2,(ofString "q").length+(ofString (toString ((n.val:Nat):Int))).length≤1000000:=by decide +kernel
 exact hs ⟨t,h⟩
theorem bAddL {m:Mem}{ρ:List (Option V)}{l r:Addr}{xs ys:List V}{Φ:V→St→Prop} (h1:m l=some (.list xs)) (h2:m r=some (.list ys)) (hl:xs.length+ys.length<1000000) (k:∀ a m',m a=none→m' a=some (.list (xs++ys))→Gr m m'→Φ (.ref a) ⟨ρ,m'⟩):binW .Add (.ref l) (.ref r) ⟨ρ,m⟩ Φ:=by
 exact .cat l r xs ys rfl rfl rfl h1 h2 hl (new_go k)
theorem GenC.snoc {b:Nat}{cs:List Cell}{c:Cell} (h:GenC b cs) (h1:c.out=b+cs.length) (h2:combOk c.kd c.par c.ins.length) (h3:∀ q∈c.ins,q<b+cs.length):GenC b (cs++[c]) :=
 ⟨fun k d e=>snoc_at e (h.1 k d) fun ek ed=>by rw [←ed,ek];exact h1,fun d e=>(List.mem_append.mp e).elim (h.2 d) fun z=>List.mem_singleton.mp z▸h2,fun k d e=>snoc_at e (h.3 k d) fun ek ed=>by rw [←ed,ek];exact h3⟩
theorem GenS.snoc {b n:Nat}{cs:List Cell}{c:Cell} (h:GenS b n cs) (h1:c.out=b+cs.length) (h2:GSt c cs.length) (h3:c.ins.length=4) (h4:∀ q∈c.ins,q<n):GenS b n (cs++[c]) :=
 ⟨fun k d e=>snoc_at e (h.1 k d) fun ek ed=>by rw [←ed,ek];exact h1,fun k d e=>snoc_at e (h.2 k d) fun ek ed=>by rw [←ed,ek];exact h2,fun d e=>(List.mem_append.mp e).elim (h.3 d) fun z=>List.mem_singleton.mp z▸h3,fun d e=>(List.mem_append.mp e).elim (h.4 d) fun z=>List.mem_singleton.mp z▸h4⟩
theorem ar65 {t h:Nat} (a:t<h) (b:h≤2):(t:Int).natAbs<2^60∧t<2:=by omega
theorem ar66 {n:Nat} (h:n<100):n<900000:=by omega
theorem ar67 {n j k:Nat} (h:n<100) (a:j<k) (b:k≤10):n+j<800:=by omega
theorem ar68 {j n:Nat} (a:j<n) (b:n≤10):j<100:=by omega
theorem ar69 {c j k:Nat} (h:c<50) (a:j<k) (b:k≤2):c+j<100:=by omega
theorem ar70 {n:Nat} (b:n≤10):n<2^30:=by omega
section
variable {G:GC}{r:Nat}{Ψ:Addr→Mem→Prop}{m0 m:Mem}{h hc pa lo ka ra:Addr}{o:NetO}{nm:V}{N:NetA}{bi bo:List Addr}
theorem ln_maybe (hG:G.Ok) (hr:2≤r) {a1 a2 a3 a4:Option V}{ρ:List (Option V)}{z:Nat}{zi:Int}{Φ:V→St→Prop} (x:LN m h hc o pa nm N bi bo) (s:LNs m0 h hc o pa) (ez:zi=z) (hz:z<N.count)
  (k:∀ m' (n:Nat),n<N.count→LN m' h hc o pa nm N bi bo→Up h m m'→Φ (.int n) ⟨some (.ref h)::a1::a2::a3::a4::some (.ref pa)::ρ,m'⟩):(sem ⟨G,r,Ψ⟩ (.ite (.cmp .Eq (.call 342 (.cons (.var 0) (.cons (.int 3) .nil))) (.int 2)) (.call 356 (.cons (.var 0) (.cons (.var 5) .nil))) (.int zi))).val ⟨some (.ref h)::a1::a2::a3::a4::some (.ref pa)::ρ,m⟩ Φ:=by
 refine ln_pick hG (Nat.le_trans (nb rfl) hr) (lim:=3) x s (by decide) fun m1 n1 hn1 x1 u1=>eq_i ?_
 by_cases h2:(n1:Int)=2
 ·exact iy h2 (ln_near hG hr x1 s fun m2 n hn x2 u2=>k m2 n hn x2 (u1.trans u2))
 ·exact in' h2 (ez▸k m1 z hz x1 u1)
theorem ln_state (hG:G.Ok) (hr:4≤r) {n0 hh t:Nat}{ka:V}{x7 x8 x9 x10 x12 x13 x14 x15:Option V}{Φ:Fl→St→Prop} (x:LN m h hc o pa nm N bi bo) (s:LNs m0 h hc o pa) (kl:m lo=some (.list (natL (List.range' n0 hh)))) (lne:lo≠h) (ht:t<hh) (hh2:hh≤2) (hcl:N.cells.length<100) (h2:2<N.count)
  (k:∀ (c:Cell) m' x12 x13 x14 x15,c.out=n0+t→GSt c t→c.ins.length=4→(∀ q∈c.ins,q<N.count)→LN m' h hc o pa nm { N with cells:=N.cells++[c] } bi bo→Same [h,o.lc] m m' →
   Φ .next ⟨[some (.ref h),some (.int 10),some (.int 2),some ka,some (.ref o.x),some (.ref pa),some (.ref lo),x7,x8,x9,x10,some (.int t),x12,x13,x14,x15],m'⟩) :
  semB ⟨G,r,noΨ⟩ stateBody ⟨[some (.ref h),some (.int 10),some (.int 2),some ka,some (.ref o.x),some (.ref pa),some (.ref lo),x7,x8,x9,x10,some (.int t),x12,x13,x14,x15],m⟩ Φ:=by
 have h1r:1≤r:=Nat.le_trans (nb rfl) hr
 have h2r:2≤r:=Nat.le_trans (nb rfl) hr
 have ht2:=ar65 ht hh2
 refine s_asg (ln_pick hG h1r (lim:=2) x s (by decide) fun m1 e1 he1 x1 u1=>a_nm (s_asg (ln_pick hG h1r (lim:=2) x1 s (by decide) fun m2 i1 hi1 x2 u2=>a_nm (s_asg (ln_maybe (z:=2) hG h2r x2 s rfl h2 fun m3 f1 hf1 x3 u3=>a_nm (s_asg ?_))))))
 refine ln_near hG h2r x3 s fun m4 f2 hf2 x4 u4=>w_list (nb rfl) fun la m5 n5 k5 g5=>e_comp quiet_no (w_range (N:=2) (nb rfl) fun ra m6 n6 k6 g6=>cw_go ((x4.gr g5).gr g6) (nb rfl) k6 (fun zz zz zz x k=>ln_maybe (z:=0) hG h2r x s rfl x.4 k) fun l lb m7 hl hq x7' n7 k7 u7=>bAddL (u7 (x4.nh n5) (g6 k5)) k7 (by rw [natL_len,hl];exact nb rfl) fun li m8 n8 k8 g8=>a_nm (s_if ?_))
 have u08:Up h m m8:=((((((u1.trans u2).trans u3).trans u4).trans g5.up).trans g6.up).trans u7).trans g8.up
 refine ln_pick hG h1r (lim:=4) (x7'.gr g8) s (by decide) fun m9 c1 hc1 x9' u9=>eq_i ?_
 have kli:m9 li=some (.list (natL ([f1,f2]++l))):=u9 (x7'.nh n8) k8
 have u09:=u08.trans u9
 have kl9:=u09 lne kl
 have hout:(natL (List.range' n0 hh))[t]?=some (.int ((n0+t:Nat):Int)):=natL_at (by rw [List.getElem?_range' ht,Nat.one_mul])
 have hil:([f1,f2]++l).length=4:=by rw [List.length_append,hl];rfl
 have hiq:∀ q∈([f1,f2]++l),q<N.count:=fun q hq'=>(List.mem_cons.mp hq').elim (fun e=>e▸hf1) fun z=>(List.mem_cons.mp z).elim (fun e=>e▸hf2) (hq q)
 have no:∀ {a:Addr},a∉o.all→a∉[o.lc]:=fun {a} z q=>z (List.mem_singleton.mp q▸o.mC)
 have fin:∀ {m10 m11:Mem} (g:Gr m9 m10) (u:Up o.lc m10 m11) {kd:Kd}{par:Par} (x12 x13 x14 x15:Option V),GSt ⟨kd,n0+t,[f1,f2]++l,par⟩ t→NetAt m11 o nm { N with cells:=N.cells++[⟨kd,n0+t,[f1,f2]++l,par⟩] } bi bo →
   Φ .next ⟨[some (.ref h),some (.int 10),some (.int 2),some ka,some (.ref o.x),some (.ref pa),some (.ref lo),x7,x8,x9,x10,some (.int t),x12,x13,x14,x15],m11⟩:=fun {m10 m11} g u {kd par} x12 x13 x14 x15 hg hN =>
  k ⟨kd,n0+t,[f1,f2]++l,par⟩ m11 x12 x13 x14 x15 rfl hg hil hiq ⟨(x9'.1.gr g).keep (fp:=[o.lc]) (u.same (.head _)) (no s.5) (no s.2),hN,u (fun e=>s.8 (e▸o.mC)) (g x9'.3),x9'.4,x9'.5,x9'.6⟩ ((u09.same (.head _)).trans (g.same.trans (u.same (.tail _ (.head _)))))
 by_cases h3:(c1:Int)=3
 ·exact if_y h3 (s_expr (e_meth x9'.2.x x9'.2.d m_drive (it_l kl9 hout (w_str ht2.1 (bCat (qlen ht2.2) (w_tup (nb rfl) fun tp m10 n10 k10 g10=>drive hG h1r (ar66 hcl) (x9'.2.gr g10) (seqOf_list (g10 kli)) fun m11 t' b' e1 e2 e3 u11=>⟨rfl,s_nil (fin g10 u11 _ _ _ _ (.latch i1 rfl rfl) (e3 ⟨.latch,n0+t,[f1,f2]++l,.latch t i1⟩ ⟨t',b',_,rfl,e1,e2,tp,rfl,u11 ((x9'.2.gr g10).lc k10 rfl) k10⟩))⟩))))))
 ·exact if_n h3 (s_expr (e_meth x9'.2.x x9'.2.d m_drive (it_l kl9 hout (w_str ht2.1 (bCat (qlen ht2.2) (w_tup (nb rfl) fun tp m10 n10 k10 g10=>drive hG h1r (ar66 hcl) (x9'.2.gr g10) (seqOf_list (g10 kli)) fun m11 t' b' q1 q2 q3 u11=>⟨rfl,s_nil (fin g10 u11 _ _ _ _ (.flop e1 i1 rfl rfl) (q3 ⟨.flop,n0+t,[f1,f2]++l,.flop e1 t i1⟩ ⟨t',b',_,rfl,q1,q2,tp,rfl,u11 ((x9'.2.gr g10).lc k10 rfl) k10⟩))⟩))))))
theorem comb_loop (hG:G.Ok) (hr:4≤r) {x7 x8 x9 x10 x11 x12 x13 x14 x15:Option V}{outs:V}{rest:Sxs}{Φ:Fl→St→Prop}{n:Nat} (x:LN m h hc o pa nm N bi bo) (s:LNs m0 h hc o pa) (hk:m ka=some (.list kindsV)) (hkf:ka∉[h,pa,o.d,o.lc]) (hN:N.cells=[]) (hcnt:N.count<100) (hn:n≤10)
  (kr:m ra=some (.range 0 (n:Nat) 1)) (hra:ra∉[h,pa,o.d,o.lc])
  (k:∀ cs m' x7 x8 x9 x10,cs.length=n→GenC N.count cs→LN m' h hc o pa nm { N with count:=N.count+n,cells:=cs } bi bo→Same [h,pa,o.d,o.lc] m m'→semB ⟨G,r,noΨ⟩ rest ⟨[some (.ref h),some (.int 10),some (.int 2),some (.ref ka),some (.ref o.x),some (.ref pa),some outs,x7,x8,x9,x10,x11,x12,x13,x14,x15],m'⟩ Φ) :
  forK ⟨G,r,noΨ⟩ (.name 7) combBody rest Φ (.ref ra) ⟨[some (.ref h),some (.int 10),some (.int 2),some (.ref ka),some (.ref o.x),some (.ref pa),some outs,x7,x8,x9,x10,x11,x12,x13,x14,x15],m⟩:=by
 refine for_range (T:=(Option V × Option V × Option V × Option V) × List Cell) (F:=fun t=>[some (.ref h),some (.int 10),some (.int 2),some (.ref ka),some (.ref o.x),some (.ref pa),some outs,t.1.1,t.1.2.1,t.1.2.2.1,t.1.2.2.2,x11,x12,x13,x14,x15]) (x0:=((x7,x8,x9,x10),[])) kr (ar70 hn)
  (fun j t μ=>A5 (t.2.length=j) (GenC N.count t.2) (LN μ h hc o pa nm { N with count:=N.count+j,cells:=t.2 } bi bo) (Same [h,pa,o.d,o.lc] m μ) (μ ra=some (.range 0 (n:Nat) 1))) (fun zz zz zz q=>q.5)
  ⟨rfl,⟨fun zz zz h=>noS rfl h,fun zz h=>(nomatch h),fun zz zz h=>noS rfl h⟩,by rw [←hN];exact x,Same.refl _ _,kr⟩ (fun j t m1 Ψ' hj q hΨ=>?_) fun t m1 q=>k t.2 m1 _ _ _ _ q.1 q.2 q.3 q.4
 refine ln_comb hG hr q.3 s (q.4 _ _ hkf hk) (fun e=>hkf (e▸.head _)) (by show t.2.length<100;rw [q.1];exact ar68 hj hn) (fun c m2 z8 z9 z10 h1 h2 h3 x2 s2=>hΨ ((_,_,_,_),t.2++[c]) m2 ⟨by rw [List.length_append,q.1];rfl,q.2.snoc (by rw [q.1];exact h1) h2 (by rw [q.1];exact h3),x2,q.4.trans s2,s2 _ _ hra q.5⟩) (ar67 hcnt hj hn)
theorem state_loop (hG:G.Ok) (hr:4≤r) {n0 hh:Nat}{ka:V}{x7 x8 x9 x10 x11 x12 x13 x14 x15:Option V}{rest:Sxs}{Φ:Fl→St→Prop} (x:LN m h hc o pa nm N bi bo) (s:LNs m0 h hc o pa) (kl:m lo=some (.list (natL (List.range' n0 hh)))) (hlf:lo∉[h,o.lc]) (hh2:hh≤2) (hcl:N.cells.length<50) (h2:2<N.count)
  (kr:m ra=some (.range 0 (hh:Nat) 1)) (hra:ra∉[h,o.lc])
  (k:∀ ss m' x11 x12 x13 x14 x15,ss.length=hh→GenS n0 N.count ss→LN m' h hc o pa nm { N with cells:=N.cells++ss } bi bo→Same [h,o.lc] m m'→semB ⟨G,r,noΨ⟩ rest ⟨[some (.ref h),some (.int 10),some (.int 2),some ka,some (.ref o.x),some (.ref pa),some (.ref lo),x7,x8,x9,x10,x11,x12,x13,x14,x15],m'⟩ Φ) :
  forK ⟨G,r,noΨ⟩ (.name 11) stateBody rest Φ (.ref ra) ⟨[some (.ref h),some (.int 10),some (.int 2),some ka,some (.ref o.x),some (.ref pa),some (.ref lo),x7,x8,x9,x10,x11,x12,x13,x14,x15],m⟩:=by
 refine for_range (T:=(Option V × Option V × Option V × Option V × Option V) × List Cell) (F:=fun t=>[some (.ref h),some (.int 10),some (.int 2),some ka,some (.ref o.x),some (.ref pa),some (.ref lo),x7,x8,x9,x10,t.1.1,t.1.2.1,t.1.2.2.1,t.1.2.2.2.1,t.1.2.2.2.2]) (x0:=((x11,x12,x13,x14,x15),[])) kr (ar70 (Nat.le_trans hh2 (nb rfl)))
  (fun j t μ=>A5 (t.2.length=j) (GenS n0 N.count t.2) (LN μ h hc o pa nm { N with cells:=N.cells++t.2 } bi bo) (Same [h,o.lc] m μ) (μ ra=some (.range 0 (hh:Nat) 1))) (fun zz zz zz q=>q.5)
  ⟨rfl,⟨fun zz zz h=>noS rfl h,fun zz zz h=>noS rfl h,fun zz h=>(nomatch h),fun zz h=>(nomatch h)⟩,by rw [List.append_nil];exact x,Same.refl _ _,kr⟩ (fun j t m1 Ψ' hj q hΨ=>?_) fun t m1 q=>k t.2 m1 _ _ _ _ _ q.1 q.2 q.3 q.4
 refine ln_state hG hr q.3 s (q.4 _ _ hlf kl) (fun e=>hlf (e▸.head _)) hj hh2 (by show (N.cells++t.2).length<100;rw [List.length_append,q.1];exact ar69 hcl hj hh2) h2 fun c m2 z12 z13 z14 z15 h1 h2 h3 h4 x2 s2=>hΨ ((_,_,_,_,_),t.2++[c]) m2 ⟨by rw [List.length_append,q.1];rfl,q.2.snoc (by rw [q.1];exact h1) (by rw [q.1];exact h2) h3 h4,by rw [←List.append_assoc];exact x2,q.4.trans s2,s2 _ _ hra q.5⟩
end
theorem var_at {σ:St}{i:Nat}{v:V}{Φ:V→St→Prop} (h:look σ.ρ i=some v) (k:Φ v σ):PT.var i σ Φ:=by unfold PT.var;rw [h];exact k
theorem rng_app (s n:Nat):natL (List.range s)++natL (List.range' s n)=natL (List.range (s+n)):=by
 rw [←natL_app,List.range_eq_range',List.range_eq_range']
 have e:=List.range'_append_1 (s:=0) (m:=s) (n:=n)
 rw [Nat.zero_add] at e
 rw [e]
theorem ar71 {n:Nat} (h:n<2):((1+n:Nat):Int)=1+(n:Int)∧1+n<1000∧1≤1+n∧1+n≤2:=by omega
theorem ar72 {a b:Nat} (h:a≤2) (q:b≤2):2+a+b<1000000:=by omega
theorem ar73 {a b h:Nat} (x:a≤2) (y:b≤2) (z:h<3):2+a+b+h<1000000∧0<2+a+b+h∧2+a+b+h<100∧2+a+b+h<900∧h<1000∧h≤2:=by omega
theorem ar74 {n:Nat} (h:n<11):n<2^30∧n≤10∧n<50:=by omega
theorem ar75 {n:Nat} (h:n<3):((1+n:Nat):Int)=1+(n:Int)∧1+n<1000∧1+n≤3:=by omega
theorem ar76 {a b h n:Nat} (x:1≤a):2<2+a+b+h+n:=by omega
theorem no2 {a b c:Addr} (h:a≠b) (q:a≠c):a∉[b,c]:=fun z=>(List.mem_cons.mp z).elim h fun z=>q (List.mem_singleton.mp z)
theorem no4 {a b c d e:Addr} (h:a≠b) (q:a≠c) (x:a≠d) (y:a≠e):a∉[b,c,d,e]:=fun z=>(List.mem_cons.mp z).elim h fun z=>(List.mem_cons.mp z).elim q fun z=>no2 x y z
section
variable {m m' m0:Mem}{a h hc:Addr}{fp:List Addr}{o:NetO}{nm:V}{N:NetA}{bi bo:List Addr}
theorem Up.new (x:Up h m0 m) (y:Same fp m m') (q:∀ a∈fp,m0 a=none∨a=h):Up h m0 m':=fun b w ne e=>y b w (fun z=>(q b z).elim (fun n=>noS n e) ne) (x ne e)
theorem Up.set (x:Up h m0 m) (hn:m0 a=none) (u:Up a m m'):Up h m0 m':=fun b w ne e=>u (fresh_ne hn e).symm (x ne e)
theorem HandOk.nb (H:HandOk m h hc) (y:NetAt m o nm N bi bo):h∉bi++bo:=fun z=>by
 obtain ⟨cs,p,cur,seed,zz,h1,_,_,_⟩:=H
 obtain ⟨vi,vo,vc,a,hpi,hpo,hcs⟩:=y
 have no:∀ {vs ps bs},Ports m o vs ps bs→h∈bs→False:=fun q z=>by
  obtain ⟨l,e⟩:=q.nat z
  exact ls_ne e h1 natL_ne_hand rfl
 exact (List.mem_append.mp z).elim (no hpi) (no hpo)
theorem NetAt.upH (y:NetAt m o nm N bi bo) (H:HandOk m h hc) (hx:h≠o.x) (ha:h∉o.all) (u:Up h m m'):NetAt m' o nm N bi bo:=by
 have hb:=H.nb y
 obtain ⟨cs,p,cur,seed,zz,h1,_,_,_⟩:=H
 exact y.off u (u.tups h1 rfl) hx ha hb
end
section
variable {G:GC}{r:Nat}{Ψ:Addr→Mem→Prop}{m:Mem}{h hc ka:Addr}{Φ:V→Mem→Prop}
theorem new_nets_at {o:NetO}{nm:V}{N:NetA}{bi bo:List Addr}{w:Nat} (hG:G.Ok) (hr:2≤r) (hw:w<1000) (y:NetAt m o nm N bi bo) (k:∀ m' l,m l=none→NetAt m' o nm { N with count:=N.count+w } bi bo→m' l=some (.list (natL (List.range' N.count w)))→Up o.d m m'→Φ (.ref l) m'):callW G r Ψ (.ref 87) [.ref o.x,.int w] m Φ:=by
 obtain ⟨vi,vo,vc,a,hpi,hpo,hcs⟩:=y
 exact new_nets hG hr hw a fun m1 l hl a1 kl u1=>k m1 l hl ⟨vi,vo,vc,a1,hpi.up u1 (u1.tups a.2 rfl) o.mD,hpo.up u1 (u1.tups a.2 rfl) o.mD,hcs.keep (u1.tups a.2 rfl)⟩ kl u1
theorem law_netlist (hG:G.Ok) (hr:7≤r) (H:HandOk m h hc) (hk:m ka=some (.list kindsV)) (kne:ka≠h)
  (k:∀ m' o N wa wb hh cs ss ly lz bi bo,Gen N wa wb hh cs ss ly lz→NetAt m' o (.str (ofString "m")) N bi bo→HandOk m' h hc→Up h m m'→m o.x=none→(∀ a∈o.all,m a=none)→Φ (.ref o.x) m'):callW G r Ψ (.ref 361) [.ref h,.int 10,.int 2,.ref ka] m Φ:=by
 refine callW.any (run361 hG hr (s_asg (netlist_new hG (pr hr rfl) fun o m1 N1 g1 hox hoall=>a_nm (s_asg ?_))))
 have P0:∀ {m:Mem}{o:NetO},Ports m o [] [] []:=fun {m o}=>⟨rfl,.nil,fun zz h=>nomatch h⟩
 have y1:NetAt m1 o (.str (ofString "m")) ⟨2,[],[],[]⟩ [] []:=⟨[],[],[],N1,P0,P0,.nil⟩
 have hx:=(H.nh hox).symm
 have hcx:=(H.nc hox).symm
 have ha:h∉o.all:=fun z=>H.nh (hoall _ z) rfl
 have hca:hc∉o.all:=fun z=>H.nc (hoall _ z) rfl
 have kao:ka∉o.all:=fun z=>noS (hoall _ z) hk
 have aD:∀ {a:Addr},a∉o.all→a≠o.d:=fun z e=>z (e▸o.mD)
 have aI:∀ {a:Addr},a∉o.all→a≠o.li:=fun z e=>z (e▸o.mI)
 have aC:∀ {a:Addr},a∉o.all→a≠o.lc:=fun z e=>z (e▸o.mC)
 have aO:∀ {a:Addr},a∉o.all→a≠o.lo:=fun z e=>z (e▸o.mO)
 have hin:∀ {μ μ':Mem},HandOk μ h hc→Same [o.d,o.li] μ μ'→HandOk μ' h hc:=fun H s=>H.keep s (no2 (aD hca) (aI hca)) (no2 (aD ha) (aI ha))
 have din:∀ a∈[o.d,o.li],m a=none∨a=h:=fun a z=>.inl ((List.mem_cons.mp z).elim (fun e=>e▸hoall _ o.mD) fun e=>List.mem_singleton.mp e▸hoall _ o.mI)
 refine w_list (nb rfl) fun l0 m2 n2 k2 g2=>e_meth (y1.gr g2).x (y1.gr g2).d m_add_input (law_pick hG (pr hr rfl) (lim:=2) (H.gr (g1.trans g2)) (by decide) fun m3 n3 hn3 H3 u3=>bAdd (ar71 hn3).1.symm ?_)
 have y3:=(y1.gr g2).upH (H.gr (g1.trans g2)) hx ha u3
 have w3:=ar71 hn3
 have a0:=y1.new n2
 have k03:m3 l0=some (.list (natL (List.range 2))):=u3 ((H.gr g1).nh n2) k2
 have U3:Up h m m3:=(g1.trans g2).up.trans u3
 generalize 1+n3=wa at w3
 refine add_input hG (pr hr rfl) w3.2.1 (nb rfl) y3 fun m4 b4 la nb4 nla nea ka4 y4 s4=>bAddL (off2 s4 (aD a0) (aI a0) k03) ka4 (by rw [natL_len,natL_len,List.length_range',List.length_range];exact ar72 w3.2.2.2 (Nat.zero_le 2)) fun l1 m5 n5 k5 g5=>?_
 rw [rng_app] at k5
 have y4:NetAt m4 o (.str (ofString "m")) ⟨2+wa,[(ofString "a",List.range' 2 wa)],[],[]⟩ [b4] []:=y4
 have H5:=(hin H3 s4).gr g5
 have U5:Up h m m5:=(U3.new s4 din).trans g5.up
 refine e_meth (y4.gr g5).x (y4.gr g5).d m_add_input (law_pick hG (pr hr rfl) (lim:=2) H5 (by decide) fun m6 n6 hn6 H6 u6=>bAdd (ar71 hn6).1.symm ?_)
 have y6:=(y4.gr g5).upH H5 hx ha u6
 have w6:=ar71 hn6
 have a5:=y4.new n5
 have k16:=u6 ((hin H3 s4).nh n5) k5
 have U6:=U5.trans u6
 generalize 1+n6=wb at w6
 refine add_input hG (pr hr rfl) w6.2.1 (nb rfl) y6 fun m7 b7 lb nb7 nlb neb kb7 y7 s7=>bAddL (off2 s7 (aD a5) (aI a5) k16) kb7 (by rw [natL_len,natL_len,List.length_range',List.length_range];exact ar72 w3.2.2.2 w6.2.2.2) fun pa m8 n8 k8 g8=>a_nm (s_asg ?_)
 rw [rng_app] at k8
 have y7:NetAt m7 o (.str (ofString "m")) ⟨2+wa+wb,genIns wa wb,[],[]⟩ [b4,b7] []:=y7
 have H7:=hin H6 s7
 have H8:=H7.gr g8
 have U7:Up h m m7:=U6.new s7 din
 have U8:Up h m m8:=U7.trans g8.up
 have y8:=y7.gr g8
 have hpa:=H7.nh n8
 have cpa:=H7.nc n8
 have pall:=y7.new n8
 have pax:pa≠o.x:=fresh_ne n8 y7.x
 have pbb:=y7.newP n8
 have pa0:m pa=none:=by
  have q:=H7
  obtain ⟨_,_,_,_,_,e1,_,_,_⟩:=q
  exact U7.old e1 n8
 have lns:LNs m h hc o pa:=⟨hx,ha,hpa.symm,hcx,hca,cpa.symm,pax,pall,hox,hoall,pa0⟩
 refine e_meth y8.x y8.d m_new_nets (bAdd (z:=((3:Nat):Int)) rfl (law_pick hG (pr hr rfl) (lim:=3) H8 (by decide) fun m9 hh hh3 H9 u9=>?_))
 have w9:=ar73 w3.2.2.2 w6.2.2.2 hh3
 have y9:=y8.upH H8 hx ha u9
 refine new_nets_at hG (pr hr rfl) w9.2.2.2.2.1 y9 fun m10 lo n10 y10 k10 u10=>a_nm (s_aug (iaddL_go (u10 (aD pall) (u9 hpa k8)) k10 (by rw [natL_len,natL_len,List.length_range',List.length_range];exact w9.1) fun m11 k11 u11=>aug_nm ?_))
 rw [rng_app] at k11
 have y10:NetAt m10 o (.str (ofString "m")) ⟨2+wa+wb+hh,genIns wa wb,[],[]⟩ [b4,b7] []:=y10
 have kp10:=u10 (aD pall) (u9 hpa k8)
 have lopa:lo≠pa:=fresh_ne n10 (u9 hpa k8)
 have loh:=H9.nh n10
 have loa:=y9.new n10
 have H10:=H9.keep (fp:=[o.d]) (u10.same (.head _)) (fun z=>aD hca (List.mem_singleton.mp z)) fun z=>aD ha (List.mem_singleton.mp z)
 have x11:LN m11 h hc o pa (.str (ofString "m")) ⟨2+wa+wb+hh,genIns wa wb,[],[]⟩ [b4,b7] []:=⟨H10.keep (fp:=[pa]) (u11.same (.head _)) (fun z=>cpa (List.mem_singleton.mp z).symm) fun z=>hpa (List.mem_singleton.mp z).symm,y10.off u11 (u11.tups kp10 rfl) pax pall pbb,k11,w9.2.1,w9.2.2.2.1,pbb⟩
 have U11:Up h m m11:=((U8.trans u9).set (hoall _ o.mD) u10).set pa0 u11
 have klo:=u11 lopa k10
 refine s_for (bAdd (z:=((11:Nat):Int)) rfl (ln_pick hG (pr hr rfl) (lim:=11) x11 lns (by decide) fun m12 n12 hn12 x12 u12=>w_range (ar74 hn12).1 fun ra m13 n13 k13 g13=>?_))
 have w12:=ar74 hn12
 have x13:=x12.gr g13
 have U13:=(U11.trans u12).trans g13.up
 have ra0:=x12.2.new n13
 have dcb:∀ a∈[h,pa,o.d,o.lc],m a=none∨a=h:=fun a z=>(List.mem_cons.mp z).elim .inr fun z=>.inl ((List.mem_cons.mp z).elim (fun e=>e▸pa0) fun z=>(List.mem_cons.mp z).elim (fun e=>e▸hoall _ o.mD) fun e=>List.mem_singleton.mp e▸hoall _ o.mC)
 refine comb_loop hG (pr hr rfl) x13 lns (U13 kne hk) (no4 kne (fresh_ne pa0 hk).symm (aD kao) (aC kao)) rfl w9.2.2.1 w12.2.1 k13 (no4 (x12.nh n13) (fresh_ne n13 x12.3) (aD ra0) (aC ra0)) fun cs m14 z7 z8 z9 z10 hcl hgc x14 s14=>s_for ?_
 have x14:LN m14 h hc o pa (.str (ofString "m")) ⟨2+wa+wb+hh+n12,genIns wa wb,[],cs⟩ [b4,b7] []:=x14
 have U14:=U13.new s14 dcb
 have kl14:=s14 _ _ (no4 loh lopa (aD loa) (aC loa)) (g13 (u12 loh klo))
 refine len_l kl14 (by rw [natL_len,List.length_range']) (w_range (b30 w9.2.2.2.2.1) fun rb m15 n15 k15 g15=>?_)
 have rb0:=x14.2.new n15
 have U15:=U14.trans g15.up
 have hcs:cs.length<50:=by rw [hcl];exact w12.2.2
 refine state_loop hG (pr hr rfl) (x14.gr g15) lns (g15 kl14) (no2 loh (aC loa)) w9.2.2.2.2.2 hcs (ar76 w3.2.2.1) k15 (no2 (x14.nh n15) (aC rb0)) fun ss m16 z11 z12 z13 z14 z15 hsl hgs x16 s16=>s_expr ?_
 have x16:LN m16 h hc o pa (.str (ofString "m")) ⟨2+wa+wb+hh+n12,genIns wa wb,[],cs++ss⟩ [b4,b7] []:=x16
 have U16:=U15.new s16 fun a z=>(List.mem_cons.mp z).elim .inr fun e=>.inl (List.mem_singleton.mp e▸hoall _ o.mC)
 refine e_meth x16.2.x x16.2.d m_add_output (e_comp quiet_no (ln_pick hG (pr hr rfl) (lim:=3) x16 lns (by decide) fun m17 n17 hn17 x17 u17=>bAdd (ar75 hn17).1.symm (w_range (b30 (ar75 hn17).2.1) fun rc m18 n18 k18 g18=>cw_go (x17.gr g18) (ar75 hn17).2.1 k18 (fun zz zz zz x k=>ln_near hG (pr hr rfl) x lns k) fun ly yl m19 hyl hyq x19 n19 k19 u19=>add_output hG (pr hr rfl) (nb rfl) x19.2 (seqOf_list k19) fun m20 b20 nb20 y20 u20=>⟨rfl,s_expr ?_⟩)))
 have U20:=(((U16.trans u17).trans g18.up).trans u19).set (hoall _ o.mO) u20
 have no1:∀ {a:Addr},a∉o.all→a∉[o.lo]:=fun z e=>aO z (List.mem_singleton.mp e)
 have x20:LN m20 h hc o pa (.str (ofString "m")) ⟨2+wa+wb+hh+n12,genIns wa wb,[(ofString "y",ly)],cs++ss⟩ [b4,b7] [b20]:=⟨x19.1.keep (fp:=[o.lo]) (u20.same (.head _)) (no1 hca) (no1 ha),y20,u20 (aO pall) x19.3,x19.4,x19.5,fun z=>by
  exact (List.mem_append.mp (show pa∈([b4,b7]++[])++[b20] from z)).elim x19.6 fun z=>fresh_ne nb20 x19.3 (List.mem_singleton.mp z).symm⟩
 refine e_meth x20.2.x x20.2.d m_add_output (ln_near hG (pr hr rfl) x20 lns fun m21 nz hnz x21 u21=>w_list (nb rfl) fun zl m22 n22 k22 g22=>add_output hG (pr hr rfl) (l:=[nz]) (nb rfl) (x21.2.gr g22) (seqOf_list k22) fun m23 b23 nb23 y23 u23=>⟨rfl,s_ret ?_⟩)
 have y23:NetAt m23 o (.str (ofString "m")) ⟨2+wa+wb+hh+n12,genIns wa wb,[(ofString "y",ly),(ofString "z",[nz])],cs++ss⟩ [b4,b7] [b20,b23]:=y23
 exact k m23 o ⟨2+wa+wb+hh+n12,genIns wa wb,[(ofString "y",ly),(ofString "z",[nz])],cs++ss⟩ wa wb hh cs ss ly [nz] _ _ ⟨⟨w3.2.2.1,w3.2.2.2,w6.2.2.1,w6.2.2.2,w9.2.2.2.2.2,by rw [hcl];exact w12.2.1⟩,rfl,rfl,hgc,by rw [hcl];exact hgs,hsl,by rw [hcl],rfl,by rw [hyl];exact (ar75 hn17).2.2,hyq,rfl,fun q hq=>List.mem_singleton.mp hq▸hnz⟩ y23 ((x21.1.gr g22).keep (fp:=[o.lo]) (u23.same (.head _)) (no1 hca) (no1 ha)) (((U20.trans u21).trans g22.up).set (hoall _ o.mO) u23) hox hoall
end
theorem map_range' {f:Cell→Nat}:∀ {l:List Cell}{b:Nat},(∀ (k:Nat) c,l[k]?=some c→f c=b+k)→l.map f=List.range' b l.length
 | [],_,_=>rfl
 | c::l,b,h=>by
  rw [List.map_cons,List.length_cons,List.range'_succ,map_range' (l:=l) (b:=b+1) fun k d e=>(h (k+1) d e).trans (Nat.succ_add_eq_add_succ b k).symm,h 0 c rfl];rfl
theorem drv_out {N:NetA}{net b:Nat} (h:N.drv.lookup net=some b):∃ c,N.cells[b]?=some c∧c.out=net:=by
 have e:=lookup_some_mem h
 unfold NetA.drv at e
 obtain ⟨⟨c,i⟩,h1,h2⟩:=List.mem_map.mp e
 cases h2
 exact ⟨c,List.mem_zipIdx_iff_getElem?.mp h1,rfl⟩
theorem topo_of {N:NetA} (h:∀ (i:Nat) c,N.cells[i]?=some c→c.kd.state=false→∀ (j:Nat) d,N.cells[j]?=some d→d.kd.state=false→d.out∈c.ins→j<i):N.Topo:=by
 intro i hi p hp
 have hc:=List.getElem?_eq_getElem (isComb_lt hi)
 generalize N.cells[i]'(isComb_lt hi)=c at hc
 have hs:c.kd.state=false:=Bool.not_eq_true' _▸((isComb_at hc).symm.trans hi)
 rw [preds_cb hc hs,List.mem_filterMap] at hp
 obtain ⟨net,hn,e⟩:=hp
 cases hb:N.drv.lookup net with
 | none=>rw [pred1_no hb] at e;exact noS rfl e
 | some b =>
  obtain ⟨d,hd,ho⟩:=drv_out hb
  rw [pred1_at hb hd] at e
  cases hds:d.kd.state with
  | true=>rw [hds] at e;exact noS rfl e
  | false =>
   rw [hds] at e
   exact Option.some.inj e▸h i c hc hs b d hd hds (ho▸hn)
theorem GenC.kd {b:Nat}{cs:List Cell} (h:GenC b cs):∀ c∈cs,c.kd.state=false:=fun c hc=>by
 have:=h.2 c hc
 cases e:c.kd <;> rw [e] at this <;> first|rfl|exact this.elim
theorem GSt.kd {c:Cell}{k:Nat} (h:GSt c k):c.kd.state=true:=by
 cases h with
 | flop e i h1 h2=>rw [h1];rfl
 | latch i h1 h2=>rw [h1];rfl
theorem GSt.st {c:Cell}{k:Nat} (h:GSt c k):stOk c:=by
 cases h with
 | flop e i h1 h2=>exact .flop e k i h2
 | latch i h1 h2=>exact .latch k i h2
theorem GSt.qn {c:Cell}{k:Nat} (h:GSt c k):qn c.par=qName k:=by
 cases h with
 | flop e i h1 h2=>rw [h2];rfl
 | latch i h1 h2=>rw [h2];rfl
theorem GenS.at {b n:Nat}{ss:List Cell} (h:GenS b n ss) {c:Cell} (hc:c∈ss) {P:Prop} (q:∀ k,GSt c k→P):P:=by
 obtain ⟨k,hk⟩:=List.getElem?_of_mem hc
 exact q k (h.2 k c hk)
theorem GenS.kd {b n:Nat}{ss:List Cell} (h:GenS b n ss):∀ c∈ss,c.kd.state=true:=fun c hc=>h.at hc fun zz q=>q.kd
theorem cons01 (n:Nat):0::1::List.range' 2 n=List.range' 0 (n+2):=rfl
theorem flat_len {α:Type}{f:α→List Nat}{b:Nat}:∀ {l:List α},(∀ x∈l,(f x).length≤b)→(l.flatMap f).length≤b*l.length
 | [],_=>Nat.zero_le _
 | x::l,h=>by
  rw [List.flatMap_cons,List.length_append,List.length_cons,Nat.mul_succ,Nat.add_comm]
  exact Nat.add_le_add (flat_len (l:=l) fun y hy=>h y (List.mem_cons_of_mem _ hy)) (h x (.head _))
section
variable {wa wb h n l z c s q b:Nat}
theorem ar80 (w:Wd wa wb h n):wa+wb+h≤6:=by obtain ⟨_,_,_,_,_,_⟩:=w;omega
theorem ar81 (w:Wd wa wb h n):n+h≤12:=by obtain ⟨_,_,_,_,_,_⟩:=w;omega
theorem ar82:wa+wb+h+n+2=2+wa+wb+h+n:=by omega
theorem ar83:2+wa+wb+h=2+(wa+wb+h):=by omega
theorem ar85 (h:b≤4*n) (q:n≤12):b<1000:=by omega
theorem ar86 (h:n≤12):n<100:=by omega
theorem ar87 (h:n≤6):n<1000:=by omega
end
section
variable {N:NetA}{wa wb h:Nat}{cs ss:List Cell}{ly lz:List Nat}
theorem Gen.combs (g:Gen N wa wb h cs ss ly lz):N.combs=cs:=by
 unfold NetA.combs
 rw [g.3,List.filter_append,List.filter_eq_self.mpr fun c hc=>by rw [g.4.kd c hc];rfl,List.filter_eq_nil_iff.mpr fun c hc=>by rw [g.5.kd c hc];exact Bool.false_ne_true,List.append_nil]
theorem Gen.states (g:Gen N wa wb h cs ss ly lz):N.states=ss:=by
 unfold NetA.states
 rw [g.3,List.filter_append,List.filter_eq_nil_iff.mpr fun c hc=>by rw [g.4.kd c hc];exact Bool.false_ne_true,List.filter_eq_self.mpr g.5.kd,List.nil_append]
theorem Gen.csout (g:Gen N wa wb h cs ss ly lz):cs.map (·.out)=List.range' (2+wa+wb+h) cs.length:=map_range' g.4.1
theorem Gen.ssout (g:Gen N wa wb h cs ss ly lz):ss.map (·.out)=List.range' (2+wa+wb) h:=by
 rw [map_range' g.5.1,g.6]
theorem Gen.inNets (g:Gen N wa wb h cs ss ly lz):N.inNets=List.range' 2 (wa+wb):=by
 unfold NetA.inNets
 rw [g.2]
 exact (congrArg (List.range' 2 wa++·) (List.append_nil _)).trans List.range'_append_1
theorem Gen.srcs (g:Gen N wa wb h cs ss ly lz):N.srcs=List.range' 2 (wa+wb+h):=by
 have e:=g.inNets
 unfold NetA.inNets at e
 unfold NetA.srcs
 rw [e,g.states,g.ssout,Nat.add_assoc 2 wa wb]
 exact List.range'_append_1
theorem Gen.nets (g:Gen N wa wb h cs ss ly lz) {k:Nat} (hk:k≤cs.length):Dn N.srcs (cs.take k)=List.range' 0 (2+wa+wb+h+k):=by
 unfold Dn
 rw [g.srcs,List.map_take,g.csout,List.take_range'_of_length_ge hk]
 have e:List.range' 2 (wa+wb+h)++List.range' (2+wa+wb+h) k=List.range' 2 (wa+wb+h+k):=by rw [ar83];exact List.range'_append_1
 rw [e,cons01]
 exact congrArg (List.range' 0) ar82
theorem Gen.nets' (g:Gen N wa wb h cs ss ly lz):Dn N.srcs N.combs=List.range' 0 N.count:=by
 have e:=g.nets (Nat.le_refl _)
 rw [List.take_length] at e
 rw [g.combs,e,g.7]
theorem Gen.nd (g:Gen N wa wb h cs ss ly lz):N.Nd:=by
 have h1:(Dn N.srcs N.combs).Nodup:=by rw [g.nets'];exact List.nodup_range'
 refine (List.Perm.nodup_iff ?_).mp h1
 refine List.Perm.cons _ (List.Perm.cons _ ?_)
 show ((N.inNets++N.states.map (·.out))++N.combs.map (·.out)).Perm _
 rw [List.append_assoc]
 refine List.Perm.append_left _ ?_
 rw [g.states,g.combs,g.3,List.map_append]
 exact List.perm_append_comm
theorem Gen.at (g:Gen N wa wb h cs ss ly lz) {i:Nat}{c:Cell} (e:N.cells[i]?=some c) (hk:c.kd.state=false):cs[i]?=some c:=by
 rw [g.3] at e
 rcases Nat.lt_or_ge i cs.length with hi|hi
 ·rwa [List.getElem?_append_left hi] at e
 ·rw [List.getElem?_append_right hi] at e
  exact absurd ((g.5.kd c (List.mem_of_getElem? e)).symm.trans hk) Bool.noConfusion
theorem keys_len (N:NetA):N.keysL.length=N.srcs.length:=by rw [←sk_fst,←sk_snd,List.length_map,List.length_map]
theorem Gen.keysLen (g:Gen N wa wb h cs ss ly lz):N.keysL.length≤6:=by
 rw [keys_len,g.srcs,List.length_range'];exact ar80 g.1
theorem Gen.cl (g:Gen N wa wb h cs ss ly lz):N.cells.length≤12:=by rw [g.3,List.length_append,g.6];exact ar81 g.1
theorem Gen.wnet (g:Gen N wa wb h cs ss ly lz):WNet N:=by
 refine ⟨by show (Dn N.srcs N.combs).Nodup;rw [g.nets'];exact List.nodup_range',fun k c hc net hn=>?_,fun c hc=>?_,fun c hc=>?_,Nat.lt_of_le_of_lt g.cl (nb rfl),Nat.le_trans g.keysLen (nb rfl)⟩
 ·show net∈Dn N.srcs (N.combs.take k)
  rw [g.combs] at hc ⊢
  rw [g.nets (Nat.le_of_lt (at_lt hc))]
  exact List.mem_range'_1.mpr ⟨Nat.zero_le _,by rw [Nat.zero_add];exact g.4.3 k c hc net hn⟩
 ·rw [g.combs] at hc;exact g.4.2 c hc
 ·rw [g.states] at hc
  exact g.5.at hc fun zz q=>q.st
theorem Gen.known (g:Gen N wa wb h cs ss ly lz) {q:Nat} (hq:q<N.count):q∈Dn N.srcs N.combs:=by
 rw [g.nets']
 exact List.mem_range'_1.mpr ⟨Nat.zero_le _,by rw [Nat.zero_add];exact hq⟩
theorem driven_of {N:NetA}{q:Nat} (h:q∈Dn N.srcs N.combs):N.Driven q:=by
 refine Dn_el h (.inl rfl) (.inr (.inl rfl)) (fun x hx=>.inr (.inr (.inl hx))) fun c hc=>?_
 obtain ⟨h1,h2⟩:=List.mem_filter.mp hc
 obtain ⟨i,hi⟩:=List.getElem?_of_mem h1
 exact .inr (.inr (.inr ⟨i,c,(isComb_at hi).trans h2,hi,rfl⟩))
theorem Gen.snks_lt (g:Gen N wa wb h cs ss ly lz):∀ q∈N.snks,q<N.count:=fun q hq=>by
 unfold NetA.snks at hq
 rw [g.states,g.8] at hq
 refine (List.mem_append.mp hq).elim (fun z=>(List.mem_append.mp (show q∈ly++(lz++[]) from z)).elim (g.10 q) fun z=>g.12 q ((List.append_nil lz)▸z)) fun z=>?_
 obtain ⟨c,hc,h2⟩:=List.mem_flatMap.mp z
 rw [g.7]
 exact g.5.4 c hc q h2
theorem Gen.ins4 (g:Gen N wa wb h cs ss ly lz):∀ c∈N.cells,c.ins.length≤4:=fun c hc=>by
 rw [g.3] at hc
 exact (List.mem_append.mp hc).elim (fun z=>Nat.le_succ_of_le (combOk_len (g.4.2 c z))) fun z=>Nat.le_of_eq (g.5.3 c z)
theorem Gen.snl (g:Gen N wa wb h cs ss ly lz):N.snks.length<90:=by
 unfold NetA.snks
 rw [g.states,g.8,List.length_append]
 have h1:=flat_len (f:=fun c:Cell=>c.ins) (b:=4) (l:=ss) fun c hc=>Nat.le_of_eq (g.5.3 c hc)
 have h2:([(ofString "y",ly),(ofString "z",lz)].flatMap (·.2)).length=ly.length+lz.length:=(congrArg List.length (congrArg (ly++·) (List.append_nil lz))).trans List.length_append
 rw [h2,g.11]
 refine Nat.lt_of_le_of_lt (Nat.add_le_add (Nat.add_le_add_right g.9 1) (Nat.le_trans h1 (Nat.mul_le_mul_left 4 (g.6▸g.1.5)))) (nb rfl)
theorem Gen.small (g:Gen N wa wb h cs ss ly lz):N.Small :=
 ⟨by rw [g.2];exact nb rfl,by rw [g.8];exact nb rfl,Nat.lt_of_le_of_lt g.cl (nb rfl),by rw [g.srcs,List.length_range'];exact Nat.lt_of_le_of_lt (ar80 g.1) (nb rfl),Nat.lt_trans g.snl (nb rfl),Nat.lt_trans (ar85 (flat_len (f:=fun c:Cell=>c.ins) g.ins4) g.cl) (nb rfl)⟩
theorem Gen.good (g:Gen N wa wb h cs ss ly lz):N.Good:=by
 refine ⟨g.small,g.nd,topo_of fun i c hi hc j d hj hd hm=>?_,fun c hc hk=>?_,ar86 g.cl,by rw [g.srcs,List.length_range'];exact ar87 (ar80 g.1)⟩
 ·have e:=g.4.3 i c (g.at hi hc) _ hm
  rw [g.4.1 j d (g.at hj hd)] at e
  exact Nat.lt_of_add_lt_add_left e
 ·obtain ⟨i,hi⟩:=List.getElem?_of_mem hc
  exact g.4.2 c (List.mem_of_getElem? (g.at hi hk))
theorem comb_st {N:NetA}{i:Nat}{c:Cell} (hi:N.isComb i=true) (hc:N.cells[i]?=some c):c.kd.state=false:=Bool.not_eq_true' _▸((isComb_at hc).symm.trans hi)
theorem Gen.drv (g:Gen N wa wb h cs ss ly lz):∀ i c,N.isComb i=true→N.cells[i]?=some c→∀ net∈c.ins,N.Driven net:=fun i c hi hc net hn=>by
 have h1:=g.at hc (comb_st hi hc)
 exact driven_of (g.known (by rw [g.7];exact Nat.lt_trans (g.4.3 i c h1 net hn) (Nat.add_lt_add_left (at_lt h1) _)))
theorem Gen.qnd (g:Gen N wa wb h cs ss ly lz):(N.states.map fun c=>qn c.par).Nodup:=by
 have e:N.states.map (fun c=>qn c.par)=(List.range h).map qName:=by
  rw [g.states]
  refine All2.map_eq (R:=fun (c:Cell) j=>qn c.par=qName j) ⟨by rw [g.6,List.length_range],fun k c j hc hj=>?_⟩ fun zz zz e=>e
  have hj':=(List.getElem?_eq_some_iff.mp hj).2
  rw [List.getElem_range] at hj'
  exact hj'▸(g.5.2 k c hc).qn
 rw [e]
 have h2:((List.range 2).map qName).Nodup:=by decide +kernel
 exact List.Sublist.nodup ((List.range_sublist.mpr g.1.5).map _) h2
noncomputable def NetA.un (N:NetA):NetA:={ N with count:=N.count+2,cells:=N.cells++[⟨.and,N.count+1,[N.count,1],.none⟩],outs:=N.outs++[(ofString "u",[N.count+1])] }
theorem ar90 {q a b h n c:Nat} (e:c=2+a+b+h+n) (z:(2≤q∧q<2+(a+b))∨(2+a+b+h≤q∧q<2+a+b+h+n)∨2+a+b≤q∧q<2+a+b+h):2≤q∧q<c:=by omega
theorem Gen.out_lt (g:Gen N wa wb h cs ss ly lz):∀ q∈N.inNets++N.cells.map (·.out),2≤q∧q<N.count:=fun q hq=>by
 rw [g.inNets,g.3,List.map_append,g.csout,g.ssout,List.mem_append,List.mem_append,List.mem_range'_1,List.mem_range'_1,List.mem_range'_1] at hq
 exact ar90 g.7 hq
theorem un_el {i:Nat}{c:Cell}{P:Prop} (e:N.un.cells[i]?=some c) (h1:N.cells[i]?=some c→P) (h2:i=N.cells.length→(⟨.and,N.count+1,[N.count,1],.none⟩:Cell)=c→P):P:=snoc_at e h1 h2
theorem un_states:N.un.states=N.states:=states_f (cs:=N.cells) (c:=⟨.and,N.count+1,[N.count,1],.none⟩) rfl
theorem un_srcs:N.un.srcs=N.srcs:=by
 unfold NetA.srcs
 rw [un_states];rfl
theorem un_snks:N.un.snks=(N.outs.flatMap (·.2)++[N.count+1])++N.states.flatMap (·.ins):=by
 unfold NetA.snks
 rw [un_states]
 show (N.outs++[(ofString "u",[N.count+1])]).flatMap (·.2)++_=_
 rw [List.flatMap_append];rfl
theorem un_last:N.un.cells[N.cells.length]?=some ⟨.and,N.count+1,[N.count,1],.none⟩:=List.getElem?_concat_length
theorem driven_un {q:Nat} (h:N.Driven q):N.un.Driven q :=
 h.elim .inl fun h=>h.elim (fun h=>.inr (.inl h)) fun h=>h.elim (fun h=>.inr (.inr (.inl (by rw [un_srcs];exact h)))) fun ⟨i,c,h1,h2,h3⟩ =>
  .inr (.inr (.inr ⟨i,c,(isComb_at (at_snoc h2)).trans ((isComb_at h2).symm.trans h1),at_snoc h2,h3⟩))
theorem ar91 {n:Nat} (h:n≤12):n+1<100:=by omega
theorem ar92 {a b:Nat} (h:a+b<90):a+1+b<100000:=by omega
theorem ar93 {q c:Nat} (e:q=c∨q=1) (h:2≤q∧q<c):False:=by omega
theorem ar94 {c:Nat} (e:c+1=c∨c+1=1) (h:2≤c):False:=by omega
theorem ar95 {c n k j:Nat} (e:c=n+k) (z:c+1<n+j) (h:j<k):False:=by omega
theorem Gen.c2 (g:Gen N wa wb h cs ss ly lz):2≤N.count:=by rw [g.7,Nat.add_assoc,Nat.add_assoc,Nat.add_assoc];exact Nat.le_add_right _ _
theorem Gen.un_good (g:Gen N wa wb h cs ss ly lz):N.un.Good:=by
 have hc:N.un.cells.length=N.cells.length+1:=List.length_append
 have h12:=ar91 g.cl
 refine ⟨⟨g.small.1,by show (N.outs++_).length<1000;rw [g.8];exact nb rfl,by rw [hc];exact Nat.lt_trans h12 (nb rfl),by rw [un_srcs];exact g.small.4,?_,?_⟩,?_,topo_of fun i c hi hc j d hj hd hm=>?_,fun c hc hk=>?_,by rw [hc];exact h12,by rw [un_srcs];exact g.good.6⟩
 ·rw [un_snks,List.length_append,List.length_append]
  have e:=g.snl
  unfold NetA.snks at e
  rw [List.length_append] at e
  exact ar92 e
 ·show ((N.cells++[(⟨.and,N.count+1,[N.count,1],.none⟩:Cell)]).flatMap (·.ins)).length<100000
  rw [List.flatMap_append,List.length_append]
  exact Nat.lt_trans (Nat.add_lt_add_right (ar85 (flat_len (f:=fun c:Cell=>c.ins) g.ins4) g.cl) 2) (nb rfl)
 ·have e:0::1::(N.un.inNets++N.un.cells.map (·.out))=(0::1::(N.inNets++N.cells.map (·.out)))++[N.count+1]:=by
   show 0::1::(N.inNets++(N.cells++[(⟨.and,N.count+1,[N.count,1],.none⟩:Cell)]).map (·.out))=_
   rw [List.map_append,←List.append_assoc];rfl
  unfold NetA.Nd
  rw [e,List.nodup_append]
  refine ⟨g.nd,List.nodup_cons.mpr ⟨List.not_mem_nil,List.nodup_nil⟩,fun a ha b hb=>?_⟩
  rw [List.mem_singleton.mp hb]
  have c2:=g.c2
  exact (List.mem_cons.mp ha).elim (fun e=>e▸(Nat.succ_ne_zero _).symm) fun ha=>(List.mem_cons.mp ha).elim (fun e=>Nat.ne_of_lt (Nat.lt_of_le_of_lt (Nat.le_of_eq e) (Nat.lt_succ_of_lt c2))) fun ha=>Nat.ne_of_lt (Nat.lt_succ_of_lt (g.out_lt a ha).2)
 ·refine un_el hi (fun hi=>un_el hj (fun hj=>?_) fun ej ed=>?_) fun ei ec=>un_el hj (fun hj=>?_) fun ej ed=>?_
  ·have e:=g.4.3 i c (g.at hi hc) _ hm
   rw [g.4.1 j d (g.at hj hd)] at e
   exact Nat.lt_of_add_lt_add_left e
  ·have h1:=g.at hi hc
   rw [←ed] at hm
   exact (ar95 g.7 (g.4.3 i c h1 _ hm) (at_lt h1)).elim
  ·rw [←ec] at hm
   exact (ar93 ((List.mem_cons.mp hm).imp id List.mem_singleton.mp) (g.out_lt d.out (List.mem_append_right _ (List.mem_map_of_mem (List.mem_of_getElem? hj))))).elim
  ·rw [←ec,←ed] at hm
   exact (ar94 ((List.mem_cons.mp hm).imp id List.mem_singleton.mp) g.c2).elim
 ·obtain ⟨i,hi⟩:=List.getElem?_of_mem hc
  exact un_el hi (fun hi=>g.good.4 c (List.mem_of_getElem? hi) hk) fun zz ec=>ec▸⟨rfl,rfl⟩
theorem Gen.un_drv (g:Gen N wa wb h cs ss ly lz):∀ i c,N.un.isComb i=true→N.un.cells[i]?=some c→∀ net∈c.ins,N.un.Driven net∨net=N.count:=fun i c hi hc net hn=>by
 have hk:=comb_st hi hc
 refine un_el hc (fun hc=>.inl (driven_un (g.drv i c ((isComb_at hc).trans (by rw [hk];rfl)) hc net hn))) fun zz ec=>?_
 rw [←ec] at hn
 exact (List.mem_cons.mp hn).elim .inr fun z=>.inl (.inr (.inl (List.mem_singleton.mp z)))
theorem un_comb:N.un.isComb N.cells.length=true:=(isComb_at un_last).trans rfl
theorem Gen.un_not (g:Gen N wa wb h cs ss ly lz) (hd:N.un.Driven N.count):False:=by
 have c2:=g.c2
 refine hd.elim (fun e=>Nat.not_lt_zero 1 (Nat.lt_of_lt_of_le c2 (Nat.le_of_eq e))) fun h=>h.elim (fun e=>Nat.lt_irrefl 1 (Nat.lt_of_lt_of_le c2 (Nat.le_of_eq e))) fun h=>h.elim (fun h=>?_) fun ⟨i,c,_,h2,h3⟩=>un_el h2 (fun h2=>Nat.lt_irrefl _ (h3▸(g.out_lt c.out (List.mem_append_right _ (List.mem_map_of_mem (List.mem_of_getElem? h2)))).2)) fun zz ec=>Nat.succ_ne_self _ ((congrArg Cell.out ec).trans h3)
 rw [un_srcs,g.srcs,List.mem_range'_1,←ar83,g.7] at h
 exact Nat.not_lt_of_le (Nat.le_add_right _ _) h.2
theorem Gen.un_sk (g:Gen N wa wb h cs ss ly lz):∀ q∈N.un.snks,N.un.Driven q:=fun q hq=>by
 rw [un_snks] at hq
 have old:q∈N.snks→N.un.Driven q:=fun z=>driven_un (driven_of (g.known (g.snks_lt q z)))
 exact (List.mem_append.mp hq).elim (fun z=>(List.mem_append.mp z).elim (fun z=>old (List.mem_append_left _ z)) fun z=>.inr (.inr (.inr ⟨_,_,un_comb,un_last,(List.mem_singleton.mp z).symm⟩))) fun z=>old (List.mem_append_right _ z)
end
noncomputable def bitv (vs:List Nat) (i n:Nat):Bool:=(vs.getD n 0).testBit i
noncomputable abbrev wv (L:List (Nat × Nat)) (i q:Nat):Bool:=(val L q).testBit i
noncomputable def Evals (N:NetA) (A:AigA) (R:Nat) (L:List (Nat × Nat)) (vs:List Nat):Prop:=∀ i,i<R→A2 (Cons A.nodes (bitv vs i)) (Agree A.ins N.srcs (bitv vs i) (wv L i))
theorem val_some {L:List (Nat × Nat)}{q n:Nat} (h:L.lookup q=some n):val L q=n:=by unfold val;rw [h];rfl
theorem eq_bits {R a b:Nat} (ha:a<2^R) (hb:b<2^R) (h:∀ i,i<R→a.testBit i=b.testBit i):a=b:=Nat.eq_of_testBit_eq fun i=>by
 rcases Nat.lt_or_ge i R with hi|hi
 ·exact h i hi
 ·rw [Nat.testBit_lt_two_pow (Nat.lt_of_lt_of_le ha (Nat.pow_le_pow_right Nat.two_pos hi)),Nat.testBit_lt_two_pow (Nat.lt_of_lt_of_le hb (Nat.pow_le_pow_right Nat.two_pos hi))]
section
variable {N N':NetA}{A:AigA}{es:List (K × V)}{R:Nat}{L L':List (Nat × Nat)}
theorem keys_flat (l:List (Str × List Nat)):l.flatMap portKeys=(l.map shP).flatMap fun q=>(List.range q.2).map fun (s:Nat)=>K.tup [.str q.1,.int s]:=by
 rw [List.flatMap_map];rfl
theorem Made.el {P:Prop} (M:Made N A N') (q:N'.ins=mkPorts 2 N.ins→N'.outs.map shP=N.outs.map shP→N'.states.map shC=N.states.map shC→N'.srcs=List.range' 2 N.srcs.length→∀ L,Mk A N'.srcs N' L→All2 (fun n q=>L.lookup q=some n) N'.snks A.outs→N'.cells.length<700000→P):P:=by
 obtain ⟨h1,h2,h3,h4,L,K,g,s⟩:=M
 exact q h1 h2 h3 h4 L K g s
theorem Made.keysL (M:Made N A N'):N'.keysL=N.keysL:=M.el fun h1 zz h3 zz zz zz zz zz=>by
 unfold NetA.keysL
 have e:=congrArg (List.map fun x:Kd × Par × Nat=>K.str (qn x.2.1)) h3
 rw [List.map_map,List.map_map] at e
 rw [h1,keys_flat,mkPorts_shape,←keys_flat]
 exact congrArg (_++·) e
theorem Made.qns (M:Made N A N'):(N'.states.map fun c=>qn c.par)=N.states.map fun c=>qn c.par:=M.el fun zz zz h3 zz zz zz zz zz=>by
 have e:=congrArg (List.map fun x:Kd × Par × Nat=>qn x.2.1) h3
 rw [List.map_map,List.map_map] at e
 exact e
theorem stOk_par {c d:Cell} (h:stOk d) (e:d.par=c.par):stOk c:=by
 cases h with
 | flop x q i h=>exact .flop x q i (e▸h)
 | latch q i h=>exact .latch q i (e▸h)
theorem Made.wnet (M:Made N A N') (W:WNet N):WNet N':=by
 have hk:=M.keysL
 refine M.el fun zz zz h3 zz L K zz s=>⟨K.1,K.4,fun c hc=>(K.3 c hc).2,fun c hc=>?_,Nat.lt_trans s (nb rfl),by rw [hk];exact W.6⟩
 have h1:shC c∈N'.states.map shC:=List.mem_map_of_mem hc
 rw [h3] at h1
 obtain ⟨d,hd,e⟩:=List.mem_map.mp h1
 exact stOk_par (W.4 d hd) (congrArg (·.2.1) e)
theorem Made.known (M:Made N A N'):∀ q∈N'.snks,q∈Dn N'.srcs N'.combs:=M.el fun zz zz zz zz L K g zz q hq=>by
 obtain ⟨k,hk⟩:=List.getElem?_of_mem hq
 exact g.get hk fun p zz h=>K.5 p q h
theorem Made.kinds (M:Made N A N'):∀ c∈N'.cells,c.kd=.and∨c.kd=.not∨c.kd=.flop∨c.kd=.latch:=M.el fun zz zz zz zz L K g zz c hc=>by
 cases hs:c.kd.state with
 | false=>exact ((K.3 c (List.mem_filter.mpr ⟨hc,by rw [hs];rfl⟩)).1).imp id .inl
 | true=>cases hk:c.kd <;> rw [hk] at hs <;> first|(cases hs;done)|exact .inr (.inr (.inl rfl))|exact .inr (.inr (.inr rfl))
theorem Words.net (W:Words N es R L) {i:Nat} (hi:i<R):NetCons N (wv L i):=by
 refine ⟨by unfold wv;rw [val_some W.1.1,Nat.zero_testBit],by unfold wv;rw [val_some W.1.2,Nat.testBit_two_pow_sub_one];exact decide_eq_true hi,fun c hc hk=>?_⟩
 obtain ⟨j,hj⟩:=List.getElem?_of_mem (show c∈N.combs from List.mem_filter.mpr ⟨hc,by rw [hk];rfl⟩)
 obtain ⟨n,h2,_,h3⟩:=W.2 (at_lt hj) hj
 unfold wv
 rw [val_some h2]
 exact h3 i hi
theorem Words.srcv (W:Words N es R L) {k s:Nat}{key:K} (h:N.srcs[k]?=some s) (hk:N.keysL[k]?=some key):SrcW es R L (s,key):=by
 rw [←sk_fst,List.getElem?_map] at h
 rw [←sk_snd,List.getElem?_map] at hk
 cases e:N.sk[k]? with
 | none=>rw [e] at h;exact noS rfl h
 | some p =>
  rw [e] at h hk
  cases h
  cases hk
  exact W.1.3 p (List.mem_of_getElem? e)
theorem Words.bound (W:Words N es R L) {q:Nat} (h:q∈Dn N.srcs N.combs):val L q<2^R:=by
 obtain ⟨n,h1,h2⟩:=known (k:=N.combs.length) W.1 W.2 (by rw [List.take_length];exact h)
 rw [val_some h1];exact h2
theorem Made.vals (M:Made N A N') (B:Built N A) (W:Words N es R L) (W':Words N' es R L') (kn:∀ q∈N.snks,q∈Dn N.srcs N.combs) {vs:List Nat} (E:Evals N A R L vs):N'.snks.map (val L')=N.snks.map (val L):=by
 have kn':=M.known
 have hkeys:=M.keysL
 refine M.el fun zz zz zz zz L2 K g zz=>All2.map_eq (R:=fun s' s=>val L' s'=val L s) ⟨g.1.trans B.3,fun k s' s h2 h1=>?_⟩ fun zz zz e=>e
 refine eq_bits (W'.bound (kn' s' (List.mem_of_getElem? h2))) (W.bound (kn s (List.mem_of_getElem? h1))) fun i hi=>?_
 have E1:=(E i hi).1
 have E2:=(E i hi).2
 refine g.get h2 fun q h3 h4=>?_
 have NW':=W'.net hi
 have ag':Agree A.ins N'.srcs (bitv vs i) (wv L' i):=fun j a t' e1 e2=>by
  have hj:j<N.srcs.length:=by
   have e:=at_lt e1
   rw [B.2,List.length_range'] at e;exact e
  have hjk:j<N.keysL.length:=by rw [keys_len];exact hj
  have e3:=List.getElem?_eq_getElem hj
  have e4:=List.getElem?_eq_getElem hjk
  obtain ⟨n,q1,_,q3⟩:=W.srcv e3 e4
  obtain ⟨n',r1,_,r3⟩:=W'.srcv e2 (by rw [hkeys];exact e4)
  have en:n=n':=Int.ofNat.inj (V.int.inj (Option.some.inj (q1.symm.trans r1)))
  have e5:=E2 j a _ e1 e3
  unfold wv at e5 ⊢
  rw [val_some q3] at e5
  rw [val_some r3,←en]
  exact e5
 have h5:=K.6 q s' h4 (bitv vs i) (wv L' i) E1 ⟨NW'.1,NW'.2,NW'.3⟩ ag'
 have h7:=congrArg (fun l=>l[k]?) (B.5 (bitv vs i) (wv L i) E1 (W.net hi) E2)
 rw [List.getElem?_map,List.getElem?_map,h3,h1] at h7
 exact h5.trans (Option.some.inj h7)
theorem flat_split {α:Type}{s:α→List Nat}{f f':Nat→Nat}{γ:Type}{a:α→γ}:∀ {ps qs:List α}{X Y:List Nat},ps.map (fun p=>(a p,(s p).length))=qs.map (fun q=>(a q,(s q).length))→(ps.flatMap s).map f++X=(qs.flatMap s).map f'++Y→A2 (ps.map (fun p=>(a p,(s p).map f))=qs.map (fun q=>(a q,(s q).map f'))) (X=Y)
 | [],[],X,Y,_,h=>⟨rfl,h⟩
 | [],_::_,X,Y,h,_=>nomatch h
 | _::_,[],X,Y,h,_=>nomatch h
 | p::ps,q::qs,X,Y,h,e=>by
  rw [List.map_cons,List.map_cons] at h
  have h1:=(List.cons.inj h).1
  have h2:=(List.cons.inj h).2
  rw [List.flatMap_cons,List.flatMap_cons,List.map_append,List.map_append,List.append_assoc,List.append_assoc] at e
  obtain ⟨e1,e2⟩:=List.append_inj e (by rw [List.length_map,List.length_map];exact (Prod.mk.inj h1).2)
  have i:=flat_split (a:=a) h2 e2
  exact ⟨by rw [List.map_cons,List.map_cons,i.1,(Prod.mk.inj h1).1,e1],i.2⟩
theorem Made.sinks (M:Made N A N') (h:N'.snks.map (val L')=N.snks.map (val L)):A2 (N'.outs.map (portD L')=N.outs.map (portD L)) (N'.states.map (stateD L')=N.states.map (stateD L)):=by
 unfold NetA.snks at h
 rw [List.map_append,List.map_append] at h
 refine M.el fun zz ho hs zz zz zz zz zz=>?_
 have h1:=flat_split (a:=fun p:Str × List Nat=>p.1) (s:=fun p:Str × List Nat=>p.2) ho h
 have sts:N'.states.map (fun c=>((c.kd,c.par),c.ins.length))=N.states.map fun c=>((c.kd,c.par),c.ins.length):=by
  have e:=congrArg (List.map fun x:Kd × Par × Nat=>((x.1,x.2.1),x.2.2)) hs
  rw [List.map_map,List.map_map] at e
  exact e
 have h3:=flat_split (X:=[]) (Y:=[]) (a:=fun c:Cell=>(c.kd,c.par)) (s:=fun c:Cell=>c.ins) sts (by rw [List.append_nil,List.append_nil];exact h1.2)
 constructor
 ·have e:=congrArg (List.map fun x:Str × List Nat=>PyData.tuple [.str x.1,.list (x.2.map fun (n:Nat)=>.int (n:Int))]) h1.1
  rw [List.map_map,List.map_map] at e
  refine Eq.trans ?_ (e.trans ?_) <;> exact List.map_congr_left fun p zz=>by
   unfold portD wordsD
   dsimp only [Function.comp]
   rw [List.map_map];rfl
 ·have e:=congrArg (List.map fun x:(Kd × Par) × List Nat=>(K.str (qn x.1.2),PyData.tuple [.str x.1.1.str,parD x.1.2,.list (x.2.map fun (n:Nat)=>.int (n:Int))])) h3.1
  rw [List.map_map,List.map_map] at e
  refine Eq.trans ?_ (e.trans ?_) <;> exact List.map_congr_left fun p zz=>by
   unfold stateD wordsD
   dsimp only [Function.comp]
   rw [List.map_map];rfl
end
structure Air (B:Heap) (l:List Env) (e D:Addr) (hd:Value) (h:Heap):Prop where
 stays:B.StaysIn h
 new:B.get? e=none
 frames:h.FunFrames B l
 ex:∃ oe vs,h.get? e=some oe∧oe.cls=.ref 52∧oe.dict=some D∧oe.data=.fields vs∧vs[1]?=some hd
structure TbAt (B:Heap) (e T:Addr) (fl:Value) (h:Heap):Prop where
 new:B.get? T=none
 ne:T≠e
 ex:∃ oT ts,h.get? T=some oT∧oT.data=.fields ts∧ts[3]?=some fl
noncomputable def HeadAt (B:Heap) (e:Addr) (hd:Value) (h:Heap):Prop:=hd=.none∨∃ T,hd=.ref T∧TbAt B e T .none h
section
variable {M:Model}{A:Around}{E:Value→Shared→Prop}{s:Shared}{B:Heap}{l outer:List Env}{env:Env}{e D T L:Addr}{hd fl x:Value}{Q:Unit→Shared→Prop}
theorem upd_other {h:Heap}{a:Addr}{f:Obj→Obj}{b:Addr} (hb:b≠a):(h.update a f).get? b=h.get? b:=Heap.get?_update_other _ _ (Ne.symm hb)
theorem rec_ne {h:Heap}{a b:Addr}{oa ob:Obj}{vs:Array Value} (ha:h.get? a=some oa) (hda:oa.data=.fields vs) (hb:h.get? b=some ob) (hn:∀ ws,ob.data≠.fields ws):b≠a:=fun q=>by
 rw [q,ha] at hb;cases hb;exact hn vs hda
theorem set_tb (a1:Air B l e D (.ref T) s.heap) (a2:TbAt B e T fl s.heap) (h:∀ h',Air B l e D (.ref T) h'→TbAt B e T x h'→s.heap.UpToSlots h'→Q () { s with heap:=h' }):wpAny M A (setField (.ref T) 3 x) Q E s:=by
 obtain ⟨oT,ts,hT,hdT,h3⟩:=a2.ex
 have hsz:=(Array.getElem?_eq_some_iff.mp h3).1
 refine wpAny_setField hT hdT hsz ?_
 have self:=Heap.get?_update_self (Obj.mapFields (·.setIfInBounds 3 x)) hT (Obj.isFreed_of_fields (Obj.data_mapFields hdT _))
 have other:∀ b,b≠T→(s.heap.update T (Obj.mapFields (·.setIfInBounds 3 x))).get? b=s.heap.get? b:=fun b hb=>upd_other hb
 have keep:∀ b o,s.heap.get? b=some o→(∀ ws,o.data≠.fields ws)→(s.heap.update T (Obj.mapFields (·.setIfInBounds 3 x))).get? b=some o:=fun b o hb hn=>(other b (rec_ne hT hdT hb hn)).trans hb
 refine h _ ⟨fun b o hb=>?_,a1.new,a1.frames.of_keeps fun b o hb hn=>⟨o,keep b o hb hn,rfl⟩,?_⟩ ⟨a2.new,a2.ne,_,_,self,Obj.data_mapFields hdT _,by simp [hsz]⟩ fun b o hb hn=>⟨o.slots,keep b o hb hn⟩
 ·refine (other b fun q=>?_).trans (a1.stays b o hb)
  have:=a2.new
  rw [←q,hb] at this;cases this
 ·obtain ⟨oe,vs,he,r⟩:=a1.ex
  exact ⟨oe,vs,(other e (Ne.symm a2.ne)).trans he,r⟩
theorem flight_off (a1:Air B l e D (.ref T) s.heap) (a2:TbAt B e T fl s.heap) (h:∀ h',Air B l e D (.ref T) h'→TbAt B e T .none h'→s.heap.UpToSlots h'→Q () { s with heap:=h' }):wpAny M A (setFlight (.ref e) none) Q E s:=by
 obtain ⟨oe,vs,he,hc,hD,hdat,h1⟩:=a1.ex
 unfold setFlight
 refine wpAny_bind (wpAny_field he hdat h1 ?_)
 rw [if_pos (show (Value.ref T != Value.none)=true from by simp)]
 exact set_tb a1 a2 h
theorem new_entry {hadNext:Bool} (hfr:A.frames=some (env::outer)) (hf:env.frame=some L) (a1:Air B (env::outer) e D hd s.heap)
  (h:∀ h' T,Air B (env::outer) e D (.ref T) h'→TbAt B e T (rawInt L) h'→s.heap.UpToSlots h'→Q () { s with heap:=h' }) :
  wpAny M A (do let a←frameOf env;let pl←entryPlaceOf L hadNext;let b←EntryCells.newEntry x a .none (rawInt L) .none pl;setField (.ref e) 1 b) Q E s:=by
 obtain ⟨oe,vs,he,hc,hD,hdat,h1⟩:=a1.ex
 have hsz:=(Array.getElem?_eq_some_iff.mp h1).1
 have hoff:e∉(env::outer).filterMap (·.frame):=fun hm=>by
  obtain ⟨_,o,ho,hn⟩:=a1.frames.mem hm
  rw [he] at ho;cases ho;exact hn vs hdat
 refine wpAny_bind (wpAny_frameOf_fun hfr a1.frames hf fun g1 s1=>wpAny_bind (wpAny_entryPlaceOf fun pl hpl=>?_))
 unfold EntryCells.newEntry newFields
 refine wpAny_bind (wpAny_newObj_type ?_ (hpl.sizeOk5 _ _ _ _ _))
 generalize hrec:([x,Value.ref L,Value.none,rawInt L,Value.none]++(if pl.isEmpty then List.replicate 6 Value.none else pl)).toArray=rec
 have hr3:rec[3]?=some (rawInt L):=by rw [←hrec];simp
 have he1:g1.get? e=some oe:=(s1.2.1 e hoff).trans he
 have st1:B.StaysIn g1:=fun b o hb=>(s1.2.1 b fun hm=>by rw [(a1.frames.mem hm).1] at hb;cases hb).trans (a1.stays b o hb)
 have he2:=Heap.get?_push_of_some (h:=g1) { cls:=.type "traceback",dict:=none,data:=.fields rec } he1
 have neT:g1.objs.size≠e:=Nat.ne_of_gt (Heap.lt_size he1)
 refine wpAny_setField he2 hdat hsz ?_
 have hd3:=Obj.data_mapFields hdat (·.setIfInBounds 1 (Value.ref g1.objs.size))
 have he3:=Heap.get?_update_self (Obj.mapFields (·.setIfInBounds 1 (Value.ref g1.objs.size))) he2 (Obj.isFreed_of_fields hd3)
 have hT3:((g1.push { cls:=.type "traceback",dict:=none,data:=.fields rec }).update e (Obj.mapFields (·.setIfInBounds 1 (Value.ref g1.objs.size)))).get? g1.objs.size=some { cls:=.type "traceback",dict:=none,data:=.fields rec } :=
  (upd_other neT).trans (Heap.get?_push_size g1 rfl)
 have keep:∀ b o,b≠e→g1.get? b=some o→((g1.push { cls:=.type "traceback",dict:=none,data:=.fields rec }).update e (Obj.mapFields (·.setIfInBounds 1 (Value.ref g1.objs.size)))).get? b=some o:=fun b o hb ho =>
  (upd_other hb).trans (Heap.get?_push_of_some _ ho)
 have up:s.heap.UpToSlots ((g1.push { cls:=.type "traceback",dict:=none,data:=.fields rec }).update e (Obj.mapFields (·.setIfInBounds 1 (Value.ref g1.objs.size)))):=fun b o hb hn=>by
  obtain ⟨sl,hs⟩:=s1.2.2 b o hb
  exact ⟨sl,keep b _ (rec_ne he hdat hb hn) hs⟩
 refine h _ g1.objs.size ⟨fun b o hb=>keep b o (fun q=>?_) (st1 b o hb),a1.new,a1.frames.of_keeps fun b o hb hn=>?_,⟨_,_,he3,?_,?_,hd3,by simp [hsz]⟩⟩ ⟨st1.fresh,neT,_,_,hT3,rfl,hr3⟩ up
 ·have:=a1.new
  rw [←q,hb] at this;cases this
 ·obtain ⟨sl,hs⟩:=up b o hb hn
  exact ⟨_,hs,rfl⟩
 ·rw [Obj.cls_mapFields];exact hc
 ·show (Obj.mapFields _ oe).dict=some D
  rw [←hD];unfold Obj.mapFields;split <;> rfl
theorem note_air (hfr:A.frames=some (env::outer)) (hf:env.frame=some L) (a1:Air B (env::outer) e D hd s.heap) (a2:HeadAt B e hd s.heap)
  (h:∀ h' T,Air B (env::outer) e D (.ref T) h'→TbAt B e T (rawInt L) h'→s.heap.UpToSlots h'→Q () { s with heap:=h' }):wpAny M A (noteFrame (.ref e) env) Q E s:=by
 obtain ⟨oe,vs,he,hc,hD,hdat,h1⟩:=id a1.ex
 unfold noteFrame
 simp only [hf]
 refine wpAny_bind (wpAny_field he hdat h1 ?_)
 rcases a2 with rfl|⟨T,rfl,a2⟩
 ·rw [if_neg (by decide)]
  exact new_entry hfr hf a1 h
 ·obtain ⟨oT,ts,hT,hdT,h3⟩:=id a2.ex
  rw [if_pos (show (Value.ref T != Value.none)=true from by simp)]
  refine wpAny_bind (wpAny_field hT hdT h3 ?_)
  rw [if_neg (show ¬((Value.none==rawInt L)=true) from by simp [rawInt])]
  refine wpAny_bind (set_tb a1 a2 fun g1 b1 b2 b3=>?_)
  exact new_entry (s:={ s with heap:=g1 }) hfr hf b1 fun h' T' c1 c2 c3=>h h' T' c1 c2 (b3.trans c3)
theorem leave_air (hfr:A.frames=some (env::outer)) (hf:env.frame=some L) (a1:Air B (env::outer) e D hd s.heap) (a2:HeadAt B e hd s.heap)
  (h:∀ h' hd',Air B outer e D hd' h'→HeadAt B e hd' h'→s.heap.UpToSlots h'→Q () { s with heap:=h' }):wpAny M A (leaving env (.ref e)) Q E s:=by
 unfold leaving
 refine wpAny_bind (note_air hfr hf a1 a2 fun g1 T b1 b2 b3=>?_)
 refine flight_off (s:={ s with heap:=g1 }) b1 b2 fun g2 c1 c2 c3=>?_
 obtain ⟨_,_,fr⟩:=c1.frames
 exact h g2 _ ⟨c1.stays,c1.new,fr,c1.ex⟩ (.inr ⟨T,rfl,c2⟩) (b3.trans c3)
end
noncomputable def kindS:Str:=ofString "kind"
noncomputable def undS:Str:=ofString "undriven_net"
noncomputable def KindAt (P:Params) (B:Heap) (D:Addr):Prop:=∃ od t,B.get? D=some od∧findObj (KF P) 52 (some od) kindS=some (.value (.str undS t))
noncomputable def flyG (w:World) (d:Drawn) (os:OsState):Around→Keep→Mem→Addr→Shared→Prop:=fun A k zz ea s =>
 s.gens=#[]∧s.drawn=d∧s.os=os∧∃ l B D hd,A.frames=some l∧Air B l ea D hd s.heap∧HeadAt B ea hd s.heap∧KindAt w.params B D ∧
  (∀ a o,k a=some o→a∉l.filterMap (·.frame)→B.get? a=some o)∧(∀ a o,k a=some o→(∀ vs,o.data≠.fields vs)→∃ sl,s.heap.get? a=some { o with slots:=sl })
noncomputable def gcOf (w:World) (h0:Heap) (d:Drawn) (os:OsState):GC:=⟨w,h0,d,os,flyG w d os⟩
theorem leave_fly (w:World) (d:Drawn) (os:OsState) (A:Around) (env:Env) (k k':Keep) (m:Mem) (ea:Addr) (s:Shared) (L:Addr) (Fr:FramesK A k) (hk:env.scope.kind=.function) (hf:env.frame=some L) (hL:k L=none)
  (hkk:∀ a o,k a=some o→k' a=some o) (ho:∃ o,k' L=some o∧∀ vs,o.data≠.fields vs) (F:flyG w d os (A.deeper env) k' m ea s) :
  wpAny (model PW w) (A.deeper env) (leaving env (.ref ea)) (fun zz s'=>flyG w d os A k m ea s') (fun zz zz=>False) s:=by
 obtain ⟨h1,h2,h3,l',B,D,hd,hfr,a1,a2,a3,a4,a5⟩:=F
 obtain ⟨l,hl,hlk⟩:=Fr
 have e:(A.deeper env).frames=some (env::l):=by show A.frames.map (env::·)=_;rw [hl];rfl
 rw [e] at hfr
 injection hfr with hfr
 subst hfr
 refine leave_air e hf a1 a2 fun h' hd' b1 b2 b3=>⟨h1,h2,h3,l,B,D,hd',hl,b1,b2,a3,fun a o ha hn=>a4 a o (hkk a o ha) fun hm=>?_,fun a o ha hn=>?_⟩
 ·rw [List.filterMap_cons,hf] at hm
  rcases List.mem_cons.mp hm with rfl|hm
  ·rw [hL] at ha;cases ha
  ·exact hn hm
 ·obtain ⟨sl,hs⟩:=a5 a o (hkk a o ha) hn
  obtain ⟨sl',hs'⟩:=b3 a _ hs hn
  exact ⟨sl',hs'⟩
theorem fly_new {w:World}{h0:Heap}{d:Drawn}{os:OsState}{A:Around}{k:Keep}{m:Mem}{e D:Addr}{s:Shared}{oe:Obj}{vs:Array Value} (S:RelS (gcOf w h0 d os) k m s) (Fr:FramesK A k) (he:s.heap.get? e=some oe) (hc:oe.cls=.ref 52) (hD:oe.dict=some D)
  (hdat:oe.data=.fields vs) (h1:vs[1]?=some .none) (hke:k e=none) (hkD:k D=none) (hne:D≠e) (hk:∃ od t,s.heap.get? D=some od∧findObj (KF w.params) 52 (some od) kindS=some (.value (.str undS t))):flyG w d os A k m e s:=by
 obtain ⟨l,hl,hlk⟩:=Fr
 obtain ⟨od,t,hod,hkind⟩:=hk
 have inl:∀ a∈l.filterMap (·.frame),∃ o,k a=some o∧∀ vs,o.data≠.fields vs:=fun a ha=>by
  obtain ⟨env,he,hf⟩:=List.mem_filterMap.mp ha
  obtain ⟨_,L,o,h1,h2,h3⟩:=hlk env he
  rw [hf] at h1;cases h1
  exact ⟨o,h2,h3⟩
 have fr:∀ l',(∀ env∈l',env∈l)→s.heap.FunFrames (hideAll s.heap (e::l.filterMap (·.frame))) l':=by
  intro l'
  induction l' with
  | nil=>intro _;trivial
  | cons env r ih =>
   intro hm
   obtain ⟨q1,L,o,q2,q3,q4⟩:=hlk env (hm env List.mem_cons_self)
   exact ⟨q1,⟨L,o,q2,hideAll_none _ (List.mem_cons_of_mem _ (List.mem_filterMap.mpr ⟨env,hm env List.mem_cons_self,q2⟩)),S.mem.keep L o q3,q4⟩,ih fun x hx=>hm x (List.mem_cons_of_mem _ hx)⟩
 refine ⟨S.gens,S.drawn,S.os,l,hideAll s.heap (e::l.filterMap (·.frame)),D,.none,hl,⟨fun b o hb=>of_hideAll _ hb,hideAll_none _ List.mem_cons_self,fr l fun zz h=>h,⟨oe,vs,he,hc,hD,hdat,h1⟩⟩,.inl rfl,⟨od,t,hideAll_get _ hod fun hm=>?_,hkind⟩,fun a o ha hn=>hideAll_get _ (S.mem.keep a o ha) fun hm=>?_,fun a o ha hn=>⟨o.slots,S.mem.keep a o ha⟩⟩
 ·rcases List.mem_cons.mp hm with q|q
  ·exact hne q
  ·obtain ⟨o,h2,_⟩:=inl _ q
   rw [hkD] at h2;cases h2
 ·rcases List.mem_cons.mp hm with q|q
  ·rw [q,hke] at ha;cases ha
  ·exact hn q
end
section
open PySem PySem.W PyProof.Rows PySem.Calls Builtin Builtin.ObjectAttr
open Str (ofString)
noncomputable def bm52:List Value:=[.ref 39,.type "Exception",.type "BaseException",.type "object"]
noncomputable abbrev obj52:Obj:=excClassObj (ofString "SynthError") (ofString "SynthError") 52 51 [.ref 39] bm52 true [] [] false none none (some (.ref 43)) none (some (.str (ofString "SynthError") 232)) (some (.str (ofString "SynthError") 240)) (some (.bool true)) "Exception.__new__"
theorem at52 (P:Params):(KF P).lookup 52=some obj52:=by kernel_rfl
theorem in52 {P:Params}{h:Heap} (X:Frag.In (KF P) h):h.get? 52=some obj52:=X _ _ (at52 P)
noncomputable def cd52 (P:Params):ClassData:=match obj52.data with
 | .cls cd=>cd
 | _=>{ name:=ofString "",bases:=[],mro:=[],ns:=0,qualname:=ofString "" }
theorem cls52 (P:Params):clsIn (KF P) 52=some (cd52 P):=by kernel_rfl
theorem ga52 (P:Params):findIn (KF P) (.ref 52) "__getattribute__"=some (some (.builtin "BaseException.__getattribute__")):=by kernel_rfl
theorem sa52 (P:Params):findIn (KF P) (.ref 52) "__setattr__"=some (some (.builtin "object.__setattr__")):=by kernel_rfl
theorem in52i (P:Params):findIn (KF P) (.ref 52) "__init__"=some (some (.ref 36)):=by kernel_rfl
theorem obj_in52 (P:Params):mroIn (KF P) 52 (.type "object")=some true:=by kernel_rfl
section
variable {w:World}{A:Around}{E:Value→Shared→Prop}{s:Shared}{e D:Addr}{name:Str}{v:Value}
theorem set_open52 {ox:Obj}{od:Option Obj}{Q:Unit→Shared→Prop} (X:Frag.In (KF w.params) s.heap) (I:InstAt s.heap e ox 52 od) (hf:findIn (KF w.params) (.ref 52) name=some none)
  (h:∀ A',wpAny (model PW w) A' (storeInOwnDict (.ref e) (.ref 52) (.str name s.toks) name v false) (fun fin s'=>match fin with|.done (.ret _)=>Q () s'|_=>False) E { s with toks:=s.toks+1 }) :
  wpAny (model PW w) A (setAttr (.ref e) name v) Q E s:=by
 have SF:=PySem.F.store_object
 refine set_plain X I (sa52 _) ?_
 have X':Frag.In (KF w.params) ({ s with toks:=s.toks+1 }:Shared).heap:=X
 have I':InstAt ({ s with toks:=s.toks+1 }:Shared).heap e ox 52 od:=I
 have sub:Looks (model PW w) ({ s with toks:=s.toks+1 }:Shared).heap (isInstance (.ref e) (.type "object")) true:=I'.type.andThen (looks_mroIn X' (obj_in52 _))
 have hm:Looks (model PW w) ({ s with toks:=s.toks+1 }:Shared).heap (mroOf (.ref 52)) (.ref 52::.ref 39::[.type "Exception",.type "BaseException",.type "object"]):=(looks_clsIn X' (cls52 _)).andThen .now
 refine codeAny_call_builtin SF.slot.plain SF.entry (@check_slot (model PW w) _ _ { s with toks:=s.toks+1 } "object.__setattr__" "object" "__setattr__" (.ref e) [.str name s.toks,v] [] _ SF.kind SF.split sub (SF.args (.ref e) (.str name s.toks) v) ?_)
 rw [osa_eq,refuse_eq]
 refine wpAny_bind (wpAny_bind (I'.type.here (wpAny_bind (hm.here ?_))))
 rw [refuseLoop_ref,refuseLoop_ref,PySem.F.store_Exception.passes]
 refine wpAny_pure (wpAny_bind (I'.type.here (wpAny_bind ((looks_findIn X' hf).here (wpAny_bind ?_)))))
 refine wpAny_pure (a:=(none:Option Value)) ?_
 refine wpAny_mono (h _) (fun fin s' z=>?_) fun zz zz z=>z
 rcases fin with (_|_|_|_)|_ <;> first|exact z|exact z.elim
end
structure RawD (h:Heap) (e D:Addr) (mA:Str→Option Value):Prop where
 ex:∃ oe vs,h.get? e=some oe∧oe.cls=.ref 52∧oe.dict=some D∧oe.data=.fields vs∧vs[1]?=some .none
 ne:D≠e
 ns:h.Ns1 D mA
noncomputable abbrev exc0 (t:Addr):Obj:={ cls:=.ref 52,data:=.fields #[.ref t,.none,.none,.none,.bool false,.none] }
section
variable {w:World}{A:Around}{E:Value→Shared→Prop}{s:Shared}{e D t:Addr}{name:Str}{v:Value}{tk:Tok}{mA:Str→Option Value}
theorem store_new {Q:Fin→Shared→Prop} (X:Frag.In (KF w.params) s.heap) (he:s.heap.get? e=some (exc0 t))
  (hq:∀ h' tk',RawD h' e s.heap.objs.size (fun y=>if y=name then some v else none)→(∀ b o,b≠e→s.heap.get? b=some o→h'.get? b=some o)→Q (.done (.ret .none)) { s with heap:=h',toks:=tk' }) :
  wpAny (model PW w) A (storeInOwnDict (.ref e) (.ref 52) (.str name tk) name v false) Q E s:=by
 refine wpAny_bind (wpAny_pure (wpAny_bind (wpAny_bind (wpAny_loadPart he (wpAny_bind ((looks_clsIn X (cls52 _)).here ?_))))))
 have hd:(cd52 w.params).hasDict=true:=by kernel_rfl
 rw [hd]
 have he1:(s.heap.push { cls:=.type "dict",data:=.dict #[] }).get? e=some (exc0 t):=Heap.get?_push_of_some _ he
 have hxs:e≠s.heap.objs.size:=Nat.ne_of_lt (Heap.lt_size he)
 show wpAny _ _ ((alloc { cls:=.type "dict",data:=.dict #[] })>>=fun d=>(update e fun o=>{ cls:=o.cls,dict:=some d,data:=o.data,slots:=o.slots })>>=fun zz=>dictMade (.ref 52) e d) _ _ _
 refine wpAny_bind (wpAny_alloc' (wpAny_bind (wpAny_update' he1 (wpAny_pure ?_))))
 generalize hg:((s.heap.push { cls:=.type "dict",data:=.dict #[] }).update e fun o=>{ cls:=o.cls,dict:=some s.heap.objs.size,data:=o.data,slots:=o.slots })=g1
 have hgd:g1.get? s.heap.objs.size=some { cls:=.type "dict",data:=.dict #[] }:=by
  rw [←hg];exact (Heap.get?_update_ne _ _ _ _ hxs.symm).trans (Heap.get?_push_at rfl rfl)
 have hge:g1.get? e=some { exc0 t with dict:=some s.heap.objs.size }:=by
  rw [←hg];exact Heap.get?_update_self _ he1 rfl
 have hgo:∀ b o,b≠e→s.heap.get? b=some o→g1.get? b=some o:=fun b o hb ho=>by
  rw [←hg];exact (Heap.get?_update_ne _ _ _ _ hb).trans (Heap.get?_push_of_some _ ho)
 have hnd:g1.Ns s.heap.objs.size (fun zz=>none):=⟨_,#[],_,hgd,rfl,fun e he=>absurd he (by simp),fun zz=>rfl⟩
 show wpAny _ _ (storeInDict s.heap.objs.size (.str name tk) name v) _ _ _
 unfold storeInDict newKeyGuard
 refine wpAny_bind (wpAny_pure (wpAny_bind (wpAny_nsSet1 (Heap.Ns1.of_empty hnd) fun h' hn' hs=>?_)))
 obtain ⟨oD,esD,epD,hoD,hdD,hcD⟩:=hn'.count (Within.cons name v Within.nil)
 refine wpAny_bind (wpAny_lookBehind hoD (by rw [hdD];exact pastItsLine_dict (Nat.le_trans hcD (by rw [List.length_cons,List.length_nil,sizeLine_eq];exact Nat.succ_pos _))) ?_)
 refine wpAny_pure (hq h' _ ⟨⟨_,_,(hs.2 e hxs).trans hge,rfl,rfl,rfl,rfl⟩,hxs.symm,hn'⟩ fun b o hb ho=>(hs.2 b (Nat.ne_of_lt (Heap.lt_size ho))).trans (hgo b o hb ho))
theorem store_old {Q:Fin→Shared→Prop}{ns:List Str} (X:Frag.In (KF w.params) s.heap) (I:RawD s.heap e D mA) (hw:Within mA ns) (hsz:ns.length≤100)
  (hq:∀ h' tk',RawD h' e D (fun y=>if y=name then some v else mA y)→(∀ b o,b≠D→s.heap.get? b=some o→h'.get? b=some o)→Q (.done (.ret .none)) { s with heap:=h',toks:=tk' }) :
  wpAny (model PW w) A (storeInOwnDict (.ref e) (.ref 52) (.str name tk) name v false) Q E s:=by
 obtain ⟨⟨oe,vs,he,hc,hD,hdat,h1⟩,hne,hns⟩:=I
 obtain ⟨oc,odi,oda,osl⟩:=oe
 dsimp only at hc hD hdat
 subst hc hD hdat
 refine wpAny_bind (wpAny_pure (wpAny_bind (wpAny_bind (wpAny_loadPart he (wpAny_bind ((looks_clsIn X (cls52 _)).here ?_))))))
 have hd:(cd52 w.params).hasDict=true:=by kernel_rfl
 rw [hd]
 refine wpAny_pure (a:=some D) ?_
 show wpAny _ _ (storeInDict D (.str name tk) name v) _ _ _
 unfold storeInDict newKeyGuard
 refine wpAny_bind (wpAny_pure (wpAny_bind (wpAny_nsSet1 hns fun h' hn' hs=>?_)))
 obtain ⟨oD,esD,epD,hoD,hdD,hcD⟩:=hn'.count (Within.cons name v hw)
 refine wpAny_bind (wpAny_lookBehind hoD (by rw [hdD];exact pastItsLine_dict (Nat.le_trans hcD (by rw [List.length_cons,sizeLine_eq];exact hi2 hsz rfl))) ?_)
 refine wpAny_pure (hq h' _ ⟨⟨_,_,(hs.2 e hne.symm).trans he,rfl,rfl,rfl,h1⟩,hne,hn'⟩ fun b o hb ho=>(hs.2 b hb).trans ho)
theorem set_first {Q:Unit→Shared→Prop} (X:Frag.In (KF w.params) s.heap) (he:s.heap.get? e=some (exc0 t)) (hf:findIn (KF w.params) (.ref 52) name=some none)
  (hq:∀ h' tk',RawD h' e s.heap.objs.size (fun y=>if y=name then some v else none)→(∀ b o,b≠e→s.heap.get? b=some o→h'.get? b=some o)→Q () { s with heap:=h',toks:=tk' }) :
  wpAny (model PW w) A (setAttr (.ref e) name v) Q E s :=
 set_open52 X (od:=none) ⟨he,rfl,rfl,trivial⟩ hf fun A'=>store_new (s:={ s with toks:=s.toks+1 }) X he fun h' tk' a b=>hq h' tk' a b
theorem set_next {Q:Unit→Shared→Prop}{ns:List Str} (X:Frag.In (KF w.params) s.heap) (I:RawD s.heap e D mA) (hf:findIn (KF w.params) (.ref 52) name=some none) (hw:Within mA ns) (hsz:ns.length≤100)
  (hq:∀ h' tk',RawD h' e D (fun y=>if y=name then some v else mA y)→(∀ b o,b≠D→s.heap.get? b=some o→h'.get? b=some o)→Q () { s with heap:=h',toks:=tk' }) :
  wpAny (model PW w) A (setAttr (.ref e) name v) Q E s:=by
 obtain ⟨⟨oe,vs,he,hc,hD,hdat,h1⟩,hne,⟨od,es,ep,hod,r⟩⟩:=id I
 refine set_open52 X (od:=some od) ⟨he,hc,?_,?_⟩ hf fun A'=>store_old (s:={ s with toks:=s.toks+1 }) X I hw hsz fun h' tk' a b=>hq h' tk' a b
 ·unfold notCls;rw [hdat]
 ·rw [hD];exact hod
end
theorem at36 (P:Params):(KF P).lookup 36=some ⟨.type "function",none,.func fd36,#[]⟩:=by kernel_rfl
theorem code36 (P:Params):codeIn (KF P) fd36.code fd36.qualname=true:=by kernel_rfl
noncomputable def ps36:List Str:=[ofString "self",ofString "kind",ofString "at",ofString "detail"]
theorem fdok36:fdOk fd36 ps36=true:=by kernel_rfl
theorem bind36 (P:Params) (v0 v1 v2 v3:Value) (S:Setting):peek (KF P) S (bindArgs fd36 ⟨[v0,v1,v2,v3],[]⟩)=some [(ofString "self",v0),(ofString "kind",v1),(ofString "at",v2),(ofString "detail",v3)]:=by kernel_rfl
noncomputable def b36:List Stmt:=fBod (clAt 2 0)
theorem body36:∃ p1 p2 p3 p4 p5 p6 p7 p8 p9 p10 p11 p12,b36=[.Assign [.Attribute (.Name (ofString "self") p1) (ofString "kind") p2] (.Name (ofString "kind") p3) p4,.Assign [.Attribute (.Name (ofString "self") p5) (ofString "at") p6] (.Name (ofString "at") p7) p8,.Assign [.Attribute (.Name (ofString "self") p9) (ofString "detail") p10] (.Name (ofString "detail") p11) p12]:=⟨_,_,_,_,_,_,_,_,_,_,_,_,rfl⟩
theorem locals36:ps36.all (fun x=>fd36.scope.names.lookup x==some .local&&!(x==("__debug__":Str)))=true:=by kernel_rfl
theorem attr36 (P:Params):findIn (KF P) (.ref 52) (ofString "kind")=some none∧findIn (KF P) (.ref 52) (ofString "at")=some none∧findIn (KF P) (.ref 52) (ofString "detail")=some none:=⟨by kernel_rfl,by kernel_rfl,by kernel_rfl⟩
section
variable {c:FC}{σ:St}{s:Shared}{E:Value→Shared→Prop}{A:Around}
theorem name_here {x:Str}{i:Nat}{v:V}{pos:Pos}{Q:Value→Shared→Prop} (R:Rel c σ s) (O:c.Ok) (hi:c.names[i]?=some x) (hk:c.env.kindOf x=some .local) (hd:(x==("__debug__":Str))=false) (hv:look σ.ρ i=some v) (h:∀ u,vof u=v→Q u s) :
  wpAny (MW c.X.G.w) A (eval (.Name x pos) c.env) Q E s:=by
 obtain ⟨nm,hn,hl⟩:=R.F.loc
 obtain ⟨u,e1,e2⟩:=hl i x v hi hk hv
 exact wpAny_Name (wpAny_loadName_local O.kind hk hn e1 (h u e2)) hd
theorem attr_store {a x n:Str}{e:Addr}{i j:Nat}{v:V}{p1 p2 p3 p4:Pos}{Q:Flow→Shared→Prop} (R:Rel c σ s) (O:c.Ok) (hi:c.names[i]?=some a) (hj:c.names[j]?=some x) (hka:c.env.kindOf a=some .local) (hkx:c.env.kindOf x=some .local)
  (hda:(a==("__debug__":Str))=false) (hdx:(x==("__debug__":Str))=false) (hvi:look σ.ρ i=some (.ref e)) (hvj:look σ.ρ j=some v)
  (h:∀ u,vof u=v→wpAny (MW c.X.G.w) c.A (setAttr (.ref e) n u) (fun zz s'=>Q .next s') c.E s):wpAny (MW c.X.G.w) c.A (exec (.Assign [.Attribute (.Name a p1) n p2] (.Name x p3) p4) c.env) Q c.E s:=by
 refine wpAny_Assign_stores (name_here R O hj hkx hdx hvj fun u hu=>?_) rfl rfl
 show wpAny _ _ (assign (.Attribute (.Name a p1) n p2) c.env u) _ _ s
 rw [arm_assign_Attribute]
 refine wpAny_bind (wpAny_holding (name_here R O hi hka hda hvi fun ov hov=>?_))
 have:=vof_ref hov;subst this
 exact wpAny_bind (wpAny_standAt (wpAny_bind (wpAny_holding (wpAny_mono (h u hu) (fun zz s2 q2=>wpAny_release q2) fun zz zz e=>e))))
end
noncomputable def mA36 (v1 v2 v3:Value):Str→Option Value:=fun y=>if y=ofString "detail" then some v3 else if y=ofString "at" then some v2 else if y=ofString "kind" then some v1 else none
theorem init36 {G:GC}{r:Nat}{A:Around}{k:Keep}{s:Shared}{m:Mem}{e t:Addr}{v1 v2 v3:Value}{Q:Shared→Prop} (hG:G.Ok) (S:RelS G k m s) (B:Base G k) (Ro:Room A (r+1)) (hh:A.handled=none) (Fr:FramesK A k)
  (he:s.heap.get? e=some (exc0 t)) (hme:m e=none) (hke:k e=none)
  (hQ:∀ s' D u1 u2 u3,RelS G k m s'→RawD s'.heap e D (mA36 u1 u2 u3)→vof u1=vof v1→m D=none→k D=none→Q s') :
  codeAny (MW G.w) A (.call (.ref 36) ⟨[.ref e,v1,v2,v3],[]⟩) (fun r s'=>match r with|.ok (.ret v)=>v=.none∧Q s'|_=>False) s:=by
 have X:Frag.In (KF G.w.params) s.heap:=hG.K.keeps fun a o h=>S.mem.keep a o (B a o h)
 refine codeAny_mono (enter_gen (Ψ:=noΨ) (r:=r) (m:=m) (rest:=[]) (ps:=ps36) (QE:=fun zz zz=>False) (Q:=fun v s'=>v=.none∧Q s') (full:=[.ref e,vof v1,vof v2,vof v3]) hG S B Ro hh Fr (X _ _ (at36 _)) rfl (codeRec_of X (code36 _)) fdok36 (body:=b36) rfl (kp_binds X (bind36 _ _ _ _ _)) rfl rfl (fun zz zz zz zz z=>z.elim) ?_) fun r s' q=>?_
 ·intro c O hX hA hk hsc hnm hfn hfr hown hE s1 R1 g1
  have hG':c.X.G=G:=by rw [hX]
  subst hG'
  obtain ⟨p1,p2,p3,p4,p5,p6,p7,p8,p9,p10,p11,p12,hb1⟩:=body36
  rw [hb1]
  obtain ⟨f1,f2,f3⟩:=attr36 c.X.G.w.params
  have lc:=List.all_eq_true.mp locals36
  have kd:∀ x∈ps36,c.env.kindOf x=some .local∧(x==("__debug__":Str))=false:=fun x hx=>by
   have:=lc x hx
   simp only [Bool.and_eq_true,beq_iff_eq,Bool.not_eq_true'] at this
   refine ⟨?_,this.2⟩
   show c.env.scope.names.lookup x=_
   rw [hsc];exact this.1
  have nme:∀ (i:Nat) x,ps36[i]?=some x→c.names[i]?=some x:=fun i x q=>by rw [hnm,List.append_nil];exact q
  have hme1:e∉c.own:=fun q=>by have:=hown e q;rw [he] at this;cases this
  have he1:=g1 _ _ he
  have X1:Frag.In (KF c.X.G.w.params) s1.heap:=R1.kf O
  refine wpAny_execs_cons (attr_store (i:=0) (j:=1) R1 O (nme 0 _ rfl) (nme 1 _ rfl) (kd _ (by simp [ps36])).1 (kd _ (by simp [ps36])).1 (kd _ (by simp [ps36])).2 (kd _ (by simp [ps36])).2 rfl rfl fun u1 hu1=>?_)
  refine set_first X1 he1 f1 fun h2 tk2 I2 keep2=>?_
  have R2:Rel c _ { s1 with heap:=h2,toks:=tk2 }:=R1.off O keep2 hme (by rw [hk];exact hke) hme1 (fun o ho ⟨_,_,_,q⟩=>by rw [he1] at ho;cases ho;cases q) tk2
  have hD:m s1.heap.objs.size=none∧c.k s1.heap.objs.size=none:=R1.S.mem.newAt
  have hDo:=R1.fresh
  refine wpAny_execs_cons (attr_store (i:=0) (j:=2) R2 O (nme 0 _ rfl) (nme 2 _ rfl) (kd _ (by simp [ps36])).1 (kd _ (by simp [ps36])).1 (kd _ (by simp [ps36])).2 (kd _ (by simp [ps36])).2 rfl rfl fun u2 hu2=>?_)
  have nt:∀ {h:Heap}{mA:Str→Option Value},RawD h e s1.heap.objs.size mA→∀ o,h.get? s1.heap.objs.size=some o→¬tupO o:=fun I o ho ⟨_,_,_,q⟩=>by
   obtain ⟨o',es,ep,h1,h2,_⟩:=I.ns
   rw [ho] at h1;cases h1;rw [h2] at q;cases q
  have w1:Within (fun y=>if y=ofString "kind" then some u1 else none) [ofString "kind"]:=Within.cons _ _ Within.nil
  refine set_next (s:={ s1 with heap:=h2,toks:=tk2 }) (R2.kf O) I2 f2 w1 (by simp) fun h3 tk3 I3 keep3=>?_
  have R3:=R2.off O keep3 hD.1 hD.2 hDo (nt I2) tk3
  refine wpAny_execs_cons (attr_store (i:=0) (j:=3) R3 O (nme 0 _ rfl) (nme 3 _ rfl) (kd _ (by simp [ps36])).1 (kd _ (by simp [ps36])).1 (kd _ (by simp [ps36])).2 (kd _ (by simp [ps36])).2 rfl rfl fun u3 hu3=>?_)
  refine set_next (s:={ s1 with heap:=h3,toks:=tk3 }) (R3.kf O) I3 f3 (Within.cons _ _ w1) (by simp) fun h4 tk4 I4 keep4=>?_
  have R4:=R3.off O keep4 hD.1 hD.2 hDo (nt I3) tk4
  refine wpAny_execs_nil ⟨rfl,hQ _ _ u1 u2 u3 ?_ I4 hu1 hD.1 (by rw [←hk];exact hD.2)⟩
  have S4:=R4.S
  rw [hk] at S4
  exact S4
 ·rcases r with e|f
  ·exact q.elim
  ·cases f <;> first|exact q|exact q.elim
end
section
open PySem PySem.W PyProof.Rows PySem.Calls
open Str (ofString)
section
variable {w:World}{A:Around}{E:Value→Shared→Prop}{R:Result→Shared→Prop}{h:Heap}{g:Array GenState}{d:Drawn}{t:Nat}{os:OsState}
theorem check_new52 {M:Model}{rest:List Value}{Q:Unit→Shared→Prop} (hC:h.get? 52=some obj52) (hq:Q () ⟨h,g,d,t,os⟩):wpAny M A (checkBuiltinCall "Exception.__new__" ⟨.ref 52::rest,[]⟩) Q E ⟨h,g,d,t,os⟩:=by
 have F:=PySem.F.excBase_Exception
 have hcont:(Value.ref 52::bm52).contains (.type "Exception")=true:=by decide +kernel
 have hstar:=F.noStar
 simp only [checkBuiltinCall,F.newKind,F.newSplit,F.newRow]
 repeat (first|refine wpAny_loadPart_at hC ?_|(refine wpAny_isSubtype_exc hC ?_;rw [hcont])|refine wpAny_staticBase_exc hC ?_|refine wpAny_madeBy_exc hC ?_|simp only [bne_self_eq_false,Bool.false_eq_true,if_false]|wp_step)
 exact hq
theorem exc_new52 {rest:List Value} (hC:h.get? 52=some obj52) (hrest:rest.length≤sizeLine)
  (hq:R (.ok (.ret (.ref (h.objs.size+1)))) ⟨(h.push { cls:=.type "tuple",data:=.seq rest.toArray }).push (exc0 h.objs.size),g,d,t,os⟩) :
  codeAny (model PW w) A (.builtin "Exception.__new__" ⟨.ref 52::rest,[]⟩) R ⟨h,g,d,t,os⟩:=by
 have F:=PySem.F.excBase_Exception
 have hends:=F.ends
 have hcB:(Value.ref 52::bm52).contains (.type "Exception")=true:=by decide +kernel
 have hcA:(Value.ref 52::bm52).contains (.type "AttributeError")=false:=by decide +kernel
 have hcN:(Value.ref 52::bm52).contains (.type "NameError")=false:=by decide +kernel
 refine codeAny_builtinAt F.entry ?_
 unfold Builtin.«BaseException.__new__»
 refine PySem.wpAt_bind ?_
 show PySem.wpAt _ _ _ (stack>>=_) _ _ _
 refine PySem.wpAt_bind (PySem.wpAt_stack fun p below=>PySem.wpAt_of_wpAny ?_)
 wp_walk
 refine PySem.wpAt_of_wpAny ?_
 rw [F.owner]
 repeat (first|with_reducible refine wpAny_madeHere_exc F.canon hC ?_|with_reducible refine wpAny_loadPart_at hC ?_|(with_reducible refine wpAny_isSubtype_exc hC ?_;first|rw [hcB]|rw [hcA]|rw [hcN])|wp_step)
 show R _ _
 rw [Heap.size_push]
 exact hq
theorem type_call52 {rest:List Value}{Q:Fin→Shared→Prop} (X:Frag.In (KF w.params) h) (hrest:rest.length≤sizeLine)
  (hq:wpAny (model PW w) A (call (.ref 36) (.ref (h.objs.size+1)::rest)) (fun r s'=>r=.none∧Q (.done (.ret (.ref (h.objs.size+1)))) s') E ⟨(h.push { cls:=.type "tuple",data:=.seq rest.toArray }).push (exc0 h.objs.size),g,d,t,os⟩) :
  wpAny (model PW w) A (Builtin.«type.__call__» ⟨.ref 52::rest,[]⟩) Q E ⟨h,g,d,t,os⟩:=by
 have F:=PySem.F.excBase_Exception
 have hC:=in52 X
 repeat (first|with_reducible refine wpAny_loadPart_at hC ?_|with_reducible refine wpAny_madeBy_exc hC ?_|wp_step)
 refine codeAny_call_builtin_code (Code.quiet_builtin _ F.quiet) (check_new52 hC ?_)
 refine exc_new52 hC hrest ?_
 show wpAny _ _ _ _ _ _
 have X1:Frag.In (KF w.params) ((h.push { cls:=.type "tuple",data:=.seq rest.toArray }).push (exc0 h.objs.size)):=X.keeps fun b o e=>Heap.get?_push_of_some _ (Heap.get?_push_of_some _ e)
 have hC₁:=in52 X1
 have hget:((h.push { cls:=.type "tuple",data:=.seq rest.toArray }).push (exc0 h.objs.size)).get? (h.objs.size+1)=some (exc0 h.objs.size):=by heap_get
 have hfI:=X1 _ _ (at36 _)
 have hcC:(Value.ref 52::bm52).contains (.ref 52)=true:=by decide +kernel
 unfold isInstance
 repeat (first|with_reducible refine wpAny_loadPart_at hget ?_|(with_reducible refine wpAny_isSubtype_exc hC₁ ?_;rw [hcC])|wp_step)
 refine (looks_findIn X1 (in52i _)).here ?_
 refine wpAny_holding (wpAny_bind ?_)
 unfold bindSpecial
 refine wpAny_bind (wpAny_typeOf (T:="function") ⟨_,hfI,rfl⟩ ?_)
 rw [if_pos (by decide)]
 refine wpAny_pure (wpAny_bind (wpAny_mono hq (fun r s' hr=>?_) fun zz zz x=>x))
 obtain ⟨rfl,hQ⟩:=hr
 wp_walk
 exact hQ
end
theorem call52 {G:GC}{r:Nat}{A:Around}{k:Keep}{s:Shared}{m:Mem}{v1 v2 v3:Value}{Q:Value→Shared→Prop} (hG:G.Ok) (S:RelS G k m s) (B:Base G k) (Ro:Room A (r+2)) (hh:A.handled=none) (Fr:FramesK A k)
  (hQ:∀ s' e D u1 u2 u3,RelS G k m s'→RawD s'.heap e D (mA36 u1 u2 u3)→vof u1=vof v1→k e=none→k D=none→Q (.ref e) s') :
  codeAny (MW G.w) A (.call (.ref 52) ⟨[v1,v2,v3],[]⟩) (fun r s'=>match r with|.ok (.ret v)=>Q v s'|_=>False) s:=by
 have X:Frag.In (KF G.w.params) s.heap:=hG.K.keeps fun a o h=>S.mem.keep a o (B a o h)
 have hC:=in52 X
 have hu:=tc_under A 52 [v1,v2,v3] []
 obtain ⟨h0,g,d,t,os⟩:=s
 have f1:=tc_lookup
 have f2:=tc_bind (.ref 52)
 have hT:(⟨h0,g,d,t,os⟩:Shared).TypeIs (.ref 52) "type":=⟨_,hC,rfl⟩
 have kb:∀ b o,h0.get? b=some o→((h0.push { cls:=.type "tuple",data:=.seq [v1,v2,v3].toArray }).push (exc0 h0.objs.size)).get? b=some o:=fun b o e=>Heap.get?_push_of_some _ (Heap.get?_push_of_some _ e)
 have S1:RelS G k m ⟨(h0.push { cls:=.type "tuple",data:=.seq [v1,v2,v3].toArray }).push (exc0 h0.objs.size),g,d,t,os⟩:=⟨S.gens,S.drawn,S.os,S.mem.grown kb,S.lo⟩
 have hget:((h0.push { cls:=.type "tuple",data:=.seq [v1,v2,v3].toArray }).push (exc0 h0.objs.size)).get? (h0.objs.size+1)=some (exc0 h0.objs.size):=by heap_get
 have hfr:m (h0.objs.size+1)=none∧k (h0.objs.size+1)=none:=S.mem.fresh (Heap.get?_none_of_le (Nat.le_succ _))
 have Ro1:Room (A.under (.builtin "type.__call__" ⟨.ref 52::[v1,v2,v3],[]⟩)) (r+1):=by unfold Room at *;lia
 have hh1:(A.under (.builtin "type.__call__" ⟨.ref 52::[v1,v2,v3],[]⟩)).handled=none:=by rw [hu.2.2.2];exact hh
 have Fr1:FramesK (A.under (.builtin "type.__call__" ⟨.ref 52::[v1,v2,v3],[]⟩)) k:=by obtain ⟨l,a,b⟩:=Fr;exact ⟨l,by rw [hu.2.2.1];exact a,b⟩
 refine codeAny_of_tree ?_
 show wpAny _ _ (callAny (.ref 52) _) _ _ _
 repeat (any_goals (first|assumption|with_reducible refine wpAny_loadPart_at hC ?_|wp_step))
 refine ⟨rfl,?_⟩
 refine codeAny_call_builtin_at (Code.quiet_builtin _ (by decide +kernel)) entry_typeCall (wpAny_check_type_call_sub hC (type_call52 X (by show (3:Nat)≤sizeLine;rw [sizeLine_eq];decide) ?_))
 refine wpAny_call (codeAny_mono (init36 (r:=r) (Q:=fun s'=>Q (.ref (h0.objs.size+1)) s') hG S1 B Ro1 hh1 Fr1 hget hfr.1 hfr.2 fun s' D u1 u2 u3 a b c e1 e2=>hQ s' _ D u1 u2 u3 a b c hfr.2 e2) fun r s' q=>?_)
 rcases r with e|f
 ·exact q.elim
 ·cases f <;> first|exact q|exact q.elim
noncomputable def b293:List Stmt:=bodyOf fd293
noncomputable def st293:Stmt:=(b293[0]?).getD (.Pass default)
noncomputable def rst293:List Stmt:=b293.drop 1
noncomputable def ifT:Stmt→PySem.Expr
 | .If t _ _ _=>t
 | _=>.Constant .none 0 default
noncomputable def ifB:Stmt→List Stmt
 | .If _ b _ _=>b
 | _=>[]
noncomputable def ifP:Stmt→Pos
 | .If _ _ _ p=>p
 | _=>default
noncomputable def raE:Stmt→PySem.Expr
 | .Raise (some e) _ _=>e
 | _=>.Constant .none 0 default
noncomputable def raP:Stmt→Pos
 | .Raise _ _ p=>p
 | _=>default
noncomputable def caA:PySem.Expr→List PySem.Expr
 | .Call _ es _ _=>es
 | _=>[]
noncomputable def caP:PySem.Expr→Pos
 | .Call _ _ _ p=>p
 | _=>default
noncomputable def caF:PySem.Expr→PySem.Expr
 | .Call f _ _ _=>f
 | _=>.Constant .none 0 default
noncomputable def naP:PySem.Expr→Pos
 | .Name _ p=>p
 | _=>default
noncomputable def ra293:Stmt:=((ifB st293)[0]?).getD (.Pass default)
noncomputable def ca293:PySem.Expr:=raE ra293
noncomputable def arg293 (i:Nat):PySem.Expr:=((caA ca293)[i]?).getD (.Constant .none 0 default)
noncomputable def cx293:CX:=(defD 293 fd293).cx
theorem shape293:b293=.If (ifT st293) [.Raise (some (.Call (.Name (ofString "SynthError") (naP (caF ca293))) [arg293 0,arg293 1,arg293 2] [] (caP ca293))) none (raP ra293)] [] (ifP st293)::rst293:=by kernel_rfl
theorem test293:(compE 20 cx293 (ifT st293)).map (·.1)=some (.cmp .NotIn (.var 1) (.var 0)):=by kernel_rfl
theorem a0_293:(compE 20 cx293 (arg293 0)).map (·.1)=some (.str undS):=by kernel_rfl
theorem a1_293:(compE 20 cx293 (arg293 1)).map (·.1)=some (.neg (.int 1)):=by kernel_rfl
theorem a2_293:(compE 20 cx293 (arg293 2)).map (·.1)=some (.bi .str (.cons (.var 1) .nil)):=by kernel_rfl
theorem ns293:[arg293 0,arg293 1,arg293 2].all notStar=true:=by kernel_rfl
theorem kd293:fd293.scope.names.lookup (ofString "SynthError")=some .globalImplicit:=by kernel_rfl
theorem keep52 (P:Params):keepIn (KF P) (.ref 52)=true:=by kernel_rfl
theorem glob52 (P:Params):nsIn (KF P) mainGlobals (ofString "SynthError")=some (some (.ref 52)):=by kernel_rfl
end
section
open PySem PySem.W PyProof.Rows PySem.Calls Builtin Builtin.ObjectAttr
open Str (ofString)
theorem find_kind {P:Params}{od:Obj}{es:Array DictEntry}{ep:Nat}{v:Value} (hd:od.data=.dict es ep) (hv:nsFind es kindS=some v):findObj (KF P) 52 (some od) kindS=some (.value v):=by
 have h1:lookIn kindS od=some (some v):=by
  unfold lookIn
  rw [hd]
  unfold nsFind at hv
  dsimp only
  obtain ⟨e,he,rfl⟩:=Option.map_eq_some_iff.mp hv
  rw [←Array.find?_toList] at he
  rw [he]
 unfold findObj
 rw [cls52,show kindS=ofString "kind" from rfl,(attr36 P).1]
 have hh:(cd52 P).hasDict=true:=by kernel_rfl
 show ((W.ownOf (cd52 P) (some od) (ofString "kind")).bind _)=_
 unfold W.ownOf
 rw [hh,if_pos rfl]
 show ((lookIn kindS od).bind _)=_
 rw [h1];rfl
theorem raise52 {M:Model}{A:Around}{E:Value→Shared→Prop}{env:Env}{s:Shared}{x:Sem Value}{Q:Flow→Shared→Prop} (hh:A.handled=none)
  (h:wpAny M A x (fun v s₁=>∃ e oe vs,v=.ref e∧s₁.heap.get? 52=some obj52∧s₁.heap.get? e=some oe∧oe.cls=.ref 52∧oe.data=.fields vs∧vs[1]?=some .none∧E (.ref e) s₁) E s) :
  wpAny M A (raiseStmt env (some x) none) Q E s:=by
 have hcB:(Value.ref 52::bm52).contains (.type "BaseException")=true:=by decide +kernel
 unfold raiseStmt
 refine wpAny_bind (wpAny_mono h (fun v s₁ h₁=>?_) fun zz zz x=>x)
 obtain ⟨e,oe,vs,rfl,hC,he,hcls,hdat,h1,hE⟩:=h₁
 obtain ⟨oc,odi,oda,osl⟩:=oe
 dsimp only at hcls hdat
 subst hcls hdat
 obtain ⟨hp,g,d,tk,os⟩:=s₁
 repeat (first|with_reducible refine wpAny_loadPart_at he ?_|with_reducible refine wpAny_loadPart_at hC ?_|(with_reducible refine wpAny_isSubtype_exc hC ?_;rw [hcB])|with_reducible refine wpAny_field he rfl h1 ?_|wp_step)
 exact wpAny_raiseNew_none hh hE
theorem map3' {l:List Value}{a b c:V} (e:l.map vof=[a,b,c]):∃ x y z,l=[x,y,z]∧vof x=a∧vof y=b∧vof z=c:=by
 obtain ⟨x,l1,rfl,h1,e1⟩:=List.map_eq_cons_iff.mp e
 obtain ⟨y,l2,rfl,h2,e2⟩:=List.map_eq_cons_iff.mp e1
 obtain ⟨z,l3,rfl,h3,e3⟩:=List.map_eq_cons_iff.mp e2
 have:=List.map_eq_nil_iff.mp e3
 subst this
 exact ⟨x,y,z,rfl,h1,h2,h3⟩
section
variable {w:World}{h0:Heap}{d:Drawn}{os:OsState}
theorem raise_st {c:FC}{net:Int}{σ:St}{s:Shared}{Q:Flow→Shared→Prop}{np cp rp:Pos} (O:c.Ok) (F:Fits c cx293) (hX:c.X.G=gcOf w h0 d os) (hΨ:∀ a m,c.X.Ψ a m) (hr:2≤c.X.r) (R:Rel c σ s) (hn:look σ.ρ 1=some (.int net)) (hsm:net.natAbs<2^60) :
  wpAny (MW c.X.G.w) c.A (exec (.Raise (some (.Call (.Name (ofString "SynthError") np) [arg293 0,arg293 1,arg293 2] [] cp)) none rp) c.env) Q c.E s:=by
 have kd:c.env.kindOf (ofString "SynthError")=some .globalImplicit:=by rw [F.kd];exact kd293
 have e0:=((compE_ok a0_293).ev c O F).1
 have e1:=((compE_ok a1_293).ev c O F).1
 have e2:=((compE_ok a2_293).ev c O F).1
 have n3:=ns293
 simp only [List.all_cons,Bool.and_eq_true,List.all_nil,and_true] at n3
 have evl:=evl_cons n3.1 e0 (evl_cons n3.2.1 e1 (evl_cons n3.2.2 e2 (evl_nil (X:=c.X))))
 rw [arm_exec_Raise]
 refine wpAny_bind (wpAny_standAt (raise52 O.hnd (wpAny_bind (wpAny_mono (wpAny_Call_Name_kw (ev_global O R kd (by decide +kernel) (glob52 _) (callWith_of (P:=Frag.In (KF c.X.G.w.params)) (by rw [star_plain ns293];rfl) (keeps_K (keep52 _)) (wpAny_mono (args_ok (Φ:=fun vs σ'=>∃ k,vs=[.str undS,.int (-1),.str k]∧σ'.m=σ.m) ns293 evl R ?_) (fun a1 s1 ⟨hkw,σ1,R1,q⟩=>⟨R1.kf O,?_⟩) fun zz zz e=>e)))) (fun v s3 h3=>wpAny_bind (wpAny_standAt (wpAny_pure h3))) fun zz zz x=>x))))
 ·exact var_at (i:=1) hn (w_str hsm ⟨_,rfl,rfl⟩)
 ·obtain ⟨kk',q,hm⟩:=q
  rw [hkw]
  obtain ⟨apos,akw⟩:=a1
  dsimp only at q ⊢
  obtain ⟨x1,x2,x3,rfl,y1,y2,y3⟩:=map3' q
  ·obtain ⟨t1,rfl⟩:=vof_str y1
   have room:Room c.A ((c.X.r - 2)+2):=by rw [Nat.sub_add_cancel hr];exact O.room
   refine wpAny_call (codeAny_mono (call52 (Q:=fun v s'=>∃ e D,v=.ref e∧RelS c.X.G (kk c s1.heap) σ1.m s'∧∃ t u2 u3,RawD s'.heap e D (mA36 (.str undS t) u2 u3)∧kk c s1.heap e=none∧kk c s1.heap D=none) O.G R1.kk (R1.kbase O) room O.hnd (R1.kframes O) fun s2 e D u1 u2 u3 a1 a2 a3 a4 a5=>?_) fun r s2 z=>?_)
   ·obtain ⟨t,rfl⟩:=vof_str a3
    exact ⟨e,D,rfl,a1,t,u2,u3,a2,a4,a5⟩
   ·rcases r with ee|f
    ·exact z.elim
    ·cases f with
     | ret v =>
      obtain ⟨e,D,rfl,S2,t,u2,u3,I,b1,b2⟩:=z
      have X2:Frag.In (KF c.X.G.w.params) s2.heap:=O.G.K.keeps fun a o q=>S2.mem.keep a o (R1.kbase O a o q)
      obtain ⟨⟨oe,vs,he,hc,hD,hdat,h1⟩,hne,hns⟩:=I
      refine ⟨e,oe,vs,rfl,in52 X2,he,hc,hdat,h1,?_⟩
      refine O.fly e σ1.m _ s2 R1.ksub R1.kown ?_ (hΨ _ _)
      obtain ⟨od,es,ep,hod,hdd,_,_,hfind⟩:=hns
      rw [hX] at S2 ⊢
      refine fly_new S2 (R1.kframes O) he hc hD hdat h1 b1 b2 hne ⟨od,t,hod,find_kind hdd ?_⟩
      rw [hfind]
      unfold mA36
      rw [if_neg (by decide +kernel),if_neg (by decide +kernel),if_pos (show kindS=ofString "kind" from rfl)]
     | _=>exact z.elim
theorem literal_raises {G:GC}{r:Nat}{Ψ:Addr→Mem→Prop}{m:Mem}{dl:Addr}{net:Nat}{es:List (K × V)}{Φ:V→Mem→Prop} (hG:G.Ok) (hX:G=gcOf w h0 d os) (hΨ:∀ a m,Ψ a m) (hr:3≤r) (hsm:net<1000000) (hd:m dl=some (.dict es)) (hn:dget (.int (net:Int)) es=none) :
  callW G r Ψ (.ref 293) [.ref dl,.int net] m Φ:=by
 obtain ⟨r,rfl⟩:∃ q,r=q+1:=⟨r - 1,by exact pd hr rfl⟩
 refine enter_ok (d:=defD 293 fd293) (full:=[.ref dl,.int net]) hG fok293 (fun vs e=>?_) fun c O hXc hs hnm hf=>?_
 ·obtain ⟨v0,v1,rfl,y0,y1⟩:=map2 e
  exact ⟨[(ofString "literals",v0),(ofString "net",v1)],bind293 _ v0 v1,rfl,by simp only [List.map_cons,List.map_nil,y0,y1]⟩
 ·have F:Fits c cx293:=⟨hs,hnm,hf⟩
  refine ⟨fun σ zz=>look σ.ρ 1=some (.int net)∧look σ.ρ 0=some (.ref dl)∧σ.m dl=some (.dict es),fun σ s Φ' R q=>?_,rfl,rfl,hd⟩
  obtain ⟨q1,q2,q3⟩:=q
  show wpAny _ _ (execs b293 c.env) _ _ _
  rw [shape293]
  refine wpAny_execs_cons (wpAny_If (wpAny_mono (((compE_ok test293).ev c O F).2 σ s (fun b σ'=>b=true∧σ'=σ) R ?_) (fun b s1 ⟨σ1,R1,hb,hσ⟩=>?_) fun zz zz e=>e))
  ·show PT.var 1 σ fun u σ1=>PT.var 0 σ1 fun v σ2=>cmpW .NotIn u v σ2 _
   refine var_at q1 ?_
   refine var_at q2 ?_
   exact notin_d q3 keyInt ⟨by unfold dhas;rw [hn];rfl,rfl⟩
  ·subst hb hσ
   refine wpAny_execs_cons (raise_st (net:=net) O F (by rw [hXc];exact hX) (by rw [hXc];exact hΨ) (by rw [hXc];dsimp only;exact Nat.le_of_succ_le_succ hr) R1 q1 (by exact Nat.lt_of_lt_of_le hsm (Nat.le_add_left _ _)))
end
section
variable {w:World}{A:Around}{E:Value→Shared→Prop}{s:Shared}{e:Addr}
theorem ga_check {M:Model}{h:Heap}{g:Array GenState}{d:Drawn}{t:Nat}{os:OsState}{ox:Obj}{nameV:Value}{Q:Unit→Shared→Prop} (hC:h.get? 52=some obj52) (hx:h.get? e=some ox) (hc:ox.cls=.ref 52) (hq:Q () ⟨h,g,d,t,os⟩) :
  wpAny M A (checkBuiltinCall "BaseException.__getattribute__" ⟨[.ref e,nameV],[]⟩) Q E ⟨h,g,d,t,os⟩:=by
 have hk:builtinKind "BaseException.__getattribute__"=some .slot:=by decide +kernel
 have hsplit:splitId "BaseException.__getattribute__"=some ("BaseException","__getattribute__"):=by decide +kernel
 have hcB:(Value.ref 52::bm52).contains (.type "BaseException")=true:=by decide +kernel
 have ha:=PySem.F.args_bexc_ga (.ref e) nameV
 simp only [checkBuiltinCall,hk,hsplit]
 refine wpAny_bind ?_
 unfold isInstance
 repeat (first|(with_reducible refine wpAny_loadPart_at hx ?_;rw [hc])|(with_reducible refine wpAny_isSubtype_exc hC ?_;rw [hcB])|wp_step)
 exact hq
theorem get_kind {od ox:Obj}{b:Bool}{v:Value}{Q:Value→Shared→Prop} (X:Frag.In (KF w.params) s.heap) (I:InstAt s.heap e ox 52 (some od)) (hf:findObj (KF w.params) 52 (some od) kindS=some (.value v)) (hh:handedIn v=true)
  (h:∀ tk,Q v { s with toks:=tk }):wpAny (model PW w) A (getAttr (.ref e) kindS b) Q E s:=by
 have hC:=in52 X
 obtain ⟨hp,g,d,t,os⟩:=s
 have FX:=PySem.F.attr_Exception
 have f3:=FX.ga.bind (.ref e)
 have L0:=I.type (M:=model PW w)
 have L1:=looks_findIn (M:=model PW w) X (ga52 _)
 have L3:=looks_findIn (M:=model PW w) X (by kernel_rfl:findIn (KF w.params) (.ref 52) "__getattr__"=some none)
 have L2:=looks_find (M:=model PW w) X I hf
 refine wpAny_bind (wpAny_mkText ?_)
 show wpAny _ _ (getAttrBy (.ref e) (.str kindS t) true b) _ _ ⟨hp,g,d,t+1,os⟩
 unfold getAttrBy
 refine wpAny_holding (wpAny_bind (L0.at (wpAny_bind (L1.at ?_))))
 have hne:(onTheHeap (.ref 52)&&Value.builtin "BaseException.__getattribute__"==Value.builtin "object.__getattribute__")=false:=by decide +kernel
 show wpAny _ _ (if (onTheHeap (.ref 52)&&Value.builtin "BaseException.__getattribute__"==Value.builtin "object.__getattribute__")=true then _ else getAttrByItsOwn (.ref e) (.str kindS t) (.ref 52) (.builtin "BaseException.__getattribute__") true b) _ _ _
 rw [hne,if_neg (by decide)]
 unfold getAttrByItsOwn
 refine wpAny_bind (L3.at ?_)
 refine wpAny_bind (wpAny_attempt (wpAny_holding ?_))
 unfold callGetattribute
 rw [show (b&&onTheHeap (Value.builtin "BaseException.__getattribute__"))=false from by cases b <;> rfl,if_neg (by decide)]
 unfold boundAndCalled
 rw [f3]
 refine wpAny_bind (wpAny_pure (wpAny_call (codeAny_call_builtin FX.ga.plain PySem.F.entry_bexc_ga (ga_check hC I.at_ I.cls ?_))))
 refine wpAny_bind (wpAny_pure (wpAny_bind (wpAny_pure (wpAny_bind (L0.at (wpAny_bind (L2.at ?_)))))))
 refine wpAny_pure ?_
 show wpAny _ _ (handedOut v) _ _ _
 rw [handedOut_of hh]
 exact wpAny_pure (h _)
end
noncomputable def synS:Str:=ofString "SynthError"
noncomputable def errS:Str:=ofString "error"
noncomputable def noSt (c:FC):St:=⟨List.replicate c.names.length none,fun zz=>none⟩
theorem look_none:∀ (n i:Nat),look (List.replicate n (none:Option V)) i=none
 | 0,_=>rfl
 | n+1,0=>rfl
 | n+1,i+1=>look_none n i
section
variable {c:FC}{σ1:St}{s1 s':Shared}
theorem Fra.none {h:Heap}{nm:Str→Option Value} (hn:h.Ns c.env.locals nm):Fra c (noSt c).ρ h :=
by
 have nl:∀ i (v:V),look (noSt c).ρ i≠some v:=fun i v e=>by
  have:=look_none c.names.length i
  unfold noSt at e
  dsimp only at e
  rw [this] at e
  injection e
 exact ⟨⟨nm,hn,fun i x v zz zz e=>absurd e (nl i v)⟩,fun i x v zz zz e=>absurd e (nl i v),List.length_replicate ..⟩
theorem air_rel {B:Heap}{ea D:Addr}{hd:Value} (O:c.Ok) (R:Rel c σ1 s1) (hfn:c.fn=true) (hf:c.env.frame=some c.env.locals) (g1:s'.gens=#[]) (g2:s'.drawn=c.X.G.d) (g3:s'.os=c.X.G.os) (a1:Air B [c.env] ea D hd s'.heap)
  (a4:∀ a o,kk c s1.heap a=some o→a∉[c.env].filterMap (·.frame)→B.get? a=some o) (a5:∀ a o,kk c s1.heap a=some o→(∀ vs,o.data≠.fields vs)→∃ sl,s'.heap.get? a=some { o with slots:=sl }):Rel c (noSt c) s':=by
 have own:∀ a∈c.own,∃ o sl,s1.heap.get? a=some o∧ownLike o=true∧s'.heap.get? a=some { o with slots:=sl }:=fun a ha=>by
  obtain ⟨o,h1,h2⟩:=R.B a ha
  obtain ⟨sl,hs⟩:=a5 a o (by unfold kk;rw [if_pos ha];exact h1) (ownLike.notF h2)
  exact ⟨o,sl,h1,h2,hs⟩
 refine ⟨⟨g1,g2,g3,⟨fun a mo h=>(by cases h),fun a o h=>?_,fun a o h=>rfl⟩,fun a mo h=>by cases h⟩,?_,fun a ha=>⟨rfl,(R.O a ha).2⟩,fun a ha=>?_,fun y ca e=>?_⟩
 ·refine a1.stays a o (a4 a o (R.ksub a o h) fun hm=>?_)
  rw [List.filterMap_cons,hf] at hm
  rcases List.mem_cons.mp hm with q|q
  ·rw [q,(R.O _ O.loc).2] at h;cases h
  ·cases q
 ·obtain ⟨nm,⟨o,es,ep,h1,h2,h3,h4⟩,_⟩:=R.F.loc
  obtain ⟨o',sl,q1,q2,q3⟩:=own _ O.loc
  rw [h1] at q1;cases q1
  exact Fra.none (nm:=nm) ⟨_,es,ep,q3,h2,h3,h4⟩
 ·obtain ⟨o,sl,_,h2,h3⟩:=own a ha
  exact ⟨_,h3,by unfold ownLike at h2 ⊢;exact h2⟩
 ·obtain ⟨v,o,h1,h2⟩:=R.C y ca e
  obtain ⟨o',sl,q1,q2,q3⟩:=own ca (O.cown hfn y ca e)
  rw [h1] at q1;cases q1
  exact ⟨v,_,q3,h2⟩
theorem Rel.locSet {h':Heap}{nm:Str→Option Value} (R:Rel c (noSt c) s') (O:c.Ok) (hn:h'.Ns c.env.locals nm) (hs:Heap.SameBut c.env.locals s'.heap h') (tk:Nat):Rel c (noSt c) { s' with heap:=h',toks:=tk }:=by
 refine R.ownSet O (fun b o q e=>(hs.2 b q).trans e) O.loc (Fra.none hn) ?_ (fun y e=>(O.lne y _ e rfl).elim) tk
 obtain ⟨o,es,ep,a1,a2⟩:=Heap.Ns.obj hn
 exact ⟨o,a1,by unfold ownLike;rw [a2]⟩
theorem catch_ok {s0:Shared}{ea:Addr}{m':Mem}{Q:Flow→Shared→Prop}{E:Value→Shared→Prop}{np q1 q2 q3 q4 q5 hp:Pos}{kt:Nat} (O:c.Ok) (R:Rel c σ1 s1) (hfn:c.fn=true) (hfr:c.A.frames=some [c.env]) (hf:c.env.frame=some c.env.locals)
  (Fl:flyG c.X.G.w c.X.G.d c.X.G.os c.A (kk c s1.heap) m' ea s0) (kd1:c.env.kindOf synS=some .globalImplicit) (kd2:c.env.kindOf errS=some .local) (hQ:∀ s',Rel c (noSt c) s'→Q (.ret (.bool true)) s') :
  wpAny (MW c.X.G.w) c.A (noteFrame (.ref ea) c.env) (fun zz s₂=>wpAny (MW c.X.G.w) c.A (setFlight (.ref ea) none) (fun zz s₃ =>
   wpAny (MW c.X.G.w) c.A (handleBy (.ref ea) c.env [.ExceptHandler (some (.Name synS np)) (some errS) [.Return (some (.Compare (.Attribute (.Name errS q1) kindS q2) [.Eq] [.Constant (.str undS) kt q3] q4)) q5] hp]) Q E s₃) E s₂) E s0:=by
 obtain ⟨g1,g2,g3,l,B,D,hd,hl,a1,a2,a3,a4,a5⟩:=Fl
 rw [hfr] at hl
 injection hl with hl
 subst hl
 refine note_air hfr hf a1 a2 fun h2 T b1 b2 b3=>?_
 refine flight_off (s:={ s0 with heap:=h2 }) b1 b2 fun h3 c1 c2 c3=>?_
 have up3:∀ a o,kk c s1.heap a=some o→(∀ vs,o.data≠.fields vs)→∃ sl,h3.get? a=some { o with slots:=sl }:=fun a o ha hn=>by
  obtain ⟨sl,hs⟩:=a5 a o ha hn
  obtain ⟨sl',hs'⟩:=(b3.trans c3) a _ hs hn
  exact ⟨sl',hs'⟩
 have R3:Rel c (noSt c) { s0 with heap:=h3 }:=air_rel O R hfn hf g1 g2 g3 c1 a4 up3
 obtain ⟨oe,vs,he,hc,hD,hdat,h1⟩:=id c1.ex
 have X3:=R3.kf O
 refine wpAny_handleBy_cons (codeAny_handlers_test (ev_global O R3 kd1 (by decide +kernel) (glob52 _) ?_)) (by intro q;cases q)
 obtain ⟨hp0,gg,dd,tt,oo⟩:=s0
 refine wpAny_excMatches_sub_self (in52 X3) he hc (by decide +kernel) (codeAny_handlers_suite_as ?_)
 refine flight_off (s:=⟨h3,gg,dd,tt,oo⟩) c1 c2 fun h4 d1 d2 d3=>?_
 have up4:∀ a o,kk c s1.heap a=some o→(∀ vs,o.data≠.fields vs)→∃ sl,h4.get? a=some { o with slots:=sl }:=fun a o ha hn=>by
  obtain ⟨sl,hs⟩:=up3 a o ha hn
  obtain ⟨sl',hs'⟩:=d3 a _ hs hn
  exact ⟨sl',hs'⟩
 have R4:Rel c (noSt c) ⟨h4,gg,dd,tt,oo⟩:=air_rel (s':=⟨h4,gg,dd,tt,oo⟩) O R hfn hf g1 g2 g3 d1 a4 up4
 obtain ⟨nm,hn,_⟩:=R4.F.loc
 have hpp:(c.env.scope.kind==.class||(c.env.scope.kind==.module&&c.env.locals != c.env.globals))=false:=by rw [O.kind];rfl
 refine wpAny_storeName_local kd2 hn (fun h5 hn5 hs5=>?_) hpp
 have R5:Rel c (noSt c) ⟨h5,gg,dd,tt+1,oo⟩:=R4.locSet O hn5 hs5 (tt+1)
 obtain ⟨oe,vs,he,hc,hD,hdat,h1⟩:=id d1.ex
 obtain ⟨_,⟨L',oL,e1,e2,e3,e4⟩,_⟩:=d1.frames
 rw [hf] at e1
 injection e1 with e1
 subst e1
 have hel:ea≠c.env.locals:=fun q=>by rw [q,e3] at he;cases he;exact e4 vs hdat
 obtain ⟨od,tk,hod,hfind⟩:=a3
 have hdl:D≠c.env.locals:=fun q=>by rw [q,e2] at hod;cases hod
 have I5:W.InstAt h5 ea oe 52 (some od):=⟨(hs5.2 ea hel).trans he,hc,by unfold notCls;rw [hdat],by rw [hD];exact (hs5.2 D hdl).trans (d1.stays D od hod)⟩
 refine wpAny_execs_cons (wpAny_Return_some (wpAny_Compare1 (Attribute_name (wpAny_Name (wpAny_loadName_local O.kind kd2 hn5 (if_pos rfl) ?_) (by decide +kernel))) rfl))
 refine get_kind (R5.kf O) I5 hfind rfl fun tk2=>?_
 refine wpAny_mkText (PyProof.Rows.eq_str ?_)
 refine wpAny_nameGoes kd2 hn5 hpp fun h6 m6 hn6 hs6=>?_
 have R6:=R5.locSet O hn6 hs6
 have e:(undS==undS)=true:=beq_self_eq_true _
 rw [e]
 exact hQ _ (R6 _)
end
noncomputable def netS:Str:=ofString "net"
noncomputable def fromS:Str:=ofString "from_netlist"
theorem ar99 {a b h n c:Nat} (w:Wd a b h n) (e:c=2+a+b+h+n):c<1000000:=by obtain ⟨_,_,_,_,_,_⟩:=w;omega
section
variable {w:World}{h0:Heap}{d:Drawn}{os:OsState}
theorem from_undriven {G:GC}{r:Nat}{m:Mem}{x:Addr}{N:NetA}{wa wb hh:Nat}{cs ss:List Cell}{ly lz:List Nat} (hG:G.Ok) (hX:G=gcOf w h0 d os) (hr:12≤r) (g:Gen N wa wb hh cs ss ly lz) (hN:NetR m (.ref x) N.un) :
  callW G r (fun zz zz=>True) (.ref 300) [.ref x] m (fun zz zz=>False):=by
 refine from_netlist hG hr hN g.un_good (Bad:=fun n=>n=N.count) g.un_drv g.un_sk (fun net e r' m' dl es Φ' hr' hdl hn=>?_) fun m' o A zz zz zz zz zz hd=>(g.un_not (hd _ _ un_comb un_last N.count (.head _))).elim
 exact literal_raises hG hX (fun zz zz=>trivial) hr' (e▸ar99 g.1 g.7) hdl hn
theorem call_one {c:FC}{σ:St}{s:Shared}{E:Value→Shared→Prop}{f x:Str}{a:Addr}{i:Nat}{v:V}{p1 p2 p3:Pos}{Q:Value→Shared→Prop} (O:c.Ok) (R:Rel c σ s) (hkf:c.env.kindOf f=some .globalImplicit) (hdf:(f==("__debug__":Str))=false)
  (hvf:nsIn (KF c.X.G.w.params) mainGlobals f=some (some (.ref a))) (hm:a∈allFns) (hi:c.names[i]?=some x) (hkx:c.env.kindOf x=some .local) (hdx:(x==("__debug__":Str))=false) (hl:look σ.ρ i=some v)
  (h:∀ u,vof u=v→wpAny (MW c.X.G.w) c.A (call (.ref a) [u]) Q E s):wpAny (MW c.X.G.w) c.A (eval (.Call (.Name f p1) [.Name x p2] [] p3) c.env) Q E s:=by
 refine wpAny_Call_Name_kw (ev_global O R hkf hdf hvf ?_)
 refine callWith_of (P:=Frag.In (KF c.X.G.w.params)) (by rfl) (keeps_K (keep_at hm)) ?_
 show wpAny _ _ (evalArgs (.ref a) true ((false,eval (.Name x p2) c.env)::[]) []) _ _ s
 refine Calls.evalArgs_plain (Calls.spliced_cons (name_here R O hi hkx hdx hl fun u hu=>Calls.spliced_nil ⟨R.kf O,?_⟩))
 exact h u hu
theorem try_st {c:FC}{σ:St}{s:Shared}{E:Value→Shared→Prop}{Q:Flow→Shared→Prop}{x:Addr}{N:NetA}{wa wb hh:Nat}{cs ss:List Cell}{ly lz:List Nat}{np q1 q2 q3 q4 q5 hp t1 t2 t3 t4 t5 t6 t7:Pos}{kt kb:Nat} (O:c.Ok) (R:Rel c σ s) (hX:c.X.G=gcOf w h0 d os) (hr:12≤c.X.r)
  (hfn:c.fn=true) (hfr:c.A.frames=some [c.env]) (hf:c.env.frame=some c.env.locals) (kd1:c.env.kindOf synS=some .globalImplicit) (kd2:c.env.kindOf errS=some .local) (kd3:c.env.kindOf fromS=some .globalImplicit) (kd4:c.env.kindOf netS=some .local)
  (hi:c.names[3]?=some netS) (hl:look σ.ρ 3=some (.ref x)) (g:Gen N wa wb hh cs ss ly lz) (hN:NetR σ.m (.ref x) N.un) (hQ:∀ s',Rel c (noSt c) s'→Q (.ret (.bool true)) s') :
  wpAny (MW c.X.G.w) c.A (exec (.Try [.Expr (.Call (.Name fromS t1) [.Name netS t2] [] t3) t4,.Return (some (.Constant (.bool false) kb t5)) t6]
   [.ExceptHandler (some (.Name synS np)) (some errS) [.Return (some (.Compare (.Attribute (.Name errS q1) kindS q2) [.Eq] [.Constant (.str undS) kt q3] q4)) q5] hp] [] [] t7) c.env) Q E s:=by
 rw [arm_exec_Try]
 refine wpAny_bind (wpAny_standAt (wpAny_tryStmt_except (wpAny_execs_cons (wpAny_Expr ?_ (not_interactive O) rfl))))
 refine call_one (a:=300) O R kd3 (by decide +kernel) (gfun_at (by rfl)).1 (by decide +kernel) hi kd4 (by decide +kernel) hl fun u hu=>?_
 have cw:=from_undriven (r:=c.X.r) O.G hX hr g hN
 refine wpAny_call (codeAny_mono (callW.d (vs:=[u]) cw R.kk (R.kbase O) O.room O.hnd (R.kframes O) (by rw [List.map_cons,hu];rfl)) fun r s' q=>?_)
 rcases r with e|f
 ·obtain ⟨ea,m',rfl,q,_⟩:=q
  have q':flyG c.X.G.w c.X.G.d c.X.G.os c.A (kk c s.heap) m' ea s':=by rw [hX] at q ⊢;exact q
  exact catch_ok O R hfn hfr hf q' kd1 kd2 hQ
 ·cases f with
  | ret v=>obtain ⟨m',S,q⟩:=q;exact q.elim
  | _=>exact False.elim q
end
end
section
open PySem PySem.W PyProof.Rows PySem.Calls
open Str (ofString)
theorem over_var {X:PX}{m:Mem}{ρ:List (Option V)}{i:Nat}{v:V}{K:Addr→MO→List V→St→Prop} (h:look ρ i=some v) (k:ovK K v ⟨ρ,m⟩):overW (sem X (.var i)).val ⟨ρ,m⟩ K:=over_of (var_at (σ:=⟨ρ,m⟩) h k)
section
variable {X:PX}{m:Mem}{o:NetO}{a:Addr}{vs:List V}{ps:List (Str × List Nat)}{bs:List Addr}{r0 r1 r2 r3 r4 r5 r6 r7 r8 r9 r10 r11 r12 r13 r14 r15 r16 r17 r18:Option V}{Φ:V→St→Prop}
theorem ar100 {a l T j:Nat} (h:a+l≤T) (hj:j<l) (q:T<100000):a+j<1000000:=by omega
theorem flat_ports (hps:Ports m o vs ps bs) (hl:m a=some (.list vs)) (hb:(ps.flatMap (·.2)).length<100000) (h:∀ l m',m l=none→m' l=some (.list (natL (ps.flatMap (·.2))))→Gr m m'→Φ (.ref l) ⟨[r0,r1,r2,r3,r4,r5,r6,r7,r8,r9,r10,r11,r12,r13,r14,r15,r16,r17,r18],m'⟩) :
  ovK (fun a mo xs σ1=>compW a mo (semT X (.tup (.cons (.name 19) (.cons (.name 20) .nil)))) (fun acc σ2 Ψ=>overW (sem X (.var 20)).val σ2 fun a' mo' xs' σ3=>compW a' mo' (semT X (.name 21)) (pushW (sem X (.var 21)).val) xs' acc σ3 Ψ) xs [] ⟨σ1.ρ++List.replicate 3 none,σ1.m⟩ (madeW σ1.ρ Φ)) (.ref a) ⟨[r0,r1,r2,r3,r4,r5,r6,r7,r8,r9,r10,r11,r12,r13,r14,r15,r16,r17,r18],m⟩:=by
 refine ov_go (iter_list hl) ?_
 refine compT (T:=Option V × Option V × Option V) (F:=fun x=>[r0,r1,r2,r3,r4,r5,r6,r7,r8,r9,r10,r11,r12,r13,r14,r15,r16,r17,r18,x.1,x.2.1,x.2.2]) (x0:=(none,none,none)) (fun k x acc μ=>A2 (μ=m) (acc=natL ((ps.take k).flatMap (·.2)))) (fun zz zz zz zz q=>q.1▸hl) ⟨rfl,rfl⟩ (fun k x acc m1 w Ψ' hv q hΨ=>?_) fun x acc m1 q=>new_go fun l m2 n2 k2 g2=>?_
 ·refine hps.get hv fun p b tp hp hb' ht hbl=>?_
  have ht1:m1 tp=some (.tup [.str p.1,.ref b]):=q.1▸ht
  have hb1:m1 b=some (.list (natL p.2)):=q.1▸hbl
  refine t_tup2 ht1 (over_var (v:=.ref b) rfl (ov_go (iter_list hb1) ?_))
  refine compT (T:=Option V) (F:=fun y=>[r0,r1,r2,r3,r4,r5,r6,r7,r8,r9,r10,r11,r12,r13,r14,r15,r16,r17,r18,some (.str p.1),some (.ref b),y]) (x0:=x.2.2) (fun j y acc μ=>A2 (μ=m) (acc=natL ((ps.take k).flatMap (·.2)++p.2.take j))) (fun zz zz zz zz z=>z.1▸hbl)
   ⟨q.1,by rw [q.2];exact congrArg natL (List.append_nil _).symm⟩ (fun j y acc m3 w2 Ψ2 hv2 z hΨ2=>natL_el hv2 fun n hn=>⟨?_,hΨ2 _ _ m3 ⟨z.1,?_⟩⟩) fun y acc m3 z=>hΨ (_,_,y) acc m3 ⟨z.1,?_⟩
  ·rw [z.2,natL_len,List.take_length,flat_take (·.2) hp]
  ·rw [z.2,natL_len,List.length_append,List.length_take,Nat.min_eq_left (Nat.le_of_lt (at_lt hn))]
   exact ar100 (flat_le (·.2) hp) (at_lt hn) hb
  ·rw [z.2,←natL_snoc,List.append_assoc,take_snoc hn]
 ·have e:=q.2
  rw [hps.len,List.take_length] at e
  exact h l m2 (q.1▸n2) (e▸k2) (q.1▸g2)
theorem shape_ports (hps:Ports m o vs ps bs) (hl:m a=some (.list vs)) (hb:ps.length<100000) (h:∀ l m' vs,m l=none→m' l=some (.list vs)→RDs m' vs (ps.map fun p=>.tuple [.str p.1,.int (p.2.length:Nat)])→Gr m m'→Φ (.ref l) ⟨[r0,r1,r2,r3,r4,r5,r6,r7,r8,r9,r10,r11,r12,r13,r14,r15,r16,r17,r18],m'⟩) :
  cpK X (.tup (.cons (.var 19) (.cons (.bi .len (.cons (.var 20) .nil)) .nil))) (.tup (.cons (.name 19) (.cons (.name 20) .nil))) (.bool true) 2 Φ (.ref a) ⟨[r0,r1,r2,r3,r4,r5,r6,r7,r8,r9,r10,r11,r12,r13,r14,r15,r16,r17,r18],m⟩:=by
 refine cp_go (iter_list hl) ?_
 refine compT (T:=Option V × Option V) (F:=fun x=>[r0,r1,r2,r3,r4,r5,r6,r7,r8,r9,r10,r11,r12,r13,r14,r15,r16,r17,r18,x.1,x.2]) (x0:=(none,none)) (fun k x acc μ=>A2 (Gr m μ) (RDs μ acc ((ps.take k).map fun p=>.tuple [.str p.1,.int (p.2.length:Nat)]))) (fun zz zz zz zz q=>q.1 hl) ⟨.refl,.nil⟩ (fun k x acc m1 w Ψ' hv q hΨ=>?_) fun x acc m1 q=>new_go fun l m2 n2 k2 g2=>?_
 ·refine hps.get hv fun p b tp hp hb' ht hbl=>t_tup2 (q.1 ht) (cd_go (len_l (q.1 hbl) (natL_len _) (w_tup (nb rfl) fun t2 m2 n2 k2 g2=>⟨?_,hΨ (_,_) _ m2 ⟨q.1.trans g2,?_⟩⟩)))
  ·rw [q.2.len,List.length_map]
   exact Nat.lt_of_le_of_lt (List.length_take_le' _ _) (b6'' hb)
  ·rw [take_snoc hp,List.map_append]
   exact (q.2.keep g2.lts).snoc (.tup k2 (.cons (.str _) (.cons (.int _) .nil)))
 ·have e:=q.2
  rw [hps.len,List.take_length] at e
  exact h l m2 acc (q.1.old n2) k2 (e.keep g2.lts) (q.1.trans g2)
end
noncomputable def tv (R:Nat) (vs:List Nat) (q:Nat):Nat:=if q%2=1 then (2^R - 1) - vs.getD (q / 2) 0 else vs.getD (q / 2) 0
theorem natL_getD {vs:List Nat}{k:Nat} (h:k<vs.length):(natL vs)[k]?=some (.int (vs.getD k 0:Nat)):=by
 refine natL_at ?_
 rw [List.getD_eq_getElem?_getD,List.getElem?_eq_getElem h];rfl
noncomputable def L4:List V:=[.str (ofString "and"),.str (ofString "not"),.str (ofString "flop"),.str (ofString "latch")]
theorem notin4 {m:Mem}{a:Addr}{kd:Kd}{ρ:List (Option V)}{Φ:Bool→St→Prop} (hk:kd=.and∨kd=.not∨kd=.flop∨kd=.latch) (hm:m a=some (.list L4)) (h:Φ false ⟨ρ,m⟩):cmpW .NotIn (.str kd.str) (.ref a) ⟨ρ,m⟩ Φ:=by
 refine .i (.list a _ (.str kd.str) [.str (ofString "and"),.str (ofString "not"),.str (ofString "flop"),.str (ofString "latch")] rfl hm (.str _) (.cons (.str _) (.cons (.str _) (.cons (.str _) (.cons (.str _) .nil)))) ?_ (by decide +kernel) (Nat.zero_le _) ?_)
 ·rcases hk with rfl|rfl|rfl|rfl <;> decide +kernel
 ·have:([PyData.str (ofString "and"),PyData.str (ofString "not"),PyData.str (ofString "flop"),PyData.str (ofString "latch")].any fun y=>PyData.eqv y (PyData.str kd.str))=true:=by rcases hk with rfl|rfl|rfl|rfl <;> decide +kernel
  rw [this];exact h
section
variable {X:PX}{m:Mem}{N:NetA}{ls:Addr}{vs:List V}{r0 r1 r2 r3 r4 r5 r6 r7 r8 r9 r10 r11 r12 r13 r14 r15 r16 r17 r18:Option V}{Φ:V→St→Prop}
theorem st_outs (kls:m ls=some (.list vs)) (hvs:Cells m vs N.states) (hb:N.states.length<900000) (h:∀ l m',m l=none→m' l=some (.list (natL (N.states.map (·.out))))→Gr m m'→Φ (.ref l) ⟨[r0,r1,r2,r3,r4,r5,r6,r7,r8,r9,r10,r11,r12,r13,r14,r15,r16,r17,r18],m'⟩) :
  cpK X (.item (.var 19) (.int 1)) (.name 19) (.bool true) 1 Φ (.ref ls) ⟨[r0,r1,r2,r3,r4,r5,r6,r7,r8,r9,r10,r11,r12,r13,r14,r15,r16,r17,r18],m⟩:=by
 refine comp_go (iter_list kls) (by rw [hvs.1];exact b9 hb) (fun k acc μ=>A2 (μ=m) (acc=natL ((N.states.take k).map (·.out)))) (fun zz zz zz q=>q.1▸kls) ⟨rfl,rfl⟩ (fun k acc m1 w Ψ' hv q hΨ=>?_) fun acc m1 q zz l m2 n2 k2 g2=>?_
 ·revert hΨ
  refine hvs.get hv fun c t b p hcc ht hb' hp hΨ=>(it_t (k:=1) (q.1▸ht) rfl (hΨ _ m1 ⟨q.1,?_⟩))
  rw [q.2,←natL_snoc,take_snoc hcc,List.map_append];rfl
 ·have e:=q.2
  rw [hvs.1,List.take_length] at e
  exact h l m2 (q.1▸n2) (e▸k2) (q.1▸g2)
theorem st_ins (kls:m ls=some (.list vs)) (hvs:Cells m vs N.states) (hb:(N.states.flatMap (·.ins)).length<100000) (h:∀ l m',m l=none→m' l=some (.list (natL (N.states.flatMap (·.ins))))→Gr m m'→Φ (.ref l) ⟨[r0,r1,r2,r3,r4,r5,r6,r7,r8,r9,r10,r11,r12,r13,r14,r15,r16,r17,r18],m'⟩) :
  ovK (fun a mo xs σ1=>compW a mo (semT X (.name 19)) (fun acc σ2 Ψ=>overW (sem X (.item (.var 19) (.int 2))).val σ2 fun a' mo' xs' σ3=>compW a' mo' (semT X (.name 20)) (pushW (sem X (.var 20)).val) xs' acc σ3 Ψ) xs [] ⟨σ1.ρ++List.replicate 2 none,σ1.m⟩ (madeW σ1.ρ Φ)) (.ref ls) ⟨[r0,r1,r2,r3,r4,r5,r6,r7,r8,r9,r10,r11,r12,r13,r14,r15,r16,r17,r18],m⟩:=by
 refine ov_go (iter_list kls) ?_
 refine compT (T:=Option V × Option V) (F:=fun x=>[r0,r1,r2,r3,r4,r5,r6,r7,r8,r9,r10,r11,r12,r13,r14,r15,r16,r17,r18,x.1,x.2]) (x0:=(none,none)) (fun k x acc μ=>A2 (μ=m) (acc=natL ((N.states.take k).flatMap (·.ins)))) (fun zz zz zz zz q=>q.1▸kls) ⟨rfl,rfl⟩ (fun k x acc m1 w Ψ' hv q hΨ=>?_) fun x acc m1 q=>new_go fun l m2 n2 k2 g2=>?_
 ·refine hvs.get hv fun c t b p hcc ht hbt hp=>?_
  have ht1:m1 t=some (.tup [.str c.kd.str,.int c.out,.ref b,p]):=q.1▸ht
  have hb1:m1 b=some (.tup (natL c.ins)):=q.1▸hbt
  refine over_of ((it_t (k:=2) ht1 rfl (ov_go (iter_tup hb1) ?_)))
  refine compT (T:=Option V) (F:=fun y=>[r0,r1,r2,r3,r4,r5,r6,r7,r8,r9,r10,r11,r12,r13,r14,r15,r16,r17,r18,some (.ref t),y]) (x0:=x.2) (fun j y acc μ=>A2 (μ=m) (acc=natL ((N.states.take k).flatMap (·.ins)++c.ins.take j))) (fun zz zz zz zz z=>z.1▸hbt)
   ⟨q.1,by rw [q.2];exact congrArg natL (List.append_nil _).symm⟩ (fun j y acc m3 w2 Ψ2 hv2 z hΨ2=>natL_el hv2 fun n hn=>⟨?_,hΨ2 _ _ m3 ⟨z.1,?_⟩⟩) fun y acc m3 z=>hΨ (_,y) acc m3 ⟨z.1,?_⟩
  ·rw [z.2,natL_len,List.take_length,flat_take (·.ins) hcc]
  ·rw [z.2,natL_len,List.length_append,List.length_take,Nat.min_eq_left (Nat.le_of_lt (at_lt hn))]
   exact ar100 (flat_le (·.ins) hcc) (at_lt hn) hb
  ·rw [z.2,←natL_snoc,List.append_assoc,take_snoc hn]
 ·have e:=q.2
  rw [hvs.1,List.take_length] at e
  exact h l m2 (q.1▸n2) (e▸k2) (q.1▸g2)
theorem lits_list {R:Nat}{vl a:Addr}{vs qs:List Nat}{mo:MO} (hv:iterOf m (.ref a)=some (a,mo,natL qs)) (hm:m a=some mo) (kv:m vl=some (.list (natL vs)))
  (hlt:∀ q∈qs,q / 2<vs.length) (hR:∀ n,vs.getD n 0<2^R) (hlen:qs.length<1000000) (h:∀ l m',m l=none→m' l=some (.list (natL (qs.map (tv R vs))))→Gr m m'→Φ (.ref l) ⟨[r0,r1,r2,r3,r4,r5,r6,some (.int ((2^R - 1:Nat):Int)),r8,r9,r10,r11,some (.ref vl),r13,r14,r15,r16,r17,r18],m'⟩) :
  cpK X (.ite (.cmp .Eq (.bin .Mod (.var 19) (.int 2)) (.int 1)) (.bin .Sub (.var 7) (.item (.var 12) (.bin .FloorDiv (.var 19) (.int 2)))) (.item (.var 12) (.bin .FloorDiv (.var 19) (.int 2)))) (.name 19) (.bool true) 1 Φ (.ref a) ⟨[r0,r1,r2,r3,r4,r5,r6,some (.int ((2^R - 1:Nat):Int)),r8,r9,r10,r11,some (.ref vl),r13,r14,r15,r16,r17,r18],m⟩:=by
 refine comp_nats (g:=fun q=>.int (tv R vs q:Nat)) hv hm hlen (fun q Ψ' hq hΨ=>(bMod (a:=q) (b:=2) rfl rfl Nat.two_pos (eq_n ?_))) fun l m' n k g=>h l m' n ?_ g
 ·have hql:=natL_getD (hlt q hq)
  unfold tv at hΨ
  by_cases h1:q%2=1
  ·rw [if_pos h1] at hΨ
   exact iy h1 ((((bDiv (a:=q) (b:=2) rfl rfl (by decide) (it_l kv hql (bSub (ar40 (hR _)) hΨ))))))
  ·rw [if_neg h1] at hΨ
   exact in' h1 (((bDiv (a:=q) (b:=2) rfl rfl (by decide) (it_l kv hql hΨ))))
 ·unfold natL
  rw [List.map_map];exact k
theorem sink_words {wl sl:Addr}{L:List (Nat × Nat)}{R:Nat}{qs:List Nat} (kw:m wl=some (.dict (dN L))) (ks:m sl=some (.list (natL qs))) (hkn:∀ q∈qs,Kn R L q) (hlen:qs.length<1000000)
  (h:∀ l m',m l=none→m' l=some (.list (natL (qs.map (val L))))→Gr m m'→Φ (.ref l) ⟨[r0,r1,r2,r3,r4,r5,r6,r7,some (.ref wl),r9,r10,r11,r12,r13,r14,r15,r16,r17,r18],m'⟩) :
  cpK X (.item (.var 8) (.var 19)) (.name 19) (.bool true) 1 Φ (.ref sl) ⟨[r0,r1,r2,r3,r4,r5,r6,r7,some (.ref wl),r9,r10,r11,r12,r13,r14,r15,r16,r17,r18],m⟩:=by
 refine comp_nats (g:=fun q=>.int (val L q:Nat)) (iter_list ks) ks hlen (fun q Ψ' hq hΨ=>((it_d kw keyInt ?_ hΨ))) fun l m' n k g=>h l m' n ?_ g
 ·obtain ⟨n,h1,_⟩:=hkn q hq
  rw [val_some h1];exact dget_dN_at h1
 ·unfold natL
  rw [List.map_map];exact k
theorem odd_kinds {lc:Addr}{vc:List V} (kl:m lc=some (.list vc)) (hcs:Cells m vc N.cells) (hk:∀ c∈N.cells,c.kd=.and∨c.kd=.not∨c.kd=.flop∨c.kd=.latch) (h:∀ l m',m l=none→m' l=some (.list [])→Gr m m'→Φ (.ref l) ⟨[r0,r1,r2,r3,r4,r5,r6,r7,r8,r9,r10,r11,r12,r13,r14,r15,r16,r17,r18],m'⟩) :
  cpK X (.item (.var 19) (.int 0)) (.name 19) (.cmp .NotIn (.item (.var 19) (.int 0)) (.list (.cons (.str (ofString "and")) (.cons (.str (ofString "not")) (.cons (.str (ofString "flop")) (.cons (.str (ofString "latch")) .nil)))))) 1 Φ (.ref lc) ⟨[r0,r1,r2,r3,r4,r5,r6,r7,r8,r9,r10,r11,r12,r13,r14,r15,r16,r17,r18],m⟩:=by
 refine comp_if (iter_list kl) (fun k acc μ=>A2 (Gr m μ) (acc=[])) (fun zz zz zz q=>q.1 kl) ⟨.refl,rfl⟩ (fun k acc m1 w Ψ' hv q hΨ=>?_) fun acc m1 q l m2 n2 k2 g2=>h l m2 (q.1.old n2) (q.2▸k2) (q.1.trans g2)
 revert hΨ
 exact hcs.get hv fun c t b p hcc ht hb hp hΨ=>cd_go ((it_t (k:=0) (q.1 ht) rfl (w_list (nb rfl) fun ql m2 n2 k2 g2=>notin4 (kd:=c.kd) (hk c (List.mem_of_getElem? hcc)) k2 (hΨ _ m2 ⟨q.1.trans g2,q.2⟩))))
end
theorem getD_set {vs:List Nat}{i a n:Nat} (h:i<vs.length):(vs.set i a).getD n 0=if n=i then a else vs.getD n 0:=by
 rw [List.getD_eq_getElem?_getD,List.getElem?_set,List.getD_eq_getElem?_getD]
 by_cases e:i=n
 ·subst e
  rw [if_pos rfl,if_pos h,if_pos rfl];rfl
 ·rw [if_neg e,if_neg (fun q=>e q.symm)]
inductive V1 (N:NetA) (A:AigA) (L:List (Nat × Nat)) (k:Nat) (vs:List Nat):Prop
 | mk (len:vs.length=A.nodes.length) (v:∀ n,vs.getD n 0=if 1≤n∧n≤k then val L (N.srcs.getD (n - 1) 0) else 0)
theorem ar110 {n k:Nat} (e:¬n=k+1):(1≤n∧n≤k+1)=(1≤n∧n≤k):=propext (by omega)
theorem V1.zero (N:NetA) (A:AigA) (L:List (Nat × Nat)):V1 N A L 0 (List.replicate A.nodes.length 0):=by
 refine ⟨List.length_replicate,fun n=>?_⟩
 rw [if_neg fun e=>Nat.not_succ_le_zero 0 (Nat.le_trans e.1 e.2),List.getD_eq_getElem?_getD,List.getElem?_replicate]
 by_cases h:n<A.nodes.length
 ·rw [if_pos h];rfl
 ·rw [if_neg h];rfl
theorem V1.step {N:NetA}{A:AigA}{L:List (Nat × Nat)}{k:Nat}{vs:List Nat} (x:V1 N A L k vs) (h:k+1<A.nodes.length):V1 N A L (k+1) (vs.set (k+1) (val L (N.srcs.getD k 0))):=by
 refine ⟨by rw [List.length_set];exact x.1,fun n=>?_⟩
 rw [getD_set (by rw [x.1];exact h),x.2]
 by_cases e:n=k+1
 ·subst e
  rw [if_pos rfl,if_pos ⟨Nat.succ_pos _,Nat.le_refl _⟩];rfl
 ·simp only [if_neg e,ar110 e]
inductive V2 (A:AigA) (R:Nat) (v0:Nat→Nat) (k:Nat) (vs:List Nat):Prop
 | mk (len:vs.length=A.nodes.length) (bound:∀ n,vs.getD n 0<2^R) (src:∀ n,(∀ l r,A.nodes[n]?≠some (some (l,r)))→vs.getD n 0=v0 n)
  (done:∀ n,n<k→∀ l r,A.nodes[n]?=some (some (l,r))→vs.getD n 0=tv R vs l &&& tv R vs r)
theorem tv_lt {R:Nat}{vs:List Nat} (hb:∀ n,vs.getD n 0<2^R) (q:Nat):tv R vs q<2^R:=by
 unfold tv
 by_cases e:q%2=1
 ·rw [if_pos e];exact sub_lt'
 ·rw [if_neg e];exact hb _
theorem tv_bit {R i:Nat}{vs:List Nat} (hb:∀ n,vs.getD n 0<2^R) (hi:i<R) (q:Nat):(tv R vs q).testBit i=lit (bitv vs i) q:=by
 unfold tv lit bitv
 by_cases e:q%2=1
 ·rw [if_pos e,decide_eq_true e,sub_bit (hb _) hi]
  cases (vs.getD (q / 2) 0).testBit i <;> rfl
 ·rw [if_neg e,decide_eq_false e]
  cases (vs.getD (q / 2) 0).testBit i <;> rfl
theorem V2.skip {A:AigA}{R:Nat}{v0:Nat→Nat}{k:Nat}{vs:List Nat} (x:V2 A R v0 k vs) (h:∀ l r,A.nodes[k]?≠some (some (l,r))):V2 A R v0 (k+1) vs :=
 ⟨x.1,x.2,x.3,fun n hn l r e=>(Nat.lt_succ_iff_lt_or_eq.mp hn).elim (fun q=>x.4 n q l r e) fun q=>absurd (q▸e) (h l r)⟩
theorem V2.step {A:AigA}{R:Nat}{v0:Nat→Nat}{k l r:Nat}{vs:List Nat} (ok:A.Ok) (x:V2 A R v0 k vs) (h:A.nodes[k]?=some (some (l,r))):V2 A R v0 (k+1) (vs.set k (tv R vs l &&& tv R vs r)):=by
 have hkv:k<vs.length:=by rw [x.1];exact at_lt h
 have gs:∀ n,(vs.set k (tv R vs l &&& tv R vs r)).getD n 0=if n=k then tv R vs l &&& tv R vs r else vs.getD n 0:=fun n=>getD_set hkv
 have tvs:∀ q n,q<2*n→n≤k→tv R (vs.set k (tv R vs l &&& tv R vs r)) q=tv R vs q:=fun q n hq hn=>by
  have gq:=gs (q / 2)
  rw [if_neg (Nat.ne_of_lt (Nat.lt_of_lt_of_le (half_lt hq) hn))] at gq
  show (if q%2=1 then (2^R - 1) - (vs.set k (tv R vs l &&& tv R vs r)).getD (q / 2) 0 else (vs.set k (tv R vs l &&& tv R vs r)).getD (q / 2) 0)=tv R vs q
  rw [gq];rfl
 refine ⟨by rw [List.length_set];exact x.1,fun n=>?_,fun n hn=>?_,fun n hn l' r' e=>?_⟩
 ·rw [gs]
  by_cases e:n=k
  ·rw [if_pos e];exact Nat.lt_of_le_of_lt Nat.and_le_left (tv_lt x.2 l)
  ·rw [if_neg e];exact x.2 n
 ·rw [gs,if_neg (show ¬n=k from fun q=>hn l r (by rw [q];exact h))];exact x.3 n hn
 ·have hlow:=ok.2 n l' r' e
  have hnk:=Nat.le_of_lt_succ hn
  rw [gs,tvs _ n hlow.1 hnk,tvs _ n hlow.2 hnk]
  by_cases q:n=k
  ·rw [q,h] at e
   cases e
   rw [if_pos q]
  ·rw [if_neg q];exact x.4 n (Nat.lt_of_le_of_ne hnk q) l' r' e
section
variable {N:NetA}{A:AigA}{es:List (K × V)}{R:Nat}{L:List (Nat × Nat)}{vs:List Nat}
theorem V2.evals (B:Built N A) {v0:Nat→Nat} (h0:∀ n,v0 n=if 1≤n∧n≤N.srcs.length then val L (N.srcs.getD (n - 1) 0) else 0) (x:V2 A R v0 A.nodes.length vs):Evals N A R L vs:=fun i hi=>by
 have nn:∀ n,n≤N.srcs.length→∀ l r,A.nodes[n]?≠some (some (l,r)):=fun n hn l r q=>Nat.not_lt_of_le hn (B.1.lt q)
 refine ⟨⟨?_,fun n l r h=>?_⟩,fun k a s h1 h2=>?_⟩
 ·unfold bitv
  rw [x.3 0 (nn 0 (Nat.zero_le _)),h0,if_neg fun e=>Nat.not_succ_le_zero 0 e.1,Nat.zero_testBit]
 ·show (vs.getD n 0).testBit i=_
  rw [x.4 n (at_lt h) l r h,Nat.testBit_and,tv_bit x.2 hi,tv_bit x.2 hi]
 ·have hk:=at_lt h2
  rw [B.2,List.getElem?_range' hk,Nat.one_mul] at h1
  rw [←Option.some.inj h1,Nat.add_comm 1 k]
  show (vs.getD (k+1) 0).testBit i=_
  rw [x.3 (k+1) (nn (k+1) hk),h0,if_pos ⟨Nat.succ_pos _,hk⟩,Nat.add_sub_cancel,List.getD_eq_getElem?_getD,h2];rfl
theorem told_eq (B:Built N A) (W:Words N es R L) (kn:∀ q∈N.snks,q∈Dn N.srcs N.combs) (E:Evals N A R L vs) (hb:∀ n,vs.getD n 0<2^R):A.outs.map (tv R vs)=N.snks.map (val L):=by
 refine All2.map_eq (R:=fun q s=>tv R vs q=val L s) ⟨B.3,fun k q s h2 h1=>?_⟩ fun zz zz e=>e
 refine eq_bits (tv_lt hb q) (W.bound (kn s (List.mem_of_getElem? h1))) fun i hi=>?_
 have h7:=congrArg (fun l=>l[k]?) (B.5 (bitv vs i) (wv L i) (E i hi).1 (W.net hi) (E i hi).2)
 rw [List.getElem?_map,List.getElem?_map,h2,h1] at h7
 rw [tv_bit hb hi];exact Option.some.inj h7
end
inductive Lay (d:PyData) (b:Nat):Prop
 | mk (lay:d.canLay0=true) (dep:d.depth≤b)
theorem lay_map {α:Type}{f:α→PyData}:∀ {l:List α},(∀ x∈l,(f x).canLay0=true)→PyData.canLayAll0 (l.map f)=true
 | [],_=>by rw [List.map_nil];unfold PyData.canLayAll0;rfl
 | x::l,h=>by
  rw [List.map_cons]
  unfold PyData.canLayAll0
  rw [h x (.head _),lay_map fun y hy=>h y (List.mem_cons_of_mem _ hy)];rfl
theorem depth_map {α:Type}{f:α→PyData}{b:Nat}:∀ {l:List α},(∀ x∈l,(f x).depth≤b)→PyData.depthAll (l.map f)≤b
 | [],_=>by rw [List.map_nil];unfold PyData.depthAll;exact Nat.zero_le _
 | x::l,h=>by
  rw [List.map_cons]
  unfold PyData.depthAll
  exact Nat.max_le.mpr ⟨h x (.head _),depth_map fun y hy=>h y (List.mem_cons_of_mem _ hy)⟩
theorem lay_list {α:Type}{f:α→PyData}{b:Nat}{l:List α} (h:∀ x∈l,Lay (f x) b):Lay (.list (l.map f)) (b+1):=by
 constructor
 ·unfold PyData.canLay0
  exact lay_map fun x hx=>(h x hx).1
 ·unfold PyData.depth
  exact Nat.succ_le_succ (depth_map fun x hx=>(h x hx).2)
theorem ne_same {m:Mem}{a b:Addr}{d:PyData}{ρ:List (Option V)}{Φ:Bool→St→Prop} (h1:RD m (.ref a) d) (h2:RD m (.ref b) d) (hl:Lay d 40) (h:Φ false ⟨ρ,m⟩):cmpW .NotEq (.ref a) (.ref b) ⟨ρ,m⟩ Φ:=by
 refine .i (.data d d h1 h2 hl.1 hl.1 hl.2 ?_)
 rw [SeqAt.eqv_refl d hl.1];exact h
theorem Lay.mono {d:PyData}{b c:Nat} (h:Lay d b) (q:b≤c):Lay d c:=⟨h.1,Nat.le_trans h.2 q⟩
theorem Lay.int (n:Int):Lay (.int n) 0:=⟨by unfold PyData.canLay0;rfl,by unfold PyData.depth;exact Nat.le_refl 0⟩
theorem wordsD_lay (L:List (Nat × Nat)) (l:List Nat):Lay (wordsD L l) 1:=lay_list fun n zz=>.int _
noncomputable def irA:Sxs :=
 (.cons (.asg (.name 1) (.slice (.var 0) .none (.int 63)))
 (.cons (.asg (.name 2) (.list (.cons (.var 1) (.cons (.int 0) (.cons (.int 0) (.cons (.bin .Mult (.bin .Mod (.bi .sum (.cons (.var 1) .nil)) (.int 100003)) (.int 7)) (.cons (.int 0) .nil)))))))
 (.cons (.asg (.name 3) (.call 361 (.cons (.var 2) (.cons (.int 10) (.cons (.int 2) (.cons (.list (.cons (.str (ofString "and")) (.cons (.str (ofString "not")) (.cons (.str (ofString "mux")) (.cons (.str (ofString "xor")) (.cons (.str (ofString "or")) (.cons (.str (ofString "buf")) (.cons (.str (ofString "lut")) (.cons (.str (ofString "nand")) (.cons (.str (ofString "nor")) (.cons (.str (ofString "xnor")) (.cons (.str (ofString "cell")) .nil)))))))))))) .nil))))))
 .nil)))
noncomputable def irT:Ex:=(.cmp .Eq (.call 342 (.cons (.var 2) (.cons (.int 8) .nil))) (.int 7))
noncomputable def irU:Sx:=(.expr (.meth (.var 3) (ofString "add_output") (.cons (.str (ofString "u")) (.cons (.list (.cons (.meth (.var 3) (ofString "add_cell") (.cons (.str (ofString "and")) (.cons (.tup (.cons (.meth (.var 3) (ofString "new_net") .nil) (.cons (.int 1) .nil))) .nil))) .nil)) .nil))))
noncomputable def irB:Sxs :=
 (.cons (.asg (.name 5) (.bi .list (.cons (.attr (.var 3) .cells) .nil)))
 (.cons (.asg (.tup (.cons (.name 6) (.cons (.name 7) .nil))) (.call 371 (.cons (.var 3) .nil)))
 (.cons (.asg (.name 8) (.call 383 (.cons (.var 3) (.cons (.var 6) (.cons (.var 7) .nil)))))
 (.cons (.asg (.name 9) (.call 300 (.cons (.var 3) .nil)))
 (.cons (.asg (.name 10) (.bin .Add (.comp2 (.var 21) (.tup (.cons (.name 19) (.cons (.name 20) .nil))) (.attr (.var 3) .inputs) (.name 21) (.var 20) 3) (.comp1 (.item (.var 19) (.int 1)) (.name 19) (.call 366 (.cons (.var 3) .nil)) (.bool true) 1)))
 (.cons (.asg (.name 11) (.bin .Add (.comp2 (.var 21) (.tup (.cons (.name 19) (.cons (.name 20) .nil))) (.attr (.var 3) .outputs) (.name 21) (.var 20) 3) (.comp2 (.var 20) (.name 19) (.call 366 (.cons (.var 3) .nil)) (.name 20) (.item (.var 19) (.int 2)) 2)))
 (.cons (.ifS (.cmp .NotEq (.bi .len (.cons (.attr (.var 9) .inputs) .nil)) (.bi .len (.cons (.var 10) .nil)))
  (.cons (.ret (.bool false))
  .nil)
  .nil)
 (.cons (.asg (.name 12) (.bin .Mult (.list (.cons (.int 0) .nil)) (.bi .len (.cons (.attr (.var 9) .nodes) .nil))))
 (.cons (.forS (.name 13) (.bi .range (.cons (.bi .len (.cons (.var 10) .nil)) .nil))
  (.cons (.asg (.item (.var 12) (.item (.attr (.var 9) .inputs) (.var 13))) (.item (.var 8) (.item (.var 10) (.var 13))))
  .nil))
 (.cons (.forS (.name 14) (.bi .range (.cons (.bi .len (.cons (.attr (.var 9) .nodes) .nil)) .nil))
  (.cons (.asg (.name 15) (.item (.attr (.var 9) .nodes) (.var 14)))
  (.cons (.ifS (.cmp .IsNot (.var 15) .none)
   (.cons (.asg (.name 16) (.comp1 (.ite (.cmp .Eq (.bin .Mod (.var 19) (.int 2)) (.int 1)) (.bin .Sub (.var 7) (.item (.var 12) (.bin .FloorDiv (.var 19) (.int 2)))) (.item (.var 12) (.bin .FloorDiv (.var 19) (.int 2)))) (.name 19) (.var 15) (.bool true) 1))
   (.cons (.asg (.item (.var 12) (.var 14)) (.bin .BitAnd (.item (.var 16) (.int 0)) (.item (.var 16) (.int 1))))
   .nil))
   .nil)
  .nil)))
 (.cons (.asg (.name 17) (.comp1 (.ite (.cmp .Eq (.bin .Mod (.var 19) (.int 2)) (.int 1)) (.bin .Sub (.var 7) (.item (.var 12) (.bin .FloorDiv (.var 19) (.int 2)))) (.item (.var 12) (.bin .FloorDiv (.var 19) (.int 2)))) (.name 19) (.attr (.var 9) .outputs) (.bool true) 1))
 (.cons (.ifS (.cmp .NotEq (.var 17) (.comp1 (.item (.var 8) (.var 19)) (.name 19) (.var 11) (.bool true) 1))
  (.cons (.ret (.bool false))
  .nil)
  .nil)
 (.cons (.asg (.name 18) (.call 335 (.cons (.var 3) (.cons (.var 9) .nil))))
 (.cons (.ifS (.cmp .NotEq (.comp1 (.tup (.cons (.var 19) (.cons (.bi .len (.cons (.var 20) .nil)) .nil))) (.tup (.cons (.name 19) (.cons (.name 20) .nil))) (.attr (.var 18) .inputs) (.bool true) 2) (.comp1 (.tup (.cons (.var 19) (.cons (.bi .len (.cons (.var 20) .nil)) .nil))) (.tup (.cons (.name 19) (.cons (.name 20) .nil))) (.attr (.var 3) .inputs) (.bool true) 2))
  (.cons (.ret (.bool false))
  .nil)
  .nil)
 (.cons (.ifS (.or (.cmp .NotEq (.comp1 (.item (.var 19) (.int 0)) (.name 19) (.attr (.var 18) .cells) (.cmp .NotIn (.item (.var 19) (.int 0)) (.list (.cons (.str (ofString "and")) (.cons (.str (ofString "not")) (.cons (.str (ofString "flop")) (.cons (.str (ofString "latch")) .nil)))))) 1) (.list .nil)) (.cmp .NotEq (.attr (.var 3) .cells) (.var 5)))
  (.cons (.ret (.bool false))
  .nil)
  .nil)
 (.cons (.ret (.cmp .Eq (.call 388 (.cons (.var 18) (.cons (.var 6) (.cons (.var 7) .nil)))) (.call 388 (.cons (.var 3) (.cons (.var 6) (.cons (.var 7) .nil))))))
 .nil))))))))))))))))
noncomputable def srcBody:Sxs:=match tln 8 irB with
 | .cons (.forS _ _ b) _=>b
 | _=>.nil
noncomputable def nodeBody:Sxs:=match tln 9 irB with
 | .cons (.forS _ _ b) _=>b
 | _=>.nil
theorem natL_set (vs:List Nat) (i n:Nat):(natL vs).set i (.int n)=natL (vs.set i n):=by
 unfold natL;exact List.map_set.symm
theorem ar111 {k n:Nat} (h:k<n) {a:Nat} (q:n+1≤a):k+1<a:=Nat.lt_of_lt_of_le (Nat.succ_lt_succ h) q
section
variable {G:GC}{r:Nat}{m:Mem}{wl sl vl ra:Addr}{oa:AigO}{A:AigA}{N:NetA}{L:List (Nat × Nat)}{R:Nat}{r0 r1 r2 r3 r4 r5 r6 r7 r8 r9 r10 r11 r12 r13 r14 r15 r16 r17 r18:Option V}{rest:Sxs}{Φ:Fl→St→Prop}
theorem AigM.upL {vs xs:List V}{es:List (K × V)}{m':Mem} (M:AigM m oa vs A es) (h:m vl=some (.list xs)) (ha:vl∉oa.all) (u:Up vl m m'):AigM m' oa vs A es :=
 M.same (fp:=[vl]) (u.same (.head _)) (u.tups h rfl) (fun z=>mn M.1 h rfl (List.mem_singleton.mp z)) fun a z q=>ha (List.mem_singleton.mp q▸z)
theorem Shp.len {n:Nat}{ns:Nodes} (s:Shp n ns):n+1≤ns.length:=by
 obtain ⟨e,h,_⟩:=s
 rw [h,List.length_append,List.length_replicate];exact Nat.le_add_right _ _
theorem src_loop (ha:AigAt m oa A) (B:Built N A) (kw:m wl=some (.dict (dN L))) (ks:m sl=some (.list (natL N.srcs))) (kv:m vl=some (.list (natL (List.replicate A.nodes.length 0)))) (kr:m ra=some (.range 0 (N.srcs.length:Nat) 1)) (hs:N.srcs.length<1000) (kn:∀ s∈N.srcs,Kn R L s) (hva:vl∉oa.all) (hvs:sl≠vl)
  (h:∀ m' r13 vs,V1 N A L N.srcs.length vs→m' vl=some (.list (natL vs))→Up vl m m'→semB ⟨G,r,noΨ⟩ rest ⟨[r0,r1,r2,r3,r4,r5,r6,r7,some (.ref wl),some (.ref oa.x),some (.ref sl),r11,some (.ref vl),r13,r14,r15,r16,r17,r18],m'⟩ Φ) :
  forK ⟨G,r,noΨ⟩ (.name 13) srcBody rest Φ (.ref ra) ⟨[r0,r1,r2,r3,r4,r5,r6,r7,some (.ref wl),some (.ref oa.x),some (.ref sl),r11,some (.ref vl),r13,r14,r15,r16,r17,r18],m⟩:=by
 obtain ⟨vn,et,ok,M⟩:=ha
 refine for_range (T:=Option V × List Nat) (F:=fun t=>[r0,r1,r2,r3,r4,r5,r6,r7,some (.ref wl),some (.ref oa.x),some (.ref sl),r11,some (.ref vl),t.1,r14,r15,r16,r17,r18]) (x0:=(r13,_)) kr (b30 hs)
  (fun k t μ=>A3 (V1 N A L k t.2) (μ vl=some (.list (natL t.2))) (Up vl m μ)) (fun zz zz zz q=>q.3 (mn kr kv rfl) kr) ⟨V1.zero N A L,kv,fun zz zz zz e=>e⟩ (fun k t m1 Ψ' hk q hΨ=>?_) fun t m1 q=>h m1 t.1 t.2 q.1 q.2 q.3
 have M1:=M.upL kv hva q.3
 have hs:=List.getElem?_eq_getElem (l:=N.srcs) hk
 have hgd:N.srcs.getD k 0=N.srcs[k]:=by rw [List.getD_eq_getElem?_getD,hs];rfl
 have hlt:=ar111 hk B.1.len
 obtain ⟨n,hn,_⟩:=kn _ (List.getElem_mem hk)
 refine s_asg (it_l (q.3 hvs ks) (natL_at hs) (it_d (q.3 (mn kw kv rfl) kw) keyInt (dget_dN_at hn) (M1.aI (it_l M1.4 (natL_at (n:=1+k) (by rw [B.2,List.getElem?_range' hk,Nat.one_mul])) (setL_go (k:=1+k) q.2 (by rw [natL_len,q.1.1,Nat.add_comm];exact hlt) fun m2 k2 u2=>hΨ (_,t.2.set (k+1) (val L (N.srcs.getD k 0))) m2 ⟨q.1.step hlt,?_,q.3.trans u2⟩)))))
 rw [←natL_set,hgd,val_some hn,Nat.add_comm k 1];exact k2
theorem node_loop (hn:A.nodes.length<100000) {v0:Nat→Nat}{vs0:List Nat} (ha:AigAt m oa A) (kv:m vl=some (.list (natL vs0))) (x0:V2 A R v0 0 vs0) (kr:m ra=some (.range 0 (A.nodes.length:Nat) 1)) (hva:vl∉oa.all)
  (h:∀ m' r14 r15 r16 vs,V2 A R v0 A.nodes.length vs→m' vl=some (.list (natL vs))→Up vl m m'→semB ⟨G,r,noΨ⟩ rest ⟨[r0,r1,r2,r3,r4,r5,r6,some (.int ((2^R - 1:Nat):Int)),r8,some (.ref oa.x),r10,r11,some (.ref vl),r13,r14,r15,r16,r17,r18],m'⟩ Φ) :
  forK ⟨G,r,noΨ⟩ (.name 14) nodeBody rest Φ (.ref ra) ⟨[r0,r1,r2,r3,r4,r5,r6,some (.int ((2^R - 1:Nat):Int)),r8,some (.ref oa.x),r10,r11,some (.ref vl),r13,r14,r15,r16,r17,r18],m⟩:=by
 obtain ⟨vn,et,ok,M⟩:=ha
 refine for_range (T:=(Option V × Option V × Option V) × List Nat) (F:=fun t=>[r0,r1,r2,r3,r4,r5,r6,some (.int ((2^R - 1:Nat):Int)),r8,some (.ref oa.x),r10,r11,some (.ref vl),r13,t.1.1,t.1.2.1,t.1.2.2,r17,r18]) (x0:=((r14,r15,r16),vs0)) kr (Nat.lt_trans hn (nb rfl))
  (fun k t μ=>A3 (V2 A R v0 k t.2) (μ vl=some (.list (natL t.2))) (Up vl m μ)) (fun zz zz zz q=>q.3 (mn kr kv rfl) kr) ⟨x0,kv,fun zz zz zz e=>e⟩ (fun k t m1 Ψ' hk q hΨ=>?_) fun t m1 q=>h m1 _ _ _ t.2 q.1 q.2 q.3
 have M1:=M.upL kv hva q.3
 have hs:=List.getElem?_eq_getElem (l:=A.nodes) hk
 generalize A.nodes[k]'hk=nd at hs
 refine M1.10.at hs fun w hw hnd=>s_asg (M1.aN (it_l M1.3 hw (s_if ?_)))
 cases nd with
 | none =>
  obtain rfl:w=.none:=hnd
  exact isnot_n (hΨ ((_,_,_),t.2) m1 ⟨q.1.skip (fun l r e=>by rw [hs] at e;exact noS rfl (Option.some.inj e)),q.2,q.3⟩)
 | some p =>
  obtain ⟨tp,rfl,ht⟩:=hnd
  have hlow:=ok.2 k p.1 p.2 hs
  refine isnot_r (if_t (s_asg (e_comp quiet_no (lits_list (R:=R) (vs:=t.2) (qs:=[p.1,p.2]) (iter_tup ht) ht q.2 (fun z hz=>?_) q.1.2 (nb rfl) fun l16 m2 n2 k16 g2=>a_nm (s_asg (it_l (k:=0) k16 rfl (it_l (k:=1) k16 rfl (bAnd (a:=tv R t.2 p.1) (b:=tv R t.2 p.2) rfl rfl (setL_go (k:=k) (g2 q.2) (by rw [natL_len,q.1.1];exact hk) fun m3 k3 u3=>s_nil (hΨ ((_,_,_),t.2.set k (tv R t.2 p.1 &&& tv R t.2 p.2)) m3 ⟨q.1.step ok hs,by rw [←natL_set];exact k3,q.3.trans (g2.up.trans u3)⟩))))))))))
  rw [q.1.1]
  exact (List.mem_cons.mp hz).elim (fun e=>e▸Nat.lt_trans (half_lt hlow.1) hk) fun z=>List.mem_singleton.mp z▸Nat.lt_trans (half_lt hlow.2) hk
end
inductive LayA (ds:List PyData) (b:Nat):Prop
 | mk (lay:PyData.canLayAll0 ds=true) (dep:PyData.depthAll ds≤b)
section
variable {d:PyData}{ds:List PyData}{b c:Nat}
theorem LayA.nil:LayA [] b:=⟨by unfold PyData.canLayAll0;rfl,by unfold PyData.depthAll;exact Nat.zero_le _⟩
theorem LayA.cons (h:Lay d b) (q:LayA ds b):LayA (d::ds) b:=⟨by unfold PyData.canLayAll0;rw [h.1,q.1];rfl,by unfold PyData.depthAll;exact Nat.max_le.mpr ⟨h.2,q.2⟩⟩
theorem Lay.tup (h:LayA ds b):Lay (.tuple ds) (b+1):=⟨by unfold PyData.canLay0;exact h.1,by unfold PyData.depth;exact Nat.succ_le_succ h.2⟩
theorem Lay.list (h:LayA ds b):Lay (.list ds) (b+1):=⟨by unfold PyData.canLay0;exact h.1,by unfold PyData.depth;exact Nat.succ_le_succ h.2⟩
theorem Lay.str {x:Str} (h:PyData.canLay0 (.str x)=true):Lay (.str x) 0:=⟨h,by unfold PyData.depth;exact Nat.le_refl 0⟩
theorem Lay.none:Lay .none 0:=⟨by unfold PyData.canLay0;rfl,by unfold PyData.depth;exact Nat.le_refl 0⟩
theorem Lay.up (h:Lay d 0):Lay d b:=h.mono (Nat.zero_le b)
end
inductive qOk (c:Cell):Prop
 | mk (f:∀ e q i,c.par=.flop e q i→q<2) (l:∀ q i,c.par=.latch q i→q<2)
theorem q_lay {q:Nat} (h:q<2):Lay (.str (qName q)) 0:=by
 have hs:∀ n:Fin 2,PyData.canLay0 (.str (qName n.val))=true:=by decide +kernel
 exact .str (hs ⟨q,h⟩)
theorem kd_lay (k:Kd):Lay (.str k.str) 0:=.str (by cases k <;> decide +kernel)
theorem ab_lay {x:Str} (h:x∈[ofString "a",ofString "b",ofString "y",ofString "z"]):Lay (.str x) 0:=by
 have hs:∀ x∈[ofString "a",ofString "b",ofString "y",ofString "z"],PyData.canLay0 (.str x)=true:=by decide +kernel
 exact .str (hs x h)
inductive DatAt (m:Mem) (v:V) (b:Nat):Prop
 | mk (d:PyData) (h:RD m v d) (l:Lay d b)
theorem par_data {m:Mem}{v:V}{c:Cell} (hp:ParAt m v c.par) (hq:qOk c):DatAt m v 1:=by
 cases hc:c.par with
 | none=>rw [hc] at hp;cases hp;exact ⟨.none,.none,Lay.none.up⟩
 | tab n=>rw [hc] at hp;cases hp;exact ⟨.int n,.int _,(Lay.int _).up⟩
 | cel n =>
  rw [hc] at hp
  obtain ⟨a,x,rfl,ha,hx⟩:=hp
  exact ⟨.tuple [.str x,.int n],.tup ha (.cons (.str x) (.cons (.int _) .nil)),.tup (.cons (.str hx) (.cons (.int _) .nil))⟩
 | flop e q i =>
  rw [hc] at hp
  obtain ⟨a,rfl,ha⟩:=hp
  exact ⟨.tuple [.int e,.str (qName q),.int i],.tup ha (.cons (.int _) (.cons (.str _) (.cons (.int _) .nil))),.tup (.cons (.int _) (.cons (q_lay (hq.1 e q i hc)) (.cons (.int _) .nil)))⟩
 | latch q i =>
  rw [hc] at hp
  obtain ⟨a,rfl,ha⟩:=hp
  exact ⟨.tuple [.str (qName q),.int i],.tup ha (.cons (.str _) (.cons (.int _) .nil)),.tup (.cons (q_lay (hq.2 q i hc)) (.cons (.int _) .nil))⟩
theorem nat_data (l:List Nat):LayA (l.map fun (n:Nat)=>.int n) 0:=⟨lay_map fun n zz=>(Lay.int _).1,depth_map fun n zz=>(Lay.int _).2⟩
theorem RDs.natL {m:Mem}:∀ l:List Nat,RDs m (natL l) (l.map fun (n:Nat)=>.int n)
 | []=>.nil
 | a::l=>.cons (.int a) (RDs.natL l)
theorem cell_data {m:Mem}{v:V}{c:Cell} (h:CellAt m v c) (hq:qOk c):DatAt m v 2:=by
 obtain ⟨t,b,p,rfl,ht,hb,hp⟩:=h
 obtain ⟨d,h1,h2⟩:=par_data hp hq
 exact ⟨.tuple [.str c.kd.str,.int c.out,.tuple (c.ins.map fun (n:Nat)=>.int n),d],.tup ht (.cons (.str _) (.cons (.int _) (.cons (.tup hb (RDs.natL _)) (.cons h1 .nil)))),.tup (.cons (kd_lay _).up (.cons (Lay.int _).up (.cons (.tup (nat_data _)) (.cons h2 .nil))))⟩
inductive DatsAt (m:Mem) (vs:List V) (b:Nat):Prop
 | mk (ds:List PyData) (h:RDs m vs ds) (l:LayA ds b)
theorem dats {m:Mem}{b:Nat}:∀ {vs:List V},(∀ v∈vs,DatAt m v b)→DatsAt m vs b
 | [],_=>⟨[],.nil,.nil⟩
 | v::vs,h=>by
  obtain ⟨d,h1,h2⟩:=h v (.head _)
  obtain ⟨ds,h3,h4⟩:=dats fun w hw=>h w (List.mem_cons_of_mem _ hw)
  exact ⟨d::ds,.cons h1 h3,.cons h2 h4⟩
theorem cells_data {m:Mem}{vs:List V}{cs:List Cell} (h:Cells m vs cs) (hq:∀ c∈cs,qOk c):DatsAt m vs 2:=dats fun v hv=>by
 obtain ⟨k,hk⟩:=List.getElem?_of_mem hv
 exact All2.get h hk fun c hc e=>cell_data e (hq c (List.mem_of_getElem? hc))
section
variable {N:NetA}{wa wb h:Nat}{cs ss:List Cell}{ly lz:List Nat}
theorem comb_q {c:Cell} (h:combOk c.kd c.par c.ins.length):qOk c:=by
 constructor
 ·intro e q i hp
  rw [hp] at h
  cases hk:c.kd <;> rw [hk] at h <;> first|exact h.elim|exact nomatch h.2|(obtain ⟨_,t,e,_⟩:=h;exact nomatch e)
 ·intro q i hp
  rw [hp] at h
  cases hk:c.kd <;> rw [hk] at h <;> first|exact h.elim|exact nomatch h.2|(obtain ⟨_,t,e,_⟩:=h;exact nomatch e)
theorem GSt.q {c:Cell}{k:Nat} (g:GSt c k) (hk:k<2):qOk c:=by
 cases g with
 | flop e i h1 h2=>exact ⟨fun e' q i' hp=>by rw [h2] at hp;cases hp;exact hk,fun q i' hp=>by rw [h2] at hp;exact (nomatch hp)⟩
 | latch i h1 h2=>exact ⟨fun e' q i' hp=>by rw [h2] at hp;exact (nomatch hp),fun q i' hp=>by rw [h2] at hp;cases hp;exact hk⟩
theorem Gen.qok (g:Gen N wa wb h cs ss ly lz):∀ c∈N.cells,qOk c:=fun c hc=>by
 rw [g.3] at hc
 refine (List.mem_append.mp hc).elim (fun z=>comb_q (g.4.2 c z)) fun z=>?_
 obtain ⟨k,hk⟩:=List.getElem?_of_mem z
 exact (g.5.2 k c hk).q (Nat.lt_of_lt_of_le (g.6▸at_lt hk) g.1.5)
theorem stateD_lay (L:List (Nat × Nat)) {c:Cell} (hs:stOk c) (hq:qOk c):Lay (stateD L c).2 2:=by
 have hp:Lay (parD c.par) 1:=by
  cases hs with
  | flop e q i hc=>rw [hc];exact .tup (.cons (.int _) (.cons (q_lay (hq.1 e q i hc)) (.cons (.int _) .nil)))
  | latch q i hc=>rw [hc];exact .tup (.cons (q_lay (hq.2 q i hc)) (.cons (.int _) .nil))
 exact .tup (.cons (kd_lay _).up (.cons hp (.cons (wordsD_lay L c.ins) .nil)))
theorem Gen.ports_lay (g:Gen N wa wb h cs ss ly lz) (L:List (Nat × Nat)):Lay (.list (N.outs.map (portD L))) 40:=by
 rw [g.8]
 exact (lay_list (b:=2) fun p hp=>.tup (.cons (ab_lay (by
  refine (List.mem_cons.mp hp).elim (fun e=>?_) fun z=>?_
  ·rw [e];exact .tail _ (.tail _ (.head _))
  ·rw [List.mem_singleton.mp z];exact .tail _ (.tail _ (.tail _ (.head _))))).up (.cons (wordsD_lay L p.2) .nil))).mono (nb rfl)
theorem Gen.shape_lay (g:Gen N wa wb h cs ss ly lz):Lay (.list (N.ins.map fun p=>.tuple [.str p.1,.int (p.2.length:Nat)])) 40:=by
 rw [g.2]
 exact (lay_list (b:=1) fun p hp=>.tup (.cons (ab_lay (by
  refine (List.mem_cons.mp hp).elim (fun e=>?_) fun z=>?_
  ·rw [e];exact .head _
  ·rw [List.mem_singleton.mp z];exact .tail _ (.head _))) (.cons (.int _) .nil))).mono (nb rfl)
theorem sinks_same (g:Gen N wa wb h cs ss ly lz) {m0 m1 m2:Mem}{u v:V}{L:List (Nat × Nat)}{D:List PyData}{E:List (K × PyData)} (h1:SinksAt m0 m1 u D E) (s:Gr m1 m2) (h2:SinksAt m1 m2 v (N.outs.map (portD L)) (N.states.map (stateD L)))
  (hD:D=N.outs.map (portD L)) (hE:E=N.states.map (stateD L)):SameT m2 u v:=by
 subst hD hE
 obtain ⟨t,lp,ds,es,rfl,a1,a2,a3,a4,a5⟩:=h1
 obtain ⟨t',lp',ds',es',rfl,b1,b2,b3,b4,b5⟩:=h2
 have dd:∀ {ds:Addr}{es:List (K × V)},m2 ds=some (.dict es)→ED m2 es (N.states.map (stateD L))→DictD m2 ds (N.states.map fun c=>(qn c.par,(stateD L c).2)):=fun {ds es} q1 q2=>by
  have e2:=q2.2
  rw [List.map_map] at e2
  refine ⟨es,q1,by rw [q2.1,List.map_map,List.map_map];rfl,?_⟩
  rw [List.map_map]
  exact e2
 refine ⟨t,t',.ref lp,.ref lp',ds,ds',.list (N.outs.map (portD L)),N.states.map fun c=>(qn c.par,(stateD L c).2),rfl,rfl,s a1,b1,RD.keep s.lts a2,b2,dd (s a3) (a4.keep s.lts),dd b3 b4,fun e=>?_,?_,⟨(g.ports_lay L).1,(g.ports_lay L).2⟩,fun p hp=>?_⟩
 ·rw [←e] at b5
  exact noS b5 a3
 ·rw [List.map_map];exact g.qnd
 ·obtain ⟨c,hc,rfl⟩:=List.mem_map.mp hp
  have q:=stateD_lay L (g.wnet.4 c hc) (g.qok c (List.mem_filter.mp hc).1)
  exact ⟨q.1,Nat.le_trans q.2 (nb rfl)⟩
end
inductive HeldAt (m:Mem) (x hl:Addr) (N:NetA):Prop
 | mk (o:NetO) (nm:V) (bi bo:List Addr) (vi vo vc:List V) (e:x=o.x) (hp:nm.plain=true) (a:NetM m o nm N.count vi vo vc) (hi:Ports m o vi N.ins bi) (ho:Ports m o vo N.outs bo) (hc:Cells m vc N.cells) (hl:m hl=some (.list vc))
theorem HeldAt.net {m:Mem}{x hl:Addr}{N:NetA} (h:HeldAt m x hl N):NetR m (.ref x) N:=by
 obtain ⟨o,nm,bi,bo,vi,vo,vc,rfl,hp,a,b,c,d,_⟩:=h
 exact ⟨o,nm,bi,bo,rfl,hp,vi,vo,vc,a,b,c,d⟩
theorem HeldAt.gr {m m':Mem}{x hl:Addr}{N:NetA} (h:HeldAt m x hl N) (g:Gr m m'):HeldAt m' x hl N:=by
 obtain ⟨o,nm,bi,bo,vi,vo,vc,e,hp,a,b,c,d,f⟩:=h
 exact ⟨o,nm,bi,bo,vi,vo,vc,e,hp,a.keep g,b.gr g,c.gr g,d.keep g.tups,g f⟩
theorem eq_same {m:Mem}{ρ:List (Option V)}{u v:V}{Δ:Bool→St→Prop} (h:SameT m u v) (k:Δ true ⟨ρ,m⟩):cmpW .Eq u v ⟨ρ,m⟩ Δ:=by
 exact .i (.inr ⟨h,k⟩)
section
variable {N:NetA}{A:AigA}{es:List (K × V)}{R:Nat}{L L2:List (Nat × Nat)}{vs:List Nat}
theorem Evals.of (E:Evals N A R L vs) (W:Words N es R L) (W2:Words N es R L2):Evals N A R L2 vs:=fun i hi=>⟨(E i hi).1,fun k a s' e1 e2=>by
 have hk:k<N.keysL.length:=by rw [keys_len];exact at_lt e2
 have e3:=List.getElem?_eq_getElem hk
 obtain ⟨n,q1,_,q3⟩:=W.srcv e2 e3
 obtain ⟨n2,p1,_,p3⟩:=W2.srcv e2 e3
 have en:n=n2:=Int.ofNat.inj (V.int.inj (Option.some.inj (q1.symm.trans p1)))
 have q:=(E i hi).2 k a s' e1 e2
 unfold wv at q ⊢
 rw [val_some q3] at q
 rw [val_some p3,←en]
 exact q⟩
theorem shape_eq (ps:List (Str × List Nat)):(mkPorts 2 ps).map (fun p:Str × List Nat=>PyData.tuple [.str p.1,.int (p.2.length:Nat)])=ps.map fun p:Str × List Nat=>PyData.tuple [.str p.1,.int (p.2.length:Nat)]:=by
 have e:=congrArg (List.map fun q:Str × Nat=>PyData.tuple [.str q.1,.int (q.2:Nat)]) (mkPorts_shape ps 2)
 rw [List.map_map,List.map_map] at e
 exact e
end
section
variable {G:GC}{r:Nat}{m:Mem}{x hl pd wl sl vl:Addr}{oa:AigO}{A:AigA}{N:NetA}{L:List (Nat × Nat)}{R:Nat}{es:List (K × V)}{wa wb hh:Nat}{cs ss:List Cell}{ly lz:List Nat}{vs:List Nat}{v0:Nat→Nat}{r0 r1 r2 r4 r10 r13 r14 r15 r16 r17 r18:Option V}{Φ:Fl→St→Prop}
theorem law_end (hG:G.Ok) (hr:8≤r) (g:Gen N wa wb hh cs ss ly lz) (H:HeldAt m x hl N) (ha:AigAt m oa A) (B:Built N A) (kw:m wl=some (.dict (dN L))) (ks:m sl=some (.list (natL N.snks))) (kv:m vl=some (.list (natL vs))) (hp:m pd=some (.dict es))
  (hes:∀ k∈N.keysL,WordAt es R k) (W:Words N es R L) (x2:V2 A R v0 A.nodes.length vs) (E:Evals N A R L vs) (h:∀ σ,Φ (.ret (.bool true)) σ) :
  semB ⟨G,r,noΨ⟩ (tln 10 irB) ⟨[r0,r1,r2,some (.ref x),r4,some (.ref hl),some (.ref pd),some (.int ((2^R - 1:Nat):Int)),some (.ref wl),some (.ref oa.x),r10,some (.ref sl),some (.ref vl),r13,r14,r15,r16,r17,r18],m⟩ Φ:=by
 have kn:=fun q (hq:q∈N.snks)=>g.known (g.snks_lt q hq)
 have knL:∀ q∈N.snks,Kn R L q:=fun q hq=>known (k:=N.combs.length) W.1 W.2 (by rw [List.take_length];exact kn q hq)
 have hsm:=Nat.lt_trans g.snl (nb rfl:90<1000000)
 have ha':=ha
 obtain ⟨vn,et,ok,M⟩:=ha'
 refine s_asg (e_comp quiet_no (M.aO (lits_list (R:=R) (vs:=vs) (iter_list M.5) M.5 kv (fun q hq=>by rw [x2.1];exact half_lt (B.4 q hq)) x2.2 (by rw [B.3];exact hsm) fun l17 m1 n1 k17 g1=>a_nm (s_if (e_comp quiet_no (sink_words (g1 kw) (g1 ks) knL hsm fun l m2 n2 kl g2=>?_))))))
 rw [told_eq B W kn E x2.2] at k17
 have rd:∀ {a:Addr},m2 a=some (.list (natL (N.snks.map (val L))))→RD m2 (.ref a) (.list ((N.snks.map (val L)).map fun (n:Nat)=>.int n)):=fun e=>.list e (RDs.natL _)
 have g12:=g1.trans g2
 refine ne_same (rd (g2 k17)) (rd kl) ((Lay.list (nat_data _)).mono (nb rfl)) (if_f (s_nil (s_asg (to_netlist hG (Nat.le_trans (nb rfl) hr) (H.gr g12).net g.good (ha.keep g12) B fun m3 y N' hN' Md g3=>a_nm (s_if ?_)))))
 have H3:=H.gr (g12.trans g3)
 have hp3:=g3 (g12 hp)
 have hN3:=hN'
 obtain ⟨o',nm',bi',bo',e',hp',vi',vo',vc',a',hi',ho',hc'⟩:=hN'
 cases e'
 have hHH:=H3
 obtain ⟨o,nm,bi,bo,vi,vo,vc,e,hpl,a,hpi,hpo,hcs,khl⟩:=hHH
 subst e
 have hkm:=Md.known
 have hol:N'.outs.length<1000:=Md.el fun zz h2 zz zz zz zz zz zz=>by
  have e:=congrArg List.length h2
  rw [List.length_map,List.length_map] at e
  rw [e];exact g.small.2
 have hsl:N'.snks.length<100000:=Md.el fun zz zz zz zz zz zz h7 zz=>by rw [h7.1,B.3];exact Nat.lt_trans g.snl (nb rfl)
 have hins:=Md.el fun h1 zz zz zz zz zz zz zz=>h1
 have hil:N.ins.length<100000:=Nat.lt_trans g.small.1 (nb rfl)
 refine e_comp quiet_no (a'.aI (shape_ports hi' a'.3 (by rw [hins,mkPorts_len];exact hil) fun l4 m4 vs4 n4 k4 rd4 g4=>e_comp quiet_no ((a.keep g4).aI (shape_ports (hpi.gr g4) (g4 a.3) hil fun l5 m5 vs5 n5 k5 rd5 g5=>?_))))
 rw [hins,shape_eq] at rd4
 refine ne_same (.list (g5 k4) (rd4.keep g5.lts)) (.list k5 rd5) g.shape_lay (if_f (s_nil (s_if ?_)))
 have g35:=g4.trans g5
 refine e_comp quiet_no ((a'.keep g35).aC (odd_kinds (g35 a'.5) (hc'.keep g35.tups) Md.kinds fun l6 m6 n6 k6 g6=>w_list (nb rfl) fun l7 m7 n7 k7 g7=>ne_same (d:=.list []) (.list (g7 k6) .nil) (.list k7 .nil) ((Lay.list (b:=0) .nil).mono (nb rfl)) ?_))
 have g37:=(g35.trans g6).trans g7
 have hcd:=cells_data (hcs.keep g37.tups) g.qok
 obtain ⟨ds,d1,d2⟩:=hcd
 refine (a.keep g37).aC (ne_same (d:=.list ds) (.list (g37 a.5) d1) (.list (g37 khl) d1) ((Lay.list d2).mono (nb rfl)) (if_f (s_nil (s_ret ?_))))
 have qn':(N'.states.map fun c=>qn c.par).Nodup:=by rw [Md.qns];exact g.qnd
 refine law_sinks hG (Nat.le_trans (nb rfl) hr) (hN3.keep g37) (Md.wnet g.wnet) (g37 hp3) (by rw [Md.keysL];exact hes) hkm qn' hsl hol fun m8 u L' W' S' g8=>?_
 refine law_sinks hG (Nat.le_trans (nb rfl) hr) ((H3.gr g37).net.keep g8) g.wnet (g8 (g37 hp3)) hes kn g.qnd (Nat.lt_trans g.snl (nb rfl)) g.small.2 fun m9 v L2 W2 S2 g9=>?_
 have f:=Md.sinks (Md.vals B W2 W' kn (E.of W W2))
 exact eq_same (sinks_same g S' g9 S2 f.1 f.2) (h _)
end
theorem ar120 {a b c:Nat} (e:a+b=c) (h:c<1000):a<100000∧b<100000∧a+b<1000000:=by omega
section
variable {G:GC}{r:Nat}{m:Mem}{x:Addr}{N:NetA}{wa wb hh:Nat}{cs ss:List Cell}{ly lz:List Nat}{r0 r1 r2 r4 r5 r6 r7 r8 r9 r10 r11 r12 r13 r14 r15 r16 r17 r18:Option V}{Φ:Fl→St→Prop}
theorem V1.v2 {A:AigA}{es:List (K × V)}{R:Nat}{L:List (Nat × Nat)}{vs:List Nat} (x:V1 N A L N.srcs.length vs) (W:Words N es R L):V2 A R (fun n=>if 1≤n∧n≤N.srcs.length then val L (N.srcs.getD (n - 1) 0) else 0) 0 vs:=by
 refine ⟨x.1,fun n=>?_,fun n zz=>x.2 n,fun n hn=>absurd hn (Nat.not_lt_zero _)⟩
 rw [x.2]
 by_cases hq:1≤n∧n≤N.srcs.length
 ·rw [if_pos hq]
  have hlt:n - 1<N.srcs.length:=Nat.lt_of_lt_of_le (Nat.sub_lt hq.1 Nat.zero_lt_one) hq.2
  rw [List.getD_eq_getElem?_getD,List.getElem?_eq_getElem hlt]
  exact W.bound (List.mem_cons_of_mem _ (List.mem_cons_of_mem _ (List.mem_append_left _ (List.getElem_mem hlt))))
 ·rw [if_neg hq];exact Nat.two_pow_pos R
theorem law_begin (hG:G.Ok) (hr:14≤r) (g:Gen N wa wb hh cs ss ly lz) (hN:NetR m (.ref x) N) (h:∀ σ,Φ (.ret (.bool true)) σ) :
  semB ⟨G,r,noΨ⟩ irB ⟨[r0,r1,r2,some (.ref x),r4,r5,r6,r7,r8,r9,r10,r11,r12,r13,r14,r15,r16,r17,r18],m⟩ Φ:=by
 have le:∀ {k:Nat},Nat.ble k 14=true→k≤r:=fun q=>Nat.le_trans (nb q) hr
 have kn:=fun q (hq:q∈N.snks)=>g.known (g.snks_lt q hq)
 have hsr:N.srcs.length<1000:=g.good.6
 have hsn:N.snks.length<1000:=Nat.lt_trans g.snl (nb rfl)
 have b1:=ar120 (show (N.ins.flatMap (·.2)).length+(N.states.map (·.out)).length=N.srcs.length by unfold NetA.srcs;rw [List.length_append]) hsr
 have b2:=ar120 (show (N.outs.flatMap (·.2)).length+(N.states.flatMap (·.ins)).length=N.snks.length by unfold NetA.snks;rw [List.length_append]) hsn
 have hcl:=Nat.lt_of_le_of_lt g.cl (nb rfl:12<100000)
 have hcl9:N.cells.length<900000:=Nat.lt_trans hcl (nb rfl)
 have hst9:N.states.length<900000:=Nat.lt_of_le_of_lt (List.length_filter_le _ _) hcl9
 obtain ⟨o,nm,bi,bo,e,hpl,vi,vo,vc,a,hpi,hpo,hcs⟩:=hN
 cases e
 refine s_asg (a.aC (listOf_go (seqOf_list a.5) fun hl m1 n1 k1 g1=>a_nm (s_asg ?_)))
 have H1:HeldAt m1 o.x hl N:=⟨o,nm,bi,bo,vi,vo,vc,rfl,hpl,a.keep g1,hpi.gr g1,hpo.gr g1,hcs.keep g1.tups,k1⟩
 refine law_patterns hG (le rfl) H1.net g.wnet.4 g.wnet.6 hcl fun m2 t pd es kt kpd hes g2=>t_tup2 kt (s_asg ?_)
 have H2:=H1.gr g2
 generalize 2^N.keysL.length=R at hes
 refine law_words hG (le rfl) H2.net g.wnet kpd hes fun m3 wl L n3 kw W g3=>a_nm (s_asg (from_netlist hG (le rfl) (H2.gr g3).net g.good (Bad:=fun zz=>False) (fun i c h1 h2 net hn=>.inl (g.drv i c h1 h2 net hn)) (fun q hq=>driven_of (kn q hq)) (fun net hb=>hb.elim) fun m4 oa A ha B g4 zz zz zz=>a_nm (s_asg ?_)))
 have knL:∀ s∈N.srcs,Kn R L s:=fun s hs=>known (k:=N.combs.length) W.1 W.2 (List.mem_cons_of_mem _ (List.mem_cons_of_mem _ (List.mem_append_left _ hs)))
 have g04:=((g1.trans g2).trans g3).trans g4
 have H4:=(H2.gr g3).gr g4
 refine e_comp2 quiet_no ((a.keep g04).aI (flat_ports (hpi.gr g04) (g04 a.3) b1.1 fun l5 m5 n5 k5 g5=>e_comp quiet_no (law_states hG (le rfl) (H4.gr g5).net hcl9 fun m6 ls vs6 n6 k6 hvs g6=>st_outs k6 hvs hst9 fun l7 m7 n7 k7 g7=>bAddL (g7 (g6 k5)) k7 (by rw [natL_len,natL_len];exact b1.2.2) fun s10 m8 n8 k8 g8=>a_nm (s_asg ?_))))
 have k8:m8 s10=some (.list (natL N.srcs)):=by unfold NetA.srcs;rw [natL_app];exact k8
 have g48:=((g5.trans g6).trans g7).trans g8
 have g08:=g04.trans g48
 have H8:=H4.gr g48
 refine e_comp2 quiet_no ((a.keep g08).aO (flat_ports (hpo.gr g08) (g08 a.4) b2.1 fun l9 m9 n9 k9 g9=>e_comp2 quiet_no (law_states hG (le rfl) (H8.gr g9).net hcl9 fun m10 ls2 vs10 n10 k10 hvs2 g10=>st_ins k10 hvs2 b2.2.1 fun l11 m11 n11 k11 g11=>bAddL (g11 (g10 k9)) k11 (by rw [natL_len,natL_len];exact b2.2.2) fun s11 m12 n12 k12 g12=>a_nm (s_if ?_))))
 have k12:m12 s11=some (.list (natL N.snks)):=by unfold NetA.snks;rw [natL_app];exact k12
 have g8c:=((g9.trans g10).trans g11).trans g12
 have Hc:=H8.gr g8c
 have hac:=(ha.keep g48).keep g8c
 have kwc:=g8c (g48 (g4 kw))
 have kpc:=g8c (g48 (g4 (g3 kpd)))
 have ksc:=g8c k8
 have hA:=hac
 obtain ⟨vn,et,ok,M⟩:=hA
 have hvn:=M.10.1
 refine M.aI (len_l (N:=N.srcs.length) M.4 (by rw [natL_len,B.2,List.length_range']) (len_l ksc (natL_len _) (ne_i ?_)))
 rw [decide_eq_true rfl]
 refine if_f (s_nil (s_asg (w_list (nb rfl) fun l0 m13 n13 k13 g13=>(M.keep g13).aN (len_l (g13 M.3) hvn (bRep k13 (b6'' B.6) fun vl m14 n14 k14 g14=>a_nm (s_for (len_l (g14 (g13 ksc)) (natL_len _) (w_range (b30 hsr) fun ra m15 n15 k15 g15=>?_))))))))
 have k14:m14 vl=some (.list (natL (List.replicate A.nodes.length 0))):=by unfold natL;rw [List.map_replicate];exact k14
 have nvl:=g13.old n14
 have gc15:=(g13.trans g14).trans g15
 refine src_loop (hac.keep gc15) B (gc15 kwc) (gc15 ksc) (g15 k14) k15 hsr knL (hac.new nvl) (fresh_ne nvl ksc).symm fun m16 q13 vs1 x1 k16 u16=>?_
 have gc16:=gc15.set nvl u16
 refine s_for ((M.keep gc16).aN (len_l (gc16 M.3) hvn (w_range (Nat.lt_trans B.6 (nb rfl)) fun rb m17 n17 k17 g17=>?_)))
 have gc17:=gc16.trans g17
 exact node_loop B.6 (hac.keep gc17) (g17 k16) (x1.v2 W) k17 (hac.new nvl) fun m18 q14 q15 q16 vs x2 k18 u18=>law_end hG (le rfl) g (Hc.gr (gc17.set nvl u18)) (hac.keep (gc17.set nvl u18)) B (gc17.set nvl u18 kwc) (gc17.set nvl u18 k12) k18 (gc17.set nvl u18 kpc) hes W x2 (x2.evals B fun n=>rfl) h
end
theorem sum_intV:∀ l:List Int,sumI (intV l)=some l.sum
 | []=>rfl
 | a::l=>by
  show (sumI (intV l)).map (a+·)=_
  rw [sum_intV l,List.sum_cons];rfl
theorem w_sumI {m:Mem}{ρ:List (Option V)}{a:Addr}{l:List Int}{Φ:V→St→Prop} (h:m a=some (.list (intV l))) (q:Φ (.int l.sum) ⟨ρ,m⟩):biW .sum [.ref a] ⟨ρ,m⟩ Φ:=by
 exact .i ⟨_,rfl,a,_,_,rfl,h,sum_intV l,q⟩
noncomputable def lawF (sa hc h x:Addr):List (Option V):=[some (.ref sa),some (.ref hc),some (.ref h),some (.ref x),none,none,none,none,none,none,none,none,none,none,none,none,none,none,none]
inductive Begun (sa hc:Addr) (σ:St):Prop
 | mk (h:Addr) (o:NetO) (N:NetA) (wa wb hh:Nat) (cs ss:List Cell) (ly lz:List Nat) (bi bo:List Addr) (e:σ.ρ=lawF sa hc h o.x) (g:Gen N wa wb hh cs ss ly lz) (y:NetAt σ.m o (.str (ofString "m")) N bi bo) (H:HandOk σ.m h hc) (hx:h≠o.x) (ha:h∉o.all)
section
variable {G:GC}{r:Nat}{m:Mem}{sa h hc:Addr}{o:NetO}{bi bo:List Addr}{N:NetA}{wa wb hh:Nat}{cs ss:List Cell}{ly lz:List Nat}{Φ:Fl→St→Prop}
theorem law_start (hG:G.Ok) (hr:8≤r) {l:List Int} (k1:m hc=some (.list (intV l))) (hl:l.length≤63) (k:∀ σ,Begun sa hc σ→Φ .next σ) :
  semB ⟨G,r,noΨ⟩ (tln 1 irA) ⟨[some (.ref sa),some (.ref hc),none,none,none,none,none,none,none,none,none,none,none,none,none,none,none,none,none],m⟩ Φ:=by
 refine s_asg (w_sumI k1 (bModI (by decide) (bMul (.inr (nb rfl)) rfl (w_list (nb rfl) fun h m1 n1 k2 g1=>a_nm (s_asg (w_list (nb rfl) fun ka m2 n2 k3 g2=>?_))))))
 have H1:HandOk m1 h hc:=⟨l,0,0,_,0,k2,g1 k1,Nat.zero_le _,Nat.lt_of_le_of_lt hl (nb rfl)⟩
 refine law_netlist hG (Nat.le_of_lt hr) (H1.gr g2) k3 (H1.nh n2) fun m' o N wa wb hh cs ss ly lz bi bo g y H s hx hall=>?_
 exact k _ ⟨h,o,N,wa,wb,hh,cs,ss,ly,lz,bi,bo,rfl,g,y,H,(fresh_ne hx (g2 k2)).symm,fun z=>noS (hall _ z) (g2 k2)⟩
theorem law_test {Φ:Bool→St→Prop} (hG:G.Ok) (hr:1≤r) (H:HandOk m h hc) (y:NetAt m o (.str (ofString "m")) N bi bo) (hx:h≠o.x) (ha:h∉o.all)
  (k:∀ m' b,NetAt m' o (.str (ofString "m")) N bi bo→Φ b ⟨lawF sa hc h o.x,m'⟩):(sem ⟨G,r,noΨ⟩ irT).tru ⟨lawF sa hc h o.x,m⟩ Φ :=
 law_pick hG hr (lim:=8) H (by decide) fun m' n hn H' u=>eq_i (k m' _ (y.upH H hx ha u))
theorem law_un (hG:G.Ok) (hr:3≤r) (g:Gen N wa wb hh cs ss ly lz) (y:NetAt m o (.str (ofString "m")) N bi bo)
  (k:∀ m' bo',NetAt m' o (.str (ofString "m")) N.un bi bo'→Φ .next ⟨lawF sa hc h o.x,m'⟩):semS ⟨G,r,noΨ⟩ irU ⟨lawF sa hc h o.x,m⟩ Φ:=by
 refine e_meth y.x y.d m_add_output (e_meth y.x y.d m_add_cell (e_meth y.x y.d m_new_net (new_net_at hG (Nat.le_trans (nb rfl) hr) y fun m1 y1 u1=>w_tup (nb rfl) fun tp m2 n2 k2 g2=>?_)))
 refine add_cell3 (N:={ N with count:=N.count+1 }) hG (Nat.le_of_lt hr) (Nat.lt_of_le_of_lt g.cl (nb rfl)) (y1.gr g2) (xs:=natL [N.count,1]) (seqOf_tup k2) fun m3 t b h1 h2 h3 s3=>w_list (nb rfl) fun ll m4 n4 k4 g4=>?_
 have y3:=h3 ⟨.and,N.count+1,[N.count,1],.none⟩ ⟨t,b,.none,rfl,h1,h2,rfl⟩
 refine add_output hG (Nat.le_trans (nb rfl) hr) (by show N.outs.length<900000;rw [g.8];exact nb rfl) (y3.gr g4) (l:=[N.count+1]) (seqOf_list k4) fun m5 b5 hb5 y5 u5=>⟨rfl,k m5 _ y5⟩
end
end
section
open PySem PySem.W PyProof.Rows PySem.Calls Builtin Builtin.ObjectAttr
open Str (ofString)
noncomputable def scriptS:Str:=ofString "script"
noncomputable def cellsS:Str:=ofString "cells"
section
variable {c:FC}{σ:St}{s:Shared}
theorem first_st {sa:Addr}{oS:Obj}{items:Array Value}{n:Nat}{l:List Int}{k:Nat}{p1 p2 p3 p4 p5 p6:Pos}{Q:Flow→Shared→Prop} (O:c.Ok) (R:Rel c σ s) (ho:s.heap.get? sa=some oS) (hcls:oS.cls=.type "list") (hd:oS.data=.seq items n)
  (hi:items.toList.map vof=intV l) (hz:items.size≤sizeLine) (h0:c.names[0]?=some scriptS) (hk0:c.env.kindOf scriptS=some .local) (hl:look σ.ρ 0=some (.ref sa)) (hs1:slotS c cellsS 1=true)
  (hQ:∀ s' hc,σ.m hc=none→Rel c ⟨put σ.ρ 1 (.ref hc),upd σ.m hc (.list (intV (l.take 63)))⟩ s'→Q .next s') :
  wpAny (MW c.X.G.w) c.A (exec (.Assign [.Name cellsS p1] (.Subscript (.Name scriptS p2) (.Slice none (some (.Constant (.int 63) k p3)) none p4) p5) p6) c.env) Q c.E s:=by
 refine wpAny_Assign_stores ?_ rfl rfl
 refine PyProof.Rows.Subscript_ (name_here R O h0 hk0 (by decide +kernel) hl fun u hu=>?_)
 have:=vof_ref hu;subst this
 refine wpAny_Slice (wpAny_pure (wpAny_Constant_int (k:=k) (pos:=p3) (wpAny_pure ?_)))
 have hsl:∀ tk,(s.heap.push { cls:=.type "slice",data:=.fields #[.none,.int 63 tk,.none] }).IsSliceOf s.heap.objs.size .none (.int 63 tk) .none:=fun tk=>⟨_,Heap.get?_push_size _ rfl,rfl,rfl⟩
 have hL:∀ o,(s.heap.push o).get? sa=some oS:=fun o=>Heap.get?_push_of_some _ ho
 have hy:sliceL (intV l) none (some 63) (intV (l.take 63)):=.upto 63 rfl rfl (by unfold intV;rw [List.map_take])
 obtain ⟨e2,hz2⟩:=sliceL_ok hi hy
 have R4:=fun tk=>R.push { cls:=.type "slice",data:=.fields #[.none,.int 63 tk,.none] } (s.toks+1)
 refine PyProof.Rows.tail_any (T:="list") ⟨oS,hL _,hcls⟩ slot_list_getitem.lookup (wpAny_getItem_list_slice ⟨oS,hL _,hcls,_,hd⟩ (hsl _) .none (.int _ _) .none (by simp) ?_ hz) rfl
 have R5:=(R4 s.toks).alloc O (o:={ cls:=.type "list",data:=.seq (slicePick items none (some 63) none) }) (mo:=.list (intV (l.take 63))) rfl (ORel.list_ e2 (Nat.le_trans hz2 hz)) (s.toks+1)
 have hn:σ.m (s.heap.push { cls:=.type "slice",data:=.fields #[.none,.int 63 s.toks,.none] }).objs.size=none:=(R4 s.toks).newAt
 show wpAny _ _ (assign (.Name cellsS p1) c.env _) _ _ _
 refine wpAny_assign_Name (store_ok R5 O hs1 fun s' R'=>?_)
 exact hQ s' _ hn R'
end
noncomputable def lps:List Str:=[scriptS]
noncomputable def lrest:List Str:=((fSco (stAt 32)).names.filter fun p=>(p.2==.local||p.2==.cell)&&!lps.contains p.1).map (·.1)
noncomputable def lcx:CX:=⟨fSco (stAt 32),lps++lrest,true⟩
noncomputable def lb:List Stmt:=fBod (stAt 32)
noncomputable def ls0:Stmt:=(lb[0]?).getD (.Pass default)
noncomputable def lsA:List Stmt:=(lb.drop 1).take 2
noncomputable def lsI:Stmt:=(lb[3]?).getD (.Pass default)
noncomputable def lsB:List Stmt:=lb.drop 4
noncomputable def lsU:Stmt:=((ifB lsI)[0]?).getD (.Pass default)
noncomputable def lsT:Stmt:=((ifB lsI)[1]?).getD (.Pass default)
theorem lb_eq:lb=ls0::(lsA++lsI::lsB):=by kernel_rfl
theorem lsI_eq:lsI=.If (ifT lsI) [lsU,lsT] [] (ifP lsI):=by kernel_rfl
theorem lsA_ir:irB' lcx lsA=some (tln 1 irA):=by kernel_rfl
theorem lsB_ir:irB' lcx lsB=some irB:=by kernel_rfl
theorem lsT_ir:(compE 40 lcx (ifT lsI)).map (·.1)=some irT:=by kernel_rfl
theorem lsU_ir:irS lcx lsU=some irU:=by kernel_rfl
theorem ls0_sh:∃ p1 p2 k p3 p4 p5 p6,ls0=.Assign [.Name cellsS p1] (.Subscript (.Name scriptS p2) (.Slice none (some (.Constant (.int 63) k p3)) none p4) p5) p6:=⟨_,_,_,_,_,_,_,rfl⟩
theorem lsT_sh:∃ t1 t2 t3 t4 kb t5 t6 np q1 q2 kt q3 q4 q5 hp t7,lsT=.Try [.Expr (.Call (.Name fromS t1) [.Name netS t2] [] t3) t4,.Return (some (.Constant (.bool false) kb t5)) t6] [.ExceptHandler (some (.Name synS np)) (some errS) [.Return (some (.Compare (.Attribute (.Name errS q1) kindS q2) [.Eq] [.Constant (.str undS) kt q3] q4)) q5] hp] [] [] t7:=⟨_,_,_,_,_,_,_,_,_,_,_,_,_,_,_,_,rfl⟩
theorem lnames:lps++lrest=[scriptS,cellsS,ofString "hand",netS,errS,ofString "held",ofString "patterns",ofString "full",ofString "words",ofString "aig",ofString "sources",ofString "sinks",ofString "values",ofString "turn",ofString "node",ofString "pair",ofString "sides",ofString "told",ofString "made"]:=by kernel_rfl
theorem lkinds:(fSco (stAt 32)).names.lookup scriptS=some .local∧(fSco (stAt 32)).names.lookup netS=some .local∧(fSco (stAt 32)).names.lookup errS=some .local∧(fSco (stAt 32)).names.lookup synS=some .globalImplicit∧(fSco (stAt 32)).names.lookup fromS=some .globalImplicit:=⟨by kernel_rfl,by kernel_rfl,by kernel_rfl,by kernel_rfl,by kernel_rfl⟩
theorem lslot:slotSX lcx cellsS 1=true:=by kernel_rfl
inductive Tested (sa hc h:Addr) (o:NetO) (N:NetA) (bi bo:List Addr) (b:Bool) (σ:St):Prop
 | mk (m2:Mem) (e:σ=⟨lawF sa hc h o.x,m2⟩) (y:NetAt m2 o (.str (ofString "m")) N bi bo)
inductive Driven (sa hc h:Addr) (o:NetO) (N:NetA) (bi:List Addr) (fl:Fl) (σ:St):Prop
 | mk (m3:Mem) (bo':List Addr) (q:fl=.next) (e:σ=⟨lawF sa hc h o.x,m3⟩) (y:NetAt m3 o (.str (ofString "m")) N.un bi bo')
section
variable {c:FC}{σ:St}{s:Shared}{Q:Flow→Shared→Prop}
set_option tactic.hygienic true in
theorem execs_app {K:St→Prop}{ys:List Stmt} (O:c.Ok) (F:Fits c lcx) (hK:∀ σ1 s1,Rel c σ1 s1→K σ1→wpAny (MW c.X.G.w) c.A (execs ys c.env) Q c.E s1):∀ {xs:List Stmt}{ir:Sxs}{σ:St}{s:Shared},irB' lcx xs=some ir→Rel c σ s→semB c.X ir σ (fun fl σ1=>fl=.next∧K σ1) →
  wpAny (MW c.X.G.w) c.A (execs (xs++ys) c.env) Q c.E s
 | [],ir,σ,s,h,R,q=>by
  cases h
  exact hK σ s R q.2
 | st::xs,ir,σ,s,h,R,q=>by
  unfold irB' smap at h
  split at h
  ·rename_i a r h1 h2
   cases h
   refine wpAny_execs_cons (wpAny_mono (a.2 c O F σ s _ R q) (fun f s1 ⟨σ1,R1,q1⟩=>?_) fun zz zz e=>e)
   cases f with
   | next=>exact execs_app O F hK (by unfold irB';rw [h2];rfl) R1 q1
   | brk=>cases q1.1
   | cont=>cases q1.1
   | ret v=>cases q1.1
  ·cases h
theorem law_frame {w:World}{h0:Heap}{d:Drawn}{os:OsState}{r:Nat}{sa:Addr}{oS:Obj}{items:Array Value}{n:Nat}{l:List Int} (O:c.Ok) (hX:c.X=⟨gcOf w h0 d os,r,noΨ⟩) (hr:16≤r) (F:Fits c lcx) (hfr:c.A.frames=some [c.env]) (hf:c.env.frame=some c.env.locals)
  (R:Rel c ⟨ini [.ref sa] 18,fun zz=>none⟩ s) (ho:s.heap.get? sa=some oS) (hcls:oS.cls=.type "list") (hd:oS.data=.seq items n) (hi:items.toList.map vof=intV l) (hz:items.size≤sizeLine) :
  wpAny (MW c.X.G.w) c.A (execs lb c.env) (fun fl s''=>(match fl with|.ret v=>v|_=>.none)=.bool true∧∃ σ',Rel c σ' s'') c.E s:=by
 have hG:c.X.G=gcOf w h0 d os:=by rw [hX]
 have hrr:c.X.r=r:=by rw [hX]
 have hnm:c.names=lps++lrest:=F.names
 have kd:∀ x,c.env.kindOf x=(fSco (stAt 32)).names.lookup x:=fun x=>by rw [F.kd];rfl
 obtain ⟨k1,k2,k3,k4,k5⟩:=lkinds
 rw [lb_eq]
 obtain ⟨p1,p2,kk0,p3,p4,p5,p6,e0⟩:=ls0_sh
 rw [e0]
 refine wpAny_execs_cons (first_st O R ho hcls hd hi hz (by rw [hnm,lnames];rfl) (by rw [kd];exact k1) rfl (slotS_of F lslot) fun s1 hc hhc R1=>?_)
 refine execs_app O F (K:=Begun sa hc) ?_ lsA_ir R1 ?_
 rotate_left
 ·rw [hX]
  exact law_start (r:=r) (by rw [←hG];exact O.G) (lo hr rfl) (upd_same _ _ _) (List.length_take_le _ _) fun σ b=>⟨rfl,b⟩
 ·rintro ⟨ρ,m1⟩ s1 R1 ⟨h,o,N,wa,wb,hh,cs,ss,ly,lz,bi,bo,hρ,g,y,H,hx,ha⟩
  dsimp only at y H hρ
  subst hρ
  rw [lsI_eq]
  refine wpAny_execs_cons (wpAny_If (wpAny_mono (((compE_ok lsT_ir).ev c O F).2 _ s1 (Tested sa hc h o N bi bo) R1 ?_) (fun b s2 ⟨σ2,R2,m2,e,y2⟩=>?_) fun zz zz e=>e))
  ·rw [hX]
   exact law_test (by rw [←hG];exact O.G) (Nat.le_trans (nb rfl) hr) H y hx ha fun m' b y'=>⟨m',rfl,y'⟩
  ·subst e
   cases b with
   | false =>
    refine wpAny_execs_nil (wpAny_mono (irB_ok lsB_ir c O F _ s2 (fun fl zz=>fl=.ret (.bool true)) R2 ?_) (fun f s3 ⟨σ3,R3,q⟩=>?_) fun zz zz e=>e)
    ·rw [hX]
     exact law_begin (r:=r) (by rw [←hG];exact O.G) (lo hr rfl) g ⟨o,_,bi,bo,rfl,rfl,y2⟩ fun σ=>rfl
    ·cases f with
     | ret v=>exact ⟨vof_bool (Fl.ret.inj q),σ3,R3⟩
     | _=>cases q
   | true =>
    refine wpAny_execs_cons (wpAny_mono (irS_ok lsU_ir c O F _ s2 (Driven sa hc h o N bi) R2 ?_) (fun f s3 ⟨σ3,R3,q⟩=>?_) fun zz zz e=>e)
    ·rw [hX]
     exact law_un (r:=r) (by rw [←hG];exact O.G) (lo hr rfl) g y2 fun m3 bo' y3=>⟨m3,bo',rfl,rfl,y3⟩
    ·obtain ⟨m3,bo',q,e3,y3⟩:=q
     subst e3
     cases f with
     | next =>
      obtain ⟨t1,t2,t3,t4,kb,t5,t6,np,q1,q2,kt,q3,q4,q5,hp,t7,e4⟩:=lsT_sh
      rw [e4]
      refine wpAny_execs_cons (try_st O R3 hG (hrr▸Nat.le_trans (nb rfl) hr) F.fn hfr hf (by rw [kd];exact k4) (by rw [kd];exact k3) (by rw [kd];exact k5) (by rw [kd];exact k2) (by rw [hnm,lnames];rfl) rfl g ⟨o,_,bi,bo',rfl,rfl,y3⟩ fun s' R'=>⟨rfl,_,R'⟩)
     | _=>cases q
end
end
section
open PySem PySem.W PyProof.Rows PySem.Calls
open Str (ofString)
noncomputable def lawFd (pm cd doc:Value):FuncData:={ docDef lawD.name lawD.params lawD.body lawD.scope pm cd doc with defaults:=.none,kwdefaults:=.none }
theorem law_bind (P:Params) (pm cd doc v:Value) (S:Setting):peek (KF P) S (bindArgs (lawFd pm cd doc) ⟨[v],[]⟩)=some [(scriptS,v)]:=by kernel_rfl
theorem law_nodef:lawD.params.defaults=[]:=by kernel_rfl
theorem law_fdok (pm cd doc:Value):fdOk (lawFd pm cd doc) lps=true:=by kernel_rfl
theorem ints_of {R:WRecords}:∀ {xs:List WData},WShape.hasItems R xs .int=true→∃ l:List Int,xs=l.map .int
 | [],_=>⟨[],rfl⟩
 | x::xs,h=>by
  simp only [WShape.hasItems,Bool.and_eq_true] at h
  obtain ⟨i,rfl⟩:=hasW_int h.1
  obtain ⟨l,rfl⟩:=ints_of h.2
  exact ⟨i::l,rfl⟩
theorem reads_ints {R:WRecords}{cl:Str→Option Addr}{h:Heap}:∀ {l:List Int}{vs:List Value}{as:List Addr},ReadsAllW R cl h vs (l.map .int) as→vs.map vof=intV l
 | [],vs,as,r=>by cases r;rfl
 | i::l,vs,as,r=>by
  rw [List.map_cons] at r
  cases r with
  | cons a b =>
   cases a
   rw [List.map_cons,reads_ints b];rfl
theorem law_room:Room callerA 21:=by
 unfold Room
 constructor <;> decide +kernel
theorem law_pre {l:List Int} (h:(OpenLaw.row PySem.Challenge.rw_nn0323_01).pre.holds [] { args:=[.list (l.map .int)] }=true):l.length≤63:=by
 have e:(OpenLaw.row PySem.Challenge.rw_nn0323_01).pre=.and (.not (.lt (.lit (.int 63)) (.len (.arg 0)))) (.lit (.bool true)):=rfl
 rw [e] at h
 by_cases q:l.length≤63
 ·exact q
 ·exfalso
  simp [WTm.holds,WTm.value] at h
  have e2:less? (WData.int 63) (WData.int (l.length:Nat))=some (decide ((63:Int)<(l.length:Nat))):=rfl
  rw [e2,decide_eq_true (by lia)] at h
  simp at h
theorem law_post (args:List WData):(OpenRow.toRowW (OpenLaw.row PySem.Challenge.rw_nn0323_01)).claim.post args (.bool true) args=true:=by
 have e:(OpenRow.toRowW (OpenLaw.row PySem.Challenge.rw_nn0323_01)).claim.post args (.bool true) args=(WShape.has [] (.bool true) .bool&&(WTm.eq .res (.lit (.bool true))).holds [] { args:=args,res:=some (.bool true),after:=args }):=rfl
 rw [e]
 have h1:WShape.has [] (.bool true) .bool=true:=by simp [WShape.has,WShape.arms]
 rw [h1]
 simp only [WTm.holds,WTm.value,Bool.true_and]
 have e2:same (WData.bool true) (WData.bool true)=true:=by decide +kernel
 rw [e2]
theorem walk:Walk:=by
 intro w s₀ s₁ mg mb Gd Y a o pm cd doc dV kV ho hod hcd hdf hmg hgens args vals as hpre hlay hrd hwell hsys
 obtain ⟨h1,h2⟩:=pre_splitW hpre
 have e1:(OpenRow.toRowW (OpenLaw.row PySem.Challenge.rw_nn0323_01)).args=[.list .int]:=rfl
 rw [e1] at h1
 obtain ⟨d,r,rfl,hd,hr⟩:=hasAllW_cons h1
 obtain rfl:=hasAllW_nil hr
 obtain ⟨xs,rfl,hx⟩:=hasW_list hd
 obtain ⟨l,rfl⟩:=ints_of hx
 have hlen:=law_pre h2
 cases hrd with
 | cons hv hnil =>
  cases hnil
  cases hv with
  | @list sa oS items n _ as' ho1 hc1 hd1 hall =>
   have hi:=reads_ints hall
   have hdV:dV=.none:=by
    rcases hdf.pos with q|q
    ·exact q.2
    ·exact absurd law_nodef q.1
   have hkV:kV=.none:=by
    rcases hdf.kw with q|q
    ·exact q.2
    ·exact absurd rfl q.1
   subst hdV hkV
   have KX:Frag.In (KF w.params) s₁.heap:=kIn_of Y
   have hG:(gcOf w s₁.heap s₁.drawn s₁.os).Ok:={ leave:=leave_fly w _ _,K:=KX,nolim:=Gd.T.nolimit,glob:=⟨mg,Gd.T.g⟩,blt:=⟨mb,Gd.T.b,Gd.T.builtins⟩ }
   have S:RelS (gcOf w s₁.heap s₁.drawn s₁.os) s₁.heap.get? (fun zz=>none) s₁:=⟨hgens,rfl,rfl,⟨(fun a mo e=>by cases e),fun a o e=>e,fun zz zz zz=>rfl⟩,(fun a mo e=>by cases e)⟩
   have hz:items.size≤sizeLine:=by
    have q:=congrArg List.length hi
    rw [List.length_map,intV_len,Array.length_toList] at q
    rw [sizeLine_eq];exact e5 q hlen rfl
   show wpAny (model PW w) callerA (PySem.call (.ref a) [.ref sa]) _ _ s₁
   refine wpAny_call (codeAny_mono (enter_gen (Ψ:=noΨ) (r:=20) (m:=fun zz=>none) (rest:=lrest) (ps:=lps) (body:=lb) (Q:=fun v s'=>v=.bool true∧∃ m',RelS (gcOf w s₁.heap s₁.drawn s₁.os) s₁.heap.get? m' s') (QE:=fun zz zz=>False) (full:=[.ref sa]) hG S (fun a o e=>e) law_room rfl ⟨[],rfl,by simp⟩ ho hod hcd (law_fdok pm cd doc) rfl (kp_binds KX (law_bind _ pm cd doc _)) rfl rfl (fun zz zz zz zz z=>z.elim) ?_) fun r s' q=>?_)
   ·intro c O hX hA hk hsc hnm hfn hfr hown hE s' R' g'
    have hfr':c.A.frames=some [c.env]:=by rw [hA];rfl
    have:=law_frame O hX (by exact Nat.le_add_left _ _) ⟨hsc,hnm,hfn⟩ hfr' hfr R' (g' _ _ ho1) hc1 hd1 hi hz
    have hGw:c.X.G.w=w:=by rw [hX];rfl
    rw [hGw] at this
    refine wpAny_mono this (fun fl s'' ⟨q1,σ',R''⟩=>⟨q1,σ'.m,?_⟩) fun zz zz e=>e
    have S':=R''.S
    rw [hX,hk] at S'
    exact S'
   ·rcases r with e|f
    ·exact q.elim
    ·cases f with
     | ret v =>
      obtain ⟨rfl,m',S'⟩:=q
      exact ⟨.inl ⟨.bool true,.bool true,[],rfl,fun zz=>rfl,.bool true,law_post _,fun zz=>⟨List.nodup_nil,by simp⟩⟩,OldK.of_keep S'.mem.keep,S'.os,by rw [S'.gens];intro y hy;simp at hy⟩
     | _=>exact q.elim
theorem done:PySem.Challenge.rw_nn0323_01.Holds:=head walk
end
end Mine
theorem PySem.Challenge.cw_nn0323_01_holds : PySem.Challenge.rw_nn0323_01.Holds :=
  Mine.head Mine.walk
