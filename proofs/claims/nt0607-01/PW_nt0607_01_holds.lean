import PyProof.Rows.All
import Wide.All
import OpenK.AllK
import Wide.FinOn
import PySem.Challenge.RW_nt0607_01
open PySem PySem.W PyProof.Rows PySem.Calls
set_option Elab.async false
set_option maxRecDepth 100000
set_option maxHeartbeats 8000000
namespace Mine
-- the head by hand: the kit's open_top would lay 84 MB of twins into the compiled file; the top's run is cut in three
def nthS (l : List Stmt) (i : Nat) : Stmt := match l[i]? with | some s => s | none => .Pass default
def fnAt (i : Nat) : Stmt := nthS PySem.Challenge.pw_nt0607_01.main.body i
def bodyOfCls : Stmt → List Stmt
  | .ClassDef _ _ _ b _ _ _ _ _ _ _ => b
  | _ => []
def methAt (i j : Nat) : Stmt := nthS (bodyOfCls (fnAt i)) j
noncomputable def fnK {st : Stmt} {n : PySem.Str} {ps : Arguments} {b : List Stmt} {ds : List PySem.Expr} {r : Option PySem.Expr} {tp : List TypeParam} {sc : Scope} {ts : Option Scope} {bd : PySem.Str} {po : Pos}
    (_ : st = Stmt.FunctionDef n ps b ds r tp sc ts bd po) (o : Arguments → List Stmt → Scope → Obj) : Obj := o ps b sc
noncomputable def fo19 : Obj := fnK (st := fnAt 0) rfl fun ps b sc => ⟨Value.none, (Option.none), .func ⟨(Str.ofString "_wall"), (Str.ofString "_wall"), ps, .stmts b, sc, 0, (List.nil), Value.none, Value.none, Value.none, Value.none, (Option.none), Value.none, Value.none, 0⟩, (List.toArray (List.nil))⟩
noncomputable def fo21 : Obj := fnK (st := fnAt 0) rfl fun ps b sc => ⟨(Value.type "function"), (Option.none), .func ⟨(Str.ofString "_wall"), (Str.ofString "_wall"), ps, .stmts b, sc, 3, (List.nil), Value.none, Value.none, Value.none, (Value.str (Str.ofString "__main__") 164), (Option.none), (Value.ref 20), Value.none, 0⟩, (List.toArray (List.nil))⟩
noncomputable def fo26 : Obj := fnK (st := fnAt 2) rfl fun ps b sc => ⟨Value.none, (Option.none), .func ⟨(Str.ofString "mode_of"), (Str.ofString "mode_of"), ps, .stmts b, sc, 0, (List.nil), Value.none, Value.none, Value.none, Value.none, (Option.none), Value.none, Value.none, 0⟩, (List.toArray (List.nil))⟩
noncomputable def fo28 : Obj := fnK (st := fnAt 2) rfl fun ps b sc => ⟨(Value.type "function"), (Option.none), .func ⟨(Str.ofString "mode_of"), (Str.ofString "mode_of"), ps, .stmts b, sc, 3, (List.nil), Value.none, Value.none, Value.none, (Value.str (Str.ofString "htmltree.reset") 194), (Option.none), (Value.ref 27), Value.none, 0⟩, (List.toArray (List.nil))⟩
noncomputable def fo33 : Obj := fnK (st := fnAt 3) rfl fun ps b sc => ⟨Value.none, (Option.none), .func ⟨(Str.ofString "select_mode"), (Str.ofString "select_mode"), ps, .stmts b, sc, 0, (List.nil), Value.none, Value.none, Value.none, Value.none, (Option.none), Value.none, Value.none, 0⟩, (List.toArray (List.nil))⟩
noncomputable def fo35 : Obj := fnK (st := fnAt 3) rfl fun ps b sc => ⟨(Value.type "function"), (Option.none), .func ⟨(Str.ofString "select_mode"), (Str.ofString "select_mode"), ps, .stmts b, sc, 3, (List.nil), Value.none, Value.none, Value.none, (Value.str (Str.ofString "htmltree.reset") 194), (Option.none), (Value.ref 34), Value.none, 0⟩, (List.toArray (List.nil))⟩
noncomputable def fo40 : Obj := fnK (st := fnAt 4) rfl fun ps b sc => ⟨Value.none, (Option.none), .func ⟨(Str.ofString "mode_for"), (Str.ofString "mode_for"), ps, .stmts b, sc, 0, (List.nil), Value.none, Value.none, Value.none, Value.none, (Option.none), Value.none, Value.none, 0⟩, (List.toArray (List.nil))⟩
noncomputable def fo42 : Obj := fnK (st := fnAt 4) rfl fun ps b sc => ⟨(Value.type "function"), (Option.none), .func ⟨(Str.ofString "mode_for"), (Str.ofString "mode_for"), ps, .stmts b, sc, 3, (List.nil), Value.none, Value.none, Value.none, (Value.str (Str.ofString "htmltree.reset") 194), (Option.none), (Value.ref 41), Value.none, 0⟩, (List.toArray (List.nil))⟩
noncomputable def fo47 : Obj := fnK (st := fnAt 5) rfl fun ps b sc => ⟨Value.none, (Option.none), .func ⟨(Str.ofString "reset_mode"), (Str.ofString "reset_mode"), ps, .stmts b, sc, 0, (List.nil), Value.none, Value.none, Value.none, Value.none, (Option.none), Value.none, Value.none, 0⟩, (List.toArray (List.nil))⟩
noncomputable def fo49 : Obj := fnK (st := fnAt 5) rfl fun ps b sc => ⟨(Value.type "function"), (Option.none), .func ⟨(Str.ofString "reset_mode"), (Str.ofString "reset_mode"), ps, .stmts b, sc, 3, (List.nil), Value.none, Value.none, Value.none, (Value.str (Str.ofString "htmltree.reset") 194), (Option.none), (Value.ref 48), Value.none, 0⟩, (List.toArray (List.nil))⟩
noncomputable def fo61 : Obj := fnK (st := methAt 7 0) rfl fun ps b sc => ⟨Value.none, (Option.none), .func ⟨(Str.ofString "__init__"), (Str.ofString "HtmlFault.__init__"), ps, .stmts b, sc, 0, (List.nil), Value.none, Value.none, Value.none, Value.none, (Option.none), Value.none, Value.none, 0⟩, (List.toArray (List.nil))⟩
noncomputable def fo63 : Obj := fnK (st := methAt 7 0) rfl fun ps b sc => ⟨(Value.type "function"), (Option.none), .func ⟨(Str.ofString "__init__"), (Str.ofString "HtmlFault.__init__"), ps, .stmts b, sc, 3, (List.nil), Value.none, Value.none, Value.none, (Value.str (Str.ofString "htmltree.faults") 233), (Option.none), (Value.ref 62), Value.none, 0⟩, (List.toArray (List.nil))⟩
noncomputable def fo93 : Obj := fnK (st := methAt 10 0) rfl fun ps b sc => ⟨Value.none, (Option.none), .func ⟨(Str.ofString "__init__"), (Str.ofString "Formatting.__init__"), ps, .stmts b, sc, 0, (List.nil), Value.none, Value.none, Value.none, Value.none, (Option.none), Value.none, Value.none, 0⟩, (List.toArray (List.nil))⟩
noncomputable def fo95 : Obj := fnK (st := methAt 10 0) rfl fun ps b sc => ⟨(Value.type "function"), (Option.none), .func ⟨(Str.ofString "__init__"), (Str.ofString "Formatting.__init__"), ps, .stmts b, sc, 3, (List.nil), Value.none, Value.none, Value.none, (Value.str (Str.ofString "htmltree.formatting") 280), (Option.none), (Value.ref 94), Value.none, 0⟩, (List.toArray (List.nil))⟩
noncomputable def fo100 : Obj := fnK (st := methAt 10 1) rfl fun ps b sc => ⟨Value.none, (Option.none), .func ⟨(Str.ofString "push"), (Str.ofString "Formatting.push"), ps, .stmts b, sc, 0, (List.nil), Value.none, Value.none, Value.none, Value.none, (Option.none), Value.none, Value.none, 0⟩, (List.toArray (List.nil))⟩
noncomputable def fo102 : Obj := fnK (st := methAt 10 1) rfl fun ps b sc => ⟨(Value.type "function"), (Option.none), .func ⟨(Str.ofString "push"), (Str.ofString "Formatting.push"), ps, .stmts b, sc, 3, (List.nil), Value.none, Value.none, Value.none, (Value.str (Str.ofString "htmltree.formatting") 280), (Option.none), (Value.ref 101), Value.none, 0⟩, (List.toArray (List.nil))⟩
noncomputable def fo107 : Obj := fnK (st := methAt 10 2) rfl fun ps b sc => ⟨Value.none, (Option.none), .func ⟨(Str.ofString "mark"), (Str.ofString "Formatting.mark"), ps, .stmts b, sc, 0, (List.nil), Value.none, Value.none, Value.none, Value.none, (Option.none), Value.none, Value.none, 0⟩, (List.toArray (List.nil))⟩
noncomputable def fo109 : Obj := fnK (st := methAt 10 2) rfl fun ps b sc => ⟨(Value.type "function"), (Option.none), .func ⟨(Str.ofString "mark"), (Str.ofString "Formatting.mark"), ps, .stmts b, sc, 3, (List.nil), Value.none, Value.none, Value.none, (Value.str (Str.ofString "htmltree.formatting") 280), (Option.none), (Value.ref 108), Value.none, 0⟩, (List.toArray (List.nil))⟩
noncomputable def fo114 : Obj := fnK (st := methAt 10 3) rfl fun ps b sc => ⟨Value.none, (Option.none), .func ⟨(Str.ofString "clear_to_mark"), (Str.ofString "Formatting.clear_to_mark"), ps, .stmts b, sc, 0, (List.nil), Value.none, Value.none, Value.none, Value.none, (Option.none), Value.none, Value.none, 0⟩, (List.toArray (List.nil))⟩
noncomputable def fo116 : Obj := fnK (st := methAt 10 3) rfl fun ps b sc => ⟨(Value.type "function"), (Option.none), .func ⟨(Str.ofString "clear_to_mark"), (Str.ofString "Formatting.clear_to_mark"), ps, .stmts b, sc, 3, (List.nil), Value.none, Value.none, Value.none, (Value.str (Str.ofString "htmltree.formatting") 280), (Option.none), (Value.ref 115), Value.none, 0⟩, (List.toArray (List.nil))⟩
noncomputable def fo121 : Obj := fnK (st := methAt 10 4) rfl fun ps b sc => ⟨Value.none, (Option.none), .func ⟨(Str.ofString "find"), (Str.ofString "Formatting.find"), ps, .stmts b, sc, 0, (List.nil), Value.none, Value.none, Value.none, Value.none, (Option.none), Value.none, Value.none, 0⟩, (List.toArray (List.nil))⟩
noncomputable def fo123 : Obj := fnK (st := methAt 10 4) rfl fun ps b sc => ⟨(Value.type "function"), (Option.none), .func ⟨(Str.ofString "find"), (Str.ofString "Formatting.find"), ps, .stmts b, sc, 3, (List.nil), Value.none, Value.none, Value.none, (Value.str (Str.ofString "htmltree.formatting") 280), (Option.none), (Value.ref 122), Value.none, 0⟩, (List.toArray (List.nil))⟩
noncomputable def fo128 : Obj := fnK (st := methAt 10 5) rfl fun ps b sc => ⟨Value.none, (Option.none), .func ⟨(Str.ofString "has"), (Str.ofString "Formatting.has"), ps, .stmts b, sc, 0, (List.nil), Value.none, Value.none, Value.none, Value.none, (Option.none), Value.none, Value.none, 0⟩, (List.toArray (List.nil))⟩
noncomputable def fo130 : Obj := fnK (st := methAt 10 5) rfl fun ps b sc => ⟨(Value.type "function"), (Option.none), .func ⟨(Str.ofString "has"), (Str.ofString "Formatting.has"), ps, .stmts b, sc, 3, (List.nil), Value.none, Value.none, Value.none, (Value.str (Str.ofString "htmltree.formatting") 280), (Option.none), (Value.ref 129), Value.none, 0⟩, (List.toArray (List.nil))⟩
noncomputable def fo135 : Obj := fnK (st := methAt 10 6) rfl fun ps b sc => ⟨Value.none, (Option.none), .func ⟨(Str.ofString "place"), (Str.ofString "Formatting.place"), ps, .stmts b, sc, 0, (List.nil), Value.none, Value.none, Value.none, Value.none, (Option.none), Value.none, Value.none, 0⟩, (List.toArray (List.nil))⟩
noncomputable def fo137 : Obj := fnK (st := methAt 10 6) rfl fun ps b sc => ⟨(Value.type "function"), (Option.none), .func ⟨(Str.ofString "place"), (Str.ofString "Formatting.place"), ps, .stmts b, sc, 3, (List.nil), Value.none, Value.none, Value.none, (Value.str (Str.ofString "htmltree.formatting") 280), (Option.none), (Value.ref 136), Value.none, 0⟩, (List.toArray (List.nil))⟩
noncomputable def fo142 : Obj := fnK (st := methAt 10 7) rfl fun ps b sc => ⟨Value.none, (Option.none), .func ⟨(Str.ofString "remove"), (Str.ofString "Formatting.remove"), ps, .stmts b, sc, 0, (List.nil), Value.none, Value.none, Value.none, Value.none, (Option.none), Value.none, Value.none, 0⟩, (List.toArray (List.nil))⟩
noncomputable def fo144 : Obj := fnK (st := methAt 10 7) rfl fun ps b sc => ⟨(Value.type "function"), (Option.none), .func ⟨(Str.ofString "remove"), (Str.ofString "Formatting.remove"), ps, .stmts b, sc, 3, (List.nil), Value.none, Value.none, Value.none, (Value.str (Str.ofString "htmltree.formatting") 280), (Option.none), (Value.ref 143), Value.none, 0⟩, (List.toArray (List.nil))⟩
noncomputable def fo149 : Obj := fnK (st := methAt 10 8) rfl fun ps b sc => ⟨Value.none, (Option.none), .func ⟨(Str.ofString "replace"), (Str.ofString "Formatting.replace"), ps, .stmts b, sc, 0, (List.nil), Value.none, Value.none, Value.none, Value.none, (Option.none), Value.none, Value.none, 0⟩, (List.toArray (List.nil))⟩
noncomputable def fo151 : Obj := fnK (st := methAt 10 8) rfl fun ps b sc => ⟨(Value.type "function"), (Option.none), .func ⟨(Str.ofString "replace"), (Str.ofString "Formatting.replace"), ps, .stmts b, sc, 3, (List.nil), Value.none, Value.none, Value.none, (Value.str (Str.ofString "htmltree.formatting") 280), (Option.none), (Value.ref 150), Value.none, 0⟩, (List.toArray (List.nil))⟩
noncomputable def fo156 : Obj := fnK (st := methAt 10 9) rfl fun ps b sc => ⟨Value.none, (Option.none), .func ⟨(Str.ofString "put_at"), (Str.ofString "Formatting.put_at"), ps, .stmts b, sc, 0, (List.nil), Value.none, Value.none, Value.none, Value.none, (Option.none), Value.none, Value.none, 0⟩, (List.toArray (List.nil))⟩
noncomputable def fo158 : Obj := fnK (st := methAt 10 9) rfl fun ps b sc => ⟨(Value.type "function"), (Option.none), .func ⟨(Str.ofString "put_at"), (Str.ofString "Formatting.put_at"), ps, .stmts b, sc, 3, (List.nil), Value.none, Value.none, Value.none, (Value.str (Str.ofString "htmltree.formatting") 280), (Option.none), (Value.ref 157), Value.none, 0⟩, (List.toArray (List.nil))⟩
noncomputable def fo177 : Obj := fnK (st := methAt 12 0) rfl fun ps b sc => ⟨Value.none, (Option.none), .func ⟨(Str.ofString "__init__"), (Str.ofString "OpenStack.__init__"), ps, .stmts b, sc, 0, (List.nil), Value.none, Value.none, Value.none, Value.none, (Option.none), Value.none, Value.none, 0⟩, (List.toArray (List.nil))⟩
noncomputable def fo179 : Obj := fnK (st := methAt 12 0) rfl fun ps b sc => ⟨(Value.type "function"), (Option.none), .func ⟨(Str.ofString "__init__"), (Str.ofString "OpenStack.__init__"), ps, .stmts b, sc, 3, (List.nil), Value.none, Value.none, Value.none, (Value.str (Str.ofString "htmltree.openstack") 384), (Option.none), (Value.ref 178), Value.none, 0⟩, (List.toArray (List.nil))⟩
noncomputable def fo184 : Obj := fnK (st := methAt 12 1) rfl fun ps b sc => ⟨Value.none, (Option.none), .func ⟨(Str.ofString "push"), (Str.ofString "OpenStack.push"), ps, .stmts b, sc, 0, (List.nil), Value.none, Value.none, Value.none, Value.none, (Option.none), Value.none, Value.none, 0⟩, (List.toArray (List.nil))⟩
noncomputable def fo186 : Obj := fnK (st := methAt 12 1) rfl fun ps b sc => ⟨(Value.type "function"), (Option.none), .func ⟨(Str.ofString "push"), (Str.ofString "OpenStack.push"), ps, .stmts b, sc, 3, (List.nil), Value.none, Value.none, Value.none, (Value.str (Str.ofString "htmltree.openstack") 384), (Option.none), (Value.ref 185), Value.none, 0⟩, (List.toArray (List.nil))⟩
noncomputable def fo191 : Obj := fnK (st := methAt 12 2) rfl fun ps b sc => ⟨Value.none, (Option.none), .func ⟨(Str.ofString "pop"), (Str.ofString "OpenStack.pop"), ps, .stmts b, sc, 0, (List.nil), Value.none, Value.none, Value.none, Value.none, (Option.none), Value.none, Value.none, 0⟩, (List.toArray (List.nil))⟩
noncomputable def fo193 : Obj := fnK (st := methAt 12 2) rfl fun ps b sc => ⟨(Value.type "function"), (Option.none), .func ⟨(Str.ofString "pop"), (Str.ofString "OpenStack.pop"), ps, .stmts b, sc, 3, (List.nil), Value.none, Value.none, Value.none, (Value.str (Str.ofString "htmltree.openstack") 384), (Option.none), (Value.ref 192), Value.none, 0⟩, (List.toArray (List.nil))⟩
noncomputable def fo198 : Obj := fnK (st := methAt 12 3) rfl fun ps b sc => ⟨Value.none, (Option.none), .func ⟨(Str.ofString "current"), (Str.ofString "OpenStack.current"), ps, .stmts b, sc, 0, (List.nil), Value.none, Value.none, Value.none, Value.none, (Option.none), Value.none, Value.none, 0⟩, (List.toArray (List.nil))⟩
noncomputable def fo200 : Obj := fnK (st := methAt 12 3) rfl fun ps b sc => ⟨(Value.type "function"), (Option.none), .func ⟨(Str.ofString "current"), (Str.ofString "OpenStack.current"), ps, .stmts b, sc, 3, (List.nil), Value.none, Value.none, Value.none, (Value.str (Str.ofString "htmltree.openstack") 384), (Option.none), (Value.ref 199), Value.none, 0⟩, (List.toArray (List.nil))⟩
noncomputable def fo205 : Obj := fnK (st := methAt 12 4) rfl fun ps b sc => ⟨Value.none, (Option.none), .func ⟨(Str.ofString "many"), (Str.ofString "OpenStack.many"), ps, .stmts b, sc, 0, (List.nil), Value.none, Value.none, Value.none, Value.none, (Option.none), Value.none, Value.none, 0⟩, (List.toArray (List.nil))⟩
noncomputable def fo207 : Obj := fnK (st := methAt 12 4) rfl fun ps b sc => ⟨(Value.type "function"), (Option.none), .func ⟨(Str.ofString "many"), (Str.ofString "OpenStack.many"), ps, .stmts b, sc, 3, (List.nil), Value.none, Value.none, Value.none, (Value.str (Str.ofString "htmltree.openstack") 384), (Option.none), (Value.ref 206), Value.none, 0⟩, (List.toArray (List.nil))⟩
noncomputable def fo212 : Obj := fnK (st := methAt 12 5) rfl fun ps b sc => ⟨Value.none, (Option.none), .func ⟨(Str.ofString "has"), (Str.ofString "OpenStack.has"), ps, .stmts b, sc, 0, (List.nil), Value.none, Value.none, Value.none, Value.none, (Option.none), Value.none, Value.none, 0⟩, (List.toArray (List.nil))⟩
noncomputable def fo214 : Obj := fnK (st := methAt 12 5) rfl fun ps b sc => ⟨(Value.type "function"), (Option.none), .func ⟨(Str.ofString "has"), (Str.ofString "OpenStack.has"), ps, .stmts b, sc, 3, (List.nil), Value.none, Value.none, Value.none, (Value.str (Str.ofString "htmltree.openstack") 384), (Option.none), (Value.ref 213), Value.none, 0⟩, (List.toArray (List.nil))⟩
noncomputable def fo219 : Obj := fnK (st := methAt 12 6) rfl fun ps b sc => ⟨Value.none, (Option.none), .func ⟨(Str.ofString "remove"), (Str.ofString "OpenStack.remove"), ps, .stmts b, sc, 0, (List.nil), Value.none, Value.none, Value.none, Value.none, (Option.none), Value.none, Value.none, 0⟩, (List.toArray (List.nil))⟩
noncomputable def fo221 : Obj := fnK (st := methAt 12 6) rfl fun ps b sc => ⟨(Value.type "function"), (Option.none), .func ⟨(Str.ofString "remove"), (Str.ofString "OpenStack.remove"), ps, .stmts b, sc, 3, (List.nil), Value.none, Value.none, Value.none, (Value.str (Str.ofString "htmltree.openstack") 384), (Option.none), (Value.ref 220), Value.none, 0⟩, (List.toArray (List.nil))⟩
noncomputable def fo226 : Obj := fnK (st := methAt 12 7) rfl fun ps b sc => ⟨Value.none, (Option.none), .func ⟨(Str.ofString "place"), (Str.ofString "OpenStack.place"), ps, .stmts b, sc, 0, (List.nil), Value.none, Value.none, Value.none, Value.none, (Option.none), Value.none, Value.none, 0⟩, (List.toArray (List.nil))⟩
noncomputable def fo228 : Obj := fnK (st := methAt 12 7) rfl fun ps b sc => ⟨(Value.type "function"), (Option.none), .func ⟨(Str.ofString "place"), (Str.ofString "OpenStack.place"), ps, .stmts b, sc, 3, (List.nil), Value.none, Value.none, Value.none, (Value.str (Str.ofString "htmltree.openstack") 384), (Option.none), (Value.ref 227), Value.none, 0⟩, (List.toArray (List.nil))⟩
noncomputable def fo233 : Obj := fnK (st := methAt 12 8) rfl fun ps b sc => ⟨Value.none, (Option.none), .func ⟨(Str.ofString "put_at"), (Str.ofString "OpenStack.put_at"), ps, .stmts b, sc, 0, (List.nil), Value.none, Value.none, Value.none, Value.none, (Option.none), Value.none, Value.none, 0⟩, (List.toArray (List.nil))⟩
noncomputable def fo235 : Obj := fnK (st := methAt 12 8) rfl fun ps b sc => ⟨(Value.type "function"), (Option.none), .func ⟨(Str.ofString "put_at"), (Str.ofString "OpenStack.put_at"), ps, .stmts b, sc, 3, (List.nil), Value.none, Value.none, Value.none, (Value.str (Str.ofString "htmltree.openstack") 384), (Option.none), (Value.ref 234), Value.none, 0⟩, (List.toArray (List.nil))⟩
noncomputable def fo240 : Obj := fnK (st := methAt 12 9) rfl fun ps b sc => ⟨Value.none, (Option.none), .func ⟨(Str.ofString "name"), (Str.ofString "OpenStack.name"), ps, .stmts b, sc, 0, (List.nil), Value.none, Value.none, Value.none, Value.none, (Option.none), Value.none, Value.none, 0⟩, (List.toArray (List.nil))⟩
noncomputable def fo242 : Obj := fnK (st := methAt 12 9) rfl fun ps b sc => ⟨(Value.type "function"), (Option.none), .func ⟨(Str.ofString "name"), (Str.ofString "OpenStack.name"), ps, .stmts b, sc, 3, (List.nil), Value.none, Value.none, Value.none, (Value.str (Str.ofString "htmltree.openstack") 384), (Option.none), (Value.ref 241), Value.none, 0⟩, (List.toArray (List.nil))⟩
noncomputable def fo247 : Obj := fnK (st := methAt 12 10) rfl fun ps b sc => ⟨Value.none, (Option.none), .func ⟨(Str.ofString "has_name"), (Str.ofString "OpenStack.has_name"), ps, .stmts b, sc, 0, (List.nil), Value.none, Value.none, Value.none, Value.none, (Option.none), Value.none, Value.none, 0⟩, (List.toArray (List.nil))⟩
noncomputable def fo249 : Obj := fnK (st := methAt 12 10) rfl fun ps b sc => ⟨(Value.type "function"), (Option.none), .func ⟨(Str.ofString "has_name"), (Str.ofString "OpenStack.has_name"), ps, .stmts b, sc, 3, (List.nil), Value.none, Value.none, Value.none, (Value.str (Str.ofString "htmltree.openstack") 384), (Option.none), (Value.ref 248), Value.none, 0⟩, (List.toArray (List.nil))⟩
noncomputable def fo254 : Obj := fnK (st := methAt 12 11) rfl fun ps b sc => ⟨Value.none, (Option.none), .func ⟨(Str.ofString "pop_until"), (Str.ofString "OpenStack.pop_until"), ps, .stmts b, sc, 0, (List.nil), Value.none, Value.none, Value.none, Value.none, (Option.none), Value.none, Value.none, 0⟩, (List.toArray (List.nil))⟩
noncomputable def fo256 : Obj := fnK (st := methAt 12 11) rfl fun ps b sc => ⟨(Value.type "function"), (Option.none), .func ⟨(Str.ofString "pop_until"), (Str.ofString "OpenStack.pop_until"), ps, .stmts b, sc, 3, (List.nil), Value.none, Value.none, Value.none, (Value.str (Str.ofString "htmltree.openstack") 384), (Option.none), (Value.ref 255), Value.none, 0⟩, (List.toArray (List.nil))⟩
noncomputable def fo261 : Obj := fnK (st := methAt 12 12) rfl fun ps b sc => ⟨Value.none, (Option.none), .func ⟨(Str.ofString "pop_to"), (Str.ofString "OpenStack.pop_to"), ps, .stmts b, sc, 0, (List.nil), Value.none, Value.none, Value.none, Value.none, (Option.none), Value.none, Value.none, 0⟩, (List.toArray (List.nil))⟩
noncomputable def fo263 : Obj := fnK (st := methAt 12 12) rfl fun ps b sc => ⟨(Value.type "function"), (Option.none), .func ⟨(Str.ofString "pop_to"), (Str.ofString "OpenStack.pop_to"), ps, .stmts b, sc, 3, (List.nil), Value.none, Value.none, Value.none, (Value.str (Str.ofString "htmltree.openstack") 384), (Option.none), (Value.ref 262), Value.none, 0⟩, (List.toArray (List.nil))⟩
noncomputable def fo282 : Obj := fnK (st := methAt 14 0) rfl fun ps b sc => ⟨Value.none, (Option.none), .func ⟨(Str.ofString "__init__"), (Str.ofString "Tree.__init__"), ps, .stmts b, sc, 0, (List.nil), Value.none, Value.none, Value.none, Value.none, (Option.none), Value.none, Value.none, 0⟩, (List.toArray (List.nil))⟩
noncomputable def fo284 : Obj := fnK (st := methAt 14 0) rfl fun ps b sc => ⟨(Value.type "function"), (Option.none), .func ⟨(Str.ofString "__init__"), (Str.ofString "Tree.__init__"), ps, .stmts b, sc, 3, (List.nil), Value.none, Value.none, Value.none, (Value.str (Str.ofString "htmltree.tree") 510), (Option.none), (Value.ref 283), Value.none, 0⟩, (List.toArray (List.nil))⟩
noncomputable def fo291 : Obj := fnK (st := methAt 14 1) rfl fun ps b sc => ⟨Value.none, (Option.none), .func ⟨(Str.ofString "add"), (Str.ofString "Tree.add"), ps, .stmts b, sc, 0, (List.nil), Value.none, Value.none, Value.none, Value.none, (Option.none), Value.none, Value.none, 0⟩, (List.toArray (List.nil))⟩
noncomputable def fo293 : Obj := fnK (st := methAt 14 1) rfl fun ps b sc => ⟨(Value.type "function"), (Option.none), .func ⟨(Str.ofString "add"), (Str.ofString "Tree.add"), ps, .stmts b, sc, 3, (List.nil), (Value.ref 286), Value.none, Value.none, (Value.str (Str.ofString "htmltree.tree") 510), (Option.none), (Value.ref 292), Value.none, 0⟩, (List.toArray (List.nil))⟩
noncomputable def fo300 : Obj := fnK (st := methAt 14 2) rfl fun ps b sc => ⟨Value.none, (Option.none), .func ⟨(Str.ofString "element"), (Str.ofString "Tree.element"), ps, .stmts b, sc, 0, (List.nil), Value.none, Value.none, Value.none, Value.none, (Option.none), Value.none, Value.none, 0⟩, (List.toArray (List.nil))⟩
noncomputable def fo302 : Obj := fnK (st := methAt 14 2) rfl fun ps b sc => ⟨(Value.type "function"), (Option.none), .func ⟨(Str.ofString "element"), (Str.ofString "Tree.element"), ps, .stmts b, sc, 3, (List.nil), (Value.ref 295), Value.none, Value.none, (Value.str (Str.ofString "htmltree.tree") 510), (Option.none), (Value.ref 301), Value.none, 0⟩, (List.toArray (List.nil))⟩
noncomputable def fo307 : Obj := fnK (st := methAt 14 3) rfl fun ps b sc => ⟨Value.none, (Option.none), .func ⟨(Str.ofString "text"), (Str.ofString "Tree.text"), ps, .stmts b, sc, 0, (List.nil), Value.none, Value.none, Value.none, Value.none, (Option.none), Value.none, Value.none, 0⟩, (List.toArray (List.nil))⟩
noncomputable def fo309 : Obj := fnK (st := methAt 14 3) rfl fun ps b sc => ⟨(Value.type "function"), (Option.none), .func ⟨(Str.ofString "text"), (Str.ofString "Tree.text"), ps, .stmts b, sc, 3, (List.nil), Value.none, Value.none, Value.none, (Value.str (Str.ofString "htmltree.tree") 510), (Option.none), (Value.ref 308), Value.none, 0⟩, (List.toArray (List.nil))⟩
noncomputable def fo314 : Obj := fnK (st := methAt 14 4) rfl fun ps b sc => ⟨Value.none, (Option.none), .func ⟨(Str.ofString "comment"), (Str.ofString "Tree.comment"), ps, .stmts b, sc, 0, (List.nil), Value.none, Value.none, Value.none, Value.none, (Option.none), Value.none, Value.none, 0⟩, (List.toArray (List.nil))⟩
noncomputable def fo316 : Obj := fnK (st := methAt 14 4) rfl fun ps b sc => ⟨(Value.type "function"), (Option.none), .func ⟨(Str.ofString "comment"), (Str.ofString "Tree.comment"), ps, .stmts b, sc, 3, (List.nil), Value.none, Value.none, Value.none, (Value.str (Str.ofString "htmltree.tree") 510), (Option.none), (Value.ref 315), Value.none, 0⟩, (List.toArray (List.nil))⟩
noncomputable def fo321 : Obj := fnK (st := methAt 14 5) rfl fun ps b sc => ⟨Value.none, (Option.none), .func ⟨(Str.ofString "doctype"), (Str.ofString "Tree.doctype"), ps, .stmts b, sc, 0, (List.nil), Value.none, Value.none, Value.none, Value.none, (Option.none), Value.none, Value.none, 0⟩, (List.toArray (List.nil))⟩
noncomputable def fo323 : Obj := fnK (st := methAt 14 5) rfl fun ps b sc => ⟨(Value.type "function"), (Option.none), .func ⟨(Str.ofString "doctype"), (Str.ofString "Tree.doctype"), ps, .stmts b, sc, 3, (List.nil), Value.none, Value.none, Value.none, (Value.str (Str.ofString "htmltree.tree") 510), (Option.none), (Value.ref 322), Value.none, 0⟩, (List.toArray (List.nil))⟩
noncomputable def fo329 : Obj := fnK (st := methAt 14 6) rfl fun ps b sc => ⟨Value.none, (Option.none), .func ⟨(Str.ofString "insert"), (Str.ofString "Tree.insert"), ps, .stmts b, sc, 0, (List.nil), Value.none, Value.none, Value.none, Value.none, (Option.none), Value.none, Value.none, 0⟩, (List.toArray (List.nil))⟩
noncomputable def fo331 : Obj := fnK (st := methAt 14 6) rfl fun ps b sc => ⟨(Value.type "function"), (Option.none), .func ⟨(Str.ofString "insert"), (Str.ofString "Tree.insert"), ps, .stmts b, sc, 3, (List.nil), (Value.ref 324), Value.none, Value.none, (Value.str (Str.ofString "htmltree.tree") 510), (Option.none), (Value.ref 330), Value.none, 0⟩, (List.toArray (List.nil))⟩
noncomputable def fo336 : Obj := fnK (st := methAt 14 7) rfl fun ps b sc => ⟨Value.none, (Option.none), .func ⟨(Str.ofString "append"), (Str.ofString "Tree.append"), ps, .stmts b, sc, 0, (List.nil), Value.none, Value.none, Value.none, Value.none, (Option.none), Value.none, Value.none, 0⟩, (List.toArray (List.nil))⟩
noncomputable def fo338 : Obj := fnK (st := methAt 14 7) rfl fun ps b sc => ⟨(Value.type "function"), (Option.none), .func ⟨(Str.ofString "append"), (Str.ofString "Tree.append"), ps, .stmts b, sc, 3, (List.nil), Value.none, Value.none, Value.none, (Value.str (Str.ofString "htmltree.tree") 510), (Option.none), (Value.ref 337), Value.none, 0⟩, (List.toArray (List.nil))⟩
noncomputable def fo343 : Obj := fnK (st := methAt 14 8) rfl fun ps b sc => ⟨Value.none, (Option.none), .func ⟨(Str.ofString "remove"), (Str.ofString "Tree.remove"), ps, .stmts b, sc, 0, (List.nil), Value.none, Value.none, Value.none, Value.none, (Option.none), Value.none, Value.none, 0⟩, (List.toArray (List.nil))⟩
noncomputable def fo345 : Obj := fnK (st := methAt 14 8) rfl fun ps b sc => ⟨(Value.type "function"), (Option.none), .func ⟨(Str.ofString "remove"), (Str.ofString "Tree.remove"), ps, .stmts b, sc, 3, (List.nil), Value.none, Value.none, Value.none, (Value.str (Str.ofString "htmltree.tree") 510), (Option.none), (Value.ref 344), Value.none, 0⟩, (List.toArray (List.nil))⟩
noncomputable def fo350 : Obj := fnK (st := methAt 14 9) rfl fun ps b sc => ⟨Value.none, (Option.none), .func ⟨(Str.ofString "move_children"), (Str.ofString "Tree.move_children"), ps, .stmts b, sc, 0, (List.nil), Value.none, Value.none, Value.none, Value.none, (Option.none), Value.none, Value.none, 0⟩, (List.toArray (List.nil))⟩
noncomputable def fo352 : Obj := fnK (st := methAt 14 9) rfl fun ps b sc => ⟨(Value.type "function"), (Option.none), .func ⟨(Str.ofString "move_children"), (Str.ofString "Tree.move_children"), ps, .stmts b, sc, 3, (List.nil), Value.none, Value.none, Value.none, (Value.str (Str.ofString "htmltree.tree") 510), (Option.none), (Value.ref 351), Value.none, 0⟩, (List.toArray (List.nil))⟩
noncomputable def fo357 : Obj := fnK (st := methAt 14 10) rfl fun ps b sc => ⟨Value.none, (Option.none), .func ⟨(Str.ofString "place"), (Str.ofString "Tree.place"), ps, .stmts b, sc, 0, (List.nil), Value.none, Value.none, Value.none, Value.none, (Option.none), Value.none, Value.none, 0⟩, (List.toArray (List.nil))⟩
noncomputable def fo359 : Obj := fnK (st := methAt 14 10) rfl fun ps b sc => ⟨(Value.type "function"), (Option.none), .func ⟨(Str.ofString "place"), (Str.ofString "Tree.place"), ps, .stmts b, sc, 3, (List.nil), Value.none, Value.none, Value.none, (Value.str (Str.ofString "htmltree.tree") 510), (Option.none), (Value.ref 358), Value.none, 0⟩, (List.toArray (List.nil))⟩
noncomputable def fo364 : Obj := fnK (st := methAt 14 11) rfl fun ps b sc => ⟨Value.none, (Option.none), .func ⟨(Str.ofString "last"), (Str.ofString "Tree.last"), ps, .stmts b, sc, 0, (List.nil), Value.none, Value.none, Value.none, Value.none, (Option.none), Value.none, Value.none, 0⟩, (List.toArray (List.nil))⟩
noncomputable def fo366 : Obj := fnK (st := methAt 14 11) rfl fun ps b sc => ⟨(Value.type "function"), (Option.none), .func ⟨(Str.ofString "last"), (Str.ofString "Tree.last"), ps, .stmts b, sc, 3, (List.nil), Value.none, Value.none, Value.none, (Value.str (Str.ofString "htmltree.tree") 510), (Option.none), (Value.ref 365), Value.none, 0⟩, (List.toArray (List.nil))⟩
noncomputable def fo371 : Obj := fnK (st := methAt 14 12) rfl fun ps b sc => ⟨Value.none, (Option.none), .func ⟨(Str.ofString "value"), (Str.ofString "Tree.value"), ps, .stmts b, sc, 0, (List.nil), Value.none, Value.none, Value.none, Value.none, (Option.none), Value.none, Value.none, 0⟩, (List.toArray (List.nil))⟩
noncomputable def fo373 : Obj := fnK (st := methAt 14 12) rfl fun ps b sc => ⟨(Value.type "function"), (Option.none), .func ⟨(Str.ofString "value"), (Str.ofString "Tree.value"), ps, .stmts b, sc, 3, (List.nil), Value.none, Value.none, Value.none, (Value.str (Str.ofString "htmltree.tree") 510), (Option.none), (Value.ref 372), Value.none, 0⟩, (List.toArray (List.nil))⟩
noncomputable def fo378 : Obj := fnK (st := methAt 14 13) rfl fun ps b sc => ⟨Value.none, (Option.none), .func ⟨(Str.ofString "is_html"), (Str.ofString "Tree.is_html"), ps, .stmts b, sc, 0, (List.nil), Value.none, Value.none, Value.none, Value.none, (Option.none), Value.none, Value.none, 0⟩, (List.toArray (List.nil))⟩
noncomputable def fo380 : Obj := fnK (st := methAt 14 13) rfl fun ps b sc => ⟨(Value.type "function"), (Option.none), .func ⟨(Str.ofString "is_html"), (Str.ofString "Tree.is_html"), ps, .stmts b, sc, 3, (List.nil), Value.none, Value.none, Value.none, (Value.str (Str.ofString "htmltree.tree") 510), (Option.none), (Value.ref 379), Value.none, 0⟩, (List.toArray (List.nil))⟩
noncomputable def fo392 : Obj := fnK (st := fnAt 15) rfl fun ps b sc => ⟨Value.none, (Option.none), .func ⟨(Str.ofString "above"), (Str.ofString "above"), ps, .stmts b, sc, 0, (List.nil), Value.none, Value.none, Value.none, Value.none, (Option.none), Value.none, Value.none, 0⟩, (List.toArray (List.nil))⟩
noncomputable def fo394 : Obj := fnK (st := fnAt 15) rfl fun ps b sc => ⟨(Value.type "function"), (Option.none), .func ⟨(Str.ofString "above"), (Str.ofString "above"), ps, .stmts b, sc, 3, (List.nil), Value.none, Value.none, Value.none, (Value.str (Str.ofString "htmltree.tree") 510), (Option.none), (Value.ref 393), Value.none, 0⟩, (List.toArray (List.nil))⟩
noncomputable def fo407 : Obj := fnK (st := methAt 17 0) rfl fun ps b sc => ⟨Value.none, (Option.none), .func ⟨(Str.ofString "__init__"), (Str.ofString "Builder.__init__"), ps, .stmts b, sc, 0, (List.nil), Value.none, Value.none, Value.none, Value.none, (Option.none), Value.none, Value.none, 0⟩, (List.toArray (List.nil))⟩
noncomputable def fo409 : Obj := fnK (st := methAt 17 0) rfl fun ps b sc => ⟨(Value.type "function"), (Option.none), .func ⟨(Str.ofString "__init__"), (Str.ofString "Builder.__init__"), ps, .stmts b, sc, 3, (List.nil), (Value.ref 402), Value.none, Value.none, (Value.str (Str.ofString "htmltree.builder") 683), (Option.none), (Value.ref 408), Value.none, 0⟩, (List.toArray (List.nil))⟩
noncomputable def fo414 : Obj := fnK (st := methAt 17 1) rfl fun ps b sc => ⟨Value.none, (Option.none), .func ⟨(Str.ofString "error"), (Str.ofString "Builder.error"), ps, .stmts b, sc, 0, (List.nil), Value.none, Value.none, Value.none, Value.none, (Option.none), Value.none, Value.none, 0⟩, (List.toArray (List.nil))⟩
noncomputable def fo416 : Obj := fnK (st := methAt 17 1) rfl fun ps b sc => ⟨(Value.type "function"), (Option.none), .func ⟨(Str.ofString "error"), (Str.ofString "Builder.error"), ps, .stmts b, sc, 3, (List.nil), Value.none, Value.none, Value.none, (Value.str (Str.ofString "htmltree.builder") 683), (Option.none), (Value.ref 415), Value.none, 0⟩, (List.toArray (List.nil))⟩
noncomputable def fo421 : Obj := fnK (st := methAt 17 2) rfl fun ps b sc => ⟨Value.none, (Option.none), .func ⟨(Str.ofString "to"), (Str.ofString "Builder.to"), ps, .stmts b, sc, 0, (List.nil), Value.none, Value.none, Value.none, Value.none, (Option.none), Value.none, Value.none, 0⟩, (List.toArray (List.nil))⟩
noncomputable def fo423 : Obj := fnK (st := methAt 17 2) rfl fun ps b sc => ⟨(Value.type "function"), (Option.none), .func ⟨(Str.ofString "to"), (Str.ofString "Builder.to"), ps, .stmts b, sc, 3, (List.nil), Value.none, Value.none, Value.none, (Value.str (Str.ofString "htmltree.builder") 683), (Option.none), (Value.ref 422), Value.none, 0⟩, (List.toArray (List.nil))⟩
noncomputable def fo428 : Obj := fnK (st := methAt 17 3) rfl fun ps b sc => ⟨Value.none, (Option.none), .func ⟨(Str.ofString "use"), (Str.ofString "Builder.use"), ps, .stmts b, sc, 0, (List.nil), Value.none, Value.none, Value.none, Value.none, (Option.none), Value.none, Value.none, 0⟩, (List.toArray (List.nil))⟩
noncomputable def fo430 : Obj := fnK (st := methAt 17 3) rfl fun ps b sc => ⟨(Value.type "function"), (Option.none), .func ⟨(Str.ofString "use"), (Str.ofString "Builder.use"), ps, .stmts b, sc, 3, (List.nil), Value.none, Value.none, Value.none, (Value.str (Str.ofString "htmltree.builder") 683), (Option.none), (Value.ref 429), Value.none, 0⟩, (List.toArray (List.nil))⟩
noncomputable def fo435 : Obj := fnK (st := methAt 17 4) rfl fun ps b sc => ⟨Value.none, (Option.none), .func ⟨(Str.ofString "process"), (Str.ofString "Builder.process"), ps, .stmts b, sc, 0, (List.nil), Value.none, Value.none, Value.none, Value.none, (Option.none), Value.none, Value.none, 0⟩, (List.toArray (List.nil))⟩
noncomputable def fo437 : Obj := fnK (st := methAt 17 4) rfl fun ps b sc => ⟨(Value.type "function"), (Option.none), .func ⟨(Str.ofString "process"), (Str.ofString "Builder.process"), ps, .stmts b, sc, 3, (List.nil), Value.none, Value.none, Value.none, (Value.str (Str.ofString "htmltree.builder") 683), (Option.none), (Value.ref 436), Value.none, 0⟩, (List.toArray (List.nil))⟩
noncomputable def fo442 : Obj := fnK (st := methAt 17 5) rfl fun ps b sc => ⟨Value.none, (Option.none), .func ⟨(Str.ofString "feed"), (Str.ofString "Builder.feed"), ps, .stmts b, sc, 0, (List.nil), Value.none, Value.none, Value.none, Value.none, (Option.none), Value.none, Value.none, 0⟩, (List.toArray (List.nil))⟩
noncomputable def fo444 : Obj := fnK (st := methAt 17 5) rfl fun ps b sc => ⟨(Value.type "function"), (Option.none), .func ⟨(Str.ofString "feed"), (Str.ofString "Builder.feed"), ps, .stmts b, sc, 3, (List.nil), Value.none, Value.none, Value.none, (Value.str (Str.ofString "htmltree.builder") 683), (Option.none), (Value.ref 443), Value.none, 0⟩, (List.toArray (List.nil))⟩
noncomputable def fo449 : Obj := fnK (st := methAt 17 6) rfl fun ps b sc => ⟨Value.none, (Option.none), .func ⟨(Str.ofString "adjusted"), (Str.ofString "Builder.adjusted"), ps, .stmts b, sc, 0, (List.nil), Value.none, Value.none, Value.none, Value.none, (Option.none), Value.none, Value.none, 0⟩, (List.toArray (List.nil))⟩
noncomputable def fo451 : Obj := fnK (st := methAt 17 6) rfl fun ps b sc => ⟨(Value.type "function"), (Option.none), .func ⟨(Str.ofString "adjusted"), (Str.ofString "Builder.adjusted"), ps, .stmts b, sc, 3, (List.nil), Value.none, Value.none, Value.none, (Value.str (Str.ofString "htmltree.builder") 683), (Option.none), (Value.ref 450), Value.none, 0⟩, (List.toArray (List.nil))⟩
noncomputable def fo456 : Obj := fnK (st := methAt 17 7) rfl fun ps b sc => ⟨Value.none, (Option.none), .func ⟨(Str.ofString "is_foreign"), (Str.ofString "Builder.is_foreign"), ps, .stmts b, sc, 0, (List.nil), Value.none, Value.none, Value.none, Value.none, (Option.none), Value.none, Value.none, 0⟩, (List.toArray (List.nil))⟩
noncomputable def fo458 : Obj := fnK (st := methAt 17 7) rfl fun ps b sc => ⟨(Value.type "function"), (Option.none), .func ⟨(Str.ofString "is_foreign"), (Str.ofString "Builder.is_foreign"), ps, .stmts b, sc, 3, (List.nil), Value.none, Value.none, Value.none, (Value.str (Str.ofString "htmltree.builder") 683), (Option.none), (Value.ref 457), Value.none, 0⟩, (List.toArray (List.nil))⟩
noncomputable def fo470 : Obj := fnK (st := fnAt 19) rfl fun ps b sc => ⟨Value.none, (Option.none), .func ⟨(Str.ofString "_law_digit"), (Str.ofString "_law_digit"), ps, .stmts b, sc, 0, (List.nil), Value.none, Value.none, Value.none, Value.none, (Option.none), Value.none, Value.none, 0⟩, (List.toArray (List.nil))⟩
noncomputable def fo472 : Obj := fnK (st := fnAt 19) rfl fun ps b sc => ⟨(Value.type "function"), (Option.none), .func ⟨(Str.ofString "_law_digit"), (Str.ofString "_law_digit"), ps, .stmts b, sc, 3, (List.nil), Value.none, Value.none, Value.none, (Value.str (Str.ofString "law_nt0607_01") 790), (Option.none), (Value.ref 471), Value.none, 0⟩, (List.toArray (List.nil))⟩
noncomputable def fo477 : Obj := fnK (st := fnAt 20) rfl fun ps b sc => ⟨Value.none, (Option.none), .func ⟨(Str.ofString "_law_element"), (Str.ofString "_law_element"), ps, .stmts b, sc, 0, (List.nil), Value.none, Value.none, Value.none, Value.none, (Option.none), Value.none, Value.none, 0⟩, (List.toArray (List.nil))⟩
noncomputable def fo479 : Obj := fnK (st := fnAt 20) rfl fun ps b sc => ⟨(Value.type "function"), (Option.none), .func ⟨(Str.ofString "_law_element"), (Str.ofString "_law_element"), ps, .stmts b, sc, 3, (List.nil), Value.none, Value.none, Value.none, (Value.str (Str.ofString "law_nt0607_01") 790), (Option.none), (Value.ref 478), Value.none, 0⟩, (List.toArray (List.nil))⟩
noncomputable def fo484 : Obj := fnK (st := fnAt 21) rfl fun ps b sc => ⟨Value.none, (Option.none), .func ⟨(Str.ofString "_law_mode"), (Str.ofString "_law_mode"), ps, .stmts b, sc, 0, (List.nil), Value.none, Value.none, Value.none, Value.none, (Option.none), Value.none, Value.none, 0⟩, (List.toArray (List.nil))⟩
noncomputable def fo486 : Obj := fnK (st := fnAt 21) rfl fun ps b sc => ⟨(Value.type "function"), (Option.none), .func ⟨(Str.ofString "_law_mode"), (Str.ofString "_law_mode"), ps, .stmts b, sc, 3, (List.nil), Value.none, Value.none, Value.none, (Value.str (Str.ofString "law_nt0607_01") 790), (Option.none), (Value.ref 485), Value.none, 0⟩, (List.toArray (List.nil))⟩
noncomputable def fo491 : Obj := fnK (st := fnAt 22) rfl fun ps b sc => ⟨Value.none, (Option.none), .func ⟨(Str.ofString "_law_modes"), (Str.ofString "_law_modes"), ps, .stmts b, sc, 0, (List.nil), Value.none, Value.none, Value.none, Value.none, (Option.none), Value.none, Value.none, 0⟩, (List.toArray (List.nil))⟩
noncomputable def fo493 : Obj := fnK (st := fnAt 22) rfl fun ps b sc => ⟨(Value.type "function"), (Option.none), .func ⟨(Str.ofString "_law_modes"), (Str.ofString "_law_modes"), ps, .stmts b, sc, 3, (List.nil), Value.none, Value.none, Value.none, (Value.str (Str.ofString "law_nt0607_01") 790), (Option.none), (Value.ref 492), Value.none, 0⟩, (List.toArray (List.nil))⟩
noncomputable def fo496 : Obj := fnK (st := fnAt 23) rfl fun ps b sc => ⟨Value.none, (Option.none), .func ⟨(Str.ofString "law"), (Str.ofString "law"), ps, .stmts b, sc, 0, (List.nil), Value.none, Value.none, Value.none, Value.none, (Option.none), Value.none, Value.none, 0⟩, (List.toArray (List.nil))⟩
noncomputable def fo498 : Obj := fnK (st := fnAt 23) rfl fun ps b sc => ⟨(Value.type "function"), (Option.none), .func ⟨(Str.ofString "law"), (Str.ofString "law"), ps, .stmts b, sc, 3, (List.nil), Value.none, Value.none, Value.none, (Value.str (Str.ofString "law_nt0607_01") 790), (Option.none), (Value.ref 497), Value.none, 0⟩, (List.toArray (List.nil))⟩
noncomputable def hd.heap_39 (P : Params) : Frag :=
  (nat_lit 2, (Obj.mk Value.none (Option.none) (Data.dict (List.toArray (List.cons (DictEntry.mk (PyData.keyHash P (Str.ofString "type.__subclasses__.Exception.0")) (Value.str (Str.ofString "type.__subclasses__.Exception.0") 260) (Value.int (66 : Int) 0)) (List.cons (DictEntry.mk (PyData.keyHash P (Str.ofString "type.__subclasses__.Exception.n")) (Value.str (Str.ofString "type.__subclasses__.Exception.n") 261) (Value.int (1 : Int) 0)) (List.nil)))) 2) (List.toArray (List.nil)))) ::
  (nat_lit 3, (Obj.mk (Value.type "dict") (Option.none) (Data.dict (List.toArray (List.cons (DictEntry.mk (PyData.keyHash P (Str.ofString "__name__")) (Value.str (Str.ofString "__name__") 165) (Value.str (Str.ofString "law_nt0607_01") 790)) (List.cons (DictEntry.mk (PyData.keyHash P (Str.ofString "__doc__")) (Value.str (Str.ofString "__doc__") 166) Value.none) (List.cons (DictEntry.mk (PyData.keyHash P (Str.ofString "__package__")) (Value.str (Str.ofString "__package__") 167) Value.none) (List.cons (DictEntry.mk (PyData.keyHash P (Str.ofString "__loader__")) (Value.str (Str.ofString "__loader__") 168) (Value.builtin "__main__.__loader__#opaque")) (List.cons (DictEntry.mk (PyData.keyHash P (Str.ofString "__spec__")) (Value.str (Str.ofString "__spec__") 169) Value.none) (List.cons (DictEntry.mk (PyData.keyHash P (Str.ofString "__annotations__")) (Value.str (Str.ofString "__annotations__") 170) (Value.ref 6)) (List.cons (DictEntry.mk (PyData.keyHash P (Str.ofString "__builtins__")) (Value.str (Str.ofString "__builtins__") 171) (Value.ref 4)) (List.cons (DictEntry.mk (PyData.keyHash P (Str.ofString "__file__")) (Value.str (Str.ofString "__file__") 173) (Value.str (Str.ofString "/claim/cut.py") 172)) (List.cons (DictEntry.mk (PyData.keyHash P (Str.ofString "__cached__")) (Value.str (Str.ofString "__cached__") 174) Value.none) (List.cons (DictEntry.mk (PyData.keyHash P (Str.ofString "_wall")) (Value.str (Str.ofString "_wall") 193) (Value.ref 21)) (List.cons (DictEntry.mk (PyData.keyHash P (Str.ofString "mode_of")) (Value.str (Str.ofString "mode_of") 203) (Value.ref 28)) (List.cons (DictEntry.mk (PyData.keyHash P (Str.ofString "select_mode")) (Value.str (Str.ofString "select_mode") 212) (Value.ref 35)) (List.cons (DictEntry.mk (PyData.keyHash P (Str.ofString "mode_for")) (Value.str (Str.ofString "mode_for") 222) (Value.ref 42)) (List.cons (DictEntry.mk (PyData.keyHash P (Str.ofString "reset_mode")) (Value.str (Str.ofString "reset_mode") 232) (Value.ref 49)) (List.cons (DictEntry.mk (PyData.keyHash P (Str.ofString "HtmlFault")) (Value.str (Str.ofString "HtmlFault") 263) (Value.ref 66)) (List.cons (DictEntry.mk (PyData.keyHash P (Str.ofString "Misused")) (Value.str (Str.ofString "Misused") 279) (Value.ref 79)) (List.cons (DictEntry.mk (PyData.keyHash P (Str.ofString "Formatting")) (Value.str (Str.ofString "Formatting") 383) (Value.ref 161)) (List.cons (DictEntry.mk (PyData.keyHash P (Str.ofString "OpenStack")) (Value.str (Str.ofString "OpenStack") 509) (Value.ref 266)) (List.cons (DictEntry.mk (PyData.keyHash P (Str.ofString "Tree")) (Value.str (Str.ofString "Tree") 672) (Value.ref 383)) (List.cons (DictEntry.mk (PyData.keyHash P (Str.ofString "above")) (Value.str (Str.ofString "above") 682) (Value.ref 394)) (List.cons (DictEntry.mk (PyData.keyHash P (Str.ofString "Builder")) (Value.str (Str.ofString "Builder") 789) (Value.ref 461)) (List.cons (DictEntry.mk (PyData.keyHash P (Str.ofString "_law_digit")) (Value.str (Str.ofString "_law_digit") 799) (Value.ref 472)) (List.cons (DictEntry.mk (PyData.keyHash P (Str.ofString "_law_element")) (Value.str (Str.ofString "_law_element") 809) (Value.ref 479)) (List.cons (DictEntry.mk (PyData.keyHash P (Str.ofString "_law_mode")) (Value.str (Str.ofString "_law_mode") 816) (Value.ref 486)) (List.cons (DictEntry.mk (PyData.keyHash P (Str.ofString "_law_modes")) (Value.str (Str.ofString "_law_modes") 832) (Value.ref 493)) (List.cons (DictEntry.mk (PyData.keyHash P (Str.ofString "law")) (Value.str (Str.ofString "law") 838) (Value.ref 498)) (List.nil)))))))))))))))))))))))))))) 26) (List.toArray (List.nil)))) ::
  (nat_lit 15, (Obj.mk (Value.type "tuple") (Option.none) (Data.seq (List.toArray (List.nil)) 0) (List.toArray (List.nil)))) ::
  (nat_lit 17, (Obj.mk (Value.type "tuple") (Option.none) (Data.seq (List.toArray (List.cons (Value.str (Str.ofString "k") 190) (List.nil))) 0) (List.toArray (List.nil)))) ::
  (nat_lit 18, (Obj.mk (Value.type "tuple") (Option.none) (Data.seq (List.toArray (List.nil)) 0) (List.toArray (List.nil)))) ::
  (nat_lit 20, (Obj.mk (Value.type "code") (Option.none) (Data.fields (List.toArray (List.cons (Value.str (Str.ofString "_wall") 187) (List.cons (Value.str (Str.ofString "_wall") 188) (List.cons (Value.str (Str.ofString "/claim/cut.py") 189) (List.cons (Value.int (1 : Int) 0) (List.cons (Value.int (1 : Int) 0) (List.cons (Value.int (0 : Int) 0) (List.cons (Value.int (0 : Int) 0) (List.cons (Value.int (3 : Int) 0) (List.cons (Value.ref 15) (List.cons (Value.bool Bool.true) (List.cons (Value.int (181 : Int) 0) (List.cons (Value.ref 16) (List.cons Value.none (List.cons (Value.ref 17) (List.cons (Value.ref 18) (List.cons (Value.ref 19) (List.cons (Value.int (191 : Int) 0) (List.cons (Value.int (1 : Int) 0) (List.cons (Value.str (Str.ofString "/claim/cut.py") 192) (List.nil)))))))))))))))))))))) (List.toArray (List.nil)))) ::
  (nat_lit 21, fo21) ::
  (nat_lit 22, (Obj.mk (Value.type "tuple") (Option.none) (Data.seq (List.toArray (List.nil)) 0) (List.toArray (List.nil)))) ::
  (nat_lit 24, (Obj.mk (Value.type "tuple") (Option.none) (Data.seq (List.toArray (List.cons (Value.str (Str.ofString "name") 199) (List.cons (Value.str (Str.ofString "table") 200) (List.nil)))) 0) (List.toArray (List.nil)))) ::
  (nat_lit 25, (Obj.mk (Value.type "tuple") (Option.none) (Data.seq (List.toArray (List.nil)) 0) (List.toArray (List.nil)))) ::
  (nat_lit 27, (Obj.mk (Value.type "code") (Option.none) (Data.fields (List.toArray (List.cons (Value.str (Str.ofString "mode_of") 196) (List.cons (Value.str (Str.ofString "mode_of") 197) (List.cons (Value.str (Str.ofString "/claim/cut.py") 198) (List.cons (Value.int (5 : Int) 0) (List.cons (Value.int (1 : Int) 0) (List.cons (Value.int (0 : Int) 0) (List.cons (Value.int (0 : Int) 0) (List.cons (Value.int (3 : Int) 0) (List.cons (Value.ref 22) (List.cons (Value.bool Bool.true) (List.cons (Value.int (181 : Int) 0) (List.cons (Value.ref 23) (List.cons Value.none (List.cons (Value.ref 24) (List.cons (Value.ref 25) (List.cons (Value.ref 26) (List.cons (Value.int (201 : Int) 0) (List.cons (Value.int (5 : Int) 0) (List.cons (Value.str (Str.ofString "/claim/cut.py") 202) (List.nil)))))))))))))))))))))) (List.toArray (List.nil)))) ::
  (nat_lit 28, fo28) ::
  (nat_lit 29, (Obj.mk (Value.type "tuple") (Option.none) (Data.seq (List.toArray (List.nil)) 0) (List.toArray (List.nil)))) ::
  (nat_lit 31, (Obj.mk (Value.type "tuple") (Option.none) (Data.seq (List.toArray (List.cons (Value.str (Str.ofString "builder") 207) (List.cons (Value.str (Str.ofString "at") 208) (List.cons (Value.str (Str.ofString "node") 209) (List.nil))))) 0) (List.toArray (List.nil)))) ::
  (nat_lit 32, (Obj.mk (Value.type "tuple") (Option.none) (Data.seq (List.toArray (List.nil)) 0) (List.toArray (List.nil)))) ::
  (nat_lit 34, (Obj.mk (Value.type "code") (Option.none) (Data.fields (List.toArray (List.cons (Value.str (Str.ofString "select_mode") 204) (List.cons (Value.str (Str.ofString "select_mode") 205) (List.cons (Value.str (Str.ofString "/claim/cut.py") 206) (List.cons (Value.int (8 : Int) 0) (List.cons (Value.int (2 : Int) 0) (List.cons (Value.int (0 : Int) 0) (List.cons (Value.int (0 : Int) 0) (List.cons (Value.int (3 : Int) 0) (List.cons (Value.ref 29) (List.cons (Value.bool Bool.true) (List.cons (Value.int (181 : Int) 0) (List.cons (Value.ref 30) (List.cons Value.none (List.cons (Value.ref 31) (List.cons (Value.ref 32) (List.cons (Value.ref 33) (List.cons (Value.int (210 : Int) 0) (List.cons (Value.int (8 : Int) 0) (List.cons (Value.str (Str.ofString "/claim/cut.py") 211) (List.nil)))))))))))))))))))))) (List.toArray (List.nil)))) ::
  (nat_lit 35, fo35) ::
  (nat_lit 36, (Obj.mk (Value.type "tuple") (Option.none) (Data.seq (List.toArray (List.nil)) 0) (List.toArray (List.nil)))) ::
  (nat_lit 38, (Obj.mk (Value.type "tuple") (Option.none) (Data.seq (List.toArray (List.cons (Value.str (Str.ofString "builder") 216) (List.cons (Value.str (Str.ofString "node") 217) (List.cons (Value.str (Str.ofString "at") 218) (List.cons (Value.str (Str.ofString "name") 219) (List.nil)))))) 0) (List.toArray (List.nil)))) ::
  (nat_lit 39, (Obj.mk (Value.type "tuple") (Option.none) (Data.seq (List.toArray (List.nil)) 0) (List.toArray (List.nil)))) ::
  (nat_lit 41, (Obj.mk (Value.type "code") (Option.none) (Data.fields (List.toArray (List.cons (Value.str (Str.ofString "mode_for") 213) (List.cons (Value.str (Str.ofString "mode_for") 214) (List.cons (Value.str (Str.ofString "/claim/cut.py") 215) (List.cons (Value.int (17 : Int) 0) (List.cons (Value.int (3 : Int) 0) (List.cons (Value.int (0 : Int) 0) (List.cons (Value.int (0 : Int) 0) (List.cons (Value.int (3 : Int) 0) (List.cons (Value.ref 36) (List.cons (Value.bool Bool.true) (List.cons (Value.int (181 : Int) 0) (List.cons (Value.ref 37) (List.cons Value.none (List.cons (Value.ref 38) (List.cons (Value.ref 39) (List.cons (Value.ref 40) (List.cons (Value.int (220 : Int) 0) (List.cons (Value.int (17 : Int) 0) (List.cons (Value.str (Str.ofString "/claim/cut.py") 221) (List.nil)))))))))))))))))))))) (List.toArray (List.nil)))) ::
  (nat_lit 42, fo42) ::
  (nat_lit 43, (Obj.mk (Value.type "tuple") (Option.none) (Data.seq (List.toArray (List.nil)) 0) (List.toArray (List.nil)))) ::
  (nat_lit 45, (Obj.mk (Value.type "tuple") (Option.none) (Data.seq (List.toArray (List.cons (Value.str (Str.ofString "builder") 226) (List.cons (Value.str (Str.ofString "at") 227) (List.cons (Value.str (Str.ofString "mode") 228) (List.cons (Value.str (Str.ofString "node") 229) (List.nil)))))) 0) (List.toArray (List.nil)))) ::
  (nat_lit 46, (Obj.mk (Value.type "tuple") (Option.none) (Data.seq (List.toArray (List.nil)) 0) (List.toArray (List.nil)))) ::
  (nat_lit 48, (Obj.mk (Value.type "code") (Option.none) (Data.fields (List.toArray (List.cons (Value.str (Str.ofString "reset_mode") 223) (List.cons (Value.str (Str.ofString "reset_mode") 224) (List.cons (Value.str (Str.ofString "/claim/cut.py") 225) (List.cons (Value.int (32 : Int) 0) (List.cons (Value.int (1 : Int) 0) (List.cons (Value.int (0 : Int) 0) (List.cons (Value.int (0 : Int) 0) (List.cons (Value.int (3 : Int) 0) (List.cons (Value.ref 43) (List.cons (Value.bool Bool.true) (List.cons (Value.int (181 : Int) 0) (List.cons (Value.ref 44) (List.cons Value.none (List.cons (Value.ref 45) (List.cons (Value.ref 46) (List.cons (Value.ref 47) (List.cons (Value.int (230 : Int) 0) (List.cons (Value.int (32 : Int) 0) (List.cons (Value.str (Str.ofString "/claim/cut.py") 231) (List.nil)))))))))))))))))))))) (List.toArray (List.nil)))) ::
  (nat_lit 49, fo49) ::
  (nat_lit 50, (Obj.mk (Value.type "tuple") (Option.none) (Data.seq (List.toArray (List.cons (Value.type "Exception") (List.nil))) 0) (List.toArray (List.nil)))) ::
  (nat_lit 57, (Obj.mk (Value.type "tuple") (Option.none) (Data.seq (List.toArray (List.nil)) 0) (List.toArray (List.nil)))) ::
  (nat_lit 59, (Obj.mk (Value.type "tuple") (Option.none) (Data.seq (List.toArray (List.cons (Value.str (Str.ofString "self") 250) (List.cons (Value.str (Str.ofString "why") 251) (List.nil)))) 0) (List.toArray (List.nil)))) ::
  (nat_lit 60, (Obj.mk (Value.type "tuple") (Option.none) (Data.seq (List.toArray (List.nil)) 0) (List.toArray (List.nil)))) ::
  (nat_lit 62, (Obj.mk (Value.type "code") (Option.none) (Data.fields (List.toArray (List.cons (Value.str (Str.ofString "__init__") 247) (List.cons (Value.str (Str.ofString "HtmlFault.__init__") 248) (List.cons (Value.str (Str.ofString "/claim/cut.py") 249) (List.cons (Value.int (47 : Int) 0) (List.cons (Value.int (2 : Int) 0) (List.cons (Value.int (0 : Int) 0) (List.cons (Value.int (0 : Int) 0) (List.cons (Value.int (3 : Int) 0) (List.cons (Value.ref 57) (List.cons (Value.bool Bool.true) (List.cons (Value.int (181 : Int) 0) (List.cons (Value.ref 58) (List.cons Value.none (List.cons (Value.ref 59) (List.cons (Value.ref 60) (List.cons (Value.ref 61) (List.cons (Value.int (252 : Int) 0) (List.cons (Value.int (47 : Int) 0) (List.cons (Value.str (Str.ofString "/claim/cut.py") 253) (List.nil)))))))))))))))))))))) (List.toArray (List.nil)))) ::
  (nat_lit 63, fo63) ::
  (nat_lit 64, (Obj.mk (Value.type "tuple") (Option.none) (Data.seq (List.toArray (List.cons (Value.str (Str.ofString "why") 255) (List.nil))) 0) (List.toArray (List.nil)))) ::
  (nat_lit 65, (Obj.mk (Value.type "dict") (Option.none) (Data.dict (List.toArray (List.cons (DictEntry.mk (PyData.keyHash P (Str.ofString "__module__")) (Value.str (Str.ofString "__module__") 242) (Value.str (Str.ofString "htmltree.faults") 233)) (List.cons (DictEntry.mk (PyData.keyHash P (Str.ofString "__firstlineno__")) (Value.str (Str.ofString "__firstlineno__") 246) (Value.int (45 : Int) 245)) (List.cons (DictEntry.mk (PyData.keyHash P (Str.ofString "__init__")) (Value.str (Str.ofString "__init__") 254) (Value.ref 63)) (List.cons (DictEntry.mk (PyData.keyHash P (Str.ofString "__static_attributes__")) (Value.str (Str.ofString "__static_attributes__") 256) (Value.ref 64)) (List.cons (DictEntry.mk (PyData.keyHash P (Str.ofString "__weakref__")) (Value.str (Str.ofString "__weakref__") 258) (Value.ref 67)) (List.cons (DictEntry.mk (PyData.keyHash P (Str.ofString "__doc__")) (Value.str (Str.ofString "__doc__") 259) Value.none) (List.nil)))))))) 3) (List.toArray (List.nil)))) ::
  (nat_lit 66, (Obj.mk (Value.type "type") (Option.none) (Data.cls (ClassData.mk (Str.ofString "HtmlFault") (List.cons (Value.type "Exception") (List.nil)) (List.cons (Value.ref 66) (List.cons (Value.type "Exception") (List.cons (Value.type "BaseException") (List.cons (Value.type "object") (List.nil))))) 65 (Str.ofString "HtmlFault") Bool.true (List.nil) (List.cons (Value.ref 79) (List.nil)) Bool.false (Option.none) Bool.false)) (List.toArray (List.cons (Option.some (Value.ref 50)) (List.cons (Option.none) (List.cons (Option.some (Value.str (Str.ofString "HtmlFault") 235)) (List.cons (Option.some (Value.str (Str.ofString "HtmlFault") 243)) (List.cons (Option.some (Value.builtin "Exception.__new__")) (List.cons (Option.some (Value.bool Bool.true)) (List.nil)))))))))) ::
  (nat_lit 67, (Obj.mk (Value.type "getset_descriptor") (Option.none) (Data.fields (List.toArray (List.cons (Value.str (Str.ofString "__weakref__") 257) (List.cons (Value.ref 66) (List.cons (Value.builtin "ExceptionGroup.__weakref__") (List.cons Value.none (List.nil))))))) (List.toArray (List.nil)))) ::
  (nat_lit 70, (Obj.mk (Value.type "tuple") (Option.none) (Data.seq (List.toArray (List.cons (Value.ref 66) (List.nil))) 0) (List.toArray (List.nil)))) ::
  (nat_lit 77, (Obj.mk (Value.type "tuple") (Option.none) (Data.seq (List.toArray (List.nil)) 0) (List.toArray (List.nil)))) ::
  (nat_lit 78, (Obj.mk (Value.type "dict") (Option.none) (Data.dict (List.toArray (List.cons (DictEntry.mk (PyData.keyHash P (Str.ofString "__module__")) (Value.str (Str.ofString "__module__") 271) (Value.str (Str.ofString "htmltree.faults") 233)) (List.cons (DictEntry.mk (PyData.keyHash P (Str.ofString "__firstlineno__")) (Value.str (Str.ofString "__firstlineno__") 275) (Value.int (50 : Int) 274)) (List.cons (DictEntry.mk (PyData.keyHash P (Str.ofString "__static_attributes__")) (Value.str (Str.ofString "__static_attributes__") 276) (Value.ref 77)) (List.cons (DictEntry.mk (PyData.keyHash P (Str.ofString "__doc__")) (Value.str (Str.ofString "__doc__") 277) Value.none) (List.nil)))))) 2) (List.toArray (List.nil)))) ::
  (nat_lit 79, (Obj.mk (Value.type "type") (Option.none) (Data.cls (ClassData.mk (Str.ofString "Misused") (List.cons (Value.ref 66) (List.nil)) (List.cons (Value.ref 79) (List.cons (Value.ref 66) (List.cons (Value.type "Exception") (List.cons (Value.type "BaseException") (List.cons (Value.type "object") (List.nil)))))) 78 (Str.ofString "Misused") Bool.true (List.nil) (List.nil) Bool.false (Option.none) Bool.false)) (List.toArray (List.cons (Option.some (Value.ref 70)) (List.cons (Option.none) (List.cons (Option.some (Value.str (Str.ofString "Misused") 264)) (List.cons (Option.some (Value.str (Str.ofString "Misused") 272)) (List.cons (Option.some (Value.builtin "Exception.__new__")) (List.cons (Option.some (Value.bool Bool.true)) (List.nil)))))))))) ::
  (nat_lit 89, (Obj.mk (Value.type "tuple") (Option.none) (Data.seq (List.toArray (List.nil)) 0) (List.toArray (List.nil)))) ::
  (nat_lit 91, (Obj.mk (Value.type "tuple") (Option.none) (Data.seq (List.toArray (List.cons (Value.str (Str.ofString "self") 297) (List.cons (Value.str (Str.ofString "tree") 298) (List.nil)))) 0) (List.toArray (List.nil)))) ::
  (nat_lit 92, (Obj.mk (Value.type "tuple") (Option.none) (Data.seq (List.toArray (List.nil)) 0) (List.toArray (List.nil)))) ::
  (nat_lit 94, (Obj.mk (Value.type "code") (Option.none) (Data.fields (List.toArray (List.cons (Value.str (Str.ofString "__init__") 294) (List.cons (Value.str (Str.ofString "Formatting.__init__") 295) (List.cons (Value.str (Str.ofString "/claim/cut.py") 296) (List.cons (Value.int (55 : Int) 0) (List.cons (Value.int (2 : Int) 0) (List.cons (Value.int (0 : Int) 0) (List.cons (Value.int (0 : Int) 0) (List.cons (Value.int (3 : Int) 0) (List.cons (Value.ref 89) (List.cons (Value.bool Bool.true) (List.cons (Value.int (181 : Int) 0) (List.cons (Value.ref 90) (List.cons Value.none (List.cons (Value.ref 91) (List.cons (Value.ref 92) (List.cons (Value.ref 93) (List.cons (Value.int (299 : Int) 0) (List.cons (Value.int (55 : Int) 0) (List.cons (Value.str (Str.ofString "/claim/cut.py") 300) (List.nil)))))))))))))))))))))) (List.toArray (List.nil)))) ::
  (nat_lit 95, fo95) ::
  (nat_lit 96, (Obj.mk (Value.type "tuple") (Option.none) (Data.seq (List.toArray (List.nil)) 0) (List.toArray (List.nil)))) ::
  (nat_lit 98, (Obj.mk (Value.type "tuple") (Option.none) (Data.seq (List.toArray (List.cons (Value.str (Str.ofString "self") 305) (List.cons (Value.str (Str.ofString "node") 306) (List.nil)))) 0) (List.toArray (List.nil)))) ::
  (nat_lit 99, (Obj.mk (Value.type "tuple") (Option.none) (Data.seq (List.toArray (List.nil)) 0) (List.toArray (List.nil)))) ::
  (nat_lit 101, (Obj.mk (Value.type "code") (Option.none) (Data.fields (List.toArray (List.cons (Value.str (Str.ofString "push") 302) (List.cons (Value.str (Str.ofString "Formatting.push") 303) (List.cons (Value.str (Str.ofString "/claim/cut.py") 304) (List.cons (Value.int (59 : Int) 0) (List.cons (Value.int (2 : Int) 0) (List.cons (Value.int (0 : Int) 0) (List.cons (Value.int (0 : Int) 0) (List.cons (Value.int (3 : Int) 0) (List.cons (Value.ref 96) (List.cons (Value.bool Bool.true) (List.cons (Value.int (181 : Int) 0) (List.cons (Value.ref 97) (List.cons Value.none (List.cons (Value.ref 98) (List.cons (Value.ref 99) (List.cons (Value.ref 100) (List.cons (Value.int (307 : Int) 0) (List.cons (Value.int (59 : Int) 0) (List.cons (Value.str (Str.ofString "/claim/cut.py") 308) (List.nil)))))))))))))))))))))) (List.toArray (List.nil)))) ::
  (nat_lit 102, fo102) ::
  (nat_lit 103, (Obj.mk (Value.type "tuple") (Option.none) (Data.seq (List.toArray (List.nil)) 0) (List.toArray (List.nil)))) ::
  (nat_lit 105, (Obj.mk (Value.type "tuple") (Option.none) (Data.seq (List.toArray (List.cons (Value.str (Str.ofString "self") 313) (List.nil))) 0) (List.toArray (List.nil)))) ::
  (nat_lit 106, (Obj.mk (Value.type "tuple") (Option.none) (Data.seq (List.toArray (List.nil)) 0) (List.toArray (List.nil)))) ::
  (nat_lit 108, (Obj.mk (Value.type "code") (Option.none) (Data.fields (List.toArray (List.cons (Value.str (Str.ofString "mark") 310) (List.cons (Value.str (Str.ofString "Formatting.mark") 311) (List.cons (Value.str (Str.ofString "/claim/cut.py") 312) (List.cons (Value.int (62 : Int) 0) (List.cons (Value.int (1 : Int) 0) (List.cons (Value.int (0 : Int) 0) (List.cons (Value.int (0 : Int) 0) (List.cons (Value.int (3 : Int) 0) (List.cons (Value.ref 103) (List.cons (Value.bool Bool.true) (List.cons (Value.int (181 : Int) 0) (List.cons (Value.ref 104) (List.cons Value.none (List.cons (Value.ref 105) (List.cons (Value.ref 106) (List.cons (Value.ref 107) (List.cons (Value.int (314 : Int) 0) (List.cons (Value.int (62 : Int) 0) (List.cons (Value.str (Str.ofString "/claim/cut.py") 315) (List.nil)))))))))))))))))))))) (List.toArray (List.nil)))) ::
  (nat_lit 109, fo109) ::
  (nat_lit 110, (Obj.mk (Value.type "tuple") (Option.none) (Data.seq (List.toArray (List.nil)) 0) (List.toArray (List.nil)))) ::
  (nat_lit 112, (Obj.mk (Value.type "tuple") (Option.none) (Data.seq (List.toArray (List.cons (Value.str (Str.ofString "self") 320) (List.nil))) 0) (List.toArray (List.nil)))) ::
  (nat_lit 113, (Obj.mk (Value.type "tuple") (Option.none) (Data.seq (List.toArray (List.nil)) 0) (List.toArray (List.nil)))) ::
  (nat_lit 115, (Obj.mk (Value.type "code") (Option.none) (Data.fields (List.toArray (List.cons (Value.str (Str.ofString "clear_to_mark") 317) (List.cons (Value.str (Str.ofString "Formatting.clear_to_mark") 318) (List.cons (Value.str (Str.ofString "/claim/cut.py") 319) (List.cons (Value.int (65 : Int) 0) (List.cons (Value.int (1 : Int) 0) (List.cons (Value.int (0 : Int) 0) (List.cons (Value.int (0 : Int) 0) (List.cons (Value.int (3 : Int) 0) (List.cons (Value.ref 110) (List.cons (Value.bool Bool.true) (List.cons (Value.int (181 : Int) 0) (List.cons (Value.ref 111) (List.cons Value.none (List.cons (Value.ref 112) (List.cons (Value.ref 113) (List.cons (Value.ref 114) (List.cons (Value.int (321 : Int) 0) (List.cons (Value.int (65 : Int) 0) (List.cons (Value.str (Str.ofString "/claim/cut.py") 322) (List.nil)))))))))))))))))))))) (List.toArray (List.nil)))) ::
  (nat_lit 116, fo116) ::
  (nat_lit 117, (Obj.mk (Value.type "tuple") (Option.none) (Data.seq (List.toArray (List.nil)) 0) (List.toArray (List.nil)))) ::
  (nat_lit 119, (Obj.mk (Value.type "tuple") (Option.none) (Data.seq (List.toArray (List.cons (Value.str (Str.ofString "self") 327) (List.cons (Value.str (Str.ofString "name") 328) (List.nil)))) 0) (List.toArray (List.nil)))) ::
  (nat_lit 120, (Obj.mk (Value.type "tuple") (Option.none) (Data.seq (List.toArray (List.nil)) 0) (List.toArray (List.nil)))) ::
  (nat_lit 122, (Obj.mk (Value.type "code") (Option.none) (Data.fields (List.toArray (List.cons (Value.str (Str.ofString "find") 324) (List.cons (Value.str (Str.ofString "Formatting.find") 325) (List.cons (Value.str (Str.ofString "/claim/cut.py") 326) (List.cons (Value.int (68 : Int) 0) (List.cons (Value.int (2 : Int) 0) (List.cons (Value.int (0 : Int) 0) (List.cons (Value.int (0 : Int) 0) (List.cons (Value.int (3 : Int) 0) (List.cons (Value.ref 117) (List.cons (Value.bool Bool.true) (List.cons (Value.int (181 : Int) 0) (List.cons (Value.ref 118) (List.cons Value.none (List.cons (Value.ref 119) (List.cons (Value.ref 120) (List.cons (Value.ref 121) (List.cons (Value.int (329 : Int) 0) (List.cons (Value.int (68 : Int) 0) (List.cons (Value.str (Str.ofString "/claim/cut.py") 330) (List.nil)))))))))))))))))))))) (List.toArray (List.nil)))) ::
  (nat_lit 123, fo123) ::
  (nat_lit 124, (Obj.mk (Value.type "tuple") (Option.none) (Data.seq (List.toArray (List.nil)) 0) (List.toArray (List.nil)))) ::
  (nat_lit 126, (Obj.mk (Value.type "tuple") (Option.none) (Data.seq (List.toArray (List.cons (Value.str (Str.ofString "self") 335) (List.cons (Value.str (Str.ofString "node") 336) (List.nil)))) 0) (List.toArray (List.nil)))) ::
  (nat_lit 127, (Obj.mk (Value.type "tuple") (Option.none) (Data.seq (List.toArray (List.nil)) 0) (List.toArray (List.nil)))) ::
  (nat_lit 129, (Obj.mk (Value.type "code") (Option.none) (Data.fields (List.toArray (List.cons (Value.str (Str.ofString "has") 332) (List.cons (Value.str (Str.ofString "Formatting.has") 333) (List.cons (Value.str (Str.ofString "/claim/cut.py") 334) (List.cons (Value.int (71 : Int) 0) (List.cons (Value.int (2 : Int) 0) (List.cons (Value.int (0 : Int) 0) (List.cons (Value.int (0 : Int) 0) (List.cons (Value.int (3 : Int) 0) (List.cons (Value.ref 124) (List.cons (Value.bool Bool.true) (List.cons (Value.int (181 : Int) 0) (List.cons (Value.ref 125) (List.cons Value.none (List.cons (Value.ref 126) (List.cons (Value.ref 127) (List.cons (Value.ref 128) (List.cons (Value.int (337 : Int) 0) (List.cons (Value.int (71 : Int) 0) (List.cons (Value.str (Str.ofString "/claim/cut.py") 338) (List.nil)))))))))))))))))))))) (List.toArray (List.nil)))) ::
  (nat_lit 130, fo130) ::
  (nat_lit 131, (Obj.mk (Value.type "tuple") (Option.none) (Data.seq (List.toArray (List.nil)) 0) (List.toArray (List.nil)))) ::
  (nat_lit 133, (Obj.mk (Value.type "tuple") (Option.none) (Data.seq (List.toArray (List.cons (Value.str (Str.ofString "self") 343) (List.cons (Value.str (Str.ofString "node") 344) (List.nil)))) 0) (List.toArray (List.nil)))) ::
  (nat_lit 134, (Obj.mk (Value.type "tuple") (Option.none) (Data.seq (List.toArray (List.nil)) 0) (List.toArray (List.nil)))) ::
  (nat_lit 136, (Obj.mk (Value.type "code") (Option.none) (Data.fields (List.toArray (List.cons (Value.str (Str.ofString "place") 340) (List.cons (Value.str (Str.ofString "Formatting.place") 341) (List.cons (Value.str (Str.ofString "/claim/cut.py") 342) (List.cons (Value.int (74 : Int) 0) (List.cons (Value.int (2 : Int) 0) (List.cons (Value.int (0 : Int) 0) (List.cons (Value.int (0 : Int) 0) (List.cons (Value.int (3 : Int) 0) (List.cons (Value.ref 131) (List.cons (Value.bool Bool.true) (List.cons (Value.int (181 : Int) 0) (List.cons (Value.ref 132) (List.cons Value.none (List.cons (Value.ref 133) (List.cons (Value.ref 134) (List.cons (Value.ref 135) (List.cons (Value.int (345 : Int) 0) (List.cons (Value.int (74 : Int) 0) (List.cons (Value.str (Str.ofString "/claim/cut.py") 346) (List.nil)))))))))))))))))))))) (List.toArray (List.nil)))) ::
  (nat_lit 137, fo137) ::
  (nat_lit 138, (Obj.mk (Value.type "tuple") (Option.none) (Data.seq (List.toArray (List.nil)) 0) (List.toArray (List.nil)))) ::
  (nat_lit 140, (Obj.mk (Value.type "tuple") (Option.none) (Data.seq (List.toArray (List.cons (Value.str (Str.ofString "self") 351) (List.cons (Value.str (Str.ofString "node") 352) (List.nil)))) 0) (List.toArray (List.nil)))) ::
  (nat_lit 141, (Obj.mk (Value.type "tuple") (Option.none) (Data.seq (List.toArray (List.nil)) 0) (List.toArray (List.nil)))) ::
  (nat_lit 143, (Obj.mk (Value.type "code") (Option.none) (Data.fields (List.toArray (List.cons (Value.str (Str.ofString "remove") 348) (List.cons (Value.str (Str.ofString "Formatting.remove") 349) (List.cons (Value.str (Str.ofString "/claim/cut.py") 350) (List.cons (Value.int (79 : Int) 0) (List.cons (Value.int (2 : Int) 0) (List.cons (Value.int (0 : Int) 0) (List.cons (Value.int (0 : Int) 0) (List.cons (Value.int (3 : Int) 0) (List.cons (Value.ref 138) (List.cons (Value.bool Bool.true) (List.cons (Value.int (181 : Int) 0) (List.cons (Value.ref 139) (List.cons Value.none (List.cons (Value.ref 140) (List.cons (Value.ref 141) (List.cons (Value.ref 142) (List.cons (Value.int (353 : Int) 0) (List.cons (Value.int (79 : Int) 0) (List.cons (Value.str (Str.ofString "/claim/cut.py") 354) (List.nil)))))))))))))))))))))) (List.toArray (List.nil)))) ::
  (nat_lit 144, fo144) ::
  (nat_lit 145, (Obj.mk (Value.type "tuple") (Option.none) (Data.seq (List.toArray (List.nil)) 0) (List.toArray (List.nil)))) ::
  (nat_lit 147, (Obj.mk (Value.type "tuple") (Option.none) (Data.seq (List.toArray (List.cons (Value.str (Str.ofString "self") 359) (List.cons (Value.str (Str.ofString "old") 360) (List.cons (Value.str (Str.ofString "new") 361) (List.nil))))) 0) (List.toArray (List.nil)))) ::
  (nat_lit 148, (Obj.mk (Value.type "tuple") (Option.none) (Data.seq (List.toArray (List.nil)) 0) (List.toArray (List.nil)))) ::
  (nat_lit 150, (Obj.mk (Value.type "code") (Option.none) (Data.fields (List.toArray (List.cons (Value.str (Str.ofString "replace") 356) (List.cons (Value.str (Str.ofString "Formatting.replace") 357) (List.cons (Value.str (Str.ofString "/claim/cut.py") 358) (List.cons (Value.int (83 : Int) 0) (List.cons (Value.int (3 : Int) 0) (List.cons (Value.int (0 : Int) 0) (List.cons (Value.int (0 : Int) 0) (List.cons (Value.int (3 : Int) 0) (List.cons (Value.ref 145) (List.cons (Value.bool Bool.true) (List.cons (Value.int (181 : Int) 0) (List.cons (Value.ref 146) (List.cons Value.none (List.cons (Value.ref 147) (List.cons (Value.ref 148) (List.cons (Value.ref 149) (List.cons (Value.int (362 : Int) 0) (List.cons (Value.int (83 : Int) 0) (List.cons (Value.str (Str.ofString "/claim/cut.py") 363) (List.nil)))))))))))))))))))))) (List.toArray (List.nil)))) ::
  (nat_lit 151, fo151) ::
  (nat_lit 152, (Obj.mk (Value.type "tuple") (Option.none) (Data.seq (List.toArray (List.nil)) 0) (List.toArray (List.nil)))) ::
  (nat_lit 154, (Obj.mk (Value.type "tuple") (Option.none) (Data.seq (List.toArray (List.cons (Value.str (Str.ofString "self") 368) (List.cons (Value.str (Str.ofString "place") 369) (List.cons (Value.str (Str.ofString "node") 370) (List.nil))))) 0) (List.toArray (List.nil)))) ::
  (nat_lit 155, (Obj.mk (Value.type "tuple") (Option.none) (Data.seq (List.toArray (List.nil)) 0) (List.toArray (List.nil)))) ::
  (nat_lit 157, (Obj.mk (Value.type "code") (Option.none) (Data.fields (List.toArray (List.cons (Value.str (Str.ofString "put_at") 365) (List.cons (Value.str (Str.ofString "Formatting.put_at") 366) (List.cons (Value.str (Str.ofString "/claim/cut.py") 367) (List.cons (Value.int (86 : Int) 0) (List.cons (Value.int (3 : Int) 0) (List.cons (Value.int (0 : Int) 0) (List.cons (Value.int (0 : Int) 0) (List.cons (Value.int (3 : Int) 0) (List.cons (Value.ref 152) (List.cons (Value.bool Bool.true) (List.cons (Value.int (181 : Int) 0) (List.cons (Value.ref 153) (List.cons Value.none (List.cons (Value.ref 154) (List.cons (Value.ref 155) (List.cons (Value.ref 156) (List.cons (Value.int (371 : Int) 0) (List.cons (Value.int (86 : Int) 0) (List.cons (Value.str (Str.ofString "/claim/cut.py") 372) (List.nil)))))))))))))))))))))) (List.toArray (List.nil)))) ::
  (nat_lit 158, fo158) ::
  (nat_lit 159, (Obj.mk (Value.type "tuple") (Option.none) (Data.seq (List.toArray (List.cons (Value.str (Str.ofString "items") 374) (List.cons (Value.str (Str.ofString "tree") 375) (List.nil)))) 0) (List.toArray (List.nil)))) ::
  (nat_lit 160, (Obj.mk (Value.type "dict") (Option.none) (Data.dict (List.toArray (List.cons (DictEntry.mk (PyData.keyHash P (Str.ofString "__module__")) (Value.str (Str.ofString "__module__") 289) (Value.str (Str.ofString "htmltree.formatting") 280)) (List.cons (DictEntry.mk (PyData.keyHash P (Str.ofString "__firstlineno__")) (Value.str (Str.ofString "__firstlineno__") 293) (Value.int (53 : Int) 292)) (List.cons (DictEntry.mk (PyData.keyHash P (Str.ofString "__init__")) (Value.str (Str.ofString "__init__") 301) (Value.ref 95)) (List.cons (DictEntry.mk (PyData.keyHash P (Str.ofString "push")) (Value.str (Str.ofString "push") 309) (Value.ref 102)) (List.cons (DictEntry.mk (PyData.keyHash P (Str.ofString "mark")) (Value.str (Str.ofString "mark") 316) (Value.ref 109)) (List.cons (DictEntry.mk (PyData.keyHash P (Str.ofString "clear_to_mark")) (Value.str (Str.ofString "clear_to_mark") 323) (Value.ref 116)) (List.cons (DictEntry.mk (PyData.keyHash P (Str.ofString "find")) (Value.str (Str.ofString "find") 331) (Value.ref 123)) (List.cons (DictEntry.mk (PyData.keyHash P (Str.ofString "has")) (Value.str (Str.ofString "has") 339) (Value.ref 130)) (List.cons (DictEntry.mk (PyData.keyHash P (Str.ofString "place")) (Value.str (Str.ofString "place") 347) (Value.ref 137)) (List.cons (DictEntry.mk (PyData.keyHash P (Str.ofString "remove")) (Value.str (Str.ofString "remove") 355) (Value.ref 144)) (List.cons (DictEntry.mk (PyData.keyHash P (Str.ofString "replace")) (Value.str (Str.ofString "replace") 364) (Value.ref 151)) (List.cons (DictEntry.mk (PyData.keyHash P (Str.ofString "put_at")) (Value.str (Str.ofString "put_at") 373) (Value.ref 158)) (List.cons (DictEntry.mk (PyData.keyHash P (Str.ofString "__static_attributes__")) (Value.str (Str.ofString "__static_attributes__") 376) (Value.ref 159)) (List.cons (DictEntry.mk (PyData.keyHash P (Str.ofString "__dict__")) (Value.str (Str.ofString "__dict__") 378) (Value.ref 162)) (List.cons (DictEntry.mk (PyData.keyHash P (Str.ofString "__weakref__")) (Value.str (Str.ofString "__weakref__") 380) (Value.ref 163)) (List.cons (DictEntry.mk (PyData.keyHash P (Str.ofString "__doc__")) (Value.str (Str.ofString "__doc__") 381) Value.none) (List.nil)))))))))))))))))) 4) (List.toArray (List.nil)))) ::
  (nat_lit 161, (Obj.mk (Value.type "type") (Option.none) (Data.cls (ClassData.mk (Str.ofString "Formatting") (List.cons (Value.type "object") (List.nil)) (List.cons (Value.ref 161) (List.cons (Value.type "object") (List.nil))) 160 (Str.ofString "Formatting") Bool.true (List.nil) (List.nil) Bool.false (Option.none) Bool.false)) (List.toArray (List.cons (Option.none) (List.cons (Option.none) (List.cons (Option.some (Value.str (Str.ofString "Formatting") 282)) (List.cons (Option.some (Value.str (Str.ofString "Formatting") 290)) (List.cons (Option.some (Value.builtin "object.__new__")) (List.cons (Option.some (Value.bool Bool.true)) (List.nil)))))))))) ::
  (nat_lit 162, (Obj.mk (Value.type "getset_descriptor") (Option.none) (Data.fields (List.toArray (List.cons (Value.str (Str.ofString "__dict__") 377) (List.cons (Value.ref 161) (List.cons (Value.builtin "function.__dict__") (List.cons (Value.builtin "function.__dict__#set") (List.nil))))))) (List.toArray (List.nil)))) ::
  (nat_lit 163, (Obj.mk (Value.type "getset_descriptor") (Option.none) (Data.fields (List.toArray (List.cons (Value.str (Str.ofString "__weakref__") 379) (List.cons (Value.ref 161) (List.cons (Value.builtin "ExceptionGroup.__weakref__") (List.cons Value.none (List.nil))))))) (List.toArray (List.nil)))) ::
  (nat_lit 173, (Obj.mk (Value.type "tuple") (Option.none) (Data.seq (List.toArray (List.nil)) 0) (List.toArray (List.nil)))) ::
  (nat_lit 175, (Obj.mk (Value.type "tuple") (Option.none) (Data.seq (List.toArray (List.cons (Value.str (Str.ofString "self") 401) (List.cons (Value.str (Str.ofString "tree") 402) (List.nil)))) 0) (List.toArray (List.nil)))) ::
  (nat_lit 176, (Obj.mk (Value.type "tuple") (Option.none) (Data.seq (List.toArray (List.nil)) 0) (List.toArray (List.nil)))) ::
  (nat_lit 178, (Obj.mk (Value.type "code") (Option.none) (Data.fields (List.toArray (List.cons (Value.str (Str.ofString "__init__") 398) (List.cons (Value.str (Str.ofString "OpenStack.__init__") 399) (List.cons (Value.str (Str.ofString "/claim/cut.py") 400) (List.cons (Value.int (91 : Int) 0) (List.cons (Value.int (2 : Int) 0) (List.cons (Value.int (0 : Int) 0) (List.cons (Value.int (0 : Int) 0) (List.cons (Value.int (3 : Int) 0) (List.cons (Value.ref 173) (List.cons (Value.bool Bool.true) (List.cons (Value.int (181 : Int) 0) (List.cons (Value.ref 174) (List.cons Value.none (List.cons (Value.ref 175) (List.cons (Value.ref 176) (List.cons (Value.ref 177) (List.cons (Value.int (403 : Int) 0) (List.cons (Value.int (91 : Int) 0) (List.cons (Value.str (Str.ofString "/claim/cut.py") 404) (List.nil)))))))))))))))))))))) (List.toArray (List.nil)))) ::
  (nat_lit 179, fo179) ::
  (nat_lit 180, (Obj.mk (Value.type "tuple") (Option.none) (Data.seq (List.toArray (List.nil)) 0) (List.toArray (List.nil)))) ::
  (nat_lit 182, (Obj.mk (Value.type "tuple") (Option.none) (Data.seq (List.toArray (List.cons (Value.str (Str.ofString "self") 409) (List.cons (Value.str (Str.ofString "node") 410) (List.nil)))) 0) (List.toArray (List.nil)))) ::
  (nat_lit 183, (Obj.mk (Value.type "tuple") (Option.none) (Data.seq (List.toArray (List.nil)) 0) (List.toArray (List.nil)))) ::
  (nat_lit 185, (Obj.mk (Value.type "code") (Option.none) (Data.fields (List.toArray (List.cons (Value.str (Str.ofString "push") 406) (List.cons (Value.str (Str.ofString "OpenStack.push") 407) (List.cons (Value.str (Str.ofString "/claim/cut.py") 408) (List.cons (Value.int (95 : Int) 0) (List.cons (Value.int (2 : Int) 0) (List.cons (Value.int (0 : Int) 0) (List.cons (Value.int (0 : Int) 0) (List.cons (Value.int (3 : Int) 0) (List.cons (Value.ref 180) (List.cons (Value.bool Bool.true) (List.cons (Value.int (181 : Int) 0) (List.cons (Value.ref 181) (List.cons Value.none (List.cons (Value.ref 182) (List.cons (Value.ref 183) (List.cons (Value.ref 184) (List.cons (Value.int (411 : Int) 0) (List.cons (Value.int (95 : Int) 0) (List.cons (Value.str (Str.ofString "/claim/cut.py") 412) (List.nil)))))))))))))))))))))) (List.toArray (List.nil)))) ::
  (nat_lit 186, fo186) ::
  (nat_lit 187, (Obj.mk (Value.type "tuple") (Option.none) (Data.seq (List.toArray (List.nil)) 0) (List.toArray (List.nil)))) ::
  (nat_lit 189, (Obj.mk (Value.type "tuple") (Option.none) (Data.seq (List.toArray (List.cons (Value.str (Str.ofString "self") 417) (List.nil))) 0) (List.toArray (List.nil)))) ::
  (nat_lit 190, (Obj.mk (Value.type "tuple") (Option.none) (Data.seq (List.toArray (List.nil)) 0) (List.toArray (List.nil)))) ::
  (nat_lit 192, (Obj.mk (Value.type "code") (Option.none) (Data.fields (List.toArray (List.cons (Value.str (Str.ofString "pop") 414) (List.cons (Value.str (Str.ofString "OpenStack.pop") 415) (List.cons (Value.str (Str.ofString "/claim/cut.py") 416) (List.cons (Value.int (98 : Int) 0) (List.cons (Value.int (1 : Int) 0) (List.cons (Value.int (0 : Int) 0) (List.cons (Value.int (0 : Int) 0) (List.cons (Value.int (3 : Int) 0) (List.cons (Value.ref 187) (List.cons (Value.bool Bool.true) (List.cons (Value.int (181 : Int) 0) (List.cons (Value.ref 188) (List.cons Value.none (List.cons (Value.ref 189) (List.cons (Value.ref 190) (List.cons (Value.ref 191) (List.cons (Value.int (418 : Int) 0) (List.cons (Value.int (98 : Int) 0) (List.cons (Value.str (Str.ofString "/claim/cut.py") 419) (List.nil)))))))))))))))))))))) (List.toArray (List.nil)))) ::
  (nat_lit 193, fo193) ::
  (nat_lit 194, (Obj.mk (Value.type "tuple") (Option.none) (Data.seq (List.toArray (List.nil)) 0) (List.toArray (List.nil)))) ::
  (nat_lit 196, (Obj.mk (Value.type "tuple") (Option.none) (Data.seq (List.toArray (List.cons (Value.str (Str.ofString "self") 424) (List.nil))) 0) (List.toArray (List.nil)))) ::
  (nat_lit 197, (Obj.mk (Value.type "tuple") (Option.none) (Data.seq (List.toArray (List.nil)) 0) (List.toArray (List.nil)))) ::
  (nat_lit 199, (Obj.mk (Value.type "code") (Option.none) (Data.fields (List.toArray (List.cons (Value.str (Str.ofString "current") 421) (List.cons (Value.str (Str.ofString "OpenStack.current") 422) (List.cons (Value.str (Str.ofString "/claim/cut.py") 423) (List.cons (Value.int (101 : Int) 0) (List.cons (Value.int (1 : Int) 0) (List.cons (Value.int (0 : Int) 0) (List.cons (Value.int (0 : Int) 0) (List.cons (Value.int (3 : Int) 0) (List.cons (Value.ref 194) (List.cons (Value.bool Bool.true) (List.cons (Value.int (181 : Int) 0) (List.cons (Value.ref 195) (List.cons Value.none (List.cons (Value.ref 196) (List.cons (Value.ref 197) (List.cons (Value.ref 198) (List.cons (Value.int (425 : Int) 0) (List.cons (Value.int (101 : Int) 0) (List.cons (Value.str (Str.ofString "/claim/cut.py") 426) (List.nil)))))))))))))))))))))) (List.toArray (List.nil)))) ::
  (nat_lit 200, fo200) ::
  (nat_lit 201, (Obj.mk (Value.type "tuple") (Option.none) (Data.seq (List.toArray (List.nil)) 0) (List.toArray (List.nil)))) ::
  (nat_lit 203, (Obj.mk (Value.type "tuple") (Option.none) (Data.seq (List.toArray (List.cons (Value.str (Str.ofString "self") 431) (List.nil))) 0) (List.toArray (List.nil)))) ::
  (nat_lit 204, (Obj.mk (Value.type "tuple") (Option.none) (Data.seq (List.toArray (List.nil)) 0) (List.toArray (List.nil)))) ::
  (nat_lit 206, (Obj.mk (Value.type "code") (Option.none) (Data.fields (List.toArray (List.cons (Value.str (Str.ofString "many") 428) (List.cons (Value.str (Str.ofString "OpenStack.many") 429) (List.cons (Value.str (Str.ofString "/claim/cut.py") 430) (List.cons (Value.int (106 : Int) 0) (List.cons (Value.int (1 : Int) 0) (List.cons (Value.int (0 : Int) 0) (List.cons (Value.int (0 : Int) 0) (List.cons (Value.int (3 : Int) 0) (List.cons (Value.ref 201) (List.cons (Value.bool Bool.true) (List.cons (Value.int (181 : Int) 0) (List.cons (Value.ref 202) (List.cons Value.none (List.cons (Value.ref 203) (List.cons (Value.ref 204) (List.cons (Value.ref 205) (List.cons (Value.int (432 : Int) 0) (List.cons (Value.int (106 : Int) 0) (List.cons (Value.str (Str.ofString "/claim/cut.py") 433) (List.nil)))))))))))))))))))))) (List.toArray (List.nil)))) ::
  (nat_lit 207, fo207) ::
  (nat_lit 208, (Obj.mk (Value.type "tuple") (Option.none) (Data.seq (List.toArray (List.nil)) 0) (List.toArray (List.nil)))) ::
  (nat_lit 210, (Obj.mk (Value.type "tuple") (Option.none) (Data.seq (List.toArray (List.cons (Value.str (Str.ofString "self") 438) (List.cons (Value.str (Str.ofString "node") 439) (List.nil)))) 0) (List.toArray (List.nil)))) ::
  (nat_lit 211, (Obj.mk (Value.type "tuple") (Option.none) (Data.seq (List.toArray (List.nil)) 0) (List.toArray (List.nil)))) ::
  (nat_lit 213, (Obj.mk (Value.type "code") (Option.none) (Data.fields (List.toArray (List.cons (Value.str (Str.ofString "has") 435) (List.cons (Value.str (Str.ofString "OpenStack.has") 436) (List.cons (Value.str (Str.ofString "/claim/cut.py") 437) (List.cons (Value.int (109 : Int) 0) (List.cons (Value.int (2 : Int) 0) (List.cons (Value.int (0 : Int) 0) (List.cons (Value.int (0 : Int) 0) (List.cons (Value.int (3 : Int) 0) (List.cons (Value.ref 208) (List.cons (Value.bool Bool.true) (List.cons (Value.int (181 : Int) 0) (List.cons (Value.ref 209) (List.cons Value.none (List.cons (Value.ref 210) (List.cons (Value.ref 211) (List.cons (Value.ref 212) (List.cons (Value.int (440 : Int) 0) (List.cons (Value.int (109 : Int) 0) (List.cons (Value.str (Str.ofString "/claim/cut.py") 441) (List.nil)))))))))))))))))))))) (List.toArray (List.nil)))) ::
  (nat_lit 214, fo214) ::
  (nat_lit 215, (Obj.mk (Value.type "tuple") (Option.none) (Data.seq (List.toArray (List.nil)) 0) (List.toArray (List.nil)))) ::
  (nat_lit 217, (Obj.mk (Value.type "tuple") (Option.none) (Data.seq (List.toArray (List.cons (Value.str (Str.ofString "self") 446) (List.cons (Value.str (Str.ofString "node") 447) (List.nil)))) 0) (List.toArray (List.nil)))) ::
  (nat_lit 218, (Obj.mk (Value.type "tuple") (Option.none) (Data.seq (List.toArray (List.nil)) 0) (List.toArray (List.nil)))) ::
  (nat_lit 220, (Obj.mk (Value.type "code") (Option.none) (Data.fields (List.toArray (List.cons (Value.str (Str.ofString "remove") 443) (List.cons (Value.str (Str.ofString "OpenStack.remove") 444) (List.cons (Value.str (Str.ofString "/claim/cut.py") 445) (List.cons (Value.int (112 : Int) 0) (List.cons (Value.int (2 : Int) 0) (List.cons (Value.int (0 : Int) 0) (List.cons (Value.int (0 : Int) 0) (List.cons (Value.int (3 : Int) 0) (List.cons (Value.ref 215) (List.cons (Value.bool Bool.true) (List.cons (Value.int (181 : Int) 0) (List.cons (Value.ref 216) (List.cons Value.none (List.cons (Value.ref 217) (List.cons (Value.ref 218) (List.cons (Value.ref 219) (List.cons (Value.int (448 : Int) 0) (List.cons (Value.int (112 : Int) 0) (List.cons (Value.str (Str.ofString "/claim/cut.py") 449) (List.nil)))))))))))))))))))))) (List.toArray (List.nil)))) ::
  (nat_lit 221, fo221) ::
  (nat_lit 222, (Obj.mk (Value.type "tuple") (Option.none) (Data.seq (List.toArray (List.nil)) 0) (List.toArray (List.nil)))) ::
  (nat_lit 224, (Obj.mk (Value.type "tuple") (Option.none) (Data.seq (List.toArray (List.cons (Value.str (Str.ofString "self") 454) (List.cons (Value.str (Str.ofString "node") 455) (List.nil)))) 0) (List.toArray (List.nil)))) ::
  (nat_lit 225, (Obj.mk (Value.type "tuple") (Option.none) (Data.seq (List.toArray (List.nil)) 0) (List.toArray (List.nil)))) ::
  (nat_lit 227, (Obj.mk (Value.type "code") (Option.none) (Data.fields (List.toArray (List.cons (Value.str (Str.ofString "place") 451) (List.cons (Value.str (Str.ofString "OpenStack.place") 452) (List.cons (Value.str (Str.ofString "/claim/cut.py") 453) (List.cons (Value.int (116 : Int) 0) (List.cons (Value.int (2 : Int) 0) (List.cons (Value.int (0 : Int) 0) (List.cons (Value.int (0 : Int) 0) (List.cons (Value.int (3 : Int) 0) (List.cons (Value.ref 222) (List.cons (Value.bool Bool.true) (List.cons (Value.int (181 : Int) 0) (List.cons (Value.ref 223) (List.cons Value.none (List.cons (Value.ref 224) (List.cons (Value.ref 225) (List.cons (Value.ref 226) (List.cons (Value.int (456 : Int) 0) (List.cons (Value.int (116 : Int) 0) (List.cons (Value.str (Str.ofString "/claim/cut.py") 457) (List.nil)))))))))))))))))))))) (List.toArray (List.nil)))) ::
  (nat_lit 228, fo228) ::
  (nat_lit 229, (Obj.mk (Value.type "tuple") (Option.none) (Data.seq (List.toArray (List.nil)) 0) (List.toArray (List.nil)))) ::
  (nat_lit 231, (Obj.mk (Value.type "tuple") (Option.none) (Data.seq (List.toArray (List.cons (Value.str (Str.ofString "self") 462) (List.cons (Value.str (Str.ofString "place") 463) (List.cons (Value.str (Str.ofString "node") 464) (List.nil))))) 0) (List.toArray (List.nil)))) ::
  (nat_lit 232, (Obj.mk (Value.type "tuple") (Option.none) (Data.seq (List.toArray (List.nil)) 0) (List.toArray (List.nil)))) ::
  (nat_lit 234, (Obj.mk (Value.type "code") (Option.none) (Data.fields (List.toArray (List.cons (Value.str (Str.ofString "put_at") 459) (List.cons (Value.str (Str.ofString "OpenStack.put_at") 460) (List.cons (Value.str (Str.ofString "/claim/cut.py") 461) (List.cons (Value.int (121 : Int) 0) (List.cons (Value.int (3 : Int) 0) (List.cons (Value.int (0 : Int) 0) (List.cons (Value.int (0 : Int) 0) (List.cons (Value.int (3 : Int) 0) (List.cons (Value.ref 229) (List.cons (Value.bool Bool.true) (List.cons (Value.int (181 : Int) 0) (List.cons (Value.ref 230) (List.cons Value.none (List.cons (Value.ref 231) (List.cons (Value.ref 232) (List.cons (Value.ref 233) (List.cons (Value.int (465 : Int) 0) (List.cons (Value.int (121 : Int) 0) (List.cons (Value.str (Str.ofString "/claim/cut.py") 466) (List.nil)))))))))))))))))))))) (List.toArray (List.nil)))) ::
  (nat_lit 235, fo235) ::
  (nat_lit 236, (Obj.mk (Value.type "tuple") (Option.none) (Data.seq (List.toArray (List.nil)) 0) (List.toArray (List.nil)))) ::
  (nat_lit 238, (Obj.mk (Value.type "tuple") (Option.none) (Data.seq (List.toArray (List.cons (Value.str (Str.ofString "self") 471) (List.cons (Value.str (Str.ofString "node") 472) (List.nil)))) 0) (List.toArray (List.nil)))) ::
  (nat_lit 239, (Obj.mk (Value.type "tuple") (Option.none) (Data.seq (List.toArray (List.nil)) 0) (List.toArray (List.nil)))) ::
  (nat_lit 241, (Obj.mk (Value.type "code") (Option.none) (Data.fields (List.toArray (List.cons (Value.str (Str.ofString "name") 468) (List.cons (Value.str (Str.ofString "OpenStack.name") 469) (List.cons (Value.str (Str.ofString "/claim/cut.py") 470) (List.cons (Value.int (124 : Int) 0) (List.cons (Value.int (1 : Int) 0) (List.cons (Value.int (0 : Int) 0) (List.cons (Value.int (0 : Int) 0) (List.cons (Value.int (3 : Int) 0) (List.cons (Value.ref 236) (List.cons (Value.bool Bool.true) (List.cons (Value.int (181 : Int) 0) (List.cons (Value.ref 237) (List.cons Value.none (List.cons (Value.ref 238) (List.cons (Value.ref 239) (List.cons (Value.ref 240) (List.cons (Value.int (473 : Int) 0) (List.cons (Value.int (124 : Int) 0) (List.cons (Value.str (Str.ofString "/claim/cut.py") 474) (List.nil)))))))))))))))))))))) (List.toArray (List.nil)))) ::
  (nat_lit 242, fo242) ::
  (nat_lit 243, (Obj.mk (Value.type "tuple") (Option.none) (Data.seq (List.toArray (List.nil)) 0) (List.toArray (List.nil)))) ::
  (nat_lit 245, (Obj.mk (Value.type "tuple") (Option.none) (Data.seq (List.toArray (List.cons (Value.str (Str.ofString "self") 479) (List.cons (Value.str (Str.ofString "name") 480) (List.nil)))) 0) (List.toArray (List.nil)))) ::
  (nat_lit 246, (Obj.mk (Value.type "tuple") (Option.none) (Data.seq (List.toArray (List.nil)) 0) (List.toArray (List.nil)))) ::
  (nat_lit 248, (Obj.mk (Value.type "code") (Option.none) (Data.fields (List.toArray (List.cons (Value.str (Str.ofString "has_name") 476) (List.cons (Value.str (Str.ofString "OpenStack.has_name") 477) (List.cons (Value.str (Str.ofString "/claim/cut.py") 478) (List.cons (Value.int (130 : Int) 0) (List.cons (Value.int (2 : Int) 0) (List.cons (Value.int (0 : Int) 0) (List.cons (Value.int (0 : Int) 0) (List.cons (Value.int (3 : Int) 0) (List.cons (Value.ref 243) (List.cons (Value.bool Bool.true) (List.cons (Value.int (181 : Int) 0) (List.cons (Value.ref 244) (List.cons Value.none (List.cons (Value.ref 245) (List.cons (Value.ref 246) (List.cons (Value.ref 247) (List.cons (Value.int (481 : Int) 0) (List.cons (Value.int (130 : Int) 0) (List.cons (Value.str (Str.ofString "/claim/cut.py") 482) (List.nil)))))))))))))))))))))) (List.toArray (List.nil)))) ::
  (nat_lit 249, fo249) ::
  (nat_lit 250, (Obj.mk (Value.type "tuple") (Option.none) (Data.seq (List.toArray (List.nil)) 0) (List.toArray (List.nil)))) ::
  (nat_lit 252, (Obj.mk (Value.type "tuple") (Option.none) (Data.seq (List.toArray (List.cons (Value.str (Str.ofString "self") 487) (List.cons (Value.str (Str.ofString "names") 488) (List.nil)))) 0) (List.toArray (List.nil)))) ::
  (nat_lit 253, (Obj.mk (Value.type "tuple") (Option.none) (Data.seq (List.toArray (List.nil)) 0) (List.toArray (List.nil)))) ::
  (nat_lit 255, (Obj.mk (Value.type "code") (Option.none) (Data.fields (List.toArray (List.cons (Value.str (Str.ofString "pop_until") 484) (List.cons (Value.str (Str.ofString "OpenStack.pop_until") 485) (List.cons (Value.str (Str.ofString "/claim/cut.py") 486) (List.cons (Value.int (133 : Int) 0) (List.cons (Value.int (2 : Int) 0) (List.cons (Value.int (0 : Int) 0) (List.cons (Value.int (0 : Int) 0) (List.cons (Value.int (3 : Int) 0) (List.cons (Value.ref 250) (List.cons (Value.bool Bool.true) (List.cons (Value.int (181 : Int) 0) (List.cons (Value.ref 251) (List.cons Value.none (List.cons (Value.ref 252) (List.cons (Value.ref 253) (List.cons (Value.ref 254) (List.cons (Value.int (489 : Int) 0) (List.cons (Value.int (133 : Int) 0) (List.cons (Value.str (Str.ofString "/claim/cut.py") 490) (List.nil)))))))))))))))))))))) (List.toArray (List.nil)))) ::
  (nat_lit 256, fo256) ::
  (nat_lit 257, (Obj.mk (Value.type "tuple") (Option.none) (Data.seq (List.toArray (List.nil)) 0) (List.toArray (List.nil)))) ::
  (nat_lit 259, (Obj.mk (Value.type "tuple") (Option.none) (Data.seq (List.toArray (List.cons (Value.str (Str.ofString "self") 495) (List.cons (Value.str (Str.ofString "names") 496) (List.nil)))) 0) (List.toArray (List.nil)))) ::
  (nat_lit 260, (Obj.mk (Value.type "tuple") (Option.none) (Data.seq (List.toArray (List.nil)) 0) (List.toArray (List.nil)))) ::
  (nat_lit 262, (Obj.mk (Value.type "code") (Option.none) (Data.fields (List.toArray (List.cons (Value.str (Str.ofString "pop_to") 492) (List.cons (Value.str (Str.ofString "OpenStack.pop_to") 493) (List.cons (Value.str (Str.ofString "/claim/cut.py") 494) (List.cons (Value.int (136 : Int) 0) (List.cons (Value.int (2 : Int) 0) (List.cons (Value.int (0 : Int) 0) (List.cons (Value.int (0 : Int) 0) (List.cons (Value.int (3 : Int) 0) (List.cons (Value.ref 257) (List.cons (Value.bool Bool.true) (List.cons (Value.int (181 : Int) 0) (List.cons (Value.ref 258) (List.cons Value.none (List.cons (Value.ref 259) (List.cons (Value.ref 260) (List.cons (Value.ref 261) (List.cons (Value.int (497 : Int) 0) (List.cons (Value.int (136 : Int) 0) (List.cons (Value.str (Str.ofString "/claim/cut.py") 498) (List.nil)))))))))))))))))))))) (List.toArray (List.nil)))) ::
  (nat_lit 263, fo263) ::
  (nat_lit 264, (Obj.mk (Value.type "tuple") (Option.none) (Data.seq (List.toArray (List.cons (Value.str (Str.ofString "items") 500) (List.cons (Value.str (Str.ofString "tree") 501) (List.nil)))) 0) (List.toArray (List.nil)))) ::
  (nat_lit 265, (Obj.mk (Value.type "dict") (Option.none) (Data.dict (List.toArray (List.cons (DictEntry.mk (PyData.keyHash P (Str.ofString "__module__")) (Value.str (Str.ofString "__module__") 393) (Value.str (Str.ofString "htmltree.openstack") 384)) (List.cons (DictEntry.mk (PyData.keyHash P (Str.ofString "__firstlineno__")) (Value.str (Str.ofString "__firstlineno__") 397) (Value.int (89 : Int) 396)) (List.cons (DictEntry.mk (PyData.keyHash P (Str.ofString "__init__")) (Value.str (Str.ofString "__init__") 405) (Value.ref 179)) (List.cons (DictEntry.mk (PyData.keyHash P (Str.ofString "push")) (Value.str (Str.ofString "push") 413) (Value.ref 186)) (List.cons (DictEntry.mk (PyData.keyHash P (Str.ofString "pop")) (Value.str (Str.ofString "pop") 420) (Value.ref 193)) (List.cons (DictEntry.mk (PyData.keyHash P (Str.ofString "current")) (Value.str (Str.ofString "current") 427) (Value.ref 200)) (List.cons (DictEntry.mk (PyData.keyHash P (Str.ofString "many")) (Value.str (Str.ofString "many") 434) (Value.ref 207)) (List.cons (DictEntry.mk (PyData.keyHash P (Str.ofString "has")) (Value.str (Str.ofString "has") 442) (Value.ref 214)) (List.cons (DictEntry.mk (PyData.keyHash P (Str.ofString "remove")) (Value.str (Str.ofString "remove") 450) (Value.ref 221)) (List.cons (DictEntry.mk (PyData.keyHash P (Str.ofString "place")) (Value.str (Str.ofString "place") 458) (Value.ref 228)) (List.cons (DictEntry.mk (PyData.keyHash P (Str.ofString "put_at")) (Value.str (Str.ofString "put_at") 467) (Value.ref 235)) (List.cons (DictEntry.mk (PyData.keyHash P (Str.ofString "name")) (Value.str (Str.ofString "name") 475) (Value.ref 242)) (List.cons (DictEntry.mk (PyData.keyHash P (Str.ofString "has_name")) (Value.str (Str.ofString "has_name") 483) (Value.ref 249)) (List.cons (DictEntry.mk (PyData.keyHash P (Str.ofString "pop_until")) (Value.str (Str.ofString "pop_until") 491) (Value.ref 256)) (List.cons (DictEntry.mk (PyData.keyHash P (Str.ofString "pop_to")) (Value.str (Str.ofString "pop_to") 499) (Value.ref 263)) (List.cons (DictEntry.mk (PyData.keyHash P (Str.ofString "__static_attributes__")) (Value.str (Str.ofString "__static_attributes__") 502) (Value.ref 264)) (List.cons (DictEntry.mk (PyData.keyHash P (Str.ofString "__dict__")) (Value.str (Str.ofString "__dict__") 504) (Value.ref 267)) (List.cons (DictEntry.mk (PyData.keyHash P (Str.ofString "__weakref__")) (Value.str (Str.ofString "__weakref__") 506) (Value.ref 268)) (List.cons (DictEntry.mk (PyData.keyHash P (Str.ofString "__doc__")) (Value.str (Str.ofString "__doc__") 507) Value.none) (List.nil))))))))))))))))))))) 4) (List.toArray (List.nil)))) ::
  (nat_lit 266, (Obj.mk (Value.type "type") (Option.none) (Data.cls (ClassData.mk (Str.ofString "OpenStack") (List.cons (Value.type "object") (List.nil)) (List.cons (Value.ref 266) (List.cons (Value.type "object") (List.nil))) 265 (Str.ofString "OpenStack") Bool.true (List.nil) (List.nil) Bool.false (Option.none) Bool.false)) (List.toArray (List.cons (Option.none) (List.cons (Option.none) (List.cons (Option.some (Value.str (Str.ofString "OpenStack") 386)) (List.cons (Option.some (Value.str (Str.ofString "OpenStack") 394)) (List.cons (Option.some (Value.builtin "object.__new__")) (List.cons (Option.some (Value.bool Bool.true)) (List.nil)))))))))) ::
  (nat_lit 267, (Obj.mk (Value.type "getset_descriptor") (Option.none) (Data.fields (List.toArray (List.cons (Value.str (Str.ofString "__dict__") 503) (List.cons (Value.ref 266) (List.cons (Value.builtin "function.__dict__") (List.cons (Value.builtin "function.__dict__#set") (List.nil))))))) (List.toArray (List.nil)))) ::
  (nat_lit 268, (Obj.mk (Value.type "getset_descriptor") (Option.none) (Data.fields (List.toArray (List.cons (Value.str (Str.ofString "__weakref__") 505) (List.cons (Value.ref 266) (List.cons (Value.builtin "ExceptionGroup.__weakref__") (List.cons Value.none (List.nil))))))) (List.toArray (List.nil)))) ::
  (nat_lit 278, (Obj.mk (Value.type "tuple") (Option.none) (Data.seq (List.toArray (List.nil)) 0) (List.toArray (List.nil)))) ::
  (nat_lit 280, (Obj.mk (Value.type "tuple") (Option.none) (Data.seq (List.toArray (List.cons (Value.str (Str.ofString "self") 527) (List.nil))) 0) (List.toArray (List.nil)))) ::
  (nat_lit 281, (Obj.mk (Value.type "tuple") (Option.none) (Data.seq (List.toArray (List.nil)) 0) (List.toArray (List.nil)))) ::
  (nat_lit 283, (Obj.mk (Value.type "code") (Option.none) (Data.fields (List.toArray (List.cons (Value.str (Str.ofString "__init__") 524) (List.cons (Value.str (Str.ofString "Tree.__init__") 525) (List.cons (Value.str (Str.ofString "/claim/cut.py") 526) (List.cons (Value.int (141 : Int) 0) (List.cons (Value.int (1 : Int) 0) (List.cons (Value.int (0 : Int) 0) (List.cons (Value.int (0 : Int) 0) (List.cons (Value.int (3 : Int) 0) (List.cons (Value.ref 278) (List.cons (Value.bool Bool.true) (List.cons (Value.int (181 : Int) 0) (List.cons (Value.ref 279) (List.cons Value.none (List.cons (Value.ref 280) (List.cons (Value.ref 281) (List.cons (Value.ref 282) (List.cons (Value.int (528 : Int) 0) (List.cons (Value.int (141 : Int) 0) (List.cons (Value.str (Str.ofString "/claim/cut.py") 529) (List.nil)))))))))))))))))))))) (List.toArray (List.nil)))) ::
  (nat_lit 284, fo284) ::
  (nat_lit 285, (Obj.mk (Value.type "tuple") (Option.none) (Data.seq (List.toArray (List.nil)) 0) (List.toArray (List.nil)))) ::
  (nat_lit 286, (Obj.mk (Value.type "tuple") (Option.none) (Data.seq (List.toArray (List.cons (Value.str (Str.ofString "") 531) (List.cons (Value.str (Str.ofString "") 532) (List.cons (Value.ref 285) (List.cons (Value.str (Str.ofString "") 533) (List.nil)))))) 0) (List.toArray (List.nil)))) ::
  (nat_lit 287, (Obj.mk (Value.type "tuple") (Option.none) (Data.seq (List.toArray (List.nil)) 0) (List.toArray (List.nil)))) ::
  (nat_lit 289, (Obj.mk (Value.type "tuple") (Option.none) (Data.seq (List.toArray (List.cons (Value.str (Str.ofString "self") 537) (List.cons (Value.str (Str.ofString "kind") 538) (List.cons (Value.str (Str.ofString "space") 539) (List.cons (Value.str (Str.ofString "name") 540) (List.cons (Value.str (Str.ofString "attrs") 541) (List.cons (Value.str (Str.ofString "text") 542) (List.nil)))))))) 0) (List.toArray (List.nil)))) ::
  (nat_lit 290, (Obj.mk (Value.type "tuple") (Option.none) (Data.seq (List.toArray (List.nil)) 0) (List.toArray (List.nil)))) ::
  (nat_lit 292, (Obj.mk (Value.type "code") (Option.none) (Data.fields (List.toArray (List.cons (Value.str (Str.ofString "add") 534) (List.cons (Value.str (Str.ofString "Tree.add") 535) (List.cons (Value.str (Str.ofString "/claim/cut.py") 536) (List.cons (Value.int (152 : Int) 0) (List.cons (Value.int (6 : Int) 0) (List.cons (Value.int (0 : Int) 0) (List.cons (Value.int (0 : Int) 0) (List.cons (Value.int (3 : Int) 0) (List.cons (Value.ref 287) (List.cons (Value.bool Bool.true) (List.cons (Value.int (181 : Int) 0) (List.cons (Value.ref 288) (List.cons Value.none (List.cons (Value.ref 289) (List.cons (Value.ref 290) (List.cons (Value.ref 291) (List.cons (Value.int (543 : Int) 0) (List.cons (Value.int (152 : Int) 0) (List.cons (Value.str (Str.ofString "/claim/cut.py") 544) (List.nil)))))))))))))))))))))) (List.toArray (List.nil)))) ::
  (nat_lit 293, fo293) ::
  (nat_lit 294, (Obj.mk (Value.type "tuple") (Option.none) (Data.seq (List.toArray (List.nil)) 0) (List.toArray (List.nil)))) ::
  (nat_lit 295, (Obj.mk (Value.type "tuple") (Option.none) (Data.seq (List.toArray (List.cons (Value.str (Str.ofString "html") 546) (List.cons (Value.ref 294) (List.nil)))) 0) (List.toArray (List.nil)))) ::
  (nat_lit 296, (Obj.mk (Value.type "tuple") (Option.none) (Data.seq (List.toArray (List.nil)) 0) (List.toArray (List.nil)))) ::
  (nat_lit 298, (Obj.mk (Value.type "tuple") (Option.none) (Data.seq (List.toArray (List.cons (Value.str (Str.ofString "self") 550) (List.cons (Value.str (Str.ofString "name") 551) (List.cons (Value.str (Str.ofString "space") 552) (List.cons (Value.str (Str.ofString "attrs") 553) (List.cons (Value.str (Str.ofString "node") 554) (List.nil))))))) 0) (List.toArray (List.nil)))) ::
  (nat_lit 299, (Obj.mk (Value.type "tuple") (Option.none) (Data.seq (List.toArray (List.nil)) 0) (List.toArray (List.nil)))) ::
  (nat_lit 301, (Obj.mk (Value.type "code") (Option.none) (Data.fields (List.toArray (List.cons (Value.str (Str.ofString "element") 547) (List.cons (Value.str (Str.ofString "Tree.element") 548) (List.cons (Value.str (Str.ofString "/claim/cut.py") 549) (List.cons (Value.int (162 : Int) 0) (List.cons (Value.int (4 : Int) 0) (List.cons (Value.int (0 : Int) 0) (List.cons (Value.int (0 : Int) 0) (List.cons (Value.int (3 : Int) 0) (List.cons (Value.ref 296) (List.cons (Value.bool Bool.true) (List.cons (Value.int (181 : Int) 0) (List.cons (Value.ref 297) (List.cons Value.none (List.cons (Value.ref 298) (List.cons (Value.ref 299) (List.cons (Value.ref 300) (List.cons (Value.int (555 : Int) 0) (List.cons (Value.int (162 : Int) 0) (List.cons (Value.str (Str.ofString "/claim/cut.py") 556) (List.nil)))))))))))))))))))))) (List.toArray (List.nil)))) ::
  (nat_lit 302, fo302) ::
  (nat_lit 303, (Obj.mk (Value.type "tuple") (Option.none) (Data.seq (List.toArray (List.nil)) 0) (List.toArray (List.nil)))) ::
  (nat_lit 305, (Obj.mk (Value.type "tuple") (Option.none) (Data.seq (List.toArray (List.cons (Value.str (Str.ofString "self") 561) (List.cons (Value.str (Str.ofString "text") 562) (List.nil)))) 0) (List.toArray (List.nil)))) ::
  (nat_lit 306, (Obj.mk (Value.type "tuple") (Option.none) (Data.seq (List.toArray (List.nil)) 0) (List.toArray (List.nil)))) ::
  (nat_lit 308, (Obj.mk (Value.type "code") (Option.none) (Data.fields (List.toArray (List.cons (Value.str (Str.ofString "text") 558) (List.cons (Value.str (Str.ofString "Tree.text") 559) (List.cons (Value.str (Str.ofString "/claim/cut.py") 560) (List.cons (Value.int (168 : Int) 0) (List.cons (Value.int (2 : Int) 0) (List.cons (Value.int (0 : Int) 0) (List.cons (Value.int (0 : Int) 0) (List.cons (Value.int (3 : Int) 0) (List.cons (Value.ref 303) (List.cons (Value.bool Bool.true) (List.cons (Value.int (181 : Int) 0) (List.cons (Value.ref 304) (List.cons Value.none (List.cons (Value.ref 305) (List.cons (Value.ref 306) (List.cons (Value.ref 307) (List.cons (Value.int (563 : Int) 0) (List.cons (Value.int (168 : Int) 0) (List.cons (Value.str (Str.ofString "/claim/cut.py") 564) (List.nil)))))))))))))))))))))) (List.toArray (List.nil)))) ::
  (nat_lit 309, fo309) ::
  (nat_lit 310, (Obj.mk (Value.type "tuple") (Option.none) (Data.seq (List.toArray (List.nil)) 0) (List.toArray (List.nil)))) ::
  (nat_lit 312, (Obj.mk (Value.type "tuple") (Option.none) (Data.seq (List.toArray (List.cons (Value.str (Str.ofString "self") 569) (List.cons (Value.str (Str.ofString "text") 570) (List.nil)))) 0) (List.toArray (List.nil)))) ::
  (nat_lit 313, (Obj.mk (Value.type "tuple") (Option.none) (Data.seq (List.toArray (List.nil)) 0) (List.toArray (List.nil)))) ::
  (nat_lit 315, (Obj.mk (Value.type "code") (Option.none) (Data.fields (List.toArray (List.cons (Value.str (Str.ofString "comment") 566) (List.cons (Value.str (Str.ofString "Tree.comment") 567) (List.cons (Value.str (Str.ofString "/claim/cut.py") 568) (List.cons (Value.int (171 : Int) 0) (List.cons (Value.int (2 : Int) 0) (List.cons (Value.int (0 : Int) 0) (List.cons (Value.int (0 : Int) 0) (List.cons (Value.int (3 : Int) 0) (List.cons (Value.ref 310) (List.cons (Value.bool Bool.true) (List.cons (Value.int (181 : Int) 0) (List.cons (Value.ref 311) (List.cons Value.none (List.cons (Value.ref 312) (List.cons (Value.ref 313) (List.cons (Value.ref 314) (List.cons (Value.int (571 : Int) 0) (List.cons (Value.int (171 : Int) 0) (List.cons (Value.str (Str.ofString "/claim/cut.py") 572) (List.nil)))))))))))))))))))))) (List.toArray (List.nil)))) ::
  (nat_lit 316, fo316) ::
  (nat_lit 317, (Obj.mk (Value.type "tuple") (Option.none) (Data.seq (List.toArray (List.nil)) 0) (List.toArray (List.nil)))) ::
  (nat_lit 319, (Obj.mk (Value.type "tuple") (Option.none) (Data.seq (List.toArray (List.cons (Value.str (Str.ofString "self") 577) (List.cons (Value.str (Str.ofString "name") 578) (List.cons (Value.str (Str.ofString "public") 579) (List.cons (Value.str (Str.ofString "system") 580) (List.nil)))))) 0) (List.toArray (List.nil)))) ::
  (nat_lit 320, (Obj.mk (Value.type "tuple") (Option.none) (Data.seq (List.toArray (List.nil)) 0) (List.toArray (List.nil)))) ::
  (nat_lit 322, (Obj.mk (Value.type "code") (Option.none) (Data.fields (List.toArray (List.cons (Value.str (Str.ofString "doctype") 574) (List.cons (Value.str (Str.ofString "Tree.doctype") 575) (List.cons (Value.str (Str.ofString "/claim/cut.py") 576) (List.cons (Value.int (174 : Int) 0) (List.cons (Value.int (4 : Int) 0) (List.cons (Value.int (0 : Int) 0) (List.cons (Value.int (0 : Int) 0) (List.cons (Value.int (3 : Int) 0) (List.cons (Value.ref 317) (List.cons (Value.bool Bool.true) (List.cons (Value.int (181 : Int) 0) (List.cons (Value.ref 318) (List.cons Value.none (List.cons (Value.ref 319) (List.cons (Value.ref 320) (List.cons (Value.ref 321) (List.cons (Value.int (581 : Int) 0) (List.cons (Value.int (174 : Int) 0) (List.cons (Value.str (Str.ofString "/claim/cut.py") 582) (List.nil)))))))))))))))))))))) (List.toArray (List.nil)))) ::
  (nat_lit 323, fo323) ::
  (nat_lit 324, (Obj.mk (Value.type "tuple") (Option.none) (Data.seq (List.toArray (List.cons (Value.int (Neg.neg (1 : Int)) 585) (List.nil))) 0) (List.toArray (List.nil)))) ::
  (nat_lit 325, (Obj.mk (Value.type "tuple") (Option.none) (Data.seq (List.toArray (List.nil)) 0) (List.toArray (List.nil)))) ::
  (nat_lit 327, (Obj.mk (Value.type "tuple") (Option.none) (Data.seq (List.toArray (List.cons (Value.str (Str.ofString "self") 589) (List.cons (Value.str (Str.ofString "parent") 590) (List.cons (Value.str (Str.ofString "node") 591) (List.cons (Value.str (Str.ofString "before") 592) (List.cons (Value.str (Str.ofString "at") 593) (List.nil))))))) 0) (List.toArray (List.nil)))) ::
  (nat_lit 328, (Obj.mk (Value.type "tuple") (Option.none) (Data.seq (List.toArray (List.nil)) 0) (List.toArray (List.nil)))) ::
  (nat_lit 330, (Obj.mk (Value.type "code") (Option.none) (Data.fields (List.toArray (List.cons (Value.str (Str.ofString "insert") 586) (List.cons (Value.str (Str.ofString "Tree.insert") 587) (List.cons (Value.str (Str.ofString "/claim/cut.py") 588) (List.cons (Value.int (177 : Int) 0) (List.cons (Value.int (4 : Int) 0) (List.cons (Value.int (0 : Int) 0) (List.cons (Value.int (0 : Int) 0) (List.cons (Value.int (3 : Int) 0) (List.cons (Value.ref 325) (List.cons (Value.bool Bool.true) (List.cons (Value.int (181 : Int) 0) (List.cons (Value.ref 326) (List.cons Value.none (List.cons (Value.ref 327) (List.cons (Value.ref 328) (List.cons (Value.ref 329) (List.cons (Value.int (594 : Int) 0) (List.cons (Value.int (177 : Int) 0) (List.cons (Value.str (Str.ofString "/claim/cut.py") 595) (List.nil)))))))))))))))))))))) (List.toArray (List.nil)))) ::
  (nat_lit 331, fo331) ::
  (nat_lit 332, (Obj.mk (Value.type "tuple") (Option.none) (Data.seq (List.toArray (List.nil)) 0) (List.toArray (List.nil)))) ::
  (nat_lit 334, (Obj.mk (Value.type "tuple") (Option.none) (Data.seq (List.toArray (List.cons (Value.str (Str.ofString "self") 600) (List.cons (Value.str (Str.ofString "parent") 601) (List.cons (Value.str (Str.ofString "node") 602) (List.nil))))) 0) (List.toArray (List.nil)))) ::
  (nat_lit 335, (Obj.mk (Value.type "tuple") (Option.none) (Data.seq (List.toArray (List.nil)) 0) (List.toArray (List.nil)))) ::
  (nat_lit 337, (Obj.mk (Value.type "code") (Option.none) (Data.fields (List.toArray (List.cons (Value.str (Str.ofString "append") 597) (List.cons (Value.str (Str.ofString "Tree.append") 598) (List.cons (Value.str (Str.ofString "/claim/cut.py") 599) (List.cons (Value.int (191 : Int) 0) (List.cons (Value.int (3 : Int) 0) (List.cons (Value.int (0 : Int) 0) (List.cons (Value.int (0 : Int) 0) (List.cons (Value.int (3 : Int) 0) (List.cons (Value.ref 332) (List.cons (Value.bool Bool.true) (List.cons (Value.int (181 : Int) 0) (List.cons (Value.ref 333) (List.cons Value.none (List.cons (Value.ref 334) (List.cons (Value.ref 335) (List.cons (Value.ref 336) (List.cons (Value.int (603 : Int) 0) (List.cons (Value.int (191 : Int) 0) (List.cons (Value.str (Str.ofString "/claim/cut.py") 604) (List.nil)))))))))))))))))))))) (List.toArray (List.nil)))) ::
  (nat_lit 338, fo338) ::
  (nat_lit 339, (Obj.mk (Value.type "tuple") (Option.none) (Data.seq (List.toArray (List.nil)) 0) (List.toArray (List.nil)))) ::
  (nat_lit 341, (Obj.mk (Value.type "tuple") (Option.none) (Data.seq (List.toArray (List.cons (Value.str (Str.ofString "self") 609) (List.cons (Value.str (Str.ofString "node") 610) (List.nil)))) 0) (List.toArray (List.nil)))) ::
  (nat_lit 342, (Obj.mk (Value.type "tuple") (Option.none) (Data.seq (List.toArray (List.nil)) 0) (List.toArray (List.nil)))) ::
  (nat_lit 344, (Obj.mk (Value.type "code") (Option.none) (Data.fields (List.toArray (List.cons (Value.str (Str.ofString "remove") 606) (List.cons (Value.str (Str.ofString "Tree.remove") 607) (List.cons (Value.str (Str.ofString "/claim/cut.py") 608) (List.cons (Value.int (194 : Int) 0) (List.cons (Value.int (2 : Int) 0) (List.cons (Value.int (0 : Int) 0) (List.cons (Value.int (0 : Int) 0) (List.cons (Value.int (3 : Int) 0) (List.cons (Value.ref 339) (List.cons (Value.bool Bool.true) (List.cons (Value.int (181 : Int) 0) (List.cons (Value.ref 340) (List.cons Value.none (List.cons (Value.ref 341) (List.cons (Value.ref 342) (List.cons (Value.ref 343) (List.cons (Value.int (611 : Int) 0) (List.cons (Value.int (194 : Int) 0) (List.cons (Value.str (Str.ofString "/claim/cut.py") 612) (List.nil)))))))))))))))))))))) (List.toArray (List.nil)))) ::
  (nat_lit 345, fo345) ::
  (nat_lit 346, (Obj.mk (Value.type "tuple") (Option.none) (Data.seq (List.toArray (List.nil)) 0) (List.toArray (List.nil)))) ::
  (nat_lit 348, (Obj.mk (Value.type "tuple") (Option.none) (Data.seq (List.toArray (List.cons (Value.str (Str.ofString "self") 617) (List.cons (Value.str (Str.ofString "here") 618) (List.cons (Value.str (Str.ofString "there") 619) (List.nil))))) 0) (List.toArray (List.nil)))) ::
  (nat_lit 349, (Obj.mk (Value.type "tuple") (Option.none) (Data.seq (List.toArray (List.nil)) 0) (List.toArray (List.nil)))) ::
  (nat_lit 351, (Obj.mk (Value.type "code") (Option.none) (Data.fields (List.toArray (List.cons (Value.str (Str.ofString "move_children") 614) (List.cons (Value.str (Str.ofString "Tree.move_children") 615) (List.cons (Value.str (Str.ofString "/claim/cut.py") 616) (List.cons (Value.int (199 : Int) 0) (List.cons (Value.int (3 : Int) 0) (List.cons (Value.int (0 : Int) 0) (List.cons (Value.int (0 : Int) 0) (List.cons (Value.int (3 : Int) 0) (List.cons (Value.ref 346) (List.cons (Value.bool Bool.true) (List.cons (Value.int (181 : Int) 0) (List.cons (Value.ref 347) (List.cons Value.none (List.cons (Value.ref 348) (List.cons (Value.ref 349) (List.cons (Value.ref 350) (List.cons (Value.int (620 : Int) 0) (List.cons (Value.int (199 : Int) 0) (List.cons (Value.str (Str.ofString "/claim/cut.py") 621) (List.nil)))))))))))))))))))))) (List.toArray (List.nil)))) ::
  (nat_lit 352, fo352) ::
  (nat_lit 353, (Obj.mk (Value.type "tuple") (Option.none) (Data.seq (List.toArray (List.nil)) 0) (List.toArray (List.nil)))) ::
  (nat_lit 355, (Obj.mk (Value.type "tuple") (Option.none) (Data.seq (List.toArray (List.cons (Value.str (Str.ofString "self") 626) (List.cons (Value.str (Str.ofString "node") 627) (List.nil)))) 0) (List.toArray (List.nil)))) ::
  (nat_lit 356, (Obj.mk (Value.type "tuple") (Option.none) (Data.seq (List.toArray (List.nil)) 0) (List.toArray (List.nil)))) ::
  (nat_lit 358, (Obj.mk (Value.type "code") (Option.none) (Data.fields (List.toArray (List.cons (Value.str (Str.ofString "place") 623) (List.cons (Value.str (Str.ofString "Tree.place") 624) (List.cons (Value.str (Str.ofString "/claim/cut.py") 625) (List.cons (Value.int (202 : Int) 0) (List.cons (Value.int (2 : Int) 0) (List.cons (Value.int (0 : Int) 0) (List.cons (Value.int (0 : Int) 0) (List.cons (Value.int (3 : Int) 0) (List.cons (Value.ref 353) (List.cons (Value.bool Bool.true) (List.cons (Value.int (181 : Int) 0) (List.cons (Value.ref 354) (List.cons Value.none (List.cons (Value.ref 355) (List.cons (Value.ref 356) (List.cons (Value.ref 357) (List.cons (Value.int (628 : Int) 0) (List.cons (Value.int (202 : Int) 0) (List.cons (Value.str (Str.ofString "/claim/cut.py") 629) (List.nil)))))))))))))))))))))) (List.toArray (List.nil)))) ::
  (nat_lit 359, fo359) ::
  (nat_lit 360, (Obj.mk (Value.type "tuple") (Option.none) (Data.seq (List.toArray (List.nil)) 0) (List.toArray (List.nil)))) ::
  (nat_lit 362, (Obj.mk (Value.type "tuple") (Option.none) (Data.seq (List.toArray (List.cons (Value.str (Str.ofString "self") 634) (List.cons (Value.str (Str.ofString "parent") 635) (List.nil)))) 0) (List.toArray (List.nil)))) ::
  (nat_lit 363, (Obj.mk (Value.type "tuple") (Option.none) (Data.seq (List.toArray (List.nil)) 0) (List.toArray (List.nil)))) ::
  (nat_lit 365, (Obj.mk (Value.type "code") (Option.none) (Data.fields (List.toArray (List.cons (Value.str (Str.ofString "last") 631) (List.cons (Value.str (Str.ofString "Tree.last") 632) (List.cons (Value.str (Str.ofString "/claim/cut.py") 633) (List.cons (Value.int (207 : Int) 0) (List.cons (Value.int (2 : Int) 0) (List.cons (Value.int (0 : Int) 0) (List.cons (Value.int (0 : Int) 0) (List.cons (Value.int (3 : Int) 0) (List.cons (Value.ref 360) (List.cons (Value.bool Bool.true) (List.cons (Value.int (181 : Int) 0) (List.cons (Value.ref 361) (List.cons Value.none (List.cons (Value.ref 362) (List.cons (Value.ref 363) (List.cons (Value.ref 364) (List.cons (Value.int (636 : Int) 0) (List.cons (Value.int (207 : Int) 0) (List.cons (Value.str (Str.ofString "/claim/cut.py") 637) (List.nil)))))))))))))))))))))) (List.toArray (List.nil)))) ::
  (nat_lit 366, fo366) ::
  (nat_lit 367, (Obj.mk (Value.type "tuple") (Option.none) (Data.seq (List.toArray (List.nil)) 0) (List.toArray (List.nil)))) ::
  (nat_lit 369, (Obj.mk (Value.type "tuple") (Option.none) (Data.seq (List.toArray (List.cons (Value.str (Str.ofString "self") 642) (List.cons (Value.str (Str.ofString "node") 643) (List.cons (Value.str (Str.ofString "name") 644) (List.nil))))) 0) (List.toArray (List.nil)))) ::
  (nat_lit 370, (Obj.mk (Value.type "tuple") (Option.none) (Data.seq (List.toArray (List.nil)) 0) (List.toArray (List.nil)))) ::
  (nat_lit 372, (Obj.mk (Value.type "code") (Option.none) (Data.fields (List.toArray (List.cons (Value.str (Str.ofString "value") 639) (List.cons (Value.str (Str.ofString "Tree.value") 640) (List.cons (Value.str (Str.ofString "/claim/cut.py") 641) (List.cons (Value.int (212 : Int) 0) (List.cons (Value.int (3 : Int) 0) (List.cons (Value.int (0 : Int) 0) (List.cons (Value.int (0 : Int) 0) (List.cons (Value.int (3 : Int) 0) (List.cons (Value.ref 367) (List.cons (Value.bool Bool.true) (List.cons (Value.int (181 : Int) 0) (List.cons (Value.ref 368) (List.cons Value.none (List.cons (Value.ref 369) (List.cons (Value.ref 370) (List.cons (Value.ref 371) (List.cons (Value.int (645 : Int) 0) (List.cons (Value.int (212 : Int) 0) (List.cons (Value.str (Str.ofString "/claim/cut.py") 646) (List.nil)))))))))))))))))))))) (List.toArray (List.nil)))) ::
  (nat_lit 373, fo373) ::
  (nat_lit 374, (Obj.mk (Value.type "tuple") (Option.none) (Data.seq (List.toArray (List.nil)) 0) (List.toArray (List.nil)))) ::
  (nat_lit 376, (Obj.mk (Value.type "tuple") (Option.none) (Data.seq (List.toArray (List.cons (Value.str (Str.ofString "self") 651) (List.cons (Value.str (Str.ofString "node") 652) (List.cons (Value.str (Str.ofString "name") 653) (List.nil))))) 0) (List.toArray (List.nil)))) ::
  (nat_lit 377, (Obj.mk (Value.type "tuple") (Option.none) (Data.seq (List.toArray (List.nil)) 0) (List.toArray (List.nil)))) ::
  (nat_lit 379, (Obj.mk (Value.type "code") (Option.none) (Data.fields (List.toArray (List.cons (Value.str (Str.ofString "is_html") 648) (List.cons (Value.str (Str.ofString "Tree.is_html") 649) (List.cons (Value.str (Str.ofString "/claim/cut.py") 650) (List.cons (Value.int (215 : Int) 0) (List.cons (Value.int (3 : Int) 0) (List.cons (Value.int (0 : Int) 0) (List.cons (Value.int (0 : Int) 0) (List.cons (Value.int (3 : Int) 0) (List.cons (Value.ref 374) (List.cons (Value.bool Bool.true) (List.cons (Value.int (181 : Int) 0) (List.cons (Value.ref 375) (List.cons Value.none (List.cons (Value.ref 376) (List.cons (Value.ref 377) (List.cons (Value.ref 378) (List.cons (Value.int (654 : Int) 0) (List.cons (Value.int (215 : Int) 0) (List.cons (Value.str (Str.ofString "/claim/cut.py") 655) (List.nil)))))))))))))))))))))) (List.toArray (List.nil)))) ::
  (nat_lit 380, fo380) ::
  (nat_lit 381, (Obj.mk (Value.type "tuple") (Option.none) (Data.seq (List.toArray (List.cons (Value.str (Str.ofString "attrs") 657) (List.cons (Value.str (Str.ofString "children") 658) (List.cons (Value.str (Str.ofString "contents") 659) (List.cons (Value.str (Str.ofString "kinds") 660) (List.cons (Value.str (Str.ofString "names") 661) (List.cons (Value.str (Str.ofString "parents") 662) (List.cons (Value.str (Str.ofString "spaces") 663) (List.cons (Value.str (Str.ofString "texts") 664) (List.nil)))))))))) 0) (List.toArray (List.nil)))) ::
  (nat_lit 382, (Obj.mk (Value.type "dict") (Option.none) (Data.dict (List.toArray (List.cons (DictEntry.mk (PyData.keyHash P (Str.ofString "__module__")) (Value.str (Str.ofString "__module__") 519) (Value.str (Str.ofString "htmltree.tree") 510)) (List.cons (DictEntry.mk (PyData.keyHash P (Str.ofString "__firstlineno__")) (Value.str (Str.ofString "__firstlineno__") 523) (Value.int (139 : Int) 522)) (List.cons (DictEntry.mk (PyData.keyHash P (Str.ofString "__init__")) (Value.str (Str.ofString "__init__") 530) (Value.ref 284)) (List.cons (DictEntry.mk (PyData.keyHash P (Str.ofString "add")) (Value.str (Str.ofString "add") 545) (Value.ref 293)) (List.cons (DictEntry.mk (PyData.keyHash P (Str.ofString "element")) (Value.str (Str.ofString "element") 557) (Value.ref 302)) (List.cons (DictEntry.mk (PyData.keyHash P (Str.ofString "text")) (Value.str (Str.ofString "text") 565) (Value.ref 309)) (List.cons (DictEntry.mk (PyData.keyHash P (Str.ofString "comment")) (Value.str (Str.ofString "comment") 573) (Value.ref 316)) (List.cons (DictEntry.mk (PyData.keyHash P (Str.ofString "doctype")) (Value.str (Str.ofString "doctype") 583) (Value.ref 323)) (List.cons (DictEntry.mk (PyData.keyHash P (Str.ofString "insert")) (Value.str (Str.ofString "insert") 596) (Value.ref 331)) (List.cons (DictEntry.mk (PyData.keyHash P (Str.ofString "append")) (Value.str (Str.ofString "append") 605) (Value.ref 338)) (List.cons (DictEntry.mk (PyData.keyHash P (Str.ofString "remove")) (Value.str (Str.ofString "remove") 613) (Value.ref 345)) (List.cons (DictEntry.mk (PyData.keyHash P (Str.ofString "move_children")) (Value.str (Str.ofString "move_children") 622) (Value.ref 352)) (List.cons (DictEntry.mk (PyData.keyHash P (Str.ofString "place")) (Value.str (Str.ofString "place") 630) (Value.ref 359)) (List.cons (DictEntry.mk (PyData.keyHash P (Str.ofString "last")) (Value.str (Str.ofString "last") 638) (Value.ref 366)) (List.cons (DictEntry.mk (PyData.keyHash P (Str.ofString "value")) (Value.str (Str.ofString "value") 647) (Value.ref 373)) (List.cons (DictEntry.mk (PyData.keyHash P (Str.ofString "is_html")) (Value.str (Str.ofString "is_html") 656) (Value.ref 380)) (List.cons (DictEntry.mk (PyData.keyHash P (Str.ofString "__static_attributes__")) (Value.str (Str.ofString "__static_attributes__") 665) (Value.ref 381)) (List.cons (DictEntry.mk (PyData.keyHash P (Str.ofString "__dict__")) (Value.str (Str.ofString "__dict__") 667) (Value.ref 384)) (List.cons (DictEntry.mk (PyData.keyHash P (Str.ofString "__weakref__")) (Value.str (Str.ofString "__weakref__") 669) (Value.ref 385)) (List.cons (DictEntry.mk (PyData.keyHash P (Str.ofString "__doc__")) (Value.str (Str.ofString "__doc__") 670) Value.none) (List.nil)))))))))))))))))))))) 4) (List.toArray (List.nil)))) ::
  (nat_lit 383, (Obj.mk (Value.type "type") (Option.none) (Data.cls (ClassData.mk (Str.ofString "Tree") (List.cons (Value.type "object") (List.nil)) (List.cons (Value.ref 383) (List.cons (Value.type "object") (List.nil))) 382 (Str.ofString "Tree") Bool.true (List.nil) (List.nil) Bool.false (Option.none) Bool.false)) (List.toArray (List.cons (Option.none) (List.cons (Option.none) (List.cons (Option.some (Value.str (Str.ofString "Tree") 512)) (List.cons (Option.some (Value.str (Str.ofString "Tree") 520)) (List.cons (Option.some (Value.builtin "object.__new__")) (List.cons (Option.some (Value.bool Bool.true)) (List.nil)))))))))) ::
  (nat_lit 384, (Obj.mk (Value.type "getset_descriptor") (Option.none) (Data.fields (List.toArray (List.cons (Value.str (Str.ofString "__dict__") 666) (List.cons (Value.ref 383) (List.cons (Value.builtin "function.__dict__") (List.cons (Value.builtin "function.__dict__#set") (List.nil))))))) (List.toArray (List.nil)))) ::
  (nat_lit 385, (Obj.mk (Value.type "getset_descriptor") (Option.none) (Data.fields (List.toArray (List.cons (Value.str (Str.ofString "__weakref__") 668) (List.cons (Value.ref 383) (List.cons (Value.builtin "ExceptionGroup.__weakref__") (List.cons Value.none (List.nil))))))) (List.toArray (List.nil)))) ::
  (nat_lit 388, (Obj.mk (Value.type "tuple") (Option.none) (Data.seq (List.toArray (List.nil)) 0) (List.toArray (List.nil)))) ::
  (nat_lit 390, (Obj.mk (Value.type "tuple") (Option.none) (Data.seq (List.toArray (List.cons (Value.str (Str.ofString "tree") 676) (List.cons (Value.str (Str.ofString "node") 677) (List.cons (Value.str (Str.ofString "out") 678) (List.cons (Value.str (Str.ofString "up") 679) (List.nil)))))) 0) (List.toArray (List.nil)))) ::
  (nat_lit 391, (Obj.mk (Value.type "tuple") (Option.none) (Data.seq (List.toArray (List.nil)) 0) (List.toArray (List.nil)))) ::
  (nat_lit 393, (Obj.mk (Value.type "code") (Option.none) (Data.fields (List.toArray (List.cons (Value.str (Str.ofString "above") 673) (List.cons (Value.str (Str.ofString "above") 674) (List.cons (Value.str (Str.ofString "/claim/cut.py") 675) (List.cons (Value.int (217 : Int) 0) (List.cons (Value.int (2 : Int) 0) (List.cons (Value.int (0 : Int) 0) (List.cons (Value.int (0 : Int) 0) (List.cons (Value.int (3 : Int) 0) (List.cons (Value.ref 388) (List.cons (Value.bool Bool.true) (List.cons (Value.int (181 : Int) 0) (List.cons (Value.ref 389) (List.cons Value.none (List.cons (Value.ref 390) (List.cons (Value.ref 391) (List.cons (Value.ref 392) (List.cons (Value.int (680 : Int) 0) (List.cons (Value.int (217 : Int) 0) (List.cons (Value.str (Str.ofString "/claim/cut.py") 681) (List.nil)))))))))))))))))))))) (List.toArray (List.nil)))) ::
  (nat_lit 394, fo394) ::
  (nat_lit 402, (Obj.mk (Value.type "tuple") (Option.none) (Data.seq (List.toArray (List.cons (Value.bool Bool.false) (List.nil))) 0) (List.toArray (List.nil)))) ::
  (nat_lit 403, (Obj.mk (Value.type "tuple") (Option.none) (Data.seq (List.toArray (List.nil)) 0) (List.toArray (List.nil)))) ::
  (nat_lit 405, (Obj.mk (Value.type "tuple") (Option.none) (Data.seq (List.toArray (List.cons (Value.str (Str.ofString "self") 700) (List.cons (Value.str (Str.ofString "rules") 701) (List.cons (Value.str (Str.ofString "is_scripting") 702) (List.nil))))) 0) (List.toArray (List.nil)))) ::
  (nat_lit 406, (Obj.mk (Value.type "tuple") (Option.none) (Data.seq (List.toArray (List.nil)) 0) (List.toArray (List.nil)))) ::
  (nat_lit 408, (Obj.mk (Value.type "code") (Option.none) (Data.fields (List.toArray (List.cons (Value.str (Str.ofString "__init__") 697) (List.cons (Value.str (Str.ofString "Builder.__init__") 698) (List.cons (Value.str (Str.ofString "/claim/cut.py") 699) (List.cons (Value.int (227 : Int) 0) (List.cons (Value.int (3 : Int) 0) (List.cons (Value.int (0 : Int) 0) (List.cons (Value.int (0 : Int) 0) (List.cons (Value.int (3 : Int) 0) (List.cons (Value.ref 403) (List.cons (Value.bool Bool.true) (List.cons (Value.int (181 : Int) 0) (List.cons (Value.ref 404) (List.cons Value.none (List.cons (Value.ref 405) (List.cons (Value.ref 406) (List.cons (Value.ref 407) (List.cons (Value.int (703 : Int) 0) (List.cons (Value.int (227 : Int) 0) (List.cons (Value.str (Str.ofString "/claim/cut.py") 704) (List.nil)))))))))))))))))))))) (List.toArray (List.nil)))) ::
  (nat_lit 409, fo409) ::
  (nat_lit 410, (Obj.mk (Value.type "tuple") (Option.none) (Data.seq (List.toArray (List.nil)) 0) (List.toArray (List.nil)))) ::
  (nat_lit 412, (Obj.mk (Value.type "tuple") (Option.none) (Data.seq (List.toArray (List.cons (Value.str (Str.ofString "self") 709) (List.cons (Value.str (Str.ofString "word") 710) (List.nil)))) 0) (List.toArray (List.nil)))) ::
  (nat_lit 413, (Obj.mk (Value.type "tuple") (Option.none) (Data.seq (List.toArray (List.nil)) 0) (List.toArray (List.nil)))) ::
  (nat_lit 415, (Obj.mk (Value.type "code") (Option.none) (Data.fields (List.toArray (List.cons (Value.str (Str.ofString "error") 706) (List.cons (Value.str (Str.ofString "Builder.error") 707) (List.cons (Value.str (Str.ofString "/claim/cut.py") 708) (List.cons (Value.int (250 : Int) 0) (List.cons (Value.int (2 : Int) 0) (List.cons (Value.int (0 : Int) 0) (List.cons (Value.int (0 : Int) 0) (List.cons (Value.int (3 : Int) 0) (List.cons (Value.ref 410) (List.cons (Value.bool Bool.true) (List.cons (Value.int (181 : Int) 0) (List.cons (Value.ref 411) (List.cons Value.none (List.cons (Value.ref 412) (List.cons (Value.ref 413) (List.cons (Value.ref 414) (List.cons (Value.int (711 : Int) 0) (List.cons (Value.int (250 : Int) 0) (List.cons (Value.str (Str.ofString "/claim/cut.py") 712) (List.nil)))))))))))))))))))))) (List.toArray (List.nil)))) ::
  (nat_lit 416, fo416) ::
  (nat_lit 417, (Obj.mk (Value.type "tuple") (Option.none) (Data.seq (List.toArray (List.nil)) 0) (List.toArray (List.nil)))) ::
  (nat_lit 419, (Obj.mk (Value.type "tuple") (Option.none) (Data.seq (List.toArray (List.cons (Value.str (Str.ofString "self") 717) (List.cons (Value.str (Str.ofString "mode") 718) (List.nil)))) 0) (List.toArray (List.nil)))) ::
  (nat_lit 420, (Obj.mk (Value.type "tuple") (Option.none) (Data.seq (List.toArray (List.nil)) 0) (List.toArray (List.nil)))) ::
  (nat_lit 422, (Obj.mk (Value.type "code") (Option.none) (Data.fields (List.toArray (List.cons (Value.str (Str.ofString "to") 714) (List.cons (Value.str (Str.ofString "Builder.to") 715) (List.cons (Value.str (Str.ofString "/claim/cut.py") 716) (List.cons (Value.int (253 : Int) 0) (List.cons (Value.int (2 : Int) 0) (List.cons (Value.int (0 : Int) 0) (List.cons (Value.int (0 : Int) 0) (List.cons (Value.int (3 : Int) 0) (List.cons (Value.ref 417) (List.cons (Value.bool Bool.true) (List.cons (Value.int (181 : Int) 0) (List.cons (Value.ref 418) (List.cons Value.none (List.cons (Value.ref 419) (List.cons (Value.ref 420) (List.cons (Value.ref 421) (List.cons (Value.int (719 : Int) 0) (List.cons (Value.int (253 : Int) 0) (List.cons (Value.str (Str.ofString "/claim/cut.py") 720) (List.nil)))))))))))))))))))))) (List.toArray (List.nil)))) ::
  (nat_lit 423, fo423) ::
  (nat_lit 424, (Obj.mk (Value.type "tuple") (Option.none) (Data.seq (List.toArray (List.nil)) 0) (List.toArray (List.nil)))) ::
  (nat_lit 426, (Obj.mk (Value.type "tuple") (Option.none) (Data.seq (List.toArray (List.cons (Value.str (Str.ofString "self") 725) (List.cons (Value.str (Str.ofString "name") 726) (List.cons (Value.str (Str.ofString "token") 727) (List.nil))))) 0) (List.toArray (List.nil)))) ::
  (nat_lit 427, (Obj.mk (Value.type "tuple") (Option.none) (Data.seq (List.toArray (List.nil)) 0) (List.toArray (List.nil)))) ::
  (nat_lit 429, (Obj.mk (Value.type "code") (Option.none) (Data.fields (List.toArray (List.cons (Value.str (Str.ofString "use") 722) (List.cons (Value.str (Str.ofString "Builder.use") 723) (List.cons (Value.str (Str.ofString "/claim/cut.py") 724) (List.cons (Value.int (256 : Int) 0) (List.cons (Value.int (3 : Int) 0) (List.cons (Value.int (0 : Int) 0) (List.cons (Value.int (0 : Int) 0) (List.cons (Value.int (3 : Int) 0) (List.cons (Value.ref 424) (List.cons (Value.bool Bool.true) (List.cons (Value.int (181 : Int) 0) (List.cons (Value.ref 425) (List.cons Value.none (List.cons (Value.ref 426) (List.cons (Value.ref 427) (List.cons (Value.ref 428) (List.cons (Value.int (728 : Int) 0) (List.cons (Value.int (256 : Int) 0) (List.cons (Value.str (Str.ofString "/claim/cut.py") 729) (List.nil)))))))))))))))))))))) (List.toArray (List.nil)))) ::
  (nat_lit 430, fo430) ::
  (nat_lit 431, (Obj.mk (Value.type "tuple") (Option.none) (Data.seq (List.toArray (List.nil)) 0) (List.toArray (List.nil)))) ::
  (nat_lit 433, (Obj.mk (Value.type "tuple") (Option.none) (Data.seq (List.toArray (List.cons (Value.str (Str.ofString "self") 734) (List.cons (Value.str (Str.ofString "token") 735) (List.nil)))) 0) (List.toArray (List.nil)))) ::
  (nat_lit 434, (Obj.mk (Value.type "tuple") (Option.none) (Data.seq (List.toArray (List.nil)) 0) (List.toArray (List.nil)))) ::
  (nat_lit 436, (Obj.mk (Value.type "code") (Option.none) (Data.fields (List.toArray (List.cons (Value.str (Str.ofString "process") 731) (List.cons (Value.str (Str.ofString "Builder.process") 732) (List.cons (Value.str (Str.ofString "/claim/cut.py") 733) (List.cons (Value.int (259 : Int) 0) (List.cons (Value.int (2 : Int) 0) (List.cons (Value.int (0 : Int) 0) (List.cons (Value.int (0 : Int) 0) (List.cons (Value.int (3 : Int) 0) (List.cons (Value.ref 431) (List.cons (Value.bool Bool.true) (List.cons (Value.int (181 : Int) 0) (List.cons (Value.ref 432) (List.cons Value.none (List.cons (Value.ref 433) (List.cons (Value.ref 434) (List.cons (Value.ref 435) (List.cons (Value.int (736 : Int) 0) (List.cons (Value.int (259 : Int) 0) (List.cons (Value.str (Str.ofString "/claim/cut.py") 737) (List.nil)))))))))))))))))))))) (List.toArray (List.nil)))) ::
  (nat_lit 437, fo437) ::
  (nat_lit 438, (Obj.mk (Value.type "tuple") (Option.none) (Data.seq (List.toArray (List.nil)) 0) (List.toArray (List.nil)))) ::
  (nat_lit 440, (Obj.mk (Value.type "tuple") (Option.none) (Data.seq (List.toArray (List.cons (Value.str (Str.ofString "self") 742) (List.cons (Value.str (Str.ofString "token") 743) (List.nil)))) 0) (List.toArray (List.nil)))) ::
  (nat_lit 441, (Obj.mk (Value.type "tuple") (Option.none) (Data.seq (List.toArray (List.nil)) 0) (List.toArray (List.nil)))) ::
  (nat_lit 443, (Obj.mk (Value.type "code") (Option.none) (Data.fields (List.toArray (List.cons (Value.str (Str.ofString "feed") 739) (List.cons (Value.str (Str.ofString "Builder.feed") 740) (List.cons (Value.str (Str.ofString "/claim/cut.py") 741) (List.cons (Value.int (262 : Int) 0) (List.cons (Value.int (2 : Int) 0) (List.cons (Value.int (0 : Int) 0) (List.cons (Value.int (0 : Int) 0) (List.cons (Value.int (3 : Int) 0) (List.cons (Value.ref 438) (List.cons (Value.bool Bool.true) (List.cons (Value.int (181 : Int) 0) (List.cons (Value.ref 439) (List.cons Value.none (List.cons (Value.ref 440) (List.cons (Value.ref 441) (List.cons (Value.ref 442) (List.cons (Value.int (744 : Int) 0) (List.cons (Value.int (262 : Int) 0) (List.cons (Value.str (Str.ofString "/claim/cut.py") 745) (List.nil)))))))))))))))))))))) (List.toArray (List.nil)))) ::
  (nat_lit 444, fo444) ::
  (nat_lit 445, (Obj.mk (Value.type "tuple") (Option.none) (Data.seq (List.toArray (List.nil)) 0) (List.toArray (List.nil)))) ::
  (nat_lit 447, (Obj.mk (Value.type "tuple") (Option.none) (Data.seq (List.toArray (List.cons (Value.str (Str.ofString "self") 750) (List.nil))) 0) (List.toArray (List.nil)))) ::
  (nat_lit 448, (Obj.mk (Value.type "tuple") (Option.none) (Data.seq (List.toArray (List.nil)) 0) (List.toArray (List.nil)))) ::
  (nat_lit 450, (Obj.mk (Value.type "code") (Option.none) (Data.fields (List.toArray (List.cons (Value.str (Str.ofString "adjusted") 747) (List.cons (Value.str (Str.ofString "Builder.adjusted") 748) (List.cons (Value.str (Str.ofString "/claim/cut.py") 749) (List.cons (Value.int (265 : Int) 0) (List.cons (Value.int (1 : Int) 0) (List.cons (Value.int (0 : Int) 0) (List.cons (Value.int (0 : Int) 0) (List.cons (Value.int (3 : Int) 0) (List.cons (Value.ref 445) (List.cons (Value.bool Bool.true) (List.cons (Value.int (181 : Int) 0) (List.cons (Value.ref 446) (List.cons Value.none (List.cons (Value.ref 447) (List.cons (Value.ref 448) (List.cons (Value.ref 449) (List.cons (Value.int (751 : Int) 0) (List.cons (Value.int (265 : Int) 0) (List.cons (Value.str (Str.ofString "/claim/cut.py") 752) (List.nil)))))))))))))))))))))) (List.toArray (List.nil)))) ::
  (nat_lit 451, fo451) ::
  (nat_lit 452, (Obj.mk (Value.type "tuple") (Option.none) (Data.seq (List.toArray (List.nil)) 0) (List.toArray (List.nil)))) ::
  (nat_lit 454, (Obj.mk (Value.type "tuple") (Option.none) (Data.seq (List.toArray (List.cons (Value.str (Str.ofString "self") 757) (List.nil))) 0) (List.toArray (List.nil)))) ::
  (nat_lit 455, (Obj.mk (Value.type "tuple") (Option.none) (Data.seq (List.toArray (List.nil)) 0) (List.toArray (List.nil)))) ::
  (nat_lit 457, (Obj.mk (Value.type "code") (Option.none) (Data.fields (List.toArray (List.cons (Value.str (Str.ofString "is_foreign") 754) (List.cons (Value.str (Str.ofString "Builder.is_foreign") 755) (List.cons (Value.str (Str.ofString "/claim/cut.py") 756) (List.cons (Value.int (268 : Int) 0) (List.cons (Value.int (1 : Int) 0) (List.cons (Value.int (0 : Int) 0) (List.cons (Value.int (0 : Int) 0) (List.cons (Value.int (3 : Int) 0) (List.cons (Value.ref 452) (List.cons (Value.bool Bool.true) (List.cons (Value.int (181 : Int) 0) (List.cons (Value.ref 453) (List.cons Value.none (List.cons (Value.ref 454) (List.cons (Value.ref 455) (List.cons (Value.ref 456) (List.cons (Value.int (758 : Int) 0) (List.cons (Value.int (268 : Int) 0) (List.cons (Value.str (Str.ofString "/claim/cut.py") 759) (List.nil)))))))))))))))))))))) (List.toArray (List.nil)))) ::
  (nat_lit 458, fo458) ::
  (nat_lit 459, (Obj.mk (Value.type "tuple") (Option.none) (Data.seq (List.toArray (List.cons (Value.str (Str.ofString "context") 761) (List.cons (Value.str (Str.ofString "errors") 762) (List.cons (Value.str (Str.ofString "form") 763) (List.cons (Value.str (Str.ofString "formatting") 764) (List.cons (Value.str (Str.ofString "head") 765) (List.cons (Value.str (Str.ofString "is_acknowledged") 766) (List.cons (Value.str (Str.ofString "is_done") 767) (List.cons (Value.str (Str.ofString "is_foster") 768) (List.cons (Value.str (Str.ofString "is_frameset_ok") 769) (List.cons (Value.str (Str.ofString "is_scripting") 770) (List.cons (Value.str (Str.ofString "is_skipping") 771) (List.cons (Value.str (Str.ofString "mode") 772) (List.cons (Value.str (Str.ofString "modes") 773) (List.cons (Value.str (Str.ofString "original") 774) (List.cons (Value.str (Str.ofString "owners") 775) (List.cons (Value.str (Str.ofString "pending") 776) (List.cons (Value.str (Str.ofString "quirks") 777) (List.cons (Value.str (Str.ofString "rules") 778) (List.cons (Value.str (Str.ofString "stack") 779) (List.cons (Value.str (Str.ofString "tree") 780) (List.cons (Value.str (Str.ofString "wish") 781) (List.nil))))))))))))))))))))))) 0) (List.toArray (List.nil)))) ::
  (nat_lit 460, (Obj.mk (Value.type "dict") (Option.none) (Data.dict (List.toArray (List.cons (DictEntry.mk (PyData.keyHash P (Str.ofString "__module__")) (Value.str (Str.ofString "__module__") 692) (Value.str (Str.ofString "htmltree.builder") 683)) (List.cons (DictEntry.mk (PyData.keyHash P (Str.ofString "__firstlineno__")) (Value.str (Str.ofString "__firstlineno__") 696) (Value.int (225 : Int) 695)) (List.cons (DictEntry.mk (PyData.keyHash P (Str.ofString "__init__")) (Value.str (Str.ofString "__init__") 705) (Value.ref 409)) (List.cons (DictEntry.mk (PyData.keyHash P (Str.ofString "error")) (Value.str (Str.ofString "error") 713) (Value.ref 416)) (List.cons (DictEntry.mk (PyData.keyHash P (Str.ofString "to")) (Value.str (Str.ofString "to") 721) (Value.ref 423)) (List.cons (DictEntry.mk (PyData.keyHash P (Str.ofString "use")) (Value.str (Str.ofString "use") 730) (Value.ref 430)) (List.cons (DictEntry.mk (PyData.keyHash P (Str.ofString "process")) (Value.str (Str.ofString "process") 738) (Value.ref 437)) (List.cons (DictEntry.mk (PyData.keyHash P (Str.ofString "feed")) (Value.str (Str.ofString "feed") 746) (Value.ref 444)) (List.cons (DictEntry.mk (PyData.keyHash P (Str.ofString "adjusted")) (Value.str (Str.ofString "adjusted") 753) (Value.ref 451)) (List.cons (DictEntry.mk (PyData.keyHash P (Str.ofString "is_foreign")) (Value.str (Str.ofString "is_foreign") 760) (Value.ref 458)) (List.cons (DictEntry.mk (PyData.keyHash P (Str.ofString "__static_attributes__")) (Value.str (Str.ofString "__static_attributes__") 782) (Value.ref 459)) (List.cons (DictEntry.mk (PyData.keyHash P (Str.ofString "__dict__")) (Value.str (Str.ofString "__dict__") 784) (Value.ref 462)) (List.cons (DictEntry.mk (PyData.keyHash P (Str.ofString "__weakref__")) (Value.str (Str.ofString "__weakref__") 786) (Value.ref 463)) (List.cons (DictEntry.mk (PyData.keyHash P (Str.ofString "__doc__")) (Value.str (Str.ofString "__doc__") 787) Value.none) (List.nil)))))))))))))))) 4) (List.toArray (List.nil)))) ::
  (nat_lit 461, (Obj.mk (Value.type "type") (Option.none) (Data.cls (ClassData.mk (Str.ofString "Builder") (List.cons (Value.type "object") (List.nil)) (List.cons (Value.ref 461) (List.cons (Value.type "object") (List.nil))) 460 (Str.ofString "Builder") Bool.true (List.nil) (List.nil) Bool.false (Option.none) Bool.false)) (List.toArray (List.cons (Option.none) (List.cons (Option.none) (List.cons (Option.some (Value.str (Str.ofString "Builder") 685)) (List.cons (Option.some (Value.str (Str.ofString "Builder") 693)) (List.cons (Option.some (Value.builtin "object.__new__")) (List.cons (Option.some (Value.bool Bool.true)) (List.nil)))))))))) ::
  (nat_lit 462, (Obj.mk (Value.type "getset_descriptor") (Option.none) (Data.fields (List.toArray (List.cons (Value.str (Str.ofString "__dict__") 783) (List.cons (Value.ref 461) (List.cons (Value.builtin "function.__dict__") (List.cons (Value.builtin "function.__dict__#set") (List.nil))))))) (List.toArray (List.nil)))) ::
  (nat_lit 463, (Obj.mk (Value.type "getset_descriptor") (Option.none) (Data.fields (List.toArray (List.cons (Value.str (Str.ofString "__weakref__") 785) (List.cons (Value.ref 461) (List.cons (Value.builtin "ExceptionGroup.__weakref__") (List.cons Value.none (List.nil))))))) (List.toArray (List.nil)))) ::
  (nat_lit 466, (Obj.mk (Value.type "tuple") (Option.none) (Data.seq (List.toArray (List.nil)) 0) (List.toArray (List.nil)))) ::
  (nat_lit 468, (Obj.mk (Value.type "tuple") (Option.none) (Data.seq (List.toArray (List.cons (Value.str (Str.ofString "script") 795) (List.cons (Value.str (Str.ofString "place") 796) (List.nil)))) 0) (List.toArray (List.nil)))) ::
  (nat_lit 469, (Obj.mk (Value.type "tuple") (Option.none) (Data.seq (List.toArray (List.nil)) 0) (List.toArray (List.nil)))) ::
  (nat_lit 471, (Obj.mk (Value.type "code") (Option.none) (Data.fields (List.toArray (List.cons (Value.str (Str.ofString "_law_digit") 792) (List.cons (Value.str (Str.ofString "_law_digit") 793) (List.cons (Value.str (Str.ofString "/claim/cut.py") 794) (List.cons (Value.int (271 : Int) 0) (List.cons (Value.int (2 : Int) 0) (List.cons (Value.int (0 : Int) 0) (List.cons (Value.int (0 : Int) 0) (List.cons (Value.int (3 : Int) 0) (List.cons (Value.ref 466) (List.cons (Value.bool Bool.true) (List.cons (Value.int (181 : Int) 0) (List.cons (Value.ref 467) (List.cons Value.none (List.cons (Value.ref 468) (List.cons (Value.ref 469) (List.cons (Value.ref 470) (List.cons (Value.int (797 : Int) 0) (List.cons (Value.int (271 : Int) 0) (List.cons (Value.str (Str.ofString "/claim/cut.py") 798) (List.nil)))))))))))))))))))))) (List.toArray (List.nil)))) ::
  (nat_lit 472, fo472) ::
  (nat_lit 473, (Obj.mk (Value.type "tuple") (Option.none) (Data.seq (List.toArray (List.nil)) 0) (List.toArray (List.nil)))) ::
  (nat_lit 475, (Obj.mk (Value.type "tuple") (Option.none) (Data.seq (List.toArray (List.cons (Value.str (Str.ofString "digit") 803) (List.cons (Value.str (Str.ofString "first") 804) (List.cons (Value.str (Str.ofString "names") 805) (List.cons (Value.str (Str.ofString "space") 806) (List.nil)))))) 0) (List.toArray (List.nil)))) ::
  (nat_lit 476, (Obj.mk (Value.type "tuple") (Option.none) (Data.seq (List.toArray (List.nil)) 0) (List.toArray (List.nil)))) ::
  (nat_lit 478, (Obj.mk (Value.type "code") (Option.none) (Data.fields (List.toArray (List.cons (Value.str (Str.ofString "_law_element") 800) (List.cons (Value.str (Str.ofString "_law_element") 801) (List.cons (Value.str (Str.ofString "/claim/cut.py") 802) (List.cons (Value.int (273 : Int) 0) (List.cons (Value.int (2 : Int) 0) (List.cons (Value.int (0 : Int) 0) (List.cons (Value.int (0 : Int) 0) (List.cons (Value.int (3 : Int) 0) (List.cons (Value.ref 473) (List.cons (Value.bool Bool.true) (List.cons (Value.int (181 : Int) 0) (List.cons (Value.ref 474) (List.cons Value.none (List.cons (Value.ref 475) (List.cons (Value.ref 476) (List.cons (Value.ref 477) (List.cons (Value.int (807 : Int) 0) (List.cons (Value.int (273 : Int) 0) (List.cons (Value.str (Str.ofString "/claim/cut.py") 808) (List.nil)))))))))))))))))))))) (List.toArray (List.nil)))) ::
  (nat_lit 479, fo479) ::
  (nat_lit 480, (Obj.mk (Value.type "tuple") (Option.none) (Data.seq (List.toArray (List.nil)) 0) (List.toArray (List.nil)))) ::
  (nat_lit 482, (Obj.mk (Value.type "tuple") (Option.none) (Data.seq (List.toArray (List.cons (Value.str (Str.ofString "name") 813) (List.nil))) 0) (List.toArray (List.nil)))) ::
  (nat_lit 483, (Obj.mk (Value.type "tuple") (Option.none) (Data.seq (List.toArray (List.nil)) 0) (List.toArray (List.nil)))) ::
  (nat_lit 485, (Obj.mk (Value.type "code") (Option.none) (Data.fields (List.toArray (List.cons (Value.str (Str.ofString "_law_mode") 810) (List.cons (Value.str (Str.ofString "_law_mode") 811) (List.cons (Value.str (Str.ofString "/claim/cut.py") 812) (List.cons (Value.int (278 : Int) 0) (List.cons (Value.int (1 : Int) 0) (List.cons (Value.int (0 : Int) 0) (List.cons (Value.int (0 : Int) 0) (List.cons (Value.int (3 : Int) 0) (List.cons (Value.ref 480) (List.cons (Value.bool Bool.true) (List.cons (Value.int (181 : Int) 0) (List.cons (Value.ref 481) (List.cons Value.none (List.cons (Value.ref 482) (List.cons (Value.ref 483) (List.cons (Value.ref 484) (List.cons (Value.int (814 : Int) 0) (List.cons (Value.int (278 : Int) 0) (List.cons (Value.str (Str.ofString "/claim/cut.py") 815) (List.nil)))))))))))))))))))))) (List.toArray (List.nil)))) ::
  (nat_lit 486, fo486) ::
  (nat_lit 487, (Obj.mk (Value.type "tuple") (Option.none) (Data.seq (List.toArray (List.nil)) 0) (List.toArray (List.nil)))) ::
  (nat_lit 489, (Obj.mk (Value.type "tuple") (Option.none) (Data.seq (List.toArray (List.cons (Value.str (Str.ofString "rows") 820) (List.cons (Value.str (Str.ofString "top") 821) (List.cons (Value.str (Str.ofString "has_head") 822) (List.cons (Value.str (Str.ofString "told") 823) (List.cons (Value.str (Str.ofString "is_within_table") 824) (List.cons (Value.str (Str.ofString "modes") 825) (List.cons (Value.str (Str.ofString "at") 826) (List.cons (Value.str (Str.ofString "space") 827) (List.cons (Value.str (Str.ofString "name") 828) (List.cons (Value.str (Str.ofString "mode") 829) (List.nil)))))))))))) 0) (List.toArray (List.nil)))) ::
  (nat_lit 490, (Obj.mk (Value.type "tuple") (Option.none) (Data.seq (List.toArray (List.nil)) 0) (List.toArray (List.nil)))) ::
  (nat_lit 492, (Obj.mk (Value.type "code") (Option.none) (Data.fields (List.toArray (List.cons (Value.str (Str.ofString "_law_modes") 817) (List.cons (Value.str (Str.ofString "_law_modes") 818) (List.cons (Value.str (Str.ofString "/claim/cut.py") 819) (List.cons (Value.int (290 : Int) 0) (List.cons (Value.int (3 : Int) 0) (List.cons (Value.int (0 : Int) 0) (List.cons (Value.int (0 : Int) 0) (List.cons (Value.int (3 : Int) 0) (List.cons (Value.ref 487) (List.cons (Value.bool Bool.true) (List.cons (Value.int (181 : Int) 0) (List.cons (Value.ref 488) (List.cons Value.none (List.cons (Value.ref 489) (List.cons (Value.ref 490) (List.cons (Value.ref 491) (List.cons (Value.int (830 : Int) 0) (List.cons (Value.int (290 : Int) 0) (List.cons (Value.str (Str.ofString "/claim/cut.py") 831) (List.nil)))))))))))))))))))))) (List.toArray (List.nil)))) ::
  (nat_lit 493, fo493) ::
  (nat_lit 494, (Obj.mk (Value.type "tuple") (Option.none) (Data.seq (List.toArray (List.nil)) 0) (List.toArray (List.nil)))) ::
  (nat_lit 497, (Obj.mk (Value.type "code") (Option.none) (Data.fields (List.toArray (List.cons (Value.str (Str.ofString "law") 833) (List.cons (Value.str (Str.ofString "law") 834) (List.cons (Value.str (Str.ofString "/claim/cut.py") 835) (List.cons (Value.int (312 : Int) 0) (List.cons (Value.int (1 : Int) 0) (List.cons (Value.int (0 : Int) 0) (List.cons (Value.int (0 : Int) 0) (List.cons (Value.int (3 : Int) 0) (List.cons (Value.ref 494) (List.cons (Value.bool Bool.true) (List.cons (Value.int (181 : Int) 0) (List.cons (Value.ref 495) (List.cons Value.none (List.cons Value.none (List.cons Value.none (List.cons (Value.ref 496) (List.cons (Value.int (836 : Int) 0) (List.cons (Value.int (312 : Int) 0) (List.cons (Value.str (Str.ofString "/claim/cut.py") 837) (List.nil)))))))))))))))))))))) (List.toArray (List.nil)))) ::
  (nat_lit 498, fo498) ::
  []
def Kas : List Addr := [2, 3, 15, 17, 18, 20, 21, 22, 24, 25, 27, 28, 29, 31, 32, 34, 35, 36, 38, 39, 41, 42, 43, 45, 46, 48, 49, 50, 57, 59, 60, 62, 63, 64, 65, 66, 67, 70, 77, 78, 79, 89, 91, 92, 94, 95, 96, 98, 99, 101, 102, 103, 105, 106, 108, 109, 110, 112, 113, 115, 116, 117, 119, 120, 122, 123, 124, 126, 127, 129, 130, 131, 133, 134, 136, 137, 138, 140, 141, 143, 144, 145, 147, 148, 150, 151, 152, 154, 155, 157, 158, 159, 160, 161, 162, 163, 173, 175, 176, 178, 179, 180, 182, 183, 185, 186, 187, 189, 190, 192, 193, 194, 196, 197, 199, 200, 201, 203, 204, 206, 207, 208, 210, 211, 213, 214, 215, 217, 218, 220, 221, 222, 224, 225, 227, 228, 229, 231, 232, 234, 235, 236, 238, 239, 241, 242, 243, 245, 246, 248, 249, 250, 252, 253, 255, 256, 257, 259, 260, 262, 263, 264, 265, 266, 267, 268, 278, 280, 281, 283, 284, 285, 286, 287, 289, 290, 292, 293, 294, 295, 296, 298, 299, 301, 302, 303, 305, 306, 308, 309, 310, 312, 313, 315, 316, 317, 319, 320, 322, 323, 324, 325, 327, 328, 330, 331, 332, 334, 335, 337, 338, 339, 341, 342, 344, 345, 346, 348, 349, 351, 352, 353, 355, 356, 358, 359, 360, 362, 363, 365, 366, 367, 369, 370, 372, 373, 374, 376, 377, 379, 380, 381, 382, 383, 384, 385, 388, 390, 391, 393, 394, 402, 403, 405, 406, 408, 409, 410, 412, 413, 415, 416, 417, 419, 420, 422, 423, 424, 426, 427, 429, 430, 431, 433, 434, 436, 437, 438, 440, 441, 443, 444, 445, 447, 448, 450, 451, 452, 454, 455, 457, 458, 459, 460, 461, 462, 463, 466, 468, 469, 471, 472, 473, 475, 476, 478, 479, 480, 482, 483, 485, 486, 487, 489, 490, 492, 493, 494, 497, 498]
noncomputable def hd.view_39 : Program := view PySem.Challenge.pw_nt0607_01 [0, 2, 3, 4, 5, 7, 8, 10, 12, 14, 15, 17, 19, 20, 21, 22, 23]
noncomputable def H1 (P : Params) : Heap := ⟨Array.mk (
  (Obj.mk (Value.type "dict") (Option.none) (Data.dict (List.toArray (List.cons (DictEntry.mk (PyData.keyHash P (Str.ofString "__name__")) (Value.str (Str.ofString "__name__") 1) (Value.str (Str.ofString "builtins") 160)) (List.cons (DictEntry.mk (PyData.keyHash P (Str.ofString "__doc__")) (Value.str (Str.ofString "__doc__") 2) (Value.builtin "builtins.__doc__:str#opaque")) (List.cons (DictEntry.mk (PyData.keyHash P (Str.ofString "__package__")) (Value.str (Str.ofString "__package__") 3) (Value.builtin "builtins.__package__:str#opaque")) (List.cons (DictEntry.mk (PyData.keyHash P (Str.ofString "__loader__")) (Value.str (Str.ofString "__loader__") 4) (Value.builtin "builtins.__loader__:shared#opaque")) (List.cons (DictEntry.mk (PyData.keyHash P (Str.ofString "__spec__")) (Value.str (Str.ofString "__spec__") 5) (Value.builtin "builtins.__spec__#opaque")) (List.cons (DictEntry.mk (PyData.keyHash P (Str.ofString "__build_class__")) (Value.str (Str.ofString "__build_class__") 6) (Value.builtin "__build_class__")) (List.cons (DictEntry.mk (PyData.keyHash P (Str.ofString "__import__")) (Value.str (Str.ofString "__import__") 7) (Value.builtin "__import__")) (List.cons (DictEntry.mk (PyData.keyHash P (Str.ofString "abs")) (Value.str (Str.ofString "abs") 8) (Value.builtin "abs")) (List.cons (DictEntry.mk (PyData.keyHash P (Str.ofString "all")) (Value.str (Str.ofString "all") 9) (Value.builtin "all")) (List.cons (DictEntry.mk (PyData.keyHash P (Str.ofString "any")) (Value.str (Str.ofString "any") 10) (Value.builtin "any")) (List.cons (DictEntry.mk (PyData.keyHash P (Str.ofString "ascii")) (Value.str (Str.ofString "ascii") 11) (Value.builtin "ascii")) (List.cons (DictEntry.mk (PyData.keyHash P (Str.ofString "bin")) (Value.str (Str.ofString "bin") 12) (Value.builtin "bin")) (List.cons (DictEntry.mk (PyData.keyHash P (Str.ofString "breakpoint")) (Value.str (Str.ofString "breakpoint") 13) (Value.builtin "breakpoint")) (List.cons (DictEntry.mk (PyData.keyHash P (Str.ofString "callable")) (Value.str (Str.ofString "callable") 14) (Value.builtin "callable")) (List.cons (DictEntry.mk (PyData.keyHash P (Str.ofString "chr")) (Value.str (Str.ofString "chr") 15) (Value.builtin "chr")) (List.cons (DictEntry.mk (PyData.keyHash P (Str.ofString "compile")) (Value.str (Str.ofString "compile") 16) (Value.builtin "compile")) (List.cons (DictEntry.mk (PyData.keyHash P (Str.ofString "delattr")) (Value.str (Str.ofString "delattr") 17) (Value.builtin "delattr")) (List.cons (DictEntry.mk (PyData.keyHash P (Str.ofString "dir")) (Value.str (Str.ofString "dir") 18) (Value.builtin "dir")) (List.cons (DictEntry.mk (PyData.keyHash P (Str.ofString "divmod")) (Value.str (Str.ofString "divmod") 19) (Value.builtin "divmod")) (List.cons (DictEntry.mk (PyData.keyHash P (Str.ofString "eval")) (Value.str (Str.ofString "eval") 20) (Value.builtin "eval")) (List.cons (DictEntry.mk (PyData.keyHash P (Str.ofString "exec")) (Value.str (Str.ofString "exec") 21) (Value.builtin "exec")) (List.cons (DictEntry.mk (PyData.keyHash P (Str.ofString "format")) (Value.str (Str.ofString "format") 22) (Value.builtin "format")) (List.cons (DictEntry.mk (PyData.keyHash P (Str.ofString "getattr")) (Value.str (Str.ofString "getattr") 23) (Value.builtin "getattr")) (List.cons (DictEntry.mk (PyData.keyHash P (Str.ofString "globals")) (Value.str (Str.ofString "globals") 24) (Value.builtin "globals")) (List.cons (DictEntry.mk (PyData.keyHash P (Str.ofString "hasattr")) (Value.str (Str.ofString "hasattr") 25) (Value.builtin "hasattr")) (List.cons (DictEntry.mk (PyData.keyHash P (Str.ofString "hash")) (Value.str (Str.ofString "hash") 26) (Value.builtin "hash")) (List.cons (DictEntry.mk (PyData.keyHash P (Str.ofString "hex")) (Value.str (Str.ofString "hex") 27) (Value.builtin "hex")) (List.cons (DictEntry.mk (PyData.keyHash P (Str.ofString "id")) (Value.str (Str.ofString "id") 28) (Value.builtin "id")) (List.cons (DictEntry.mk (PyData.keyHash P (Str.ofString "input")) (Value.str (Str.ofString "input") 29) (Value.builtin "input")) (List.cons (DictEntry.mk (PyData.keyHash P (Str.ofString "isinstance")) (Value.str (Str.ofString "isinstance") 30) (Value.builtin "isinstance")) (List.cons (DictEntry.mk (PyData.keyHash P (Str.ofString "issubclass")) (Value.str (Str.ofString "issubclass") 31) (Value.builtin "issubclass")) (List.cons (DictEntry.mk (PyData.keyHash P (Str.ofString "iter")) (Value.str (Str.ofString "iter") 32) (Value.builtin "iter")) (List.cons (DictEntry.mk (PyData.keyHash P (Str.ofString "aiter")) (Value.str (Str.ofString "aiter") 33) (Value.builtin "aiter")) (List.cons (DictEntry.mk (PyData.keyHash P (Str.ofString "len")) (Value.str (Str.ofString "len") 34) (Value.builtin "len")) (List.cons (DictEntry.mk (PyData.keyHash P (Str.ofString "locals")) (Value.str (Str.ofString "locals") 35) (Value.builtin "locals")) (List.cons (DictEntry.mk (PyData.keyHash P (Str.ofString "max")) (Value.str (Str.ofString "max") 36) (Value.builtin "max")) (List.cons (DictEntry.mk (PyData.keyHash P (Str.ofString "min")) (Value.str (Str.ofString "min") 37) (Value.builtin "min")) (List.cons (DictEntry.mk (PyData.keyHash P (Str.ofString "next")) (Value.str (Str.ofString "next") 38) (Value.builtin "next")) (List.cons (DictEntry.mk (PyData.keyHash P (Str.ofString "anext")) (Value.str (Str.ofString "anext") 39) (Value.builtin "anext")) (List.cons (DictEntry.mk (PyData.keyHash P (Str.ofString "oct")) (Value.str (Str.ofString "oct") 40) (Value.builtin "oct")) (List.cons (DictEntry.mk (PyData.keyHash P (Str.ofString "ord")) (Value.str (Str.ofString "ord") 41) (Value.builtin "ord")) (List.cons (DictEntry.mk (PyData.keyHash P (Str.ofString "pow")) (Value.str (Str.ofString "pow") 42) (Value.builtin "pow")) (List.cons (DictEntry.mk (PyData.keyHash P (Str.ofString "print")) (Value.str (Str.ofString "print") 43) (Value.builtin "print")) (List.cons (DictEntry.mk (PyData.keyHash P (Str.ofString "repr")) (Value.str (Str.ofString "repr") 44) (Value.builtin "repr")) (List.cons (DictEntry.mk (PyData.keyHash P (Str.ofString "round")) (Value.str (Str.ofString "round") 45) (Value.builtin "round")) (List.cons (DictEntry.mk (PyData.keyHash P (Str.ofString "setattr")) (Value.str (Str.ofString "setattr") 46) (Value.builtin "setattr")) (List.cons (DictEntry.mk (PyData.keyHash P (Str.ofString "sorted")) (Value.str (Str.ofString "sorted") 47) (Value.builtin "sorted")) (List.cons (DictEntry.mk (PyData.keyHash P (Str.ofString "sum")) (Value.str (Str.ofString "sum") 48) (Value.builtin "sum")) (List.cons (DictEntry.mk (PyData.keyHash P (Str.ofString "vars")) (Value.str (Str.ofString "vars") 49) (Value.builtin "vars")) (List.cons (DictEntry.mk (PyData.keyHash P (Str.ofString "None")) (Value.str (Str.ofString "None") 50) Value.none) (List.cons (DictEntry.mk (PyData.keyHash P (Str.ofString "Ellipsis")) (Value.str (Str.ofString "Ellipsis") 51) Value.ellipsis) (List.cons (DictEntry.mk (PyData.keyHash P (Str.ofString "NotImplemented")) (Value.str (Str.ofString "NotImplemented") 52) Value.notImplemented) (List.cons (DictEntry.mk (PyData.keyHash P (Str.ofString "False")) (Value.str (Str.ofString "False") 53) (Value.bool Bool.false)) (List.cons (DictEntry.mk (PyData.keyHash P (Str.ofString "True")) (Value.str (Str.ofString "True") 54) (Value.bool Bool.true)) (List.cons (DictEntry.mk (PyData.keyHash P (Str.ofString "bool")) (Value.str (Str.ofString "bool") 55) (Value.type "bool")) (List.cons (DictEntry.mk (PyData.keyHash P (Str.ofString "memoryview")) (Value.str (Str.ofString "memoryview") 56) (Value.type "memoryview")) (List.cons (DictEntry.mk (PyData.keyHash P (Str.ofString "bytearray")) (Value.str (Str.ofString "bytearray") 57) (Value.type "bytearray")) (List.cons (DictEntry.mk (PyData.keyHash P (Str.ofString "bytes")) (Value.str (Str.ofString "bytes") 58) (Value.type "bytes")) (List.cons (DictEntry.mk (PyData.keyHash P (Str.ofString "classmethod")) (Value.str (Str.ofString "classmethod") 59) (Value.type "classmethod")) (List.cons (DictEntry.mk (PyData.keyHash P (Str.ofString "complex")) (Value.str (Str.ofString "complex") 60) (Value.type "complex")) (List.cons (DictEntry.mk (PyData.keyHash P (Str.ofString "dict")) (Value.str (Str.ofString "dict") 61) (Value.type "dict")) (List.cons (DictEntry.mk (PyData.keyHash P (Str.ofString "enumerate")) (Value.str (Str.ofString "enumerate") 62) (Value.type "enumerate")) (List.cons (DictEntry.mk (PyData.keyHash P (Str.ofString "filter")) (Value.str (Str.ofString "filter") 63) (Value.type "filter")) (List.cons (DictEntry.mk (PyData.keyHash P (Str.ofString "float")) (Value.str (Str.ofString "float") 64) (Value.type "float")) (List.cons (DictEntry.mk (PyData.keyHash P (Str.ofString "frozenset")) (Value.str (Str.ofString "frozenset") 65) (Value.type "frozenset")) (List.cons (DictEntry.mk (PyData.keyHash P (Str.ofString "property")) (Value.str (Str.ofString "property") 66) (Value.type "property")) (List.cons (DictEntry.mk (PyData.keyHash P (Str.ofString "int")) (Value.str (Str.ofString "int") 67) (Value.type "int")) (List.cons (DictEntry.mk (PyData.keyHash P (Str.ofString "list")) (Value.str (Str.ofString "list") 68) (Value.type "list")) (List.cons (DictEntry.mk (PyData.keyHash P (Str.ofString "map")) (Value.str (Str.ofString "map") 69) (Value.type "map")) (List.cons (DictEntry.mk (PyData.keyHash P (Str.ofString "object")) (Value.str (Str.ofString "object") 70) (Value.type "object")) (List.cons (DictEntry.mk (PyData.keyHash P (Str.ofString "range")) (Value.str (Str.ofString "range") 71) (Value.type "range")) (List.cons (DictEntry.mk (PyData.keyHash P (Str.ofString "reversed")) (Value.str (Str.ofString "reversed") 72) (Value.type "reversed")) (List.cons (DictEntry.mk (PyData.keyHash P (Str.ofString "set")) (Value.str (Str.ofString "set") 73) (Value.type "set")) (List.cons (DictEntry.mk (PyData.keyHash P (Str.ofString "slice")) (Value.str (Str.ofString "slice") 74) (Value.type "slice")) (List.cons (DictEntry.mk (PyData.keyHash P (Str.ofString "staticmethod")) (Value.str (Str.ofString "staticmethod") 75) (Value.type "staticmethod")) (List.cons (DictEntry.mk (PyData.keyHash P (Str.ofString "str")) (Value.str (Str.ofString "str") 76) (Value.type "str")) (List.cons (DictEntry.mk (PyData.keyHash P (Str.ofString "super")) (Value.str (Str.ofString "super") 77) (Value.type "super")) (List.cons (DictEntry.mk (PyData.keyHash P (Str.ofString "tuple")) (Value.str (Str.ofString "tuple") 78) (Value.type "tuple")) (List.cons (DictEntry.mk (PyData.keyHash P (Str.ofString "type")) (Value.str (Str.ofString "type") 79) (Value.type "type")) (List.cons (DictEntry.mk (PyData.keyHash P (Str.ofString "zip")) (Value.str (Str.ofString "zip") 80) (Value.type "zip")) (List.cons (DictEntry.mk (PyData.keyHash P (Str.ofString "__debug__")) (Value.str (Str.ofString "__debug__") 81) (Value.bool Bool.true)) (List.cons (DictEntry.mk (PyData.keyHash P (Str.ofString "BaseException")) (Value.str (Str.ofString "BaseException") 82) (Value.type "BaseException")) (List.cons (DictEntry.mk (PyData.keyHash P (Str.ofString "BaseExceptionGroup")) (Value.str (Str.ofString "BaseExceptionGroup") 83) (Value.type "BaseExceptionGroup")) (List.cons (DictEntry.mk (PyData.keyHash P (Str.ofString "Exception")) (Value.str (Str.ofString "Exception") 84) (Value.type "Exception")) (List.cons (DictEntry.mk (PyData.keyHash P (Str.ofString "GeneratorExit")) (Value.str (Str.ofString "GeneratorExit") 85) (Value.type "GeneratorExit")) (List.cons (DictEntry.mk (PyData.keyHash P (Str.ofString "KeyboardInterrupt")) (Value.str (Str.ofString "KeyboardInterrupt") 86) (Value.type "KeyboardInterrupt")) (List.cons (DictEntry.mk (PyData.keyHash P (Str.ofString "SystemExit")) (Value.str (Str.ofString "SystemExit") 87) (Value.type "SystemExit")) (List.cons (DictEntry.mk (PyData.keyHash P (Str.ofString "ArithmeticError")) (Value.str (Str.ofString "ArithmeticError") 88) (Value.type "ArithmeticError")) (List.cons (DictEntry.mk (PyData.keyHash P (Str.ofString "AssertionError")) (Value.str (Str.ofString "AssertionError") 89) (Value.type "AssertionError")) (List.cons (DictEntry.mk (PyData.keyHash P (Str.ofString "AttributeError")) (Value.str (Str.ofString "AttributeError") 90) (Value.type "AttributeError")) (List.cons (DictEntry.mk (PyData.keyHash P (Str.ofString "BufferError")) (Value.str (Str.ofString "BufferError") 91) (Value.type "BufferError")) (List.cons (DictEntry.mk (PyData.keyHash P (Str.ofString "EOFError")) (Value.str (Str.ofString "EOFError") 92) (Value.type "EOFError")) (List.cons (DictEntry.mk (PyData.keyHash P (Str.ofString "ImportError")) (Value.str (Str.ofString "ImportError") 93) (Value.type "ImportError")) (List.cons (DictEntry.mk (PyData.keyHash P (Str.ofString "LookupError")) (Value.str (Str.ofString "LookupError") 94) (Value.type "LookupError")) (List.cons (DictEntry.mk (PyData.keyHash P (Str.ofString "MemoryError")) (Value.str (Str.ofString "MemoryError") 95) (Value.type "MemoryError")) (List.cons (DictEntry.mk (PyData.keyHash P (Str.ofString "NameError")) (Value.str (Str.ofString "NameError") 96) (Value.type "NameError")) (List.cons (DictEntry.mk (PyData.keyHash P (Str.ofString "OSError")) (Value.str (Str.ofString "OSError") 97) (Value.type "OSError")) (List.cons (DictEntry.mk (PyData.keyHash P (Str.ofString "ReferenceError")) (Value.str (Str.ofString "ReferenceError") 98) (Value.type "ReferenceError")) (List.cons (DictEntry.mk (PyData.keyHash P (Str.ofString "RuntimeError")) (Value.str (Str.ofString "RuntimeError") 99) (Value.type "RuntimeError")) (List.cons (DictEntry.mk (PyData.keyHash P (Str.ofString "StopAsyncIteration")) (Value.str (Str.ofString "StopAsyncIteration") 100) (Value.type "StopAsyncIteration")) (List.cons (DictEntry.mk (PyData.keyHash P (Str.ofString "StopIteration")) (Value.str (Str.ofString "StopIteration") 101) (Value.type "StopIteration")) (List.cons (DictEntry.mk (PyData.keyHash P (Str.ofString "SyntaxError")) (Value.str (Str.ofString "SyntaxError") 102) (Value.type "SyntaxError")) (List.cons (DictEntry.mk (PyData.keyHash P (Str.ofString "SystemError")) (Value.str (Str.ofString "SystemError") 103) (Value.type "SystemError")) (List.cons (DictEntry.mk (PyData.keyHash P (Str.ofString "TypeError")) (Value.str (Str.ofString "TypeError") 104) (Value.type "TypeError")) (List.cons (DictEntry.mk (PyData.keyHash P (Str.ofString "ValueError")) (Value.str (Str.ofString "ValueError") 105) (Value.type "ValueError")) (List.cons (DictEntry.mk (PyData.keyHash P (Str.ofString "Warning")) (Value.str (Str.ofString "Warning") 106) (Value.type "Warning")) (List.cons (DictEntry.mk (PyData.keyHash P (Str.ofString "FloatingPointError")) (Value.str (Str.ofString "FloatingPointError") 107) (Value.type "FloatingPointError")) (List.cons (DictEntry.mk (PyData.keyHash P (Str.ofString "OverflowError")) (Value.str (Str.ofString "OverflowError") 108) (Value.type "OverflowError")) (List.cons (DictEntry.mk (PyData.keyHash P (Str.ofString "ZeroDivisionError")) (Value.str (Str.ofString "ZeroDivisionError") 109) (Value.type "ZeroDivisionError")) (List.cons (DictEntry.mk (PyData.keyHash P (Str.ofString "BytesWarning")) (Value.str (Str.ofString "BytesWarning") 110) (Value.type "BytesWarning")) (List.cons (DictEntry.mk (PyData.keyHash P (Str.ofString "DeprecationWarning")) (Value.str (Str.ofString "DeprecationWarning") 111) (Value.type "DeprecationWarning")) (List.cons (DictEntry.mk (PyData.keyHash P (Str.ofString "EncodingWarning")) (Value.str (Str.ofString "EncodingWarning") 112) (Value.type "EncodingWarning")) (List.cons (DictEntry.mk (PyData.keyHash P (Str.ofString "FutureWarning")) (Value.str (Str.ofString "FutureWarning") 113) (Value.type "FutureWarning")) (List.cons (DictEntry.mk (PyData.keyHash P (Str.ofString "ImportWarning")) (Value.str (Str.ofString "ImportWarning") 114) (Value.type "ImportWarning")) (List.cons (DictEntry.mk (PyData.keyHash P (Str.ofString "PendingDeprecationWarning")) (Value.str (Str.ofString "PendingDeprecationWarning") 115) (Value.type "PendingDeprecationWarning")) (List.cons (DictEntry.mk (PyData.keyHash P (Str.ofString "ResourceWarning")) (Value.str (Str.ofString "ResourceWarning") 116) (Value.type "ResourceWarning")) (List.cons (DictEntry.mk (PyData.keyHash P (Str.ofString "RuntimeWarning")) (Value.str (Str.ofString "RuntimeWarning") 117) (Value.type "RuntimeWarning")) (List.cons (DictEntry.mk (PyData.keyHash P (Str.ofString "SyntaxWarning")) (Value.str (Str.ofString "SyntaxWarning") 118) (Value.type "SyntaxWarning")) (List.cons (DictEntry.mk (PyData.keyHash P (Str.ofString "UnicodeWarning")) (Value.str (Str.ofString "UnicodeWarning") 119) (Value.type "UnicodeWarning")) (List.cons (DictEntry.mk (PyData.keyHash P (Str.ofString "UserWarning")) (Value.str (Str.ofString "UserWarning") 120) (Value.type "UserWarning")) (List.cons (DictEntry.mk (PyData.keyHash P (Str.ofString "BlockingIOError")) (Value.str (Str.ofString "BlockingIOError") 121) (Value.type "BlockingIOError")) (List.cons (DictEntry.mk (PyData.keyHash P (Str.ofString "ChildProcessError")) (Value.str (Str.ofString "ChildProcessError") 122) (Value.type "ChildProcessError")) (List.cons (DictEntry.mk (PyData.keyHash P (Str.ofString "ConnectionError")) (Value.str (Str.ofString "ConnectionError") 123) (Value.type "ConnectionError")) (List.cons (DictEntry.mk (PyData.keyHash P (Str.ofString "FileExistsError")) (Value.str (Str.ofString "FileExistsError") 124) (Value.type "FileExistsError")) (List.cons (DictEntry.mk (PyData.keyHash P (Str.ofString "FileNotFoundError")) (Value.str (Str.ofString "FileNotFoundError") 125) (Value.type "FileNotFoundError")) (List.cons (DictEntry.mk (PyData.keyHash P (Str.ofString "InterruptedError")) (Value.str (Str.ofString "InterruptedError") 126) (Value.type "InterruptedError")) (List.cons (DictEntry.mk (PyData.keyHash P (Str.ofString "IsADirectoryError")) (Value.str (Str.ofString "IsADirectoryError") 127) (Value.type "IsADirectoryError")) (List.cons (DictEntry.mk (PyData.keyHash P (Str.ofString "NotADirectoryError")) (Value.str (Str.ofString "NotADirectoryError") 128) (Value.type "NotADirectoryError")) (List.cons (DictEntry.mk (PyData.keyHash P (Str.ofString "PermissionError")) (Value.str (Str.ofString "PermissionError") 129) (Value.type "PermissionError")) (List.cons (DictEntry.mk (PyData.keyHash P (Str.ofString "ProcessLookupError")) (Value.str (Str.ofString "ProcessLookupError") 130) (Value.type "ProcessLookupError")) (List.cons (DictEntry.mk (PyData.keyHash P (Str.ofString "TimeoutError")) (Value.str (Str.ofString "TimeoutError") 131) (Value.type "TimeoutError")) (List.cons (DictEntry.mk (PyData.keyHash P (Str.ofString "IndentationError")) (Value.str (Str.ofString "IndentationError") 132) (Value.type "IndentationError")) (List.cons (DictEntry.mk (PyData.keyHash P (Str.ofString "_IncompleteInputError")) (Value.str (Str.ofString "_IncompleteInputError") 133) (Value.type "_IncompleteInputError")) (List.cons (DictEntry.mk (PyData.keyHash P (Str.ofString "IndexError")) (Value.str (Str.ofString "IndexError") 134) (Value.type "IndexError")) (List.cons (DictEntry.mk (PyData.keyHash P (Str.ofString "KeyError")) (Value.str (Str.ofString "KeyError") 135) (Value.type "KeyError")) (List.cons (DictEntry.mk (PyData.keyHash P (Str.ofString "ModuleNotFoundError")) (Value.str (Str.ofString "ModuleNotFoundError") 136) (Value.type "ModuleNotFoundError")) (List.cons (DictEntry.mk (PyData.keyHash P (Str.ofString "NotImplementedError")) (Value.str (Str.ofString "NotImplementedError") 137) (Value.type "NotImplementedError")) (List.cons (DictEntry.mk (PyData.keyHash P (Str.ofString "PythonFinalizationError")) (Value.str (Str.ofString "PythonFinalizationError") 138) (Value.type "PythonFinalizationError")) (List.cons (DictEntry.mk (PyData.keyHash P (Str.ofString "RecursionError")) (Value.str (Str.ofString "RecursionError") 139) (Value.type "RecursionError")) (List.cons (DictEntry.mk (PyData.keyHash P (Str.ofString "UnboundLocalError")) (Value.str (Str.ofString "UnboundLocalError") 140) (Value.type "UnboundLocalError")) (List.cons (DictEntry.mk (PyData.keyHash P (Str.ofString "UnicodeError")) (Value.str (Str.ofString "UnicodeError") 141) (Value.type "UnicodeError")) (List.cons (DictEntry.mk (PyData.keyHash P (Str.ofString "BrokenPipeError")) (Value.str (Str.ofString "BrokenPipeError") 142) (Value.type "BrokenPipeError")) (List.cons (DictEntry.mk (PyData.keyHash P (Str.ofString "ConnectionAbortedError")) (Value.str (Str.ofString "ConnectionAbortedError") 143) (Value.type "ConnectionAbortedError")) (List.cons (DictEntry.mk (PyData.keyHash P (Str.ofString "ConnectionRefusedError")) (Value.str (Str.ofString "ConnectionRefusedError") 144) (Value.type "ConnectionRefusedError")) (List.cons (DictEntry.mk (PyData.keyHash P (Str.ofString "ConnectionResetError")) (Value.str (Str.ofString "ConnectionResetError") 145) (Value.type "ConnectionResetError")) (List.cons (DictEntry.mk (PyData.keyHash P (Str.ofString "TabError")) (Value.str (Str.ofString "TabError") 146) (Value.type "TabError")) (List.cons (DictEntry.mk (PyData.keyHash P (Str.ofString "UnicodeDecodeError")) (Value.str (Str.ofString "UnicodeDecodeError") 147) (Value.type "UnicodeDecodeError")) (List.cons (DictEntry.mk (PyData.keyHash P (Str.ofString "UnicodeEncodeError")) (Value.str (Str.ofString "UnicodeEncodeError") 148) (Value.type "UnicodeEncodeError")) (List.cons (DictEntry.mk (PyData.keyHash P (Str.ofString "UnicodeTranslateError")) (Value.str (Str.ofString "UnicodeTranslateError") 149) (Value.type "UnicodeTranslateError")) (List.cons (DictEntry.mk (PyData.keyHash P (Str.ofString "ExceptionGroup")) (Value.str (Str.ofString "ExceptionGroup") 150) (Value.type "ExceptionGroup")) (List.cons (DictEntry.mk (PyData.keyHash P (Str.ofString "EnvironmentError")) (Value.str (Str.ofString "EnvironmentError") 151) (Value.type "OSError")) (List.cons (DictEntry.mk (PyData.keyHash P (Str.ofString "IOError")) (Value.str (Str.ofString "IOError") 152) (Value.type "OSError")) (List.cons (DictEntry.mk (PyData.keyHash P (Str.ofString "open")) (Value.str (Str.ofString "open") 153) (Value.builtin "open")) (List.cons (DictEntry.mk (PyData.keyHash P (Str.ofString "quit")) (Value.str (Str.ofString "quit") 154) (Value.builtin "builtins.quit#opaque")) (List.cons (DictEntry.mk (PyData.keyHash P (Str.ofString "exit")) (Value.str (Str.ofString "exit") 155) (Value.builtin "builtins.exit#opaque")) (List.cons (DictEntry.mk (PyData.keyHash P (Str.ofString "copyright")) (Value.str (Str.ofString "copyright") 156) (Value.builtin "builtins.copyright#opaque")) (List.cons (DictEntry.mk (PyData.keyHash P (Str.ofString "credits")) (Value.str (Str.ofString "credits") 157) (Value.builtin "builtins.credits#opaque")) (List.cons (DictEntry.mk (PyData.keyHash P (Str.ofString "license")) (Value.str (Str.ofString "license") 158) (Value.builtin "builtins.license#opaque")) (List.cons (DictEntry.mk (PyData.keyHash P (Str.ofString "help")) (Value.str (Str.ofString "help") 159) (Value.builtin "builtins.help#opaque")) (List.nil))))))))))))))))))))))))))))))))))))))))))))))))))))))))))))))))))))))))))))))))))))))))))))))))))))))))))))))))))))))))))))))))))))))))))))))))))))))))))))))))) 159) (List.toArray (List.nil))) ::
  (Obj.mk (Value.type "dict") (Option.none) (Data.dict (List.toArray (List.cons (DictEntry.mk (PyData.keyHash P (Str.ofString "builtins")) (Value.str (Str.ofString "builtins") 162) (Value.ref 4)) (List.cons (DictEntry.mk (PyData.keyHash P (Str.ofString "__main__")) (Value.str (Str.ofString "__main__") 163) (Value.ref 5)) (List.nil)))) 2) (List.toArray (List.nil))) ::
  (Obj.mk Value.none (Option.none) (Data.dict (List.toArray (List.cons (DictEntry.mk (PyData.keyHash P (Str.ofString "type.__subclasses__.Exception.0")) (Value.str (Str.ofString "type.__subclasses__.Exception.0") 260) (Value.int (66 : Int) 0)) (List.cons (DictEntry.mk (PyData.keyHash P (Str.ofString "type.__subclasses__.Exception.n")) (Value.str (Str.ofString "type.__subclasses__.Exception.n") 261) (Value.int (1 : Int) 0)) (List.nil)))) 2) (List.toArray (List.nil))) ::
  (Obj.mk (Value.type "dict") (Option.none) (Data.dict (List.toArray (List.cons (DictEntry.mk (PyData.keyHash P (Str.ofString "__name__")) (Value.str (Str.ofString "__name__") 165) (Value.str (Str.ofString "htmltree.openstack") 384)) (List.cons (DictEntry.mk (PyData.keyHash P (Str.ofString "__doc__")) (Value.str (Str.ofString "__doc__") 166) Value.none) (List.cons (DictEntry.mk (PyData.keyHash P (Str.ofString "__package__")) (Value.str (Str.ofString "__package__") 167) Value.none) (List.cons (DictEntry.mk (PyData.keyHash P (Str.ofString "__loader__")) (Value.str (Str.ofString "__loader__") 168) (Value.builtin "__main__.__loader__#opaque")) (List.cons (DictEntry.mk (PyData.keyHash P (Str.ofString "__spec__")) (Value.str (Str.ofString "__spec__") 169) Value.none) (List.cons (DictEntry.mk (PyData.keyHash P (Str.ofString "__annotations__")) (Value.str (Str.ofString "__annotations__") 170) (Value.ref 6)) (List.cons (DictEntry.mk (PyData.keyHash P (Str.ofString "__builtins__")) (Value.str (Str.ofString "__builtins__") 171) (Value.ref 4)) (List.cons (DictEntry.mk (PyData.keyHash P (Str.ofString "__file__")) (Value.str (Str.ofString "__file__") 173) (Value.str (Str.ofString "/claim/cut.py") 172)) (List.cons (DictEntry.mk (PyData.keyHash P (Str.ofString "__cached__")) (Value.str (Str.ofString "__cached__") 174) Value.none) (List.cons (DictEntry.mk (PyData.keyHash P (Str.ofString "_wall")) (Value.str (Str.ofString "_wall") 193) (Value.ref 21)) (List.cons (DictEntry.mk (PyData.keyHash P (Str.ofString "mode_of")) (Value.str (Str.ofString "mode_of") 203) (Value.ref 28)) (List.cons (DictEntry.mk (PyData.keyHash P (Str.ofString "select_mode")) (Value.str (Str.ofString "select_mode") 212) (Value.ref 35)) (List.cons (DictEntry.mk (PyData.keyHash P (Str.ofString "mode_for")) (Value.str (Str.ofString "mode_for") 222) (Value.ref 42)) (List.cons (DictEntry.mk (PyData.keyHash P (Str.ofString "reset_mode")) (Value.str (Str.ofString "reset_mode") 232) (Value.ref 49)) (List.cons (DictEntry.mk (PyData.keyHash P (Str.ofString "HtmlFault")) (Value.str (Str.ofString "HtmlFault") 263) (Value.ref 66)) (List.cons (DictEntry.mk (PyData.keyHash P (Str.ofString "Misused")) (Value.str (Str.ofString "Misused") 279) (Value.ref 79)) (List.cons (DictEntry.mk (PyData.keyHash P (Str.ofString "Formatting")) (Value.str (Str.ofString "Formatting") 383) (Value.ref 161)) (List.nil))))))))))))))))))) 17) (List.toArray (List.nil))) ::
  (Obj.mk (Value.type "module") (Option.some 0) Data.plain (List.toArray (List.nil))) ::
  (Obj.mk (Value.type "module") (Option.some 3) Data.plain (List.toArray (List.nil))) ::
  (Obj.mk (Value.type "dict") (Option.none) (Data.dict (List.toArray (List.nil)) 0) (List.toArray (List.nil))) ::
  (Obj.mk (Value.type "tuple") (Option.none) (Data.seq (List.toArray (List.nil)) 0) (List.toArray (List.nil))) ::
  (Obj.mk Value.none (Option.none) (Data.fields (List.toArray (List.nil))) (List.toArray (List.nil))) ::
  (Obj.mk (Value.type "code") (Option.none) (Data.fields (List.toArray (List.cons (Value.str (Str.ofString "<module>") 176) (List.cons (Value.str (Str.ofString "<module>") 177) (List.cons (Value.str (Str.ofString "/claim/cut.py") 178) (List.cons (Value.int (1 : Int) 0) (List.cons (Value.int (0 : Int) 0) (List.cons (Value.int (0 : Int) 0) (List.cons (Value.int (0 : Int) 0) (List.cons (Value.int (0 : Int) 0) (List.cons (Value.ref 7) (List.cons (Value.bool Bool.false) (List.cons (Value.int (175 : Int) 0) (List.cons (Value.ref 8) (List.cons Value.none (List.cons Value.none (List.cons Value.none (List.cons Value.none (List.cons (Value.int (179 : Int) 0) (List.cons (Value.int (1 : Int) 0) (List.cons (Value.str (Str.ofString "/claim/cut.py") 180) (List.nil)))))))))))))))))))))) (List.toArray (List.nil))) ::
  (Obj.mk (Value.type "frame") (Option.none) Data.plain (List.toArray (List.cons (Option.some (Value.ref 9)) (List.cons (Option.some (Value.ref 3)) (List.cons (Option.some (Value.ref 3)) (List.cons (Option.none) (List.cons (Option.some (Value.str (Str.ofString "__main__") 164)) (List.cons (Option.none) (List.cons (Option.some (Value.ref 0)) (List.nil)))))))))) ::
  (Obj.mk (Value.type "tuple") (Option.none) (Data.seq (List.toArray (List.nil)) 0) (List.toArray (List.nil))) ::
  (Obj.mk Value.none (Option.none) (Data.fields (List.toArray (List.cons (Value.int (1 : Int) 0) (List.cons (Value.int (0 : Int) 0) (List.cons (Value.ref 20) (List.cons (Value.int (5 : Int) 0) (List.cons (Value.int (0 : Int) 0) (List.cons (Value.ref 27) (List.cons (Value.int (8 : Int) 0) (List.cons (Value.int (0 : Int) 0) (List.cons (Value.ref 34) (List.cons (Value.int (17 : Int) 0) (List.cons (Value.int (0 : Int) 0) (List.cons (Value.ref 41) (List.cons (Value.int (32 : Int) 0) (List.cons (Value.int (0 : Int) 0) (List.cons (Value.ref 48) (List.cons (Value.int (45 : Int) 0) (List.cons (Value.int (0 : Int) 0) (List.cons (Value.ref 55) (List.cons (Value.int (50 : Int) 0) (List.cons (Value.int (0 : Int) 0) (List.cons (Value.ref 75) (List.cons (Value.int (53 : Int) 0) (List.cons (Value.int (0 : Int) 0) (List.cons (Value.ref 87) (List.nil))))))))))))))))))))))))))) (List.toArray (List.nil))) ::
  (Obj.mk (Value.type "code") (Option.none) (Data.fields (List.toArray (List.cons (Value.str (Str.ofString "<module>") 182) (List.cons (Value.str (Str.ofString "<module>") 183) (List.cons (Value.str (Str.ofString "/claim/cut.py") 184) (List.cons (Value.int (1 : Int) 0) (List.cons (Value.int (0 : Int) 0) (List.cons (Value.int (0 : Int) 0) (List.cons (Value.int (0 : Int) 0) (List.cons (Value.int (0 : Int) 0) (List.cons (Value.ref 11) (List.cons (Value.bool Bool.false) (List.cons (Value.int (181 : Int) 0) (List.cons (Value.ref 12) (List.cons Value.none (List.cons Value.none (List.cons Value.none (List.cons Value.none (List.cons (Value.int (185 : Int) 0) (List.cons (Value.int (1 : Int) 0) (List.cons (Value.str (Str.ofString "/claim/cut.py") 186) (List.nil)))))))))))))))))))))) (List.toArray (List.nil))) ::
  (Obj.mk (Value.type "frame") (Option.none) Data.plain (List.toArray (List.cons (Option.some (Value.ref 13)) (List.cons (Option.some (Value.ref 3)) (List.cons (Option.some (Value.ref 3)) (List.cons (Option.none) (List.cons (Option.some (Value.str (Str.ofString "__main__") 164)) (List.cons (Option.none) (List.cons (Option.some (Value.ref 0)) (List.nil)))))))))) ::
  (Obj.mk (Value.type "tuple") (Option.none) (Data.seq (List.toArray (List.nil)) 0) (List.toArray (List.nil))) ::
  (Obj.mk Value.none (Option.none) (Data.fields (List.toArray (List.nil))) (List.toArray (List.nil))) ::
  (Obj.mk (Value.type "tuple") (Option.none) (Data.seq (List.toArray (List.cons (Value.str (Str.ofString "k") 190) (List.nil))) 0) (List.toArray (List.nil))) ::
  (Obj.mk (Value.type "tuple") (Option.none) (Data.seq (List.toArray (List.nil)) 0) (List.toArray (List.nil))) ::
  fo19 ::
  (Obj.mk (Value.type "code") (Option.none) (Data.fields (List.toArray (List.cons (Value.str (Str.ofString "_wall") 187) (List.cons (Value.str (Str.ofString "_wall") 188) (List.cons (Value.str (Str.ofString "/claim/cut.py") 189) (List.cons (Value.int (1 : Int) 0) (List.cons (Value.int (1 : Int) 0) (List.cons (Value.int (0 : Int) 0) (List.cons (Value.int (0 : Int) 0) (List.cons (Value.int (3 : Int) 0) (List.cons (Value.ref 15) (List.cons (Value.bool Bool.true) (List.cons (Value.int (181 : Int) 0) (List.cons (Value.ref 16) (List.cons Value.none (List.cons (Value.ref 17) (List.cons (Value.ref 18) (List.cons (Value.ref 19) (List.cons (Value.int (191 : Int) 0) (List.cons (Value.int (1 : Int) 0) (List.cons (Value.str (Str.ofString "/claim/cut.py") 192) (List.nil)))))))))))))))))))))) (List.toArray (List.nil))) ::
  fo21 ::
  (Obj.mk (Value.type "tuple") (Option.none) (Data.seq (List.toArray (List.nil)) 0) (List.toArray (List.nil))) ::
  (Obj.mk Value.none (Option.none) (Data.fields (List.toArray (List.nil))) (List.toArray (List.nil))) ::
  (Obj.mk (Value.type "tuple") (Option.none) (Data.seq (List.toArray (List.cons (Value.str (Str.ofString "name") 199) (List.cons (Value.str (Str.ofString "table") 200) (List.nil)))) 0) (List.toArray (List.nil))) ::
  (Obj.mk (Value.type "tuple") (Option.none) (Data.seq (List.toArray (List.nil)) 0) (List.toArray (List.nil))) ::
  fo26 ::
  (Obj.mk (Value.type "code") (Option.none) (Data.fields (List.toArray (List.cons (Value.str (Str.ofString "mode_of") 196) (List.cons (Value.str (Str.ofString "mode_of") 197) (List.cons (Value.str (Str.ofString "/claim/cut.py") 198) (List.cons (Value.int (5 : Int) 0) (List.cons (Value.int (1 : Int) 0) (List.cons (Value.int (0 : Int) 0) (List.cons (Value.int (0 : Int) 0) (List.cons (Value.int (3 : Int) 0) (List.cons (Value.ref 22) (List.cons (Value.bool Bool.true) (List.cons (Value.int (181 : Int) 0) (List.cons (Value.ref 23) (List.cons Value.none (List.cons (Value.ref 24) (List.cons (Value.ref 25) (List.cons (Value.ref 26) (List.cons (Value.int (201 : Int) 0) (List.cons (Value.int (5 : Int) 0) (List.cons (Value.str (Str.ofString "/claim/cut.py") 202) (List.nil)))))))))))))))))))))) (List.toArray (List.nil))) ::
  fo28 ::
  (Obj.mk (Value.type "tuple") (Option.none) (Data.seq (List.toArray (List.nil)) 0) (List.toArray (List.nil))) ::
  (Obj.mk Value.none (Option.none) (Data.fields (List.toArray (List.nil))) (List.toArray (List.nil))) ::
  (Obj.mk (Value.type "tuple") (Option.none) (Data.seq (List.toArray (List.cons (Value.str (Str.ofString "builder") 207) (List.cons (Value.str (Str.ofString "at") 208) (List.cons (Value.str (Str.ofString "node") 209) (List.nil))))) 0) (List.toArray (List.nil))) ::
  (Obj.mk (Value.type "tuple") (Option.none) (Data.seq (List.toArray (List.nil)) 0) (List.toArray (List.nil))) ::
  fo33 ::
  (Obj.mk (Value.type "code") (Option.none) (Data.fields (List.toArray (List.cons (Value.str (Str.ofString "select_mode") 204) (List.cons (Value.str (Str.ofString "select_mode") 205) (List.cons (Value.str (Str.ofString "/claim/cut.py") 206) (List.cons (Value.int (8 : Int) 0) (List.cons (Value.int (2 : Int) 0) (List.cons (Value.int (0 : Int) 0) (List.cons (Value.int (0 : Int) 0) (List.cons (Value.int (3 : Int) 0) (List.cons (Value.ref 29) (List.cons (Value.bool Bool.true) (List.cons (Value.int (181 : Int) 0) (List.cons (Value.ref 30) (List.cons Value.none (List.cons (Value.ref 31) (List.cons (Value.ref 32) (List.cons (Value.ref 33) (List.cons (Value.int (210 : Int) 0) (List.cons (Value.int (8 : Int) 0) (List.cons (Value.str (Str.ofString "/claim/cut.py") 211) (List.nil)))))))))))))))))))))) (List.toArray (List.nil))) ::
  fo35 ::
  (Obj.mk (Value.type "tuple") (Option.none) (Data.seq (List.toArray (List.nil)) 0) (List.toArray (List.nil))) ::
  (Obj.mk Value.none (Option.none) (Data.fields (List.toArray (List.nil))) (List.toArray (List.nil))) ::
  (Obj.mk (Value.type "tuple") (Option.none) (Data.seq (List.toArray (List.cons (Value.str (Str.ofString "builder") 216) (List.cons (Value.str (Str.ofString "node") 217) (List.cons (Value.str (Str.ofString "at") 218) (List.cons (Value.str (Str.ofString "name") 219) (List.nil)))))) 0) (List.toArray (List.nil))) ::
  (Obj.mk (Value.type "tuple") (Option.none) (Data.seq (List.toArray (List.nil)) 0) (List.toArray (List.nil))) ::
  fo40 ::
  (Obj.mk (Value.type "code") (Option.none) (Data.fields (List.toArray (List.cons (Value.str (Str.ofString "mode_for") 213) (List.cons (Value.str (Str.ofString "mode_for") 214) (List.cons (Value.str (Str.ofString "/claim/cut.py") 215) (List.cons (Value.int (17 : Int) 0) (List.cons (Value.int (3 : Int) 0) (List.cons (Value.int (0 : Int) 0) (List.cons (Value.int (0 : Int) 0) (List.cons (Value.int (3 : Int) 0) (List.cons (Value.ref 36) (List.cons (Value.bool Bool.true) (List.cons (Value.int (181 : Int) 0) (List.cons (Value.ref 37) (List.cons Value.none (List.cons (Value.ref 38) (List.cons (Value.ref 39) (List.cons (Value.ref 40) (List.cons (Value.int (220 : Int) 0) (List.cons (Value.int (17 : Int) 0) (List.cons (Value.str (Str.ofString "/claim/cut.py") 221) (List.nil)))))))))))))))))))))) (List.toArray (List.nil))) ::
  fo42 ::
  (Obj.mk (Value.type "tuple") (Option.none) (Data.seq (List.toArray (List.nil)) 0) (List.toArray (List.nil))) ::
  (Obj.mk Value.none (Option.none) (Data.fields (List.toArray (List.nil))) (List.toArray (List.nil))) ::
  (Obj.mk (Value.type "tuple") (Option.none) (Data.seq (List.toArray (List.cons (Value.str (Str.ofString "builder") 226) (List.cons (Value.str (Str.ofString "at") 227) (List.cons (Value.str (Str.ofString "mode") 228) (List.cons (Value.str (Str.ofString "node") 229) (List.nil)))))) 0) (List.toArray (List.nil))) ::
  (Obj.mk (Value.type "tuple") (Option.none) (Data.seq (List.toArray (List.nil)) 0) (List.toArray (List.nil))) ::
  fo47 ::
  (Obj.mk (Value.type "code") (Option.none) (Data.fields (List.toArray (List.cons (Value.str (Str.ofString "reset_mode") 223) (List.cons (Value.str (Str.ofString "reset_mode") 224) (List.cons (Value.str (Str.ofString "/claim/cut.py") 225) (List.cons (Value.int (32 : Int) 0) (List.cons (Value.int (1 : Int) 0) (List.cons (Value.int (0 : Int) 0) (List.cons (Value.int (0 : Int) 0) (List.cons (Value.int (3 : Int) 0) (List.cons (Value.ref 43) (List.cons (Value.bool Bool.true) (List.cons (Value.int (181 : Int) 0) (List.cons (Value.ref 44) (List.cons Value.none (List.cons (Value.ref 45) (List.cons (Value.ref 46) (List.cons (Value.ref 47) (List.cons (Value.int (230 : Int) 0) (List.cons (Value.int (32 : Int) 0) (List.cons (Value.str (Str.ofString "/claim/cut.py") 231) (List.nil)))))))))))))))))))))) (List.toArray (List.nil))) ::
  fo49 ::
  (Obj.mk (Value.type "tuple") (Option.none) (Data.seq (List.toArray (List.cons (Value.type "Exception") (List.nil))) 0) (List.toArray (List.nil))) ::
  (Obj.mk (Value.type "builtin_function_or_method") (Option.none) (Data.fields (List.toArray (List.cons (Value.builtin "type.__prepare__") (List.cons (Value.type "type") (List.nil))))) (List.toArray (List.nil))) ::
  (Obj.mk (Value.type "dict") (Option.none) (Data.dict (List.toArray (List.cons (DictEntry.mk (PyData.keyHash P (Str.ofString "__module__")) (Value.str (Str.ofString "__module__") 242) (Value.str (Str.ofString "htmltree.faults") 233)) (List.cons (DictEntry.mk (PyData.keyHash P (Str.ofString "__qualname__")) (Value.str (Str.ofString "__qualname__") 244) (Value.str (Str.ofString "HtmlFault") 243)) (List.cons (DictEntry.mk (PyData.keyHash P (Str.ofString "__firstlineno__")) (Value.str (Str.ofString "__firstlineno__") 246) (Value.int (45 : Int) 245)) (List.cons (DictEntry.mk (PyData.keyHash P (Str.ofString "__init__")) (Value.str (Str.ofString "__init__") 254) (Value.ref 63)) (List.cons (DictEntry.mk (PyData.keyHash P (Str.ofString "__static_attributes__")) (Value.str (Str.ofString "__static_attributes__") 256) (Value.ref 64)) (List.nil))))))) 5) (List.toArray (List.nil))) ::
  (Obj.mk (Value.type "tuple") (Option.none) (Data.seq (List.toArray (List.nil)) 0) (List.toArray (List.nil))) ::
  (Obj.mk Value.none (Option.none) (Data.fields (List.toArray (List.cons (Value.int (47 : Int) 0) (List.cons (Value.int (4 : Int) 0) (List.cons (Value.ref 62) (List.nil)))))) (List.toArray (List.nil))) ::
  (Obj.mk (Value.type "code") (Option.none) (Data.fields (List.toArray (List.cons (Value.str (Str.ofString "HtmlFault") 237) (List.cons (Value.str (Str.ofString "HtmlFault") 238) (List.cons (Value.str (Str.ofString "/claim/cut.py") 239) (List.cons (Value.int (45 : Int) 0) (List.cons (Value.int (0 : Int) 0) (List.cons (Value.int (0 : Int) 0) (List.cons (Value.int (0 : Int) 0) (List.cons (Value.int (0 : Int) 0) (List.cons (Value.ref 53) (List.cons (Value.bool Bool.false) (List.cons (Value.int (181 : Int) 0) (List.cons (Value.ref 54) (List.cons Value.none (List.cons Value.none (List.cons Value.none (List.cons Value.none (List.cons (Value.int (240 : Int) 0) (List.cons (Value.int (45 : Int) 0) (List.cons (Value.str (Str.ofString "/claim/cut.py") 241) (List.nil)))))))))))))))))))))) (List.toArray (List.nil))) ::
  (Obj.mk (Value.type "frame") (Option.none) Data.plain (List.toArray (List.cons (Option.some (Value.ref 55)) (List.cons (Option.some (Value.ref 3)) (List.cons (Option.some (Value.ref 52)) (List.cons (Option.none) (List.cons (Option.some (Value.str (Str.ofString "htmltree.faults") 233)) (List.cons (Option.none) (List.cons (Option.some (Value.ref 0)) (List.nil)))))))))) ::
  (Obj.mk (Value.type "tuple") (Option.none) (Data.seq (List.toArray (List.nil)) 0) (List.toArray (List.nil))) ::
  (Obj.mk Value.none (Option.none) (Data.fields (List.toArray (List.nil))) (List.toArray (List.nil))) ::
  (Obj.mk (Value.type "tuple") (Option.none) (Data.seq (List.toArray (List.cons (Value.str (Str.ofString "self") 250) (List.cons (Value.str (Str.ofString "why") 251) (List.nil)))) 0) (List.toArray (List.nil))) ::
  (Obj.mk (Value.type "tuple") (Option.none) (Data.seq (List.toArray (List.nil)) 0) (List.toArray (List.nil))) ::
  fo61 ::
  (Obj.mk (Value.type "code") (Option.none) (Data.fields (List.toArray (List.cons (Value.str (Str.ofString "__init__") 247) (List.cons (Value.str (Str.ofString "HtmlFault.__init__") 248) (List.cons (Value.str (Str.ofString "/claim/cut.py") 249) (List.cons (Value.int (47 : Int) 0) (List.cons (Value.int (2 : Int) 0) (List.cons (Value.int (0 : Int) 0) (List.cons (Value.int (0 : Int) 0) (List.cons (Value.int (3 : Int) 0) (List.cons (Value.ref 57) (List.cons (Value.bool Bool.true) (List.cons (Value.int (181 : Int) 0) (List.cons (Value.ref 58) (List.cons Value.none (List.cons (Value.ref 59) (List.cons (Value.ref 60) (List.cons (Value.ref 61) (List.cons (Value.int (252 : Int) 0) (List.cons (Value.int (47 : Int) 0) (List.cons (Value.str (Str.ofString "/claim/cut.py") 253) (List.nil)))))))))))))))))))))) (List.toArray (List.nil))) ::
  fo63 ::
  (Obj.mk (Value.type "tuple") (Option.none) (Data.seq (List.toArray (List.cons (Value.str (Str.ofString "why") 255) (List.nil))) 0) (List.toArray (List.nil))) ::
  (Obj.mk (Value.type "dict") (Option.none) (Data.dict (List.toArray (List.cons (DictEntry.mk (PyData.keyHash P (Str.ofString "__module__")) (Value.str (Str.ofString "__module__") 242) (Value.str (Str.ofString "htmltree.faults") 233)) (List.cons (DictEntry.mk (PyData.keyHash P (Str.ofString "__firstlineno__")) (Value.str (Str.ofString "__firstlineno__") 246) (Value.int (45 : Int) 245)) (List.cons (DictEntry.mk (PyData.keyHash P (Str.ofString "__init__")) (Value.str (Str.ofString "__init__") 254) (Value.ref 63)) (List.cons (DictEntry.mk (PyData.keyHash P (Str.ofString "__static_attributes__")) (Value.str (Str.ofString "__static_attributes__") 256) (Value.ref 64)) (List.cons (DictEntry.mk (PyData.keyHash P (Str.ofString "__weakref__")) (Value.str (Str.ofString "__weakref__") 258) (Value.ref 67)) (List.cons (DictEntry.mk (PyData.keyHash P (Str.ofString "__doc__")) (Value.str (Str.ofString "__doc__") 259) Value.none) (List.nil)))))))) 3) (List.toArray (List.nil))) ::
  (Obj.mk (Value.type "type") (Option.none) (Data.cls (ClassData.mk (Str.ofString "HtmlFault") (List.cons (Value.type "Exception") (List.nil)) (List.cons (Value.ref 66) (List.cons (Value.type "Exception") (List.cons (Value.type "BaseException") (List.cons (Value.type "object") (List.nil))))) 65 (Str.ofString "HtmlFault") Bool.true (List.nil) (List.cons (Value.ref 79) (List.nil)) Bool.false (Option.none) Bool.false)) (List.toArray (List.cons (Option.some (Value.ref 50)) (List.cons (Option.none) (List.cons (Option.some (Value.str (Str.ofString "HtmlFault") 235)) (List.cons (Option.some (Value.str (Str.ofString "HtmlFault") 243)) (List.cons (Option.some (Value.builtin "Exception.__new__")) (List.cons (Option.some (Value.bool Bool.true)) (List.nil))))))))) ::
  (Obj.mk (Value.type "getset_descriptor") (Option.none) (Data.fields (List.toArray (List.cons (Value.str (Str.ofString "__weakref__") 257) (List.cons (Value.ref 66) (List.cons (Value.builtin "ExceptionGroup.__weakref__") (List.cons Value.none (List.nil))))))) (List.toArray (List.nil))) ::
  (Obj.mk (Value.type "super") (Option.none) (Data.fields (List.toArray (List.cons (Value.ref 66) (List.cons (Value.ref 66) (List.cons (Value.ref 66) (List.nil)))))) (List.toArray (List.nil))) ::
  (Obj.mk (Value.type "builtin_function_or_method") (Option.none) (Data.fields (List.toArray (List.cons (Value.builtin "object.__init_subclass__") (List.cons (Value.ref 66) (List.nil))))) (List.toArray (List.nil))) ::
  (Obj.mk (Value.type "tuple") (Option.none) (Data.seq (List.toArray (List.cons (Value.ref 66) (List.nil))) 0) (List.toArray (List.nil))) ::
  (Obj.mk (Value.type "builtin_function_or_method") (Option.none) (Data.fields (List.toArray (List.cons (Value.builtin "type.__prepare__") (List.cons (Value.type "type") (List.nil))))) (List.toArray (List.nil))) ::
  (Obj.mk (Value.type "dict") (Option.none) (Data.dict (List.toArray (List.cons (DictEntry.mk (PyData.keyHash P (Str.ofString "__module__")) (Value.str (Str.ofString "__module__") 271) (Value.str (Str.ofString "htmltree.faults") 233)) (List.cons (DictEntry.mk (PyData.keyHash P (Str.ofString "__qualname__")) (Value.str (Str.ofString "__qualname__") 273) (Value.str (Str.ofString "Misused") 272)) (List.cons (DictEntry.mk (PyData.keyHash P (Str.ofString "__firstlineno__")) (Value.str (Str.ofString "__firstlineno__") 275) (Value.int (50 : Int) 274)) (List.cons (DictEntry.mk (PyData.keyHash P (Str.ofString "__static_attributes__")) (Value.str (Str.ofString "__static_attributes__") 276) (Value.ref 77)) (List.nil)))))) 4) (List.toArray (List.nil))) ::
  (Obj.mk (Value.type "tuple") (Option.none) (Data.seq (List.toArray (List.nil)) 0) (List.toArray (List.nil))) ::
  (Obj.mk Value.none (Option.none) (Data.fields (List.toArray (List.nil))) (List.toArray (List.nil))) ::
  (Obj.mk (Value.type "code") (Option.none) (Data.fields (List.toArray (List.cons (Value.str (Str.ofString "Misused") 266) (List.cons (Value.str (Str.ofString "Misused") 267) (List.cons (Value.str (Str.ofString "/claim/cut.py") 268) (List.cons (Value.int (50 : Int) 0) (List.cons (Value.int (0 : Int) 0) (List.cons (Value.int (0 : Int) 0) (List.cons (Value.int (0 : Int) 0) (List.cons (Value.int (0 : Int) 0) (List.cons (Value.ref 73) (List.cons (Value.bool Bool.false) (List.cons (Value.int (181 : Int) 0) (List.cons (Value.ref 74) (List.cons Value.none (List.cons Value.none (List.cons Value.none (List.cons Value.none (List.cons (Value.int (269 : Int) 0) (List.cons (Value.int (50 : Int) 0) (List.cons (Value.str (Str.ofString "/claim/cut.py") 270) (List.nil)))))))))))))))))))))) (List.toArray (List.nil))) ::
  (Obj.mk (Value.type "frame") (Option.none) Data.plain (List.toArray (List.cons (Option.some (Value.ref 75)) (List.cons (Option.some (Value.ref 3)) (List.cons (Option.some (Value.ref 72)) (List.cons (Option.none) (List.cons (Option.some (Value.str (Str.ofString "htmltree.faults") 233)) (List.cons (Option.none) (List.cons (Option.some (Value.ref 0)) (List.nil)))))))))) ::
  (Obj.mk (Value.type "tuple") (Option.none) (Data.seq (List.toArray (List.nil)) 0) (List.toArray (List.nil))) ::
  (Obj.mk (Value.type "dict") (Option.none) (Data.dict (List.toArray (List.cons (DictEntry.mk (PyData.keyHash P (Str.ofString "__module__")) (Value.str (Str.ofString "__module__") 271) (Value.str (Str.ofString "htmltree.faults") 233)) (List.cons (DictEntry.mk (PyData.keyHash P (Str.ofString "__firstlineno__")) (Value.str (Str.ofString "__firstlineno__") 275) (Value.int (50 : Int) 274)) (List.cons (DictEntry.mk (PyData.keyHash P (Str.ofString "__static_attributes__")) (Value.str (Str.ofString "__static_attributes__") 276) (Value.ref 77)) (List.cons (DictEntry.mk (PyData.keyHash P (Str.ofString "__doc__")) (Value.str (Str.ofString "__doc__") 277) Value.none) (List.nil)))))) 2) (List.toArray (List.nil))) ::
  (Obj.mk (Value.type "type") (Option.none) (Data.cls (ClassData.mk (Str.ofString "Misused") (List.cons (Value.ref 66) (List.nil)) (List.cons (Value.ref 79) (List.cons (Value.ref 66) (List.cons (Value.type "Exception") (List.cons (Value.type "BaseException") (List.cons (Value.type "object") (List.nil)))))) 78 (Str.ofString "Misused") Bool.true (List.nil) (List.nil) Bool.false (Option.none) Bool.false)) (List.toArray (List.cons (Option.some (Value.ref 70)) (List.cons (Option.none) (List.cons (Option.some (Value.str (Str.ofString "Misused") 264)) (List.cons (Option.some (Value.str (Str.ofString "Misused") 272)) (List.cons (Option.some (Value.builtin "Exception.__new__")) (List.cons (Option.some (Value.bool Bool.true)) (List.nil))))))))) ::
  (Obj.mk (Value.type "super") (Option.none) (Data.fields (List.toArray (List.cons (Value.ref 79) (List.cons (Value.ref 79) (List.cons (Value.ref 79) (List.nil)))))) (List.toArray (List.nil))) ::
  (Obj.mk (Value.type "builtin_function_or_method") (Option.none) (Data.fields (List.toArray (List.cons (Value.builtin "object.__init_subclass__") (List.cons (Value.ref 79) (List.nil))))) (List.toArray (List.nil))) ::
  (Obj.mk (Value.type "tuple") (Option.none) (Data.seq (List.toArray (List.nil)) 0) (List.toArray (List.nil))) ::
  (Obj.mk (Value.type "builtin_function_or_method") (Option.none) (Data.fields (List.toArray (List.cons (Value.builtin "type.__prepare__") (List.cons (Value.type "type") (List.nil))))) (List.toArray (List.nil))) ::
  (Obj.mk (Value.type "dict") (Option.none) (Data.dict (List.toArray (List.cons (DictEntry.mk (PyData.keyHash P (Str.ofString "__module__")) (Value.str (Str.ofString "__module__") 289) (Value.str (Str.ofString "htmltree.formatting") 280)) (List.cons (DictEntry.mk (PyData.keyHash P (Str.ofString "__qualname__")) (Value.str (Str.ofString "__qualname__") 291) (Value.str (Str.ofString "Formatting") 290)) (List.cons (DictEntry.mk (PyData.keyHash P (Str.ofString "__firstlineno__")) (Value.str (Str.ofString "__firstlineno__") 293) (Value.int (53 : Int) 292)) (List.cons (DictEntry.mk (PyData.keyHash P (Str.ofString "__init__")) (Value.str (Str.ofString "__init__") 301) (Value.ref 95)) (List.cons (DictEntry.mk (PyData.keyHash P (Str.ofString "push")) (Value.str (Str.ofString "push") 309) (Value.ref 102)) (List.cons (DictEntry.mk (PyData.keyHash P (Str.ofString "mark")) (Value.str (Str.ofString "mark") 316) (Value.ref 109)) (List.cons (DictEntry.mk (PyData.keyHash P (Str.ofString "clear_to_mark")) (Value.str (Str.ofString "clear_to_mark") 323) (Value.ref 116)) (List.cons (DictEntry.mk (PyData.keyHash P (Str.ofString "find")) (Value.str (Str.ofString "find") 331) (Value.ref 123)) (List.cons (DictEntry.mk (PyData.keyHash P (Str.ofString "has")) (Value.str (Str.ofString "has") 339) (Value.ref 130)) (List.cons (DictEntry.mk (PyData.keyHash P (Str.ofString "place")) (Value.str (Str.ofString "place") 347) (Value.ref 137)) (List.cons (DictEntry.mk (PyData.keyHash P (Str.ofString "remove")) (Value.str (Str.ofString "remove") 355) (Value.ref 144)) (List.cons (DictEntry.mk (PyData.keyHash P (Str.ofString "replace")) (Value.str (Str.ofString "replace") 364) (Value.ref 151)) (List.cons (DictEntry.mk (PyData.keyHash P (Str.ofString "put_at")) (Value.str (Str.ofString "put_at") 373) (Value.ref 158)) (List.cons (DictEntry.mk (PyData.keyHash P (Str.ofString "__static_attributes__")) (Value.str (Str.ofString "__static_attributes__") 376) (Value.ref 159)) (List.nil)))))))))))))))) 14) (List.toArray (List.nil))) ::
  (Obj.mk (Value.type "tuple") (Option.none) (Data.seq (List.toArray (List.nil)) 0) (List.toArray (List.nil))) ::
  (Obj.mk Value.none (Option.none) (Data.fields (List.toArray (List.cons (Value.int (55 : Int) 0) (List.cons (Value.int (4 : Int) 0) (List.cons (Value.ref 94) (List.cons (Value.int (59 : Int) 0) (List.cons (Value.int (4 : Int) 0) (List.cons (Value.ref 101) (List.cons (Value.int (62 : Int) 0) (List.cons (Value.int (4 : Int) 0) (List.cons (Value.ref 108) (List.cons (Value.int (65 : Int) 0) (List.cons (Value.int (4 : Int) 0) (List.cons (Value.ref 115) (List.cons (Value.int (68 : Int) 0) (List.cons (Value.int (4 : Int) 0) (List.cons (Value.ref 122) (List.cons (Value.int (71 : Int) 0) (List.cons (Value.int (4 : Int) 0) (List.cons (Value.ref 129) (List.cons (Value.int (74 : Int) 0) (List.cons (Value.int (4 : Int) 0) (List.cons (Value.ref 136) (List.cons (Value.int (79 : Int) 0) (List.cons (Value.int (4 : Int) 0) (List.cons (Value.ref 143) (List.cons (Value.int (83 : Int) 0) (List.cons (Value.int (4 : Int) 0) (List.cons (Value.ref 150) (List.cons (Value.int (86 : Int) 0) (List.cons (Value.int (4 : Int) 0) (List.cons (Value.ref 157) (List.nil))))))))))))))))))))))))))))))))) (List.toArray (List.nil))) ::
  (Obj.mk (Value.type "code") (Option.none) (Data.fields (List.toArray (List.cons (Value.str (Str.ofString "Formatting") 284) (List.cons (Value.str (Str.ofString "Formatting") 285) (List.cons (Value.str (Str.ofString "/claim/cut.py") 286) (List.cons (Value.int (53 : Int) 0) (List.cons (Value.int (0 : Int) 0) (List.cons (Value.int (0 : Int) 0) (List.cons (Value.int (0 : Int) 0) (List.cons (Value.int (0 : Int) 0) (List.cons (Value.ref 85) (List.cons (Value.bool Bool.false) (List.cons (Value.int (181 : Int) 0) (List.cons (Value.ref 86) (List.cons Value.none (List.cons Value.none (List.cons Value.none (List.cons Value.none (List.cons (Value.int (287 : Int) 0) (List.cons (Value.int (53 : Int) 0) (List.cons (Value.str (Str.ofString "/claim/cut.py") 288) (List.nil)))))))))))))))))))))) (List.toArray (List.nil))) ::
  (Obj.mk (Value.type "frame") (Option.none) Data.plain (List.toArray (List.cons (Option.some (Value.ref 87)) (List.cons (Option.some (Value.ref 3)) (List.cons (Option.some (Value.ref 84)) (List.cons (Option.none) (List.cons (Option.some (Value.str (Str.ofString "htmltree.formatting") 280)) (List.cons (Option.none) (List.cons (Option.some (Value.ref 0)) (List.nil)))))))))) ::
  (Obj.mk (Value.type "tuple") (Option.none) (Data.seq (List.toArray (List.nil)) 0) (List.toArray (List.nil))) ::
  (Obj.mk Value.none (Option.none) (Data.fields (List.toArray (List.nil))) (List.toArray (List.nil))) ::
  (Obj.mk (Value.type "tuple") (Option.none) (Data.seq (List.toArray (List.cons (Value.str (Str.ofString "self") 297) (List.cons (Value.str (Str.ofString "tree") 298) (List.nil)))) 0) (List.toArray (List.nil))) ::
  (Obj.mk (Value.type "tuple") (Option.none) (Data.seq (List.toArray (List.nil)) 0) (List.toArray (List.nil))) ::
  fo93 ::
  (Obj.mk (Value.type "code") (Option.none) (Data.fields (List.toArray (List.cons (Value.str (Str.ofString "__init__") 294) (List.cons (Value.str (Str.ofString "Formatting.__init__") 295) (List.cons (Value.str (Str.ofString "/claim/cut.py") 296) (List.cons (Value.int (55 : Int) 0) (List.cons (Value.int (2 : Int) 0) (List.cons (Value.int (0 : Int) 0) (List.cons (Value.int (0 : Int) 0) (List.cons (Value.int (3 : Int) 0) (List.cons (Value.ref 89) (List.cons (Value.bool Bool.true) (List.cons (Value.int (181 : Int) 0) (List.cons (Value.ref 90) (List.cons Value.none (List.cons (Value.ref 91) (List.cons (Value.ref 92) (List.cons (Value.ref 93) (List.cons (Value.int (299 : Int) 0) (List.cons (Value.int (55 : Int) 0) (List.cons (Value.str (Str.ofString "/claim/cut.py") 300) (List.nil)))))))))))))))))))))) (List.toArray (List.nil))) ::
  fo95 ::
  (Obj.mk (Value.type "tuple") (Option.none) (Data.seq (List.toArray (List.nil)) 0) (List.toArray (List.nil))) ::
  (Obj.mk Value.none (Option.none) (Data.fields (List.toArray (List.nil))) (List.toArray (List.nil))) ::
  (Obj.mk (Value.type "tuple") (Option.none) (Data.seq (List.toArray (List.cons (Value.str (Str.ofString "self") 305) (List.cons (Value.str (Str.ofString "node") 306) (List.nil)))) 0) (List.toArray (List.nil))) ::
  (Obj.mk (Value.type "tuple") (Option.none) (Data.seq (List.toArray (List.nil)) 0) (List.toArray (List.nil))) ::
  fo100 ::
  (Obj.mk (Value.type "code") (Option.none) (Data.fields (List.toArray (List.cons (Value.str (Str.ofString "push") 302) (List.cons (Value.str (Str.ofString "Formatting.push") 303) (List.cons (Value.str (Str.ofString "/claim/cut.py") 304) (List.cons (Value.int (59 : Int) 0) (List.cons (Value.int (2 : Int) 0) (List.cons (Value.int (0 : Int) 0) (List.cons (Value.int (0 : Int) 0) (List.cons (Value.int (3 : Int) 0) (List.cons (Value.ref 96) (List.cons (Value.bool Bool.true) (List.cons (Value.int (181 : Int) 0) (List.cons (Value.ref 97) (List.cons Value.none (List.cons (Value.ref 98) (List.cons (Value.ref 99) (List.cons (Value.ref 100) (List.cons (Value.int (307 : Int) 0) (List.cons (Value.int (59 : Int) 0) (List.cons (Value.str (Str.ofString "/claim/cut.py") 308) (List.nil)))))))))))))))))))))) (List.toArray (List.nil))) ::
  fo102 ::
  (Obj.mk (Value.type "tuple") (Option.none) (Data.seq (List.toArray (List.nil)) 0) (List.toArray (List.nil))) ::
  (Obj.mk Value.none (Option.none) (Data.fields (List.toArray (List.nil))) (List.toArray (List.nil))) ::
  (Obj.mk (Value.type "tuple") (Option.none) (Data.seq (List.toArray (List.cons (Value.str (Str.ofString "self") 313) (List.nil))) 0) (List.toArray (List.nil))) ::
  (Obj.mk (Value.type "tuple") (Option.none) (Data.seq (List.toArray (List.nil)) 0) (List.toArray (List.nil))) ::
  fo107 ::
  (Obj.mk (Value.type "code") (Option.none) (Data.fields (List.toArray (List.cons (Value.str (Str.ofString "mark") 310) (List.cons (Value.str (Str.ofString "Formatting.mark") 311) (List.cons (Value.str (Str.ofString "/claim/cut.py") 312) (List.cons (Value.int (62 : Int) 0) (List.cons (Value.int (1 : Int) 0) (List.cons (Value.int (0 : Int) 0) (List.cons (Value.int (0 : Int) 0) (List.cons (Value.int (3 : Int) 0) (List.cons (Value.ref 103) (List.cons (Value.bool Bool.true) (List.cons (Value.int (181 : Int) 0) (List.cons (Value.ref 104) (List.cons Value.none (List.cons (Value.ref 105) (List.cons (Value.ref 106) (List.cons (Value.ref 107) (List.cons (Value.int (314 : Int) 0) (List.cons (Value.int (62 : Int) 0) (List.cons (Value.str (Str.ofString "/claim/cut.py") 315) (List.nil)))))))))))))))))))))) (List.toArray (List.nil))) ::
  fo109 ::
  (Obj.mk (Value.type "tuple") (Option.none) (Data.seq (List.toArray (List.nil)) 0) (List.toArray (List.nil))) ::
  (Obj.mk Value.none (Option.none) (Data.fields (List.toArray (List.nil))) (List.toArray (List.nil))) ::
  (Obj.mk (Value.type "tuple") (Option.none) (Data.seq (List.toArray (List.cons (Value.str (Str.ofString "self") 320) (List.nil))) 0) (List.toArray (List.nil))) ::
  (Obj.mk (Value.type "tuple") (Option.none) (Data.seq (List.toArray (List.nil)) 0) (List.toArray (List.nil))) ::
  fo114 ::
  (Obj.mk (Value.type "code") (Option.none) (Data.fields (List.toArray (List.cons (Value.str (Str.ofString "clear_to_mark") 317) (List.cons (Value.str (Str.ofString "Formatting.clear_to_mark") 318) (List.cons (Value.str (Str.ofString "/claim/cut.py") 319) (List.cons (Value.int (65 : Int) 0) (List.cons (Value.int (1 : Int) 0) (List.cons (Value.int (0 : Int) 0) (List.cons (Value.int (0 : Int) 0) (List.cons (Value.int (3 : Int) 0) (List.cons (Value.ref 110) (List.cons (Value.bool Bool.true) (List.cons (Value.int (181 : Int) 0) (List.cons (Value.ref 111) (List.cons Value.none (List.cons (Value.ref 112) (List.cons (Value.ref 113) (List.cons (Value.ref 114) (List.cons (Value.int (321 : Int) 0) (List.cons (Value.int (65 : Int) 0) (List.cons (Value.str (Str.ofString "/claim/cut.py") 322) (List.nil)))))))))))))))))))))) (List.toArray (List.nil))) ::
  fo116 ::
  (Obj.mk (Value.type "tuple") (Option.none) (Data.seq (List.toArray (List.nil)) 0) (List.toArray (List.nil))) ::
  (Obj.mk Value.none (Option.none) (Data.fields (List.toArray (List.nil))) (List.toArray (List.nil))) ::
  (Obj.mk (Value.type "tuple") (Option.none) (Data.seq (List.toArray (List.cons (Value.str (Str.ofString "self") 327) (List.cons (Value.str (Str.ofString "name") 328) (List.nil)))) 0) (List.toArray (List.nil))) ::
  (Obj.mk (Value.type "tuple") (Option.none) (Data.seq (List.toArray (List.nil)) 0) (List.toArray (List.nil))) ::
  fo121 ::
  (Obj.mk (Value.type "code") (Option.none) (Data.fields (List.toArray (List.cons (Value.str (Str.ofString "find") 324) (List.cons (Value.str (Str.ofString "Formatting.find") 325) (List.cons (Value.str (Str.ofString "/claim/cut.py") 326) (List.cons (Value.int (68 : Int) 0) (List.cons (Value.int (2 : Int) 0) (List.cons (Value.int (0 : Int) 0) (List.cons (Value.int (0 : Int) 0) (List.cons (Value.int (3 : Int) 0) (List.cons (Value.ref 117) (List.cons (Value.bool Bool.true) (List.cons (Value.int (181 : Int) 0) (List.cons (Value.ref 118) (List.cons Value.none (List.cons (Value.ref 119) (List.cons (Value.ref 120) (List.cons (Value.ref 121) (List.cons (Value.int (329 : Int) 0) (List.cons (Value.int (68 : Int) 0) (List.cons (Value.str (Str.ofString "/claim/cut.py") 330) (List.nil)))))))))))))))))))))) (List.toArray (List.nil))) ::
  fo123 ::
  (Obj.mk (Value.type "tuple") (Option.none) (Data.seq (List.toArray (List.nil)) 0) (List.toArray (List.nil))) ::
  (Obj.mk Value.none (Option.none) (Data.fields (List.toArray (List.nil))) (List.toArray (List.nil))) ::
  (Obj.mk (Value.type "tuple") (Option.none) (Data.seq (List.toArray (List.cons (Value.str (Str.ofString "self") 335) (List.cons (Value.str (Str.ofString "node") 336) (List.nil)))) 0) (List.toArray (List.nil))) ::
  (Obj.mk (Value.type "tuple") (Option.none) (Data.seq (List.toArray (List.nil)) 0) (List.toArray (List.nil))) ::
  fo128 ::
  (Obj.mk (Value.type "code") (Option.none) (Data.fields (List.toArray (List.cons (Value.str (Str.ofString "has") 332) (List.cons (Value.str (Str.ofString "Formatting.has") 333) (List.cons (Value.str (Str.ofString "/claim/cut.py") 334) (List.cons (Value.int (71 : Int) 0) (List.cons (Value.int (2 : Int) 0) (List.cons (Value.int (0 : Int) 0) (List.cons (Value.int (0 : Int) 0) (List.cons (Value.int (3 : Int) 0) (List.cons (Value.ref 124) (List.cons (Value.bool Bool.true) (List.cons (Value.int (181 : Int) 0) (List.cons (Value.ref 125) (List.cons Value.none (List.cons (Value.ref 126) (List.cons (Value.ref 127) (List.cons (Value.ref 128) (List.cons (Value.int (337 : Int) 0) (List.cons (Value.int (71 : Int) 0) (List.cons (Value.str (Str.ofString "/claim/cut.py") 338) (List.nil)))))))))))))))))))))) (List.toArray (List.nil))) ::
  fo130 ::
  (Obj.mk (Value.type "tuple") (Option.none) (Data.seq (List.toArray (List.nil)) 0) (List.toArray (List.nil))) ::
  (Obj.mk Value.none (Option.none) (Data.fields (List.toArray (List.nil))) (List.toArray (List.nil))) ::
  (Obj.mk (Value.type "tuple") (Option.none) (Data.seq (List.toArray (List.cons (Value.str (Str.ofString "self") 343) (List.cons (Value.str (Str.ofString "node") 344) (List.nil)))) 0) (List.toArray (List.nil))) ::
  (Obj.mk (Value.type "tuple") (Option.none) (Data.seq (List.toArray (List.nil)) 0) (List.toArray (List.nil))) ::
  fo135 ::
  (Obj.mk (Value.type "code") (Option.none) (Data.fields (List.toArray (List.cons (Value.str (Str.ofString "place") 340) (List.cons (Value.str (Str.ofString "Formatting.place") 341) (List.cons (Value.str (Str.ofString "/claim/cut.py") 342) (List.cons (Value.int (74 : Int) 0) (List.cons (Value.int (2 : Int) 0) (List.cons (Value.int (0 : Int) 0) (List.cons (Value.int (0 : Int) 0) (List.cons (Value.int (3 : Int) 0) (List.cons (Value.ref 131) (List.cons (Value.bool Bool.true) (List.cons (Value.int (181 : Int) 0) (List.cons (Value.ref 132) (List.cons Value.none (List.cons (Value.ref 133) (List.cons (Value.ref 134) (List.cons (Value.ref 135) (List.cons (Value.int (345 : Int) 0) (List.cons (Value.int (74 : Int) 0) (List.cons (Value.str (Str.ofString "/claim/cut.py") 346) (List.nil)))))))))))))))))))))) (List.toArray (List.nil))) ::
  fo137 ::
  (Obj.mk (Value.type "tuple") (Option.none) (Data.seq (List.toArray (List.nil)) 0) (List.toArray (List.nil))) ::
  (Obj.mk Value.none (Option.none) (Data.fields (List.toArray (List.nil))) (List.toArray (List.nil))) ::
  (Obj.mk (Value.type "tuple") (Option.none) (Data.seq (List.toArray (List.cons (Value.str (Str.ofString "self") 351) (List.cons (Value.str (Str.ofString "node") 352) (List.nil)))) 0) (List.toArray (List.nil))) ::
  (Obj.mk (Value.type "tuple") (Option.none) (Data.seq (List.toArray (List.nil)) 0) (List.toArray (List.nil))) ::
  fo142 ::
  (Obj.mk (Value.type "code") (Option.none) (Data.fields (List.toArray (List.cons (Value.str (Str.ofString "remove") 348) (List.cons (Value.str (Str.ofString "Formatting.remove") 349) (List.cons (Value.str (Str.ofString "/claim/cut.py") 350) (List.cons (Value.int (79 : Int) 0) (List.cons (Value.int (2 : Int) 0) (List.cons (Value.int (0 : Int) 0) (List.cons (Value.int (0 : Int) 0) (List.cons (Value.int (3 : Int) 0) (List.cons (Value.ref 138) (List.cons (Value.bool Bool.true) (List.cons (Value.int (181 : Int) 0) (List.cons (Value.ref 139) (List.cons Value.none (List.cons (Value.ref 140) (List.cons (Value.ref 141) (List.cons (Value.ref 142) (List.cons (Value.int (353 : Int) 0) (List.cons (Value.int (79 : Int) 0) (List.cons (Value.str (Str.ofString "/claim/cut.py") 354) (List.nil)))))))))))))))))))))) (List.toArray (List.nil))) ::
  fo144 ::
  (Obj.mk (Value.type "tuple") (Option.none) (Data.seq (List.toArray (List.nil)) 0) (List.toArray (List.nil))) ::
  (Obj.mk Value.none (Option.none) (Data.fields (List.toArray (List.nil))) (List.toArray (List.nil))) ::
  (Obj.mk (Value.type "tuple") (Option.none) (Data.seq (List.toArray (List.cons (Value.str (Str.ofString "self") 359) (List.cons (Value.str (Str.ofString "old") 360) (List.cons (Value.str (Str.ofString "new") 361) (List.nil))))) 0) (List.toArray (List.nil))) ::
  (Obj.mk (Value.type "tuple") (Option.none) (Data.seq (List.toArray (List.nil)) 0) (List.toArray (List.nil))) ::
  fo149 ::
  (Obj.mk (Value.type "code") (Option.none) (Data.fields (List.toArray (List.cons (Value.str (Str.ofString "replace") 356) (List.cons (Value.str (Str.ofString "Formatting.replace") 357) (List.cons (Value.str (Str.ofString "/claim/cut.py") 358) (List.cons (Value.int (83 : Int) 0) (List.cons (Value.int (3 : Int) 0) (List.cons (Value.int (0 : Int) 0) (List.cons (Value.int (0 : Int) 0) (List.cons (Value.int (3 : Int) 0) (List.cons (Value.ref 145) (List.cons (Value.bool Bool.true) (List.cons (Value.int (181 : Int) 0) (List.cons (Value.ref 146) (List.cons Value.none (List.cons (Value.ref 147) (List.cons (Value.ref 148) (List.cons (Value.ref 149) (List.cons (Value.int (362 : Int) 0) (List.cons (Value.int (83 : Int) 0) (List.cons (Value.str (Str.ofString "/claim/cut.py") 363) (List.nil)))))))))))))))))))))) (List.toArray (List.nil))) ::
  fo151 ::
  (Obj.mk (Value.type "tuple") (Option.none) (Data.seq (List.toArray (List.nil)) 0) (List.toArray (List.nil))) ::
  (Obj.mk Value.none (Option.none) (Data.fields (List.toArray (List.nil))) (List.toArray (List.nil))) ::
  (Obj.mk (Value.type "tuple") (Option.none) (Data.seq (List.toArray (List.cons (Value.str (Str.ofString "self") 368) (List.cons (Value.str (Str.ofString "place") 369) (List.cons (Value.str (Str.ofString "node") 370) (List.nil))))) 0) (List.toArray (List.nil))) ::
  (Obj.mk (Value.type "tuple") (Option.none) (Data.seq (List.toArray (List.nil)) 0) (List.toArray (List.nil))) ::
  fo156 ::
  (Obj.mk (Value.type "code") (Option.none) (Data.fields (List.toArray (List.cons (Value.str (Str.ofString "put_at") 365) (List.cons (Value.str (Str.ofString "Formatting.put_at") 366) (List.cons (Value.str (Str.ofString "/claim/cut.py") 367) (List.cons (Value.int (86 : Int) 0) (List.cons (Value.int (3 : Int) 0) (List.cons (Value.int (0 : Int) 0) (List.cons (Value.int (0 : Int) 0) (List.cons (Value.int (3 : Int) 0) (List.cons (Value.ref 152) (List.cons (Value.bool Bool.true) (List.cons (Value.int (181 : Int) 0) (List.cons (Value.ref 153) (List.cons Value.none (List.cons (Value.ref 154) (List.cons (Value.ref 155) (List.cons (Value.ref 156) (List.cons (Value.int (371 : Int) 0) (List.cons (Value.int (86 : Int) 0) (List.cons (Value.str (Str.ofString "/claim/cut.py") 372) (List.nil)))))))))))))))))))))) (List.toArray (List.nil))) ::
  fo158 ::
  (Obj.mk (Value.type "tuple") (Option.none) (Data.seq (List.toArray (List.cons (Value.str (Str.ofString "items") 374) (List.cons (Value.str (Str.ofString "tree") 375) (List.nil)))) 0) (List.toArray (List.nil))) ::
  (Obj.mk (Value.type "dict") (Option.none) (Data.dict (List.toArray (List.cons (DictEntry.mk (PyData.keyHash P (Str.ofString "__module__")) (Value.str (Str.ofString "__module__") 289) (Value.str (Str.ofString "htmltree.formatting") 280)) (List.cons (DictEntry.mk (PyData.keyHash P (Str.ofString "__firstlineno__")) (Value.str (Str.ofString "__firstlineno__") 293) (Value.int (53 : Int) 292)) (List.cons (DictEntry.mk (PyData.keyHash P (Str.ofString "__init__")) (Value.str (Str.ofString "__init__") 301) (Value.ref 95)) (List.cons (DictEntry.mk (PyData.keyHash P (Str.ofString "push")) (Value.str (Str.ofString "push") 309) (Value.ref 102)) (List.cons (DictEntry.mk (PyData.keyHash P (Str.ofString "mark")) (Value.str (Str.ofString "mark") 316) (Value.ref 109)) (List.cons (DictEntry.mk (PyData.keyHash P (Str.ofString "clear_to_mark")) (Value.str (Str.ofString "clear_to_mark") 323) (Value.ref 116)) (List.cons (DictEntry.mk (PyData.keyHash P (Str.ofString "find")) (Value.str (Str.ofString "find") 331) (Value.ref 123)) (List.cons (DictEntry.mk (PyData.keyHash P (Str.ofString "has")) (Value.str (Str.ofString "has") 339) (Value.ref 130)) (List.cons (DictEntry.mk (PyData.keyHash P (Str.ofString "place")) (Value.str (Str.ofString "place") 347) (Value.ref 137)) (List.cons (DictEntry.mk (PyData.keyHash P (Str.ofString "remove")) (Value.str (Str.ofString "remove") 355) (Value.ref 144)) (List.cons (DictEntry.mk (PyData.keyHash P (Str.ofString "replace")) (Value.str (Str.ofString "replace") 364) (Value.ref 151)) (List.cons (DictEntry.mk (PyData.keyHash P (Str.ofString "put_at")) (Value.str (Str.ofString "put_at") 373) (Value.ref 158)) (List.cons (DictEntry.mk (PyData.keyHash P (Str.ofString "__static_attributes__")) (Value.str (Str.ofString "__static_attributes__") 376) (Value.ref 159)) (List.cons (DictEntry.mk (PyData.keyHash P (Str.ofString "__dict__")) (Value.str (Str.ofString "__dict__") 378) (Value.ref 162)) (List.cons (DictEntry.mk (PyData.keyHash P (Str.ofString "__weakref__")) (Value.str (Str.ofString "__weakref__") 380) (Value.ref 163)) (List.cons (DictEntry.mk (PyData.keyHash P (Str.ofString "__doc__")) (Value.str (Str.ofString "__doc__") 381) Value.none) (List.nil)))))))))))))))))) 4) (List.toArray (List.nil))) ::
  (Obj.mk (Value.type "type") (Option.none) (Data.cls (ClassData.mk (Str.ofString "Formatting") (List.cons (Value.type "object") (List.nil)) (List.cons (Value.ref 161) (List.cons (Value.type "object") (List.nil))) 160 (Str.ofString "Formatting") Bool.true (List.nil) (List.nil) Bool.false (Option.none) Bool.false)) (List.toArray (List.cons (Option.none) (List.cons (Option.none) (List.cons (Option.some (Value.str (Str.ofString "Formatting") 282)) (List.cons (Option.some (Value.str (Str.ofString "Formatting") 290)) (List.cons (Option.some (Value.builtin "object.__new__")) (List.cons (Option.some (Value.bool Bool.true)) (List.nil))))))))) ::
  (Obj.mk (Value.type "getset_descriptor") (Option.none) (Data.fields (List.toArray (List.cons (Value.str (Str.ofString "__dict__") 377) (List.cons (Value.ref 161) (List.cons (Value.builtin "function.__dict__") (List.cons (Value.builtin "function.__dict__#set") (List.nil))))))) (List.toArray (List.nil))) ::
  (Obj.mk (Value.type "getset_descriptor") (Option.none) (Data.fields (List.toArray (List.cons (Value.str (Str.ofString "__weakref__") 379) (List.cons (Value.ref 161) (List.cons (Value.builtin "ExceptionGroup.__weakref__") (List.cons Value.none (List.nil))))))) (List.toArray (List.nil))) ::
  (Obj.mk (Value.type "super") (Option.none) (Data.fields (List.toArray (List.cons (Value.ref 161) (List.cons (Value.ref 161) (List.cons (Value.ref 161) (List.nil)))))) (List.toArray (List.nil))) ::
  (Obj.mk (Value.type "builtin_function_or_method") (Option.none) (Data.fields (List.toArray (List.cons (Value.builtin "object.__init_subclass__") (List.cons (Value.ref 161) (List.nil))))) (List.toArray (List.nil))) ::
  []), (Life.mk (List.nil) (List.nil) (List.nil) 0 (List.nil) (List.nil) Bool.false (List.toArray (List.nil)) (List.nil) 0 Bool.false Bool.false Bool.false (0 : Int) (List.cons (2000 : Int) (List.cons (10 : Int) (List.cons (10 : Int) (List.nil)))) Bool.false 0 Bool.true (List.nil) (List.nil) 0 Bool.false)⟩
noncomputable def H2 (P : Params) : Heap := ⟨Array.mk (
  (Obj.mk (Value.type "dict") (Option.none) (Data.dict (List.toArray (List.cons (DictEntry.mk (PyData.keyHash P (Str.ofString "__name__")) (Value.str (Str.ofString "__name__") 1) (Value.str (Str.ofString "builtins") 160)) (List.cons (DictEntry.mk (PyData.keyHash P (Str.ofString "__doc__")) (Value.str (Str.ofString "__doc__") 2) (Value.builtin "builtins.__doc__:str#opaque")) (List.cons (DictEntry.mk (PyData.keyHash P (Str.ofString "__package__")) (Value.str (Str.ofString "__package__") 3) (Value.builtin "builtins.__package__:str#opaque")) (List.cons (DictEntry.mk (PyData.keyHash P (Str.ofString "__loader__")) (Value.str (Str.ofString "__loader__") 4) (Value.builtin "builtins.__loader__:shared#opaque")) (List.cons (DictEntry.mk (PyData.keyHash P (Str.ofString "__spec__")) (Value.str (Str.ofString "__spec__") 5) (Value.builtin "builtins.__spec__#opaque")) (List.cons (DictEntry.mk (PyData.keyHash P (Str.ofString "__build_class__")) (Value.str (Str.ofString "__build_class__") 6) (Value.builtin "__build_class__")) (List.cons (DictEntry.mk (PyData.keyHash P (Str.ofString "__import__")) (Value.str (Str.ofString "__import__") 7) (Value.builtin "__import__")) (List.cons (DictEntry.mk (PyData.keyHash P (Str.ofString "abs")) (Value.str (Str.ofString "abs") 8) (Value.builtin "abs")) (List.cons (DictEntry.mk (PyData.keyHash P (Str.ofString "all")) (Value.str (Str.ofString "all") 9) (Value.builtin "all")) (List.cons (DictEntry.mk (PyData.keyHash P (Str.ofString "any")) (Value.str (Str.ofString "any") 10) (Value.builtin "any")) (List.cons (DictEntry.mk (PyData.keyHash P (Str.ofString "ascii")) (Value.str (Str.ofString "ascii") 11) (Value.builtin "ascii")) (List.cons (DictEntry.mk (PyData.keyHash P (Str.ofString "bin")) (Value.str (Str.ofString "bin") 12) (Value.builtin "bin")) (List.cons (DictEntry.mk (PyData.keyHash P (Str.ofString "breakpoint")) (Value.str (Str.ofString "breakpoint") 13) (Value.builtin "breakpoint")) (List.cons (DictEntry.mk (PyData.keyHash P (Str.ofString "callable")) (Value.str (Str.ofString "callable") 14) (Value.builtin "callable")) (List.cons (DictEntry.mk (PyData.keyHash P (Str.ofString "chr")) (Value.str (Str.ofString "chr") 15) (Value.builtin "chr")) (List.cons (DictEntry.mk (PyData.keyHash P (Str.ofString "compile")) (Value.str (Str.ofString "compile") 16) (Value.builtin "compile")) (List.cons (DictEntry.mk (PyData.keyHash P (Str.ofString "delattr")) (Value.str (Str.ofString "delattr") 17) (Value.builtin "delattr")) (List.cons (DictEntry.mk (PyData.keyHash P (Str.ofString "dir")) (Value.str (Str.ofString "dir") 18) (Value.builtin "dir")) (List.cons (DictEntry.mk (PyData.keyHash P (Str.ofString "divmod")) (Value.str (Str.ofString "divmod") 19) (Value.builtin "divmod")) (List.cons (DictEntry.mk (PyData.keyHash P (Str.ofString "eval")) (Value.str (Str.ofString "eval") 20) (Value.builtin "eval")) (List.cons (DictEntry.mk (PyData.keyHash P (Str.ofString "exec")) (Value.str (Str.ofString "exec") 21) (Value.builtin "exec")) (List.cons (DictEntry.mk (PyData.keyHash P (Str.ofString "format")) (Value.str (Str.ofString "format") 22) (Value.builtin "format")) (List.cons (DictEntry.mk (PyData.keyHash P (Str.ofString "getattr")) (Value.str (Str.ofString "getattr") 23) (Value.builtin "getattr")) (List.cons (DictEntry.mk (PyData.keyHash P (Str.ofString "globals")) (Value.str (Str.ofString "globals") 24) (Value.builtin "globals")) (List.cons (DictEntry.mk (PyData.keyHash P (Str.ofString "hasattr")) (Value.str (Str.ofString "hasattr") 25) (Value.builtin "hasattr")) (List.cons (DictEntry.mk (PyData.keyHash P (Str.ofString "hash")) (Value.str (Str.ofString "hash") 26) (Value.builtin "hash")) (List.cons (DictEntry.mk (PyData.keyHash P (Str.ofString "hex")) (Value.str (Str.ofString "hex") 27) (Value.builtin "hex")) (List.cons (DictEntry.mk (PyData.keyHash P (Str.ofString "id")) (Value.str (Str.ofString "id") 28) (Value.builtin "id")) (List.cons (DictEntry.mk (PyData.keyHash P (Str.ofString "input")) (Value.str (Str.ofString "input") 29) (Value.builtin "input")) (List.cons (DictEntry.mk (PyData.keyHash P (Str.ofString "isinstance")) (Value.str (Str.ofString "isinstance") 30) (Value.builtin "isinstance")) (List.cons (DictEntry.mk (PyData.keyHash P (Str.ofString "issubclass")) (Value.str (Str.ofString "issubclass") 31) (Value.builtin "issubclass")) (List.cons (DictEntry.mk (PyData.keyHash P (Str.ofString "iter")) (Value.str (Str.ofString "iter") 32) (Value.builtin "iter")) (List.cons (DictEntry.mk (PyData.keyHash P (Str.ofString "aiter")) (Value.str (Str.ofString "aiter") 33) (Value.builtin "aiter")) (List.cons (DictEntry.mk (PyData.keyHash P (Str.ofString "len")) (Value.str (Str.ofString "len") 34) (Value.builtin "len")) (List.cons (DictEntry.mk (PyData.keyHash P (Str.ofString "locals")) (Value.str (Str.ofString "locals") 35) (Value.builtin "locals")) (List.cons (DictEntry.mk (PyData.keyHash P (Str.ofString "max")) (Value.str (Str.ofString "max") 36) (Value.builtin "max")) (List.cons (DictEntry.mk (PyData.keyHash P (Str.ofString "min")) (Value.str (Str.ofString "min") 37) (Value.builtin "min")) (List.cons (DictEntry.mk (PyData.keyHash P (Str.ofString "next")) (Value.str (Str.ofString "next") 38) (Value.builtin "next")) (List.cons (DictEntry.mk (PyData.keyHash P (Str.ofString "anext")) (Value.str (Str.ofString "anext") 39) (Value.builtin "anext")) (List.cons (DictEntry.mk (PyData.keyHash P (Str.ofString "oct")) (Value.str (Str.ofString "oct") 40) (Value.builtin "oct")) (List.cons (DictEntry.mk (PyData.keyHash P (Str.ofString "ord")) (Value.str (Str.ofString "ord") 41) (Value.builtin "ord")) (List.cons (DictEntry.mk (PyData.keyHash P (Str.ofString "pow")) (Value.str (Str.ofString "pow") 42) (Value.builtin "pow")) (List.cons (DictEntry.mk (PyData.keyHash P (Str.ofString "print")) (Value.str (Str.ofString "print") 43) (Value.builtin "print")) (List.cons (DictEntry.mk (PyData.keyHash P (Str.ofString "repr")) (Value.str (Str.ofString "repr") 44) (Value.builtin "repr")) (List.cons (DictEntry.mk (PyData.keyHash P (Str.ofString "round")) (Value.str (Str.ofString "round") 45) (Value.builtin "round")) (List.cons (DictEntry.mk (PyData.keyHash P (Str.ofString "setattr")) (Value.str (Str.ofString "setattr") 46) (Value.builtin "setattr")) (List.cons (DictEntry.mk (PyData.keyHash P (Str.ofString "sorted")) (Value.str (Str.ofString "sorted") 47) (Value.builtin "sorted")) (List.cons (DictEntry.mk (PyData.keyHash P (Str.ofString "sum")) (Value.str (Str.ofString "sum") 48) (Value.builtin "sum")) (List.cons (DictEntry.mk (PyData.keyHash P (Str.ofString "vars")) (Value.str (Str.ofString "vars") 49) (Value.builtin "vars")) (List.cons (DictEntry.mk (PyData.keyHash P (Str.ofString "None")) (Value.str (Str.ofString "None") 50) Value.none) (List.cons (DictEntry.mk (PyData.keyHash P (Str.ofString "Ellipsis")) (Value.str (Str.ofString "Ellipsis") 51) Value.ellipsis) (List.cons (DictEntry.mk (PyData.keyHash P (Str.ofString "NotImplemented")) (Value.str (Str.ofString "NotImplemented") 52) Value.notImplemented) (List.cons (DictEntry.mk (PyData.keyHash P (Str.ofString "False")) (Value.str (Str.ofString "False") 53) (Value.bool Bool.false)) (List.cons (DictEntry.mk (PyData.keyHash P (Str.ofString "True")) (Value.str (Str.ofString "True") 54) (Value.bool Bool.true)) (List.cons (DictEntry.mk (PyData.keyHash P (Str.ofString "bool")) (Value.str (Str.ofString "bool") 55) (Value.type "bool")) (List.cons (DictEntry.mk (PyData.keyHash P (Str.ofString "memoryview")) (Value.str (Str.ofString "memoryview") 56) (Value.type "memoryview")) (List.cons (DictEntry.mk (PyData.keyHash P (Str.ofString "bytearray")) (Value.str (Str.ofString "bytearray") 57) (Value.type "bytearray")) (List.cons (DictEntry.mk (PyData.keyHash P (Str.ofString "bytes")) (Value.str (Str.ofString "bytes") 58) (Value.type "bytes")) (List.cons (DictEntry.mk (PyData.keyHash P (Str.ofString "classmethod")) (Value.str (Str.ofString "classmethod") 59) (Value.type "classmethod")) (List.cons (DictEntry.mk (PyData.keyHash P (Str.ofString "complex")) (Value.str (Str.ofString "complex") 60) (Value.type "complex")) (List.cons (DictEntry.mk (PyData.keyHash P (Str.ofString "dict")) (Value.str (Str.ofString "dict") 61) (Value.type "dict")) (List.cons (DictEntry.mk (PyData.keyHash P (Str.ofString "enumerate")) (Value.str (Str.ofString "enumerate") 62) (Value.type "enumerate")) (List.cons (DictEntry.mk (PyData.keyHash P (Str.ofString "filter")) (Value.str (Str.ofString "filter") 63) (Value.type "filter")) (List.cons (DictEntry.mk (PyData.keyHash P (Str.ofString "float")) (Value.str (Str.ofString "float") 64) (Value.type "float")) (List.cons (DictEntry.mk (PyData.keyHash P (Str.ofString "frozenset")) (Value.str (Str.ofString "frozenset") 65) (Value.type "frozenset")) (List.cons (DictEntry.mk (PyData.keyHash P (Str.ofString "property")) (Value.str (Str.ofString "property") 66) (Value.type "property")) (List.cons (DictEntry.mk (PyData.keyHash P (Str.ofString "int")) (Value.str (Str.ofString "int") 67) (Value.type "int")) (List.cons (DictEntry.mk (PyData.keyHash P (Str.ofString "list")) (Value.str (Str.ofString "list") 68) (Value.type "list")) (List.cons (DictEntry.mk (PyData.keyHash P (Str.ofString "map")) (Value.str (Str.ofString "map") 69) (Value.type "map")) (List.cons (DictEntry.mk (PyData.keyHash P (Str.ofString "object")) (Value.str (Str.ofString "object") 70) (Value.type "object")) (List.cons (DictEntry.mk (PyData.keyHash P (Str.ofString "range")) (Value.str (Str.ofString "range") 71) (Value.type "range")) (List.cons (DictEntry.mk (PyData.keyHash P (Str.ofString "reversed")) (Value.str (Str.ofString "reversed") 72) (Value.type "reversed")) (List.cons (DictEntry.mk (PyData.keyHash P (Str.ofString "set")) (Value.str (Str.ofString "set") 73) (Value.type "set")) (List.cons (DictEntry.mk (PyData.keyHash P (Str.ofString "slice")) (Value.str (Str.ofString "slice") 74) (Value.type "slice")) (List.cons (DictEntry.mk (PyData.keyHash P (Str.ofString "staticmethod")) (Value.str (Str.ofString "staticmethod") 75) (Value.type "staticmethod")) (List.cons (DictEntry.mk (PyData.keyHash P (Str.ofString "str")) (Value.str (Str.ofString "str") 76) (Value.type "str")) (List.cons (DictEntry.mk (PyData.keyHash P (Str.ofString "super")) (Value.str (Str.ofString "super") 77) (Value.type "super")) (List.cons (DictEntry.mk (PyData.keyHash P (Str.ofString "tuple")) (Value.str (Str.ofString "tuple") 78) (Value.type "tuple")) (List.cons (DictEntry.mk (PyData.keyHash P (Str.ofString "type")) (Value.str (Str.ofString "type") 79) (Value.type "type")) (List.cons (DictEntry.mk (PyData.keyHash P (Str.ofString "zip")) (Value.str (Str.ofString "zip") 80) (Value.type "zip")) (List.cons (DictEntry.mk (PyData.keyHash P (Str.ofString "__debug__")) (Value.str (Str.ofString "__debug__") 81) (Value.bool Bool.true)) (List.cons (DictEntry.mk (PyData.keyHash P (Str.ofString "BaseException")) (Value.str (Str.ofString "BaseException") 82) (Value.type "BaseException")) (List.cons (DictEntry.mk (PyData.keyHash P (Str.ofString "BaseExceptionGroup")) (Value.str (Str.ofString "BaseExceptionGroup") 83) (Value.type "BaseExceptionGroup")) (List.cons (DictEntry.mk (PyData.keyHash P (Str.ofString "Exception")) (Value.str (Str.ofString "Exception") 84) (Value.type "Exception")) (List.cons (DictEntry.mk (PyData.keyHash P (Str.ofString "GeneratorExit")) (Value.str (Str.ofString "GeneratorExit") 85) (Value.type "GeneratorExit")) (List.cons (DictEntry.mk (PyData.keyHash P (Str.ofString "KeyboardInterrupt")) (Value.str (Str.ofString "KeyboardInterrupt") 86) (Value.type "KeyboardInterrupt")) (List.cons (DictEntry.mk (PyData.keyHash P (Str.ofString "SystemExit")) (Value.str (Str.ofString "SystemExit") 87) (Value.type "SystemExit")) (List.cons (DictEntry.mk (PyData.keyHash P (Str.ofString "ArithmeticError")) (Value.str (Str.ofString "ArithmeticError") 88) (Value.type "ArithmeticError")) (List.cons (DictEntry.mk (PyData.keyHash P (Str.ofString "AssertionError")) (Value.str (Str.ofString "AssertionError") 89) (Value.type "AssertionError")) (List.cons (DictEntry.mk (PyData.keyHash P (Str.ofString "AttributeError")) (Value.str (Str.ofString "AttributeError") 90) (Value.type "AttributeError")) (List.cons (DictEntry.mk (PyData.keyHash P (Str.ofString "BufferError")) (Value.str (Str.ofString "BufferError") 91) (Value.type "BufferError")) (List.cons (DictEntry.mk (PyData.keyHash P (Str.ofString "EOFError")) (Value.str (Str.ofString "EOFError") 92) (Value.type "EOFError")) (List.cons (DictEntry.mk (PyData.keyHash P (Str.ofString "ImportError")) (Value.str (Str.ofString "ImportError") 93) (Value.type "ImportError")) (List.cons (DictEntry.mk (PyData.keyHash P (Str.ofString "LookupError")) (Value.str (Str.ofString "LookupError") 94) (Value.type "LookupError")) (List.cons (DictEntry.mk (PyData.keyHash P (Str.ofString "MemoryError")) (Value.str (Str.ofString "MemoryError") 95) (Value.type "MemoryError")) (List.cons (DictEntry.mk (PyData.keyHash P (Str.ofString "NameError")) (Value.str (Str.ofString "NameError") 96) (Value.type "NameError")) (List.cons (DictEntry.mk (PyData.keyHash P (Str.ofString "OSError")) (Value.str (Str.ofString "OSError") 97) (Value.type "OSError")) (List.cons (DictEntry.mk (PyData.keyHash P (Str.ofString "ReferenceError")) (Value.str (Str.ofString "ReferenceError") 98) (Value.type "ReferenceError")) (List.cons (DictEntry.mk (PyData.keyHash P (Str.ofString "RuntimeError")) (Value.str (Str.ofString "RuntimeError") 99) (Value.type "RuntimeError")) (List.cons (DictEntry.mk (PyData.keyHash P (Str.ofString "StopAsyncIteration")) (Value.str (Str.ofString "StopAsyncIteration") 100) (Value.type "StopAsyncIteration")) (List.cons (DictEntry.mk (PyData.keyHash P (Str.ofString "StopIteration")) (Value.str (Str.ofString "StopIteration") 101) (Value.type "StopIteration")) (List.cons (DictEntry.mk (PyData.keyHash P (Str.ofString "SyntaxError")) (Value.str (Str.ofString "SyntaxError") 102) (Value.type "SyntaxError")) (List.cons (DictEntry.mk (PyData.keyHash P (Str.ofString "SystemError")) (Value.str (Str.ofString "SystemError") 103) (Value.type "SystemError")) (List.cons (DictEntry.mk (PyData.keyHash P (Str.ofString "TypeError")) (Value.str (Str.ofString "TypeError") 104) (Value.type "TypeError")) (List.cons (DictEntry.mk (PyData.keyHash P (Str.ofString "ValueError")) (Value.str (Str.ofString "ValueError") 105) (Value.type "ValueError")) (List.cons (DictEntry.mk (PyData.keyHash P (Str.ofString "Warning")) (Value.str (Str.ofString "Warning") 106) (Value.type "Warning")) (List.cons (DictEntry.mk (PyData.keyHash P (Str.ofString "FloatingPointError")) (Value.str (Str.ofString "FloatingPointError") 107) (Value.type "FloatingPointError")) (List.cons (DictEntry.mk (PyData.keyHash P (Str.ofString "OverflowError")) (Value.str (Str.ofString "OverflowError") 108) (Value.type "OverflowError")) (List.cons (DictEntry.mk (PyData.keyHash P (Str.ofString "ZeroDivisionError")) (Value.str (Str.ofString "ZeroDivisionError") 109) (Value.type "ZeroDivisionError")) (List.cons (DictEntry.mk (PyData.keyHash P (Str.ofString "BytesWarning")) (Value.str (Str.ofString "BytesWarning") 110) (Value.type "BytesWarning")) (List.cons (DictEntry.mk (PyData.keyHash P (Str.ofString "DeprecationWarning")) (Value.str (Str.ofString "DeprecationWarning") 111) (Value.type "DeprecationWarning")) (List.cons (DictEntry.mk (PyData.keyHash P (Str.ofString "EncodingWarning")) (Value.str (Str.ofString "EncodingWarning") 112) (Value.type "EncodingWarning")) (List.cons (DictEntry.mk (PyData.keyHash P (Str.ofString "FutureWarning")) (Value.str (Str.ofString "FutureWarning") 113) (Value.type "FutureWarning")) (List.cons (DictEntry.mk (PyData.keyHash P (Str.ofString "ImportWarning")) (Value.str (Str.ofString "ImportWarning") 114) (Value.type "ImportWarning")) (List.cons (DictEntry.mk (PyData.keyHash P (Str.ofString "PendingDeprecationWarning")) (Value.str (Str.ofString "PendingDeprecationWarning") 115) (Value.type "PendingDeprecationWarning")) (List.cons (DictEntry.mk (PyData.keyHash P (Str.ofString "ResourceWarning")) (Value.str (Str.ofString "ResourceWarning") 116) (Value.type "ResourceWarning")) (List.cons (DictEntry.mk (PyData.keyHash P (Str.ofString "RuntimeWarning")) (Value.str (Str.ofString "RuntimeWarning") 117) (Value.type "RuntimeWarning")) (List.cons (DictEntry.mk (PyData.keyHash P (Str.ofString "SyntaxWarning")) (Value.str (Str.ofString "SyntaxWarning") 118) (Value.type "SyntaxWarning")) (List.cons (DictEntry.mk (PyData.keyHash P (Str.ofString "UnicodeWarning")) (Value.str (Str.ofString "UnicodeWarning") 119) (Value.type "UnicodeWarning")) (List.cons (DictEntry.mk (PyData.keyHash P (Str.ofString "UserWarning")) (Value.str (Str.ofString "UserWarning") 120) (Value.type "UserWarning")) (List.cons (DictEntry.mk (PyData.keyHash P (Str.ofString "BlockingIOError")) (Value.str (Str.ofString "BlockingIOError") 121) (Value.type "BlockingIOError")) (List.cons (DictEntry.mk (PyData.keyHash P (Str.ofString "ChildProcessError")) (Value.str (Str.ofString "ChildProcessError") 122) (Value.type "ChildProcessError")) (List.cons (DictEntry.mk (PyData.keyHash P (Str.ofString "ConnectionError")) (Value.str (Str.ofString "ConnectionError") 123) (Value.type "ConnectionError")) (List.cons (DictEntry.mk (PyData.keyHash P (Str.ofString "FileExistsError")) (Value.str (Str.ofString "FileExistsError") 124) (Value.type "FileExistsError")) (List.cons (DictEntry.mk (PyData.keyHash P (Str.ofString "FileNotFoundError")) (Value.str (Str.ofString "FileNotFoundError") 125) (Value.type "FileNotFoundError")) (List.cons (DictEntry.mk (PyData.keyHash P (Str.ofString "InterruptedError")) (Value.str (Str.ofString "InterruptedError") 126) (Value.type "InterruptedError")) (List.cons (DictEntry.mk (PyData.keyHash P (Str.ofString "IsADirectoryError")) (Value.str (Str.ofString "IsADirectoryError") 127) (Value.type "IsADirectoryError")) (List.cons (DictEntry.mk (PyData.keyHash P (Str.ofString "NotADirectoryError")) (Value.str (Str.ofString "NotADirectoryError") 128) (Value.type "NotADirectoryError")) (List.cons (DictEntry.mk (PyData.keyHash P (Str.ofString "PermissionError")) (Value.str (Str.ofString "PermissionError") 129) (Value.type "PermissionError")) (List.cons (DictEntry.mk (PyData.keyHash P (Str.ofString "ProcessLookupError")) (Value.str (Str.ofString "ProcessLookupError") 130) (Value.type "ProcessLookupError")) (List.cons (DictEntry.mk (PyData.keyHash P (Str.ofString "TimeoutError")) (Value.str (Str.ofString "TimeoutError") 131) (Value.type "TimeoutError")) (List.cons (DictEntry.mk (PyData.keyHash P (Str.ofString "IndentationError")) (Value.str (Str.ofString "IndentationError") 132) (Value.type "IndentationError")) (List.cons (DictEntry.mk (PyData.keyHash P (Str.ofString "_IncompleteInputError")) (Value.str (Str.ofString "_IncompleteInputError") 133) (Value.type "_IncompleteInputError")) (List.cons (DictEntry.mk (PyData.keyHash P (Str.ofString "IndexError")) (Value.str (Str.ofString "IndexError") 134) (Value.type "IndexError")) (List.cons (DictEntry.mk (PyData.keyHash P (Str.ofString "KeyError")) (Value.str (Str.ofString "KeyError") 135) (Value.type "KeyError")) (List.cons (DictEntry.mk (PyData.keyHash P (Str.ofString "ModuleNotFoundError")) (Value.str (Str.ofString "ModuleNotFoundError") 136) (Value.type "ModuleNotFoundError")) (List.cons (DictEntry.mk (PyData.keyHash P (Str.ofString "NotImplementedError")) (Value.str (Str.ofString "NotImplementedError") 137) (Value.type "NotImplementedError")) (List.cons (DictEntry.mk (PyData.keyHash P (Str.ofString "PythonFinalizationError")) (Value.str (Str.ofString "PythonFinalizationError") 138) (Value.type "PythonFinalizationError")) (List.cons (DictEntry.mk (PyData.keyHash P (Str.ofString "RecursionError")) (Value.str (Str.ofString "RecursionError") 139) (Value.type "RecursionError")) (List.cons (DictEntry.mk (PyData.keyHash P (Str.ofString "UnboundLocalError")) (Value.str (Str.ofString "UnboundLocalError") 140) (Value.type "UnboundLocalError")) (List.cons (DictEntry.mk (PyData.keyHash P (Str.ofString "UnicodeError")) (Value.str (Str.ofString "UnicodeError") 141) (Value.type "UnicodeError")) (List.cons (DictEntry.mk (PyData.keyHash P (Str.ofString "BrokenPipeError")) (Value.str (Str.ofString "BrokenPipeError") 142) (Value.type "BrokenPipeError")) (List.cons (DictEntry.mk (PyData.keyHash P (Str.ofString "ConnectionAbortedError")) (Value.str (Str.ofString "ConnectionAbortedError") 143) (Value.type "ConnectionAbortedError")) (List.cons (DictEntry.mk (PyData.keyHash P (Str.ofString "ConnectionRefusedError")) (Value.str (Str.ofString "ConnectionRefusedError") 144) (Value.type "ConnectionRefusedError")) (List.cons (DictEntry.mk (PyData.keyHash P (Str.ofString "ConnectionResetError")) (Value.str (Str.ofString "ConnectionResetError") 145) (Value.type "ConnectionResetError")) (List.cons (DictEntry.mk (PyData.keyHash P (Str.ofString "TabError")) (Value.str (Str.ofString "TabError") 146) (Value.type "TabError")) (List.cons (DictEntry.mk (PyData.keyHash P (Str.ofString "UnicodeDecodeError")) (Value.str (Str.ofString "UnicodeDecodeError") 147) (Value.type "UnicodeDecodeError")) (List.cons (DictEntry.mk (PyData.keyHash P (Str.ofString "UnicodeEncodeError")) (Value.str (Str.ofString "UnicodeEncodeError") 148) (Value.type "UnicodeEncodeError")) (List.cons (DictEntry.mk (PyData.keyHash P (Str.ofString "UnicodeTranslateError")) (Value.str (Str.ofString "UnicodeTranslateError") 149) (Value.type "UnicodeTranslateError")) (List.cons (DictEntry.mk (PyData.keyHash P (Str.ofString "ExceptionGroup")) (Value.str (Str.ofString "ExceptionGroup") 150) (Value.type "ExceptionGroup")) (List.cons (DictEntry.mk (PyData.keyHash P (Str.ofString "EnvironmentError")) (Value.str (Str.ofString "EnvironmentError") 151) (Value.type "OSError")) (List.cons (DictEntry.mk (PyData.keyHash P (Str.ofString "IOError")) (Value.str (Str.ofString "IOError") 152) (Value.type "OSError")) (List.cons (DictEntry.mk (PyData.keyHash P (Str.ofString "open")) (Value.str (Str.ofString "open") 153) (Value.builtin "open")) (List.cons (DictEntry.mk (PyData.keyHash P (Str.ofString "quit")) (Value.str (Str.ofString "quit") 154) (Value.builtin "builtins.quit#opaque")) (List.cons (DictEntry.mk (PyData.keyHash P (Str.ofString "exit")) (Value.str (Str.ofString "exit") 155) (Value.builtin "builtins.exit#opaque")) (List.cons (DictEntry.mk (PyData.keyHash P (Str.ofString "copyright")) (Value.str (Str.ofString "copyright") 156) (Value.builtin "builtins.copyright#opaque")) (List.cons (DictEntry.mk (PyData.keyHash P (Str.ofString "credits")) (Value.str (Str.ofString "credits") 157) (Value.builtin "builtins.credits#opaque")) (List.cons (DictEntry.mk (PyData.keyHash P (Str.ofString "license")) (Value.str (Str.ofString "license") 158) (Value.builtin "builtins.license#opaque")) (List.cons (DictEntry.mk (PyData.keyHash P (Str.ofString "help")) (Value.str (Str.ofString "help") 159) (Value.builtin "builtins.help#opaque")) (List.nil))))))))))))))))))))))))))))))))))))))))))))))))))))))))))))))))))))))))))))))))))))))))))))))))))))))))))))))))))))))))))))))))))))))))))))))))))))))))))))))))) 159) (List.toArray (List.nil))) ::
  (Obj.mk (Value.type "dict") (Option.none) (Data.dict (List.toArray (List.cons (DictEntry.mk (PyData.keyHash P (Str.ofString "builtins")) (Value.str (Str.ofString "builtins") 162) (Value.ref 4)) (List.cons (DictEntry.mk (PyData.keyHash P (Str.ofString "__main__")) (Value.str (Str.ofString "__main__") 163) (Value.ref 5)) (List.nil)))) 2) (List.toArray (List.nil))) ::
  (Obj.mk Value.none (Option.none) (Data.dict (List.toArray (List.cons (DictEntry.mk (PyData.keyHash P (Str.ofString "type.__subclasses__.Exception.0")) (Value.str (Str.ofString "type.__subclasses__.Exception.0") 260) (Value.int (66 : Int) 0)) (List.cons (DictEntry.mk (PyData.keyHash P (Str.ofString "type.__subclasses__.Exception.n")) (Value.str (Str.ofString "type.__subclasses__.Exception.n") 261) (Value.int (1 : Int) 0)) (List.nil)))) 2) (List.toArray (List.nil))) ::
  (Obj.mk (Value.type "dict") (Option.none) (Data.dict (List.toArray (List.cons (DictEntry.mk (PyData.keyHash P (Str.ofString "__name__")) (Value.str (Str.ofString "__name__") 165) (Value.str (Str.ofString "htmltree.tree") 510)) (List.cons (DictEntry.mk (PyData.keyHash P (Str.ofString "__doc__")) (Value.str (Str.ofString "__doc__") 166) Value.none) (List.cons (DictEntry.mk (PyData.keyHash P (Str.ofString "__package__")) (Value.str (Str.ofString "__package__") 167) Value.none) (List.cons (DictEntry.mk (PyData.keyHash P (Str.ofString "__loader__")) (Value.str (Str.ofString "__loader__") 168) (Value.builtin "__main__.__loader__#opaque")) (List.cons (DictEntry.mk (PyData.keyHash P (Str.ofString "__spec__")) (Value.str (Str.ofString "__spec__") 169) Value.none) (List.cons (DictEntry.mk (PyData.keyHash P (Str.ofString "__annotations__")) (Value.str (Str.ofString "__annotations__") 170) (Value.ref 6)) (List.cons (DictEntry.mk (PyData.keyHash P (Str.ofString "__builtins__")) (Value.str (Str.ofString "__builtins__") 171) (Value.ref 4)) (List.cons (DictEntry.mk (PyData.keyHash P (Str.ofString "__file__")) (Value.str (Str.ofString "__file__") 173) (Value.str (Str.ofString "/claim/cut.py") 172)) (List.cons (DictEntry.mk (PyData.keyHash P (Str.ofString "__cached__")) (Value.str (Str.ofString "__cached__") 174) Value.none) (List.cons (DictEntry.mk (PyData.keyHash P (Str.ofString "_wall")) (Value.str (Str.ofString "_wall") 193) (Value.ref 21)) (List.cons (DictEntry.mk (PyData.keyHash P (Str.ofString "mode_of")) (Value.str (Str.ofString "mode_of") 203) (Value.ref 28)) (List.cons (DictEntry.mk (PyData.keyHash P (Str.ofString "select_mode")) (Value.str (Str.ofString "select_mode") 212) (Value.ref 35)) (List.cons (DictEntry.mk (PyData.keyHash P (Str.ofString "mode_for")) (Value.str (Str.ofString "mode_for") 222) (Value.ref 42)) (List.cons (DictEntry.mk (PyData.keyHash P (Str.ofString "reset_mode")) (Value.str (Str.ofString "reset_mode") 232) (Value.ref 49)) (List.cons (DictEntry.mk (PyData.keyHash P (Str.ofString "HtmlFault")) (Value.str (Str.ofString "HtmlFault") 263) (Value.ref 66)) (List.cons (DictEntry.mk (PyData.keyHash P (Str.ofString "Misused")) (Value.str (Str.ofString "Misused") 279) (Value.ref 79)) (List.cons (DictEntry.mk (PyData.keyHash P (Str.ofString "Formatting")) (Value.str (Str.ofString "Formatting") 383) (Value.ref 161)) (List.cons (DictEntry.mk (PyData.keyHash P (Str.ofString "OpenStack")) (Value.str (Str.ofString "OpenStack") 509) (Value.ref 266)) (List.cons (DictEntry.mk (PyData.keyHash P (Str.ofString "Tree")) (Value.str (Str.ofString "Tree") 672) (Value.ref 383)) (List.nil))))))))))))))))))))) 19) (List.toArray (List.nil))) ::
  (Obj.mk (Value.type "module") (Option.some 0) Data.plain (List.toArray (List.nil))) ::
  (Obj.mk (Value.type "module") (Option.some 3) Data.plain (List.toArray (List.nil))) ::
  (Obj.mk (Value.type "dict") (Option.none) (Data.dict (List.toArray (List.nil)) 0) (List.toArray (List.nil))) ::
  (Obj.mk (Value.type "tuple") (Option.none) (Data.seq (List.toArray (List.nil)) 0) (List.toArray (List.nil))) ::
  (Obj.mk Value.none (Option.none) (Data.fields (List.toArray (List.nil))) (List.toArray (List.nil))) ::
  (Obj.mk (Value.type "code") (Option.none) (Data.fields (List.toArray (List.cons (Value.str (Str.ofString "<module>") 176) (List.cons (Value.str (Str.ofString "<module>") 177) (List.cons (Value.str (Str.ofString "/claim/cut.py") 178) (List.cons (Value.int (1 : Int) 0) (List.cons (Value.int (0 : Int) 0) (List.cons (Value.int (0 : Int) 0) (List.cons (Value.int (0 : Int) 0) (List.cons (Value.int (0 : Int) 0) (List.cons (Value.ref 7) (List.cons (Value.bool Bool.false) (List.cons (Value.int (175 : Int) 0) (List.cons (Value.ref 8) (List.cons Value.none (List.cons Value.none (List.cons Value.none (List.cons Value.none (List.cons (Value.int (179 : Int) 0) (List.cons (Value.int (1 : Int) 0) (List.cons (Value.str (Str.ofString "/claim/cut.py") 180) (List.nil)))))))))))))))))))))) (List.toArray (List.nil))) ::
  (Obj.mk (Value.type "frame") (Option.none) Data.plain (List.toArray (List.cons (Option.some (Value.ref 9)) (List.cons (Option.some (Value.ref 3)) (List.cons (Option.some (Value.ref 3)) (List.cons (Option.none) (List.cons (Option.some (Value.str (Str.ofString "__main__") 164)) (List.cons (Option.none) (List.cons (Option.some (Value.ref 0)) (List.nil)))))))))) ::
  (Obj.mk (Value.type "tuple") (Option.none) (Data.seq (List.toArray (List.nil)) 0) (List.toArray (List.nil))) ::
  (Obj.mk Value.none (Option.none) (Data.fields (List.toArray (List.cons (Value.int (1 : Int) 0) (List.cons (Value.int (0 : Int) 0) (List.cons (Value.ref 20) (List.cons (Value.int (5 : Int) 0) (List.cons (Value.int (0 : Int) 0) (List.cons (Value.ref 27) (List.cons (Value.int (8 : Int) 0) (List.cons (Value.int (0 : Int) 0) (List.cons (Value.ref 34) (List.cons (Value.int (17 : Int) 0) (List.cons (Value.int (0 : Int) 0) (List.cons (Value.ref 41) (List.cons (Value.int (32 : Int) 0) (List.cons (Value.int (0 : Int) 0) (List.cons (Value.ref 48) (List.cons (Value.int (45 : Int) 0) (List.cons (Value.int (0 : Int) 0) (List.cons (Value.ref 55) (List.cons (Value.int (50 : Int) 0) (List.cons (Value.int (0 : Int) 0) (List.cons (Value.ref 75) (List.cons (Value.int (53 : Int) 0) (List.cons (Value.int (0 : Int) 0) (List.cons (Value.ref 87) (List.cons (Value.int (89 : Int) 0) (List.cons (Value.int (0 : Int) 0) (List.cons (Value.ref 171) (List.cons (Value.int (139 : Int) 0) (List.cons (Value.int (0 : Int) 0) (List.cons (Value.ref 276) (List.nil))))))))))))))))))))))))))))))))) (List.toArray (List.nil))) ::
  (Obj.mk (Value.type "code") (Option.none) (Data.fields (List.toArray (List.cons (Value.str (Str.ofString "<module>") 182) (List.cons (Value.str (Str.ofString "<module>") 183) (List.cons (Value.str (Str.ofString "/claim/cut.py") 184) (List.cons (Value.int (1 : Int) 0) (List.cons (Value.int (0 : Int) 0) (List.cons (Value.int (0 : Int) 0) (List.cons (Value.int (0 : Int) 0) (List.cons (Value.int (0 : Int) 0) (List.cons (Value.ref 11) (List.cons (Value.bool Bool.false) (List.cons (Value.int (181 : Int) 0) (List.cons (Value.ref 12) (List.cons Value.none (List.cons Value.none (List.cons Value.none (List.cons Value.none (List.cons (Value.int (185 : Int) 0) (List.cons (Value.int (1 : Int) 0) (List.cons (Value.str (Str.ofString "/claim/cut.py") 186) (List.nil)))))))))))))))))))))) (List.toArray (List.nil))) ::
  (Obj.mk (Value.type "frame") (Option.none) Data.plain (List.toArray (List.cons (Option.some (Value.ref 13)) (List.cons (Option.some (Value.ref 3)) (List.cons (Option.some (Value.ref 3)) (List.cons (Option.none) (List.cons (Option.some (Value.str (Str.ofString "__main__") 164)) (List.cons (Option.none) (List.cons (Option.some (Value.ref 0)) (List.nil)))))))))) ::
  (Obj.mk (Value.type "tuple") (Option.none) (Data.seq (List.toArray (List.nil)) 0) (List.toArray (List.nil))) ::
  (Obj.mk Value.none (Option.none) (Data.fields (List.toArray (List.nil))) (List.toArray (List.nil))) ::
  (Obj.mk (Value.type "tuple") (Option.none) (Data.seq (List.toArray (List.cons (Value.str (Str.ofString "k") 190) (List.nil))) 0) (List.toArray (List.nil))) ::
  (Obj.mk (Value.type "tuple") (Option.none) (Data.seq (List.toArray (List.nil)) 0) (List.toArray (List.nil))) ::
  fo19 ::
  (Obj.mk (Value.type "code") (Option.none) (Data.fields (List.toArray (List.cons (Value.str (Str.ofString "_wall") 187) (List.cons (Value.str (Str.ofString "_wall") 188) (List.cons (Value.str (Str.ofString "/claim/cut.py") 189) (List.cons (Value.int (1 : Int) 0) (List.cons (Value.int (1 : Int) 0) (List.cons (Value.int (0 : Int) 0) (List.cons (Value.int (0 : Int) 0) (List.cons (Value.int (3 : Int) 0) (List.cons (Value.ref 15) (List.cons (Value.bool Bool.true) (List.cons (Value.int (181 : Int) 0) (List.cons (Value.ref 16) (List.cons Value.none (List.cons (Value.ref 17) (List.cons (Value.ref 18) (List.cons (Value.ref 19) (List.cons (Value.int (191 : Int) 0) (List.cons (Value.int (1 : Int) 0) (List.cons (Value.str (Str.ofString "/claim/cut.py") 192) (List.nil)))))))))))))))))))))) (List.toArray (List.nil))) ::
  fo21 ::
  (Obj.mk (Value.type "tuple") (Option.none) (Data.seq (List.toArray (List.nil)) 0) (List.toArray (List.nil))) ::
  (Obj.mk Value.none (Option.none) (Data.fields (List.toArray (List.nil))) (List.toArray (List.nil))) ::
  (Obj.mk (Value.type "tuple") (Option.none) (Data.seq (List.toArray (List.cons (Value.str (Str.ofString "name") 199) (List.cons (Value.str (Str.ofString "table") 200) (List.nil)))) 0) (List.toArray (List.nil))) ::
  (Obj.mk (Value.type "tuple") (Option.none) (Data.seq (List.toArray (List.nil)) 0) (List.toArray (List.nil))) ::
  fo26 ::
  (Obj.mk (Value.type "code") (Option.none) (Data.fields (List.toArray (List.cons (Value.str (Str.ofString "mode_of") 196) (List.cons (Value.str (Str.ofString "mode_of") 197) (List.cons (Value.str (Str.ofString "/claim/cut.py") 198) (List.cons (Value.int (5 : Int) 0) (List.cons (Value.int (1 : Int) 0) (List.cons (Value.int (0 : Int) 0) (List.cons (Value.int (0 : Int) 0) (List.cons (Value.int (3 : Int) 0) (List.cons (Value.ref 22) (List.cons (Value.bool Bool.true) (List.cons (Value.int (181 : Int) 0) (List.cons (Value.ref 23) (List.cons Value.none (List.cons (Value.ref 24) (List.cons (Value.ref 25) (List.cons (Value.ref 26) (List.cons (Value.int (201 : Int) 0) (List.cons (Value.int (5 : Int) 0) (List.cons (Value.str (Str.ofString "/claim/cut.py") 202) (List.nil)))))))))))))))))))))) (List.toArray (List.nil))) ::
  fo28 ::
  (Obj.mk (Value.type "tuple") (Option.none) (Data.seq (List.toArray (List.nil)) 0) (List.toArray (List.nil))) ::
  (Obj.mk Value.none (Option.none) (Data.fields (List.toArray (List.nil))) (List.toArray (List.nil))) ::
  (Obj.mk (Value.type "tuple") (Option.none) (Data.seq (List.toArray (List.cons (Value.str (Str.ofString "builder") 207) (List.cons (Value.str (Str.ofString "at") 208) (List.cons (Value.str (Str.ofString "node") 209) (List.nil))))) 0) (List.toArray (List.nil))) ::
  (Obj.mk (Value.type "tuple") (Option.none) (Data.seq (List.toArray (List.nil)) 0) (List.toArray (List.nil))) ::
  fo33 ::
  (Obj.mk (Value.type "code") (Option.none) (Data.fields (List.toArray (List.cons (Value.str (Str.ofString "select_mode") 204) (List.cons (Value.str (Str.ofString "select_mode") 205) (List.cons (Value.str (Str.ofString "/claim/cut.py") 206) (List.cons (Value.int (8 : Int) 0) (List.cons (Value.int (2 : Int) 0) (List.cons (Value.int (0 : Int) 0) (List.cons (Value.int (0 : Int) 0) (List.cons (Value.int (3 : Int) 0) (List.cons (Value.ref 29) (List.cons (Value.bool Bool.true) (List.cons (Value.int (181 : Int) 0) (List.cons (Value.ref 30) (List.cons Value.none (List.cons (Value.ref 31) (List.cons (Value.ref 32) (List.cons (Value.ref 33) (List.cons (Value.int (210 : Int) 0) (List.cons (Value.int (8 : Int) 0) (List.cons (Value.str (Str.ofString "/claim/cut.py") 211) (List.nil)))))))))))))))))))))) (List.toArray (List.nil))) ::
  fo35 ::
  (Obj.mk (Value.type "tuple") (Option.none) (Data.seq (List.toArray (List.nil)) 0) (List.toArray (List.nil))) ::
  (Obj.mk Value.none (Option.none) (Data.fields (List.toArray (List.nil))) (List.toArray (List.nil))) ::
  (Obj.mk (Value.type "tuple") (Option.none) (Data.seq (List.toArray (List.cons (Value.str (Str.ofString "builder") 216) (List.cons (Value.str (Str.ofString "node") 217) (List.cons (Value.str (Str.ofString "at") 218) (List.cons (Value.str (Str.ofString "name") 219) (List.nil)))))) 0) (List.toArray (List.nil))) ::
  (Obj.mk (Value.type "tuple") (Option.none) (Data.seq (List.toArray (List.nil)) 0) (List.toArray (List.nil))) ::
  fo40 ::
  (Obj.mk (Value.type "code") (Option.none) (Data.fields (List.toArray (List.cons (Value.str (Str.ofString "mode_for") 213) (List.cons (Value.str (Str.ofString "mode_for") 214) (List.cons (Value.str (Str.ofString "/claim/cut.py") 215) (List.cons (Value.int (17 : Int) 0) (List.cons (Value.int (3 : Int) 0) (List.cons (Value.int (0 : Int) 0) (List.cons (Value.int (0 : Int) 0) (List.cons (Value.int (3 : Int) 0) (List.cons (Value.ref 36) (List.cons (Value.bool Bool.true) (List.cons (Value.int (181 : Int) 0) (List.cons (Value.ref 37) (List.cons Value.none (List.cons (Value.ref 38) (List.cons (Value.ref 39) (List.cons (Value.ref 40) (List.cons (Value.int (220 : Int) 0) (List.cons (Value.int (17 : Int) 0) (List.cons (Value.str (Str.ofString "/claim/cut.py") 221) (List.nil)))))))))))))))))))))) (List.toArray (List.nil))) ::
  fo42 ::
  (Obj.mk (Value.type "tuple") (Option.none) (Data.seq (List.toArray (List.nil)) 0) (List.toArray (List.nil))) ::
  (Obj.mk Value.none (Option.none) (Data.fields (List.toArray (List.nil))) (List.toArray (List.nil))) ::
  (Obj.mk (Value.type "tuple") (Option.none) (Data.seq (List.toArray (List.cons (Value.str (Str.ofString "builder") 226) (List.cons (Value.str (Str.ofString "at") 227) (List.cons (Value.str (Str.ofString "mode") 228) (List.cons (Value.str (Str.ofString "node") 229) (List.nil)))))) 0) (List.toArray (List.nil))) ::
  (Obj.mk (Value.type "tuple") (Option.none) (Data.seq (List.toArray (List.nil)) 0) (List.toArray (List.nil))) ::
  fo47 ::
  (Obj.mk (Value.type "code") (Option.none) (Data.fields (List.toArray (List.cons (Value.str (Str.ofString "reset_mode") 223) (List.cons (Value.str (Str.ofString "reset_mode") 224) (List.cons (Value.str (Str.ofString "/claim/cut.py") 225) (List.cons (Value.int (32 : Int) 0) (List.cons (Value.int (1 : Int) 0) (List.cons (Value.int (0 : Int) 0) (List.cons (Value.int (0 : Int) 0) (List.cons (Value.int (3 : Int) 0) (List.cons (Value.ref 43) (List.cons (Value.bool Bool.true) (List.cons (Value.int (181 : Int) 0) (List.cons (Value.ref 44) (List.cons Value.none (List.cons (Value.ref 45) (List.cons (Value.ref 46) (List.cons (Value.ref 47) (List.cons (Value.int (230 : Int) 0) (List.cons (Value.int (32 : Int) 0) (List.cons (Value.str (Str.ofString "/claim/cut.py") 231) (List.nil)))))))))))))))))))))) (List.toArray (List.nil))) ::
  fo49 ::
  (Obj.mk (Value.type "tuple") (Option.none) (Data.seq (List.toArray (List.cons (Value.type "Exception") (List.nil))) 0) (List.toArray (List.nil))) ::
  (Obj.mk (Value.type "builtin_function_or_method") (Option.none) (Data.fields (List.toArray (List.cons (Value.builtin "type.__prepare__") (List.cons (Value.type "type") (List.nil))))) (List.toArray (List.nil))) ::
  (Obj.mk (Value.type "dict") (Option.none) (Data.dict (List.toArray (List.cons (DictEntry.mk (PyData.keyHash P (Str.ofString "__module__")) (Value.str (Str.ofString "__module__") 242) (Value.str (Str.ofString "htmltree.faults") 233)) (List.cons (DictEntry.mk (PyData.keyHash P (Str.ofString "__qualname__")) (Value.str (Str.ofString "__qualname__") 244) (Value.str (Str.ofString "HtmlFault") 243)) (List.cons (DictEntry.mk (PyData.keyHash P (Str.ofString "__firstlineno__")) (Value.str (Str.ofString "__firstlineno__") 246) (Value.int (45 : Int) 245)) (List.cons (DictEntry.mk (PyData.keyHash P (Str.ofString "__init__")) (Value.str (Str.ofString "__init__") 254) (Value.ref 63)) (List.cons (DictEntry.mk (PyData.keyHash P (Str.ofString "__static_attributes__")) (Value.str (Str.ofString "__static_attributes__") 256) (Value.ref 64)) (List.nil))))))) 5) (List.toArray (List.nil))) ::
  (Obj.mk (Value.type "tuple") (Option.none) (Data.seq (List.toArray (List.nil)) 0) (List.toArray (List.nil))) ::
  (Obj.mk Value.none (Option.none) (Data.fields (List.toArray (List.cons (Value.int (47 : Int) 0) (List.cons (Value.int (4 : Int) 0) (List.cons (Value.ref 62) (List.nil)))))) (List.toArray (List.nil))) ::
  (Obj.mk (Value.type "code") (Option.none) (Data.fields (List.toArray (List.cons (Value.str (Str.ofString "HtmlFault") 237) (List.cons (Value.str (Str.ofString "HtmlFault") 238) (List.cons (Value.str (Str.ofString "/claim/cut.py") 239) (List.cons (Value.int (45 : Int) 0) (List.cons (Value.int (0 : Int) 0) (List.cons (Value.int (0 : Int) 0) (List.cons (Value.int (0 : Int) 0) (List.cons (Value.int (0 : Int) 0) (List.cons (Value.ref 53) (List.cons (Value.bool Bool.false) (List.cons (Value.int (181 : Int) 0) (List.cons (Value.ref 54) (List.cons Value.none (List.cons Value.none (List.cons Value.none (List.cons Value.none (List.cons (Value.int (240 : Int) 0) (List.cons (Value.int (45 : Int) 0) (List.cons (Value.str (Str.ofString "/claim/cut.py") 241) (List.nil)))))))))))))))))))))) (List.toArray (List.nil))) ::
  (Obj.mk (Value.type "frame") (Option.none) Data.plain (List.toArray (List.cons (Option.some (Value.ref 55)) (List.cons (Option.some (Value.ref 3)) (List.cons (Option.some (Value.ref 52)) (List.cons (Option.none) (List.cons (Option.some (Value.str (Str.ofString "htmltree.faults") 233)) (List.cons (Option.none) (List.cons (Option.some (Value.ref 0)) (List.nil)))))))))) ::
  (Obj.mk (Value.type "tuple") (Option.none) (Data.seq (List.toArray (List.nil)) 0) (List.toArray (List.nil))) ::
  (Obj.mk Value.none (Option.none) (Data.fields (List.toArray (List.nil))) (List.toArray (List.nil))) ::
  (Obj.mk (Value.type "tuple") (Option.none) (Data.seq (List.toArray (List.cons (Value.str (Str.ofString "self") 250) (List.cons (Value.str (Str.ofString "why") 251) (List.nil)))) 0) (List.toArray (List.nil))) ::
  (Obj.mk (Value.type "tuple") (Option.none) (Data.seq (List.toArray (List.nil)) 0) (List.toArray (List.nil))) ::
  fo61 ::
  (Obj.mk (Value.type "code") (Option.none) (Data.fields (List.toArray (List.cons (Value.str (Str.ofString "__init__") 247) (List.cons (Value.str (Str.ofString "HtmlFault.__init__") 248) (List.cons (Value.str (Str.ofString "/claim/cut.py") 249) (List.cons (Value.int (47 : Int) 0) (List.cons (Value.int (2 : Int) 0) (List.cons (Value.int (0 : Int) 0) (List.cons (Value.int (0 : Int) 0) (List.cons (Value.int (3 : Int) 0) (List.cons (Value.ref 57) (List.cons (Value.bool Bool.true) (List.cons (Value.int (181 : Int) 0) (List.cons (Value.ref 58) (List.cons Value.none (List.cons (Value.ref 59) (List.cons (Value.ref 60) (List.cons (Value.ref 61) (List.cons (Value.int (252 : Int) 0) (List.cons (Value.int (47 : Int) 0) (List.cons (Value.str (Str.ofString "/claim/cut.py") 253) (List.nil)))))))))))))))))))))) (List.toArray (List.nil))) ::
  fo63 ::
  (Obj.mk (Value.type "tuple") (Option.none) (Data.seq (List.toArray (List.cons (Value.str (Str.ofString "why") 255) (List.nil))) 0) (List.toArray (List.nil))) ::
  (Obj.mk (Value.type "dict") (Option.none) (Data.dict (List.toArray (List.cons (DictEntry.mk (PyData.keyHash P (Str.ofString "__module__")) (Value.str (Str.ofString "__module__") 242) (Value.str (Str.ofString "htmltree.faults") 233)) (List.cons (DictEntry.mk (PyData.keyHash P (Str.ofString "__firstlineno__")) (Value.str (Str.ofString "__firstlineno__") 246) (Value.int (45 : Int) 245)) (List.cons (DictEntry.mk (PyData.keyHash P (Str.ofString "__init__")) (Value.str (Str.ofString "__init__") 254) (Value.ref 63)) (List.cons (DictEntry.mk (PyData.keyHash P (Str.ofString "__static_attributes__")) (Value.str (Str.ofString "__static_attributes__") 256) (Value.ref 64)) (List.cons (DictEntry.mk (PyData.keyHash P (Str.ofString "__weakref__")) (Value.str (Str.ofString "__weakref__") 258) (Value.ref 67)) (List.cons (DictEntry.mk (PyData.keyHash P (Str.ofString "__doc__")) (Value.str (Str.ofString "__doc__") 259) Value.none) (List.nil)))))))) 3) (List.toArray (List.nil))) ::
  (Obj.mk (Value.type "type") (Option.none) (Data.cls (ClassData.mk (Str.ofString "HtmlFault") (List.cons (Value.type "Exception") (List.nil)) (List.cons (Value.ref 66) (List.cons (Value.type "Exception") (List.cons (Value.type "BaseException") (List.cons (Value.type "object") (List.nil))))) 65 (Str.ofString "HtmlFault") Bool.true (List.nil) (List.cons (Value.ref 79) (List.nil)) Bool.false (Option.none) Bool.false)) (List.toArray (List.cons (Option.some (Value.ref 50)) (List.cons (Option.none) (List.cons (Option.some (Value.str (Str.ofString "HtmlFault") 235)) (List.cons (Option.some (Value.str (Str.ofString "HtmlFault") 243)) (List.cons (Option.some (Value.builtin "Exception.__new__")) (List.cons (Option.some (Value.bool Bool.true)) (List.nil))))))))) ::
  (Obj.mk (Value.type "getset_descriptor") (Option.none) (Data.fields (List.toArray (List.cons (Value.str (Str.ofString "__weakref__") 257) (List.cons (Value.ref 66) (List.cons (Value.builtin "ExceptionGroup.__weakref__") (List.cons Value.none (List.nil))))))) (List.toArray (List.nil))) ::
  (Obj.mk (Value.type "super") (Option.none) (Data.fields (List.toArray (List.cons (Value.ref 66) (List.cons (Value.ref 66) (List.cons (Value.ref 66) (List.nil)))))) (List.toArray (List.nil))) ::
  (Obj.mk (Value.type "builtin_function_or_method") (Option.none) (Data.fields (List.toArray (List.cons (Value.builtin "object.__init_subclass__") (List.cons (Value.ref 66) (List.nil))))) (List.toArray (List.nil))) ::
  (Obj.mk (Value.type "tuple") (Option.none) (Data.seq (List.toArray (List.cons (Value.ref 66) (List.nil))) 0) (List.toArray (List.nil))) ::
  (Obj.mk (Value.type "builtin_function_or_method") (Option.none) (Data.fields (List.toArray (List.cons (Value.builtin "type.__prepare__") (List.cons (Value.type "type") (List.nil))))) (List.toArray (List.nil))) ::
  (Obj.mk (Value.type "dict") (Option.none) (Data.dict (List.toArray (List.cons (DictEntry.mk (PyData.keyHash P (Str.ofString "__module__")) (Value.str (Str.ofString "__module__") 271) (Value.str (Str.ofString "htmltree.faults") 233)) (List.cons (DictEntry.mk (PyData.keyHash P (Str.ofString "__qualname__")) (Value.str (Str.ofString "__qualname__") 273) (Value.str (Str.ofString "Misused") 272)) (List.cons (DictEntry.mk (PyData.keyHash P (Str.ofString "__firstlineno__")) (Value.str (Str.ofString "__firstlineno__") 275) (Value.int (50 : Int) 274)) (List.cons (DictEntry.mk (PyData.keyHash P (Str.ofString "__static_attributes__")) (Value.str (Str.ofString "__static_attributes__") 276) (Value.ref 77)) (List.nil)))))) 4) (List.toArray (List.nil))) ::
  (Obj.mk (Value.type "tuple") (Option.none) (Data.seq (List.toArray (List.nil)) 0) (List.toArray (List.nil))) ::
  (Obj.mk Value.none (Option.none) (Data.fields (List.toArray (List.nil))) (List.toArray (List.nil))) ::
  (Obj.mk (Value.type "code") (Option.none) (Data.fields (List.toArray (List.cons (Value.str (Str.ofString "Misused") 266) (List.cons (Value.str (Str.ofString "Misused") 267) (List.cons (Value.str (Str.ofString "/claim/cut.py") 268) (List.cons (Value.int (50 : Int) 0) (List.cons (Value.int (0 : Int) 0) (List.cons (Value.int (0 : Int) 0) (List.cons (Value.int (0 : Int) 0) (List.cons (Value.int (0 : Int) 0) (List.cons (Value.ref 73) (List.cons (Value.bool Bool.false) (List.cons (Value.int (181 : Int) 0) (List.cons (Value.ref 74) (List.cons Value.none (List.cons Value.none (List.cons Value.none (List.cons Value.none (List.cons (Value.int (269 : Int) 0) (List.cons (Value.int (50 : Int) 0) (List.cons (Value.str (Str.ofString "/claim/cut.py") 270) (List.nil)))))))))))))))))))))) (List.toArray (List.nil))) ::
  (Obj.mk (Value.type "frame") (Option.none) Data.plain (List.toArray (List.cons (Option.some (Value.ref 75)) (List.cons (Option.some (Value.ref 3)) (List.cons (Option.some (Value.ref 72)) (List.cons (Option.none) (List.cons (Option.some (Value.str (Str.ofString "htmltree.faults") 233)) (List.cons (Option.none) (List.cons (Option.some (Value.ref 0)) (List.nil)))))))))) ::
  (Obj.mk (Value.type "tuple") (Option.none) (Data.seq (List.toArray (List.nil)) 0) (List.toArray (List.nil))) ::
  (Obj.mk (Value.type "dict") (Option.none) (Data.dict (List.toArray (List.cons (DictEntry.mk (PyData.keyHash P (Str.ofString "__module__")) (Value.str (Str.ofString "__module__") 271) (Value.str (Str.ofString "htmltree.faults") 233)) (List.cons (DictEntry.mk (PyData.keyHash P (Str.ofString "__firstlineno__")) (Value.str (Str.ofString "__firstlineno__") 275) (Value.int (50 : Int) 274)) (List.cons (DictEntry.mk (PyData.keyHash P (Str.ofString "__static_attributes__")) (Value.str (Str.ofString "__static_attributes__") 276) (Value.ref 77)) (List.cons (DictEntry.mk (PyData.keyHash P (Str.ofString "__doc__")) (Value.str (Str.ofString "__doc__") 277) Value.none) (List.nil)))))) 2) (List.toArray (List.nil))) ::
  (Obj.mk (Value.type "type") (Option.none) (Data.cls (ClassData.mk (Str.ofString "Misused") (List.cons (Value.ref 66) (List.nil)) (List.cons (Value.ref 79) (List.cons (Value.ref 66) (List.cons (Value.type "Exception") (List.cons (Value.type "BaseException") (List.cons (Value.type "object") (List.nil)))))) 78 (Str.ofString "Misused") Bool.true (List.nil) (List.nil) Bool.false (Option.none) Bool.false)) (List.toArray (List.cons (Option.some (Value.ref 70)) (List.cons (Option.none) (List.cons (Option.some (Value.str (Str.ofString "Misused") 264)) (List.cons (Option.some (Value.str (Str.ofString "Misused") 272)) (List.cons (Option.some (Value.builtin "Exception.__new__")) (List.cons (Option.some (Value.bool Bool.true)) (List.nil))))))))) ::
  (Obj.mk (Value.type "super") (Option.none) (Data.fields (List.toArray (List.cons (Value.ref 79) (List.cons (Value.ref 79) (List.cons (Value.ref 79) (List.nil)))))) (List.toArray (List.nil))) ::
  (Obj.mk (Value.type "builtin_function_or_method") (Option.none) (Data.fields (List.toArray (List.cons (Value.builtin "object.__init_subclass__") (List.cons (Value.ref 79) (List.nil))))) (List.toArray (List.nil))) ::
  (Obj.mk (Value.type "tuple") (Option.none) (Data.seq (List.toArray (List.nil)) 0) (List.toArray (List.nil))) ::
  (Obj.mk (Value.type "builtin_function_or_method") (Option.none) (Data.fields (List.toArray (List.cons (Value.builtin "type.__prepare__") (List.cons (Value.type "type") (List.nil))))) (List.toArray (List.nil))) ::
  (Obj.mk (Value.type "dict") (Option.none) (Data.dict (List.toArray (List.cons (DictEntry.mk (PyData.keyHash P (Str.ofString "__module__")) (Value.str (Str.ofString "__module__") 289) (Value.str (Str.ofString "htmltree.formatting") 280)) (List.cons (DictEntry.mk (PyData.keyHash P (Str.ofString "__qualname__")) (Value.str (Str.ofString "__qualname__") 291) (Value.str (Str.ofString "Formatting") 290)) (List.cons (DictEntry.mk (PyData.keyHash P (Str.ofString "__firstlineno__")) (Value.str (Str.ofString "__firstlineno__") 293) (Value.int (53 : Int) 292)) (List.cons (DictEntry.mk (PyData.keyHash P (Str.ofString "__init__")) (Value.str (Str.ofString "__init__") 301) (Value.ref 95)) (List.cons (DictEntry.mk (PyData.keyHash P (Str.ofString "push")) (Value.str (Str.ofString "push") 309) (Value.ref 102)) (List.cons (DictEntry.mk (PyData.keyHash P (Str.ofString "mark")) (Value.str (Str.ofString "mark") 316) (Value.ref 109)) (List.cons (DictEntry.mk (PyData.keyHash P (Str.ofString "clear_to_mark")) (Value.str (Str.ofString "clear_to_mark") 323) (Value.ref 116)) (List.cons (DictEntry.mk (PyData.keyHash P (Str.ofString "find")) (Value.str (Str.ofString "find") 331) (Value.ref 123)) (List.cons (DictEntry.mk (PyData.keyHash P (Str.ofString "has")) (Value.str (Str.ofString "has") 339) (Value.ref 130)) (List.cons (DictEntry.mk (PyData.keyHash P (Str.ofString "place")) (Value.str (Str.ofString "place") 347) (Value.ref 137)) (List.cons (DictEntry.mk (PyData.keyHash P (Str.ofString "remove")) (Value.str (Str.ofString "remove") 355) (Value.ref 144)) (List.cons (DictEntry.mk (PyData.keyHash P (Str.ofString "replace")) (Value.str (Str.ofString "replace") 364) (Value.ref 151)) (List.cons (DictEntry.mk (PyData.keyHash P (Str.ofString "put_at")) (Value.str (Str.ofString "put_at") 373) (Value.ref 158)) (List.cons (DictEntry.mk (PyData.keyHash P (Str.ofString "__static_attributes__")) (Value.str (Str.ofString "__static_attributes__") 376) (Value.ref 159)) (List.nil)))))))))))))))) 14) (List.toArray (List.nil))) ::
  (Obj.mk (Value.type "tuple") (Option.none) (Data.seq (List.toArray (List.nil)) 0) (List.toArray (List.nil))) ::
  (Obj.mk Value.none (Option.none) (Data.fields (List.toArray (List.cons (Value.int (55 : Int) 0) (List.cons (Value.int (4 : Int) 0) (List.cons (Value.ref 94) (List.cons (Value.int (59 : Int) 0) (List.cons (Value.int (4 : Int) 0) (List.cons (Value.ref 101) (List.cons (Value.int (62 : Int) 0) (List.cons (Value.int (4 : Int) 0) (List.cons (Value.ref 108) (List.cons (Value.int (65 : Int) 0) (List.cons (Value.int (4 : Int) 0) (List.cons (Value.ref 115) (List.cons (Value.int (68 : Int) 0) (List.cons (Value.int (4 : Int) 0) (List.cons (Value.ref 122) (List.cons (Value.int (71 : Int) 0) (List.cons (Value.int (4 : Int) 0) (List.cons (Value.ref 129) (List.cons (Value.int (74 : Int) 0) (List.cons (Value.int (4 : Int) 0) (List.cons (Value.ref 136) (List.cons (Value.int (79 : Int) 0) (List.cons (Value.int (4 : Int) 0) (List.cons (Value.ref 143) (List.cons (Value.int (83 : Int) 0) (List.cons (Value.int (4 : Int) 0) (List.cons (Value.ref 150) (List.cons (Value.int (86 : Int) 0) (List.cons (Value.int (4 : Int) 0) (List.cons (Value.ref 157) (List.nil))))))))))))))))))))))))))))))))) (List.toArray (List.nil))) ::
  (Obj.mk (Value.type "code") (Option.none) (Data.fields (List.toArray (List.cons (Value.str (Str.ofString "Formatting") 284) (List.cons (Value.str (Str.ofString "Formatting") 285) (List.cons (Value.str (Str.ofString "/claim/cut.py") 286) (List.cons (Value.int (53 : Int) 0) (List.cons (Value.int (0 : Int) 0) (List.cons (Value.int (0 : Int) 0) (List.cons (Value.int (0 : Int) 0) (List.cons (Value.int (0 : Int) 0) (List.cons (Value.ref 85) (List.cons (Value.bool Bool.false) (List.cons (Value.int (181 : Int) 0) (List.cons (Value.ref 86) (List.cons Value.none (List.cons Value.none (List.cons Value.none (List.cons Value.none (List.cons (Value.int (287 : Int) 0) (List.cons (Value.int (53 : Int) 0) (List.cons (Value.str (Str.ofString "/claim/cut.py") 288) (List.nil)))))))))))))))))))))) (List.toArray (List.nil))) ::
  (Obj.mk (Value.type "frame") (Option.none) Data.plain (List.toArray (List.cons (Option.some (Value.ref 87)) (List.cons (Option.some (Value.ref 3)) (List.cons (Option.some (Value.ref 84)) (List.cons (Option.none) (List.cons (Option.some (Value.str (Str.ofString "htmltree.formatting") 280)) (List.cons (Option.none) (List.cons (Option.some (Value.ref 0)) (List.nil)))))))))) ::
  (Obj.mk (Value.type "tuple") (Option.none) (Data.seq (List.toArray (List.nil)) 0) (List.toArray (List.nil))) ::
  (Obj.mk Value.none (Option.none) (Data.fields (List.toArray (List.nil))) (List.toArray (List.nil))) ::
  (Obj.mk (Value.type "tuple") (Option.none) (Data.seq (List.toArray (List.cons (Value.str (Str.ofString "self") 297) (List.cons (Value.str (Str.ofString "tree") 298) (List.nil)))) 0) (List.toArray (List.nil))) ::
  (Obj.mk (Value.type "tuple") (Option.none) (Data.seq (List.toArray (List.nil)) 0) (List.toArray (List.nil))) ::
  fo93 ::
  (Obj.mk (Value.type "code") (Option.none) (Data.fields (List.toArray (List.cons (Value.str (Str.ofString "__init__") 294) (List.cons (Value.str (Str.ofString "Formatting.__init__") 295) (List.cons (Value.str (Str.ofString "/claim/cut.py") 296) (List.cons (Value.int (55 : Int) 0) (List.cons (Value.int (2 : Int) 0) (List.cons (Value.int (0 : Int) 0) (List.cons (Value.int (0 : Int) 0) (List.cons (Value.int (3 : Int) 0) (List.cons (Value.ref 89) (List.cons (Value.bool Bool.true) (List.cons (Value.int (181 : Int) 0) (List.cons (Value.ref 90) (List.cons Value.none (List.cons (Value.ref 91) (List.cons (Value.ref 92) (List.cons (Value.ref 93) (List.cons (Value.int (299 : Int) 0) (List.cons (Value.int (55 : Int) 0) (List.cons (Value.str (Str.ofString "/claim/cut.py") 300) (List.nil)))))))))))))))))))))) (List.toArray (List.nil))) ::
  fo95 ::
  (Obj.mk (Value.type "tuple") (Option.none) (Data.seq (List.toArray (List.nil)) 0) (List.toArray (List.nil))) ::
  (Obj.mk Value.none (Option.none) (Data.fields (List.toArray (List.nil))) (List.toArray (List.nil))) ::
  (Obj.mk (Value.type "tuple") (Option.none) (Data.seq (List.toArray (List.cons (Value.str (Str.ofString "self") 305) (List.cons (Value.str (Str.ofString "node") 306) (List.nil)))) 0) (List.toArray (List.nil))) ::
  (Obj.mk (Value.type "tuple") (Option.none) (Data.seq (List.toArray (List.nil)) 0) (List.toArray (List.nil))) ::
  fo100 ::
  (Obj.mk (Value.type "code") (Option.none) (Data.fields (List.toArray (List.cons (Value.str (Str.ofString "push") 302) (List.cons (Value.str (Str.ofString "Formatting.push") 303) (List.cons (Value.str (Str.ofString "/claim/cut.py") 304) (List.cons (Value.int (59 : Int) 0) (List.cons (Value.int (2 : Int) 0) (List.cons (Value.int (0 : Int) 0) (List.cons (Value.int (0 : Int) 0) (List.cons (Value.int (3 : Int) 0) (List.cons (Value.ref 96) (List.cons (Value.bool Bool.true) (List.cons (Value.int (181 : Int) 0) (List.cons (Value.ref 97) (List.cons Value.none (List.cons (Value.ref 98) (List.cons (Value.ref 99) (List.cons (Value.ref 100) (List.cons (Value.int (307 : Int) 0) (List.cons (Value.int (59 : Int) 0) (List.cons (Value.str (Str.ofString "/claim/cut.py") 308) (List.nil)))))))))))))))))))))) (List.toArray (List.nil))) ::
  fo102 ::
  (Obj.mk (Value.type "tuple") (Option.none) (Data.seq (List.toArray (List.nil)) 0) (List.toArray (List.nil))) ::
  (Obj.mk Value.none (Option.none) (Data.fields (List.toArray (List.nil))) (List.toArray (List.nil))) ::
  (Obj.mk (Value.type "tuple") (Option.none) (Data.seq (List.toArray (List.cons (Value.str (Str.ofString "self") 313) (List.nil))) 0) (List.toArray (List.nil))) ::
  (Obj.mk (Value.type "tuple") (Option.none) (Data.seq (List.toArray (List.nil)) 0) (List.toArray (List.nil))) ::
  fo107 ::
  (Obj.mk (Value.type "code") (Option.none) (Data.fields (List.toArray (List.cons (Value.str (Str.ofString "mark") 310) (List.cons (Value.str (Str.ofString "Formatting.mark") 311) (List.cons (Value.str (Str.ofString "/claim/cut.py") 312) (List.cons (Value.int (62 : Int) 0) (List.cons (Value.int (1 : Int) 0) (List.cons (Value.int (0 : Int) 0) (List.cons (Value.int (0 : Int) 0) (List.cons (Value.int (3 : Int) 0) (List.cons (Value.ref 103) (List.cons (Value.bool Bool.true) (List.cons (Value.int (181 : Int) 0) (List.cons (Value.ref 104) (List.cons Value.none (List.cons (Value.ref 105) (List.cons (Value.ref 106) (List.cons (Value.ref 107) (List.cons (Value.int (314 : Int) 0) (List.cons (Value.int (62 : Int) 0) (List.cons (Value.str (Str.ofString "/claim/cut.py") 315) (List.nil)))))))))))))))))))))) (List.toArray (List.nil))) ::
  fo109 ::
  (Obj.mk (Value.type "tuple") (Option.none) (Data.seq (List.toArray (List.nil)) 0) (List.toArray (List.nil))) ::
  (Obj.mk Value.none (Option.none) (Data.fields (List.toArray (List.nil))) (List.toArray (List.nil))) ::
  (Obj.mk (Value.type "tuple") (Option.none) (Data.seq (List.toArray (List.cons (Value.str (Str.ofString "self") 320) (List.nil))) 0) (List.toArray (List.nil))) ::
  (Obj.mk (Value.type "tuple") (Option.none) (Data.seq (List.toArray (List.nil)) 0) (List.toArray (List.nil))) ::
  fo114 ::
  (Obj.mk (Value.type "code") (Option.none) (Data.fields (List.toArray (List.cons (Value.str (Str.ofString "clear_to_mark") 317) (List.cons (Value.str (Str.ofString "Formatting.clear_to_mark") 318) (List.cons (Value.str (Str.ofString "/claim/cut.py") 319) (List.cons (Value.int (65 : Int) 0) (List.cons (Value.int (1 : Int) 0) (List.cons (Value.int (0 : Int) 0) (List.cons (Value.int (0 : Int) 0) (List.cons (Value.int (3 : Int) 0) (List.cons (Value.ref 110) (List.cons (Value.bool Bool.true) (List.cons (Value.int (181 : Int) 0) (List.cons (Value.ref 111) (List.cons Value.none (List.cons (Value.ref 112) (List.cons (Value.ref 113) (List.cons (Value.ref 114) (List.cons (Value.int (321 : Int) 0) (List.cons (Value.int (65 : Int) 0) (List.cons (Value.str (Str.ofString "/claim/cut.py") 322) (List.nil)))))))))))))))))))))) (List.toArray (List.nil))) ::
  fo116 ::
  (Obj.mk (Value.type "tuple") (Option.none) (Data.seq (List.toArray (List.nil)) 0) (List.toArray (List.nil))) ::
  (Obj.mk Value.none (Option.none) (Data.fields (List.toArray (List.nil))) (List.toArray (List.nil))) ::
  (Obj.mk (Value.type "tuple") (Option.none) (Data.seq (List.toArray (List.cons (Value.str (Str.ofString "self") 327) (List.cons (Value.str (Str.ofString "name") 328) (List.nil)))) 0) (List.toArray (List.nil))) ::
  (Obj.mk (Value.type "tuple") (Option.none) (Data.seq (List.toArray (List.nil)) 0) (List.toArray (List.nil))) ::
  fo121 ::
  (Obj.mk (Value.type "code") (Option.none) (Data.fields (List.toArray (List.cons (Value.str (Str.ofString "find") 324) (List.cons (Value.str (Str.ofString "Formatting.find") 325) (List.cons (Value.str (Str.ofString "/claim/cut.py") 326) (List.cons (Value.int (68 : Int) 0) (List.cons (Value.int (2 : Int) 0) (List.cons (Value.int (0 : Int) 0) (List.cons (Value.int (0 : Int) 0) (List.cons (Value.int (3 : Int) 0) (List.cons (Value.ref 117) (List.cons (Value.bool Bool.true) (List.cons (Value.int (181 : Int) 0) (List.cons (Value.ref 118) (List.cons Value.none (List.cons (Value.ref 119) (List.cons (Value.ref 120) (List.cons (Value.ref 121) (List.cons (Value.int (329 : Int) 0) (List.cons (Value.int (68 : Int) 0) (List.cons (Value.str (Str.ofString "/claim/cut.py") 330) (List.nil)))))))))))))))))))))) (List.toArray (List.nil))) ::
  fo123 ::
  (Obj.mk (Value.type "tuple") (Option.none) (Data.seq (List.toArray (List.nil)) 0) (List.toArray (List.nil))) ::
  (Obj.mk Value.none (Option.none) (Data.fields (List.toArray (List.nil))) (List.toArray (List.nil))) ::
  (Obj.mk (Value.type "tuple") (Option.none) (Data.seq (List.toArray (List.cons (Value.str (Str.ofString "self") 335) (List.cons (Value.str (Str.ofString "node") 336) (List.nil)))) 0) (List.toArray (List.nil))) ::
  (Obj.mk (Value.type "tuple") (Option.none) (Data.seq (List.toArray (List.nil)) 0) (List.toArray (List.nil))) ::
  fo128 ::
  (Obj.mk (Value.type "code") (Option.none) (Data.fields (List.toArray (List.cons (Value.str (Str.ofString "has") 332) (List.cons (Value.str (Str.ofString "Formatting.has") 333) (List.cons (Value.str (Str.ofString "/claim/cut.py") 334) (List.cons (Value.int (71 : Int) 0) (List.cons (Value.int (2 : Int) 0) (List.cons (Value.int (0 : Int) 0) (List.cons (Value.int (0 : Int) 0) (List.cons (Value.int (3 : Int) 0) (List.cons (Value.ref 124) (List.cons (Value.bool Bool.true) (List.cons (Value.int (181 : Int) 0) (List.cons (Value.ref 125) (List.cons Value.none (List.cons (Value.ref 126) (List.cons (Value.ref 127) (List.cons (Value.ref 128) (List.cons (Value.int (337 : Int) 0) (List.cons (Value.int (71 : Int) 0) (List.cons (Value.str (Str.ofString "/claim/cut.py") 338) (List.nil)))))))))))))))))))))) (List.toArray (List.nil))) ::
  fo130 ::
  (Obj.mk (Value.type "tuple") (Option.none) (Data.seq (List.toArray (List.nil)) 0) (List.toArray (List.nil))) ::
  (Obj.mk Value.none (Option.none) (Data.fields (List.toArray (List.nil))) (List.toArray (List.nil))) ::
  (Obj.mk (Value.type "tuple") (Option.none) (Data.seq (List.toArray (List.cons (Value.str (Str.ofString "self") 343) (List.cons (Value.str (Str.ofString "node") 344) (List.nil)))) 0) (List.toArray (List.nil))) ::
  (Obj.mk (Value.type "tuple") (Option.none) (Data.seq (List.toArray (List.nil)) 0) (List.toArray (List.nil))) ::
  fo135 ::
  (Obj.mk (Value.type "code") (Option.none) (Data.fields (List.toArray (List.cons (Value.str (Str.ofString "place") 340) (List.cons (Value.str (Str.ofString "Formatting.place") 341) (List.cons (Value.str (Str.ofString "/claim/cut.py") 342) (List.cons (Value.int (74 : Int) 0) (List.cons (Value.int (2 : Int) 0) (List.cons (Value.int (0 : Int) 0) (List.cons (Value.int (0 : Int) 0) (List.cons (Value.int (3 : Int) 0) (List.cons (Value.ref 131) (List.cons (Value.bool Bool.true) (List.cons (Value.int (181 : Int) 0) (List.cons (Value.ref 132) (List.cons Value.none (List.cons (Value.ref 133) (List.cons (Value.ref 134) (List.cons (Value.ref 135) (List.cons (Value.int (345 : Int) 0) (List.cons (Value.int (74 : Int) 0) (List.cons (Value.str (Str.ofString "/claim/cut.py") 346) (List.nil)))))))))))))))))))))) (List.toArray (List.nil))) ::
  fo137 ::
  (Obj.mk (Value.type "tuple") (Option.none) (Data.seq (List.toArray (List.nil)) 0) (List.toArray (List.nil))) ::
  (Obj.mk Value.none (Option.none) (Data.fields (List.toArray (List.nil))) (List.toArray (List.nil))) ::
  (Obj.mk (Value.type "tuple") (Option.none) (Data.seq (List.toArray (List.cons (Value.str (Str.ofString "self") 351) (List.cons (Value.str (Str.ofString "node") 352) (List.nil)))) 0) (List.toArray (List.nil))) ::
  (Obj.mk (Value.type "tuple") (Option.none) (Data.seq (List.toArray (List.nil)) 0) (List.toArray (List.nil))) ::
  fo142 ::
  (Obj.mk (Value.type "code") (Option.none) (Data.fields (List.toArray (List.cons (Value.str (Str.ofString "remove") 348) (List.cons (Value.str (Str.ofString "Formatting.remove") 349) (List.cons (Value.str (Str.ofString "/claim/cut.py") 350) (List.cons (Value.int (79 : Int) 0) (List.cons (Value.int (2 : Int) 0) (List.cons (Value.int (0 : Int) 0) (List.cons (Value.int (0 : Int) 0) (List.cons (Value.int (3 : Int) 0) (List.cons (Value.ref 138) (List.cons (Value.bool Bool.true) (List.cons (Value.int (181 : Int) 0) (List.cons (Value.ref 139) (List.cons Value.none (List.cons (Value.ref 140) (List.cons (Value.ref 141) (List.cons (Value.ref 142) (List.cons (Value.int (353 : Int) 0) (List.cons (Value.int (79 : Int) 0) (List.cons (Value.str (Str.ofString "/claim/cut.py") 354) (List.nil)))))))))))))))))))))) (List.toArray (List.nil))) ::
  fo144 ::
  (Obj.mk (Value.type "tuple") (Option.none) (Data.seq (List.toArray (List.nil)) 0) (List.toArray (List.nil))) ::
  (Obj.mk Value.none (Option.none) (Data.fields (List.toArray (List.nil))) (List.toArray (List.nil))) ::
  (Obj.mk (Value.type "tuple") (Option.none) (Data.seq (List.toArray (List.cons (Value.str (Str.ofString "self") 359) (List.cons (Value.str (Str.ofString "old") 360) (List.cons (Value.str (Str.ofString "new") 361) (List.nil))))) 0) (List.toArray (List.nil))) ::
  (Obj.mk (Value.type "tuple") (Option.none) (Data.seq (List.toArray (List.nil)) 0) (List.toArray (List.nil))) ::
  fo149 ::
  (Obj.mk (Value.type "code") (Option.none) (Data.fields (List.toArray (List.cons (Value.str (Str.ofString "replace") 356) (List.cons (Value.str (Str.ofString "Formatting.replace") 357) (List.cons (Value.str (Str.ofString "/claim/cut.py") 358) (List.cons (Value.int (83 : Int) 0) (List.cons (Value.int (3 : Int) 0) (List.cons (Value.int (0 : Int) 0) (List.cons (Value.int (0 : Int) 0) (List.cons (Value.int (3 : Int) 0) (List.cons (Value.ref 145) (List.cons (Value.bool Bool.true) (List.cons (Value.int (181 : Int) 0) (List.cons (Value.ref 146) (List.cons Value.none (List.cons (Value.ref 147) (List.cons (Value.ref 148) (List.cons (Value.ref 149) (List.cons (Value.int (362 : Int) 0) (List.cons (Value.int (83 : Int) 0) (List.cons (Value.str (Str.ofString "/claim/cut.py") 363) (List.nil)))))))))))))))))))))) (List.toArray (List.nil))) ::
  fo151 ::
  (Obj.mk (Value.type "tuple") (Option.none) (Data.seq (List.toArray (List.nil)) 0) (List.toArray (List.nil))) ::
  (Obj.mk Value.none (Option.none) (Data.fields (List.toArray (List.nil))) (List.toArray (List.nil))) ::
  (Obj.mk (Value.type "tuple") (Option.none) (Data.seq (List.toArray (List.cons (Value.str (Str.ofString "self") 368) (List.cons (Value.str (Str.ofString "place") 369) (List.cons (Value.str (Str.ofString "node") 370) (List.nil))))) 0) (List.toArray (List.nil))) ::
  (Obj.mk (Value.type "tuple") (Option.none) (Data.seq (List.toArray (List.nil)) 0) (List.toArray (List.nil))) ::
  fo156 ::
  (Obj.mk (Value.type "code") (Option.none) (Data.fields (List.toArray (List.cons (Value.str (Str.ofString "put_at") 365) (List.cons (Value.str (Str.ofString "Formatting.put_at") 366) (List.cons (Value.str (Str.ofString "/claim/cut.py") 367) (List.cons (Value.int (86 : Int) 0) (List.cons (Value.int (3 : Int) 0) (List.cons (Value.int (0 : Int) 0) (List.cons (Value.int (0 : Int) 0) (List.cons (Value.int (3 : Int) 0) (List.cons (Value.ref 152) (List.cons (Value.bool Bool.true) (List.cons (Value.int (181 : Int) 0) (List.cons (Value.ref 153) (List.cons Value.none (List.cons (Value.ref 154) (List.cons (Value.ref 155) (List.cons (Value.ref 156) (List.cons (Value.int (371 : Int) 0) (List.cons (Value.int (86 : Int) 0) (List.cons (Value.str (Str.ofString "/claim/cut.py") 372) (List.nil)))))))))))))))))))))) (List.toArray (List.nil))) ::
  fo158 ::
  (Obj.mk (Value.type "tuple") (Option.none) (Data.seq (List.toArray (List.cons (Value.str (Str.ofString "items") 374) (List.cons (Value.str (Str.ofString "tree") 375) (List.nil)))) 0) (List.toArray (List.nil))) ::
  (Obj.mk (Value.type "dict") (Option.none) (Data.dict (List.toArray (List.cons (DictEntry.mk (PyData.keyHash P (Str.ofString "__module__")) (Value.str (Str.ofString "__module__") 289) (Value.str (Str.ofString "htmltree.formatting") 280)) (List.cons (DictEntry.mk (PyData.keyHash P (Str.ofString "__firstlineno__")) (Value.str (Str.ofString "__firstlineno__") 293) (Value.int (53 : Int) 292)) (List.cons (DictEntry.mk (PyData.keyHash P (Str.ofString "__init__")) (Value.str (Str.ofString "__init__") 301) (Value.ref 95)) (List.cons (DictEntry.mk (PyData.keyHash P (Str.ofString "push")) (Value.str (Str.ofString "push") 309) (Value.ref 102)) (List.cons (DictEntry.mk (PyData.keyHash P (Str.ofString "mark")) (Value.str (Str.ofString "mark") 316) (Value.ref 109)) (List.cons (DictEntry.mk (PyData.keyHash P (Str.ofString "clear_to_mark")) (Value.str (Str.ofString "clear_to_mark") 323) (Value.ref 116)) (List.cons (DictEntry.mk (PyData.keyHash P (Str.ofString "find")) (Value.str (Str.ofString "find") 331) (Value.ref 123)) (List.cons (DictEntry.mk (PyData.keyHash P (Str.ofString "has")) (Value.str (Str.ofString "has") 339) (Value.ref 130)) (List.cons (DictEntry.mk (PyData.keyHash P (Str.ofString "place")) (Value.str (Str.ofString "place") 347) (Value.ref 137)) (List.cons (DictEntry.mk (PyData.keyHash P (Str.ofString "remove")) (Value.str (Str.ofString "remove") 355) (Value.ref 144)) (List.cons (DictEntry.mk (PyData.keyHash P (Str.ofString "replace")) (Value.str (Str.ofString "replace") 364) (Value.ref 151)) (List.cons (DictEntry.mk (PyData.keyHash P (Str.ofString "put_at")) (Value.str (Str.ofString "put_at") 373) (Value.ref 158)) (List.cons (DictEntry.mk (PyData.keyHash P (Str.ofString "__static_attributes__")) (Value.str (Str.ofString "__static_attributes__") 376) (Value.ref 159)) (List.cons (DictEntry.mk (PyData.keyHash P (Str.ofString "__dict__")) (Value.str (Str.ofString "__dict__") 378) (Value.ref 162)) (List.cons (DictEntry.mk (PyData.keyHash P (Str.ofString "__weakref__")) (Value.str (Str.ofString "__weakref__") 380) (Value.ref 163)) (List.cons (DictEntry.mk (PyData.keyHash P (Str.ofString "__doc__")) (Value.str (Str.ofString "__doc__") 381) Value.none) (List.nil)))))))))))))))))) 4) (List.toArray (List.nil))) ::
  (Obj.mk (Value.type "type") (Option.none) (Data.cls (ClassData.mk (Str.ofString "Formatting") (List.cons (Value.type "object") (List.nil)) (List.cons (Value.ref 161) (List.cons (Value.type "object") (List.nil))) 160 (Str.ofString "Formatting") Bool.true (List.nil) (List.nil) Bool.false (Option.none) Bool.false)) (List.toArray (List.cons (Option.none) (List.cons (Option.none) (List.cons (Option.some (Value.str (Str.ofString "Formatting") 282)) (List.cons (Option.some (Value.str (Str.ofString "Formatting") 290)) (List.cons (Option.some (Value.builtin "object.__new__")) (List.cons (Option.some (Value.bool Bool.true)) (List.nil))))))))) ::
  (Obj.mk (Value.type "getset_descriptor") (Option.none) (Data.fields (List.toArray (List.cons (Value.str (Str.ofString "__dict__") 377) (List.cons (Value.ref 161) (List.cons (Value.builtin "function.__dict__") (List.cons (Value.builtin "function.__dict__#set") (List.nil))))))) (List.toArray (List.nil))) ::
  (Obj.mk (Value.type "getset_descriptor") (Option.none) (Data.fields (List.toArray (List.cons (Value.str (Str.ofString "__weakref__") 379) (List.cons (Value.ref 161) (List.cons (Value.builtin "ExceptionGroup.__weakref__") (List.cons Value.none (List.nil))))))) (List.toArray (List.nil))) ::
  (Obj.mk (Value.type "super") (Option.none) (Data.fields (List.toArray (List.cons (Value.ref 161) (List.cons (Value.ref 161) (List.cons (Value.ref 161) (List.nil)))))) (List.toArray (List.nil))) ::
  (Obj.mk (Value.type "builtin_function_or_method") (Option.none) (Data.fields (List.toArray (List.cons (Value.builtin "object.__init_subclass__") (List.cons (Value.ref 161) (List.nil))))) (List.toArray (List.nil))) ::
  (Obj.mk (Value.type "tuple") (Option.none) (Data.seq (List.toArray (List.nil)) 0) (List.toArray (List.nil))) ::
  (Obj.mk (Value.type "builtin_function_or_method") (Option.none) (Data.fields (List.toArray (List.cons (Value.builtin "type.__prepare__") (List.cons (Value.type "type") (List.nil))))) (List.toArray (List.nil))) ::
  (Obj.mk (Value.type "dict") (Option.none) (Data.dict (List.toArray (List.cons (DictEntry.mk (PyData.keyHash P (Str.ofString "__module__")) (Value.str (Str.ofString "__module__") 393) (Value.str (Str.ofString "htmltree.openstack") 384)) (List.cons (DictEntry.mk (PyData.keyHash P (Str.ofString "__qualname__")) (Value.str (Str.ofString "__qualname__") 395) (Value.str (Str.ofString "OpenStack") 394)) (List.cons (DictEntry.mk (PyData.keyHash P (Str.ofString "__firstlineno__")) (Value.str (Str.ofString "__firstlineno__") 397) (Value.int (89 : Int) 396)) (List.cons (DictEntry.mk (PyData.keyHash P (Str.ofString "__init__")) (Value.str (Str.ofString "__init__") 405) (Value.ref 179)) (List.cons (DictEntry.mk (PyData.keyHash P (Str.ofString "push")) (Value.str (Str.ofString "push") 413) (Value.ref 186)) (List.cons (DictEntry.mk (PyData.keyHash P (Str.ofString "pop")) (Value.str (Str.ofString "pop") 420) (Value.ref 193)) (List.cons (DictEntry.mk (PyData.keyHash P (Str.ofString "current")) (Value.str (Str.ofString "current") 427) (Value.ref 200)) (List.cons (DictEntry.mk (PyData.keyHash P (Str.ofString "many")) (Value.str (Str.ofString "many") 434) (Value.ref 207)) (List.cons (DictEntry.mk (PyData.keyHash P (Str.ofString "has")) (Value.str (Str.ofString "has") 442) (Value.ref 214)) (List.cons (DictEntry.mk (PyData.keyHash P (Str.ofString "remove")) (Value.str (Str.ofString "remove") 450) (Value.ref 221)) (List.cons (DictEntry.mk (PyData.keyHash P (Str.ofString "place")) (Value.str (Str.ofString "place") 458) (Value.ref 228)) (List.cons (DictEntry.mk (PyData.keyHash P (Str.ofString "put_at")) (Value.str (Str.ofString "put_at") 467) (Value.ref 235)) (List.cons (DictEntry.mk (PyData.keyHash P (Str.ofString "name")) (Value.str (Str.ofString "name") 475) (Value.ref 242)) (List.cons (DictEntry.mk (PyData.keyHash P (Str.ofString "has_name")) (Value.str (Str.ofString "has_name") 483) (Value.ref 249)) (List.cons (DictEntry.mk (PyData.keyHash P (Str.ofString "pop_until")) (Value.str (Str.ofString "pop_until") 491) (Value.ref 256)) (List.cons (DictEntry.mk (PyData.keyHash P (Str.ofString "pop_to")) (Value.str (Str.ofString "pop_to") 499) (Value.ref 263)) (List.cons (DictEntry.mk (PyData.keyHash P (Str.ofString "__static_attributes__")) (Value.str (Str.ofString "__static_attributes__") 502) (Value.ref 264)) (List.nil))))))))))))))))))) 17) (List.toArray (List.nil))) ::
  (Obj.mk (Value.type "tuple") (Option.none) (Data.seq (List.toArray (List.nil)) 0) (List.toArray (List.nil))) ::
  (Obj.mk Value.none (Option.none) (Data.fields (List.toArray (List.cons (Value.int (91 : Int) 0) (List.cons (Value.int (4 : Int) 0) (List.cons (Value.ref 178) (List.cons (Value.int (95 : Int) 0) (List.cons (Value.int (4 : Int) 0) (List.cons (Value.ref 185) (List.cons (Value.int (98 : Int) 0) (List.cons (Value.int (4 : Int) 0) (List.cons (Value.ref 192) (List.cons (Value.int (101 : Int) 0) (List.cons (Value.int (4 : Int) 0) (List.cons (Value.ref 199) (List.cons (Value.int (106 : Int) 0) (List.cons (Value.int (4 : Int) 0) (List.cons (Value.ref 206) (List.cons (Value.int (109 : Int) 0) (List.cons (Value.int (4 : Int) 0) (List.cons (Value.ref 213) (List.cons (Value.int (112 : Int) 0) (List.cons (Value.int (4 : Int) 0) (List.cons (Value.ref 220) (List.cons (Value.int (116 : Int) 0) (List.cons (Value.int (4 : Int) 0) (List.cons (Value.ref 227) (List.cons (Value.int (121 : Int) 0) (List.cons (Value.int (4 : Int) 0) (List.cons (Value.ref 234) (List.cons (Value.int (124 : Int) 0) (List.cons (Value.int (4 : Int) 0) (List.cons (Value.ref 241) (List.cons (Value.int (130 : Int) 0) (List.cons (Value.int (4 : Int) 0) (List.cons (Value.ref 248) (List.cons (Value.int (133 : Int) 0) (List.cons (Value.int (4 : Int) 0) (List.cons (Value.ref 255) (List.cons (Value.int (136 : Int) 0) (List.cons (Value.int (4 : Int) 0) (List.cons (Value.ref 262) (List.nil)))))))))))))))))))))))))))))))))))))))))) (List.toArray (List.nil))) ::
  (Obj.mk (Value.type "code") (Option.none) (Data.fields (List.toArray (List.cons (Value.str (Str.ofString "OpenStack") 388) (List.cons (Value.str (Str.ofString "OpenStack") 389) (List.cons (Value.str (Str.ofString "/claim/cut.py") 390) (List.cons (Value.int (89 : Int) 0) (List.cons (Value.int (0 : Int) 0) (List.cons (Value.int (0 : Int) 0) (List.cons (Value.int (0 : Int) 0) (List.cons (Value.int (0 : Int) 0) (List.cons (Value.ref 169) (List.cons (Value.bool Bool.false) (List.cons (Value.int (181 : Int) 0) (List.cons (Value.ref 170) (List.cons Value.none (List.cons Value.none (List.cons Value.none (List.cons Value.none (List.cons (Value.int (391 : Int) 0) (List.cons (Value.int (89 : Int) 0) (List.cons (Value.str (Str.ofString "/claim/cut.py") 392) (List.nil)))))))))))))))))))))) (List.toArray (List.nil))) ::
  (Obj.mk (Value.type "frame") (Option.none) Data.plain (List.toArray (List.cons (Option.some (Value.ref 171)) (List.cons (Option.some (Value.ref 3)) (List.cons (Option.some (Value.ref 168)) (List.cons (Option.none) (List.cons (Option.some (Value.str (Str.ofString "htmltree.openstack") 384)) (List.cons (Option.none) (List.cons (Option.some (Value.ref 0)) (List.nil)))))))))) ::
  (Obj.mk (Value.type "tuple") (Option.none) (Data.seq (List.toArray (List.nil)) 0) (List.toArray (List.nil))) ::
  (Obj.mk Value.none (Option.none) (Data.fields (List.toArray (List.nil))) (List.toArray (List.nil))) ::
  (Obj.mk (Value.type "tuple") (Option.none) (Data.seq (List.toArray (List.cons (Value.str (Str.ofString "self") 401) (List.cons (Value.str (Str.ofString "tree") 402) (List.nil)))) 0) (List.toArray (List.nil))) ::
  (Obj.mk (Value.type "tuple") (Option.none) (Data.seq (List.toArray (List.nil)) 0) (List.toArray (List.nil))) ::
  fo177 ::
  (Obj.mk (Value.type "code") (Option.none) (Data.fields (List.toArray (List.cons (Value.str (Str.ofString "__init__") 398) (List.cons (Value.str (Str.ofString "OpenStack.__init__") 399) (List.cons (Value.str (Str.ofString "/claim/cut.py") 400) (List.cons (Value.int (91 : Int) 0) (List.cons (Value.int (2 : Int) 0) (List.cons (Value.int (0 : Int) 0) (List.cons (Value.int (0 : Int) 0) (List.cons (Value.int (3 : Int) 0) (List.cons (Value.ref 173) (List.cons (Value.bool Bool.true) (List.cons (Value.int (181 : Int) 0) (List.cons (Value.ref 174) (List.cons Value.none (List.cons (Value.ref 175) (List.cons (Value.ref 176) (List.cons (Value.ref 177) (List.cons (Value.int (403 : Int) 0) (List.cons (Value.int (91 : Int) 0) (List.cons (Value.str (Str.ofString "/claim/cut.py") 404) (List.nil)))))))))))))))))))))) (List.toArray (List.nil))) ::
  fo179 ::
  (Obj.mk (Value.type "tuple") (Option.none) (Data.seq (List.toArray (List.nil)) 0) (List.toArray (List.nil))) ::
  (Obj.mk Value.none (Option.none) (Data.fields (List.toArray (List.nil))) (List.toArray (List.nil))) ::
  (Obj.mk (Value.type "tuple") (Option.none) (Data.seq (List.toArray (List.cons (Value.str (Str.ofString "self") 409) (List.cons (Value.str (Str.ofString "node") 410) (List.nil)))) 0) (List.toArray (List.nil))) ::
  (Obj.mk (Value.type "tuple") (Option.none) (Data.seq (List.toArray (List.nil)) 0) (List.toArray (List.nil))) ::
  fo184 ::
  (Obj.mk (Value.type "code") (Option.none) (Data.fields (List.toArray (List.cons (Value.str (Str.ofString "push") 406) (List.cons (Value.str (Str.ofString "OpenStack.push") 407) (List.cons (Value.str (Str.ofString "/claim/cut.py") 408) (List.cons (Value.int (95 : Int) 0) (List.cons (Value.int (2 : Int) 0) (List.cons (Value.int (0 : Int) 0) (List.cons (Value.int (0 : Int) 0) (List.cons (Value.int (3 : Int) 0) (List.cons (Value.ref 180) (List.cons (Value.bool Bool.true) (List.cons (Value.int (181 : Int) 0) (List.cons (Value.ref 181) (List.cons Value.none (List.cons (Value.ref 182) (List.cons (Value.ref 183) (List.cons (Value.ref 184) (List.cons (Value.int (411 : Int) 0) (List.cons (Value.int (95 : Int) 0) (List.cons (Value.str (Str.ofString "/claim/cut.py") 412) (List.nil)))))))))))))))))))))) (List.toArray (List.nil))) ::
  fo186 ::
  (Obj.mk (Value.type "tuple") (Option.none) (Data.seq (List.toArray (List.nil)) 0) (List.toArray (List.nil))) ::
  (Obj.mk Value.none (Option.none) (Data.fields (List.toArray (List.nil))) (List.toArray (List.nil))) ::
  (Obj.mk (Value.type "tuple") (Option.none) (Data.seq (List.toArray (List.cons (Value.str (Str.ofString "self") 417) (List.nil))) 0) (List.toArray (List.nil))) ::
  (Obj.mk (Value.type "tuple") (Option.none) (Data.seq (List.toArray (List.nil)) 0) (List.toArray (List.nil))) ::
  fo191 ::
  (Obj.mk (Value.type "code") (Option.none) (Data.fields (List.toArray (List.cons (Value.str (Str.ofString "pop") 414) (List.cons (Value.str (Str.ofString "OpenStack.pop") 415) (List.cons (Value.str (Str.ofString "/claim/cut.py") 416) (List.cons (Value.int (98 : Int) 0) (List.cons (Value.int (1 : Int) 0) (List.cons (Value.int (0 : Int) 0) (List.cons (Value.int (0 : Int) 0) (List.cons (Value.int (3 : Int) 0) (List.cons (Value.ref 187) (List.cons (Value.bool Bool.true) (List.cons (Value.int (181 : Int) 0) (List.cons (Value.ref 188) (List.cons Value.none (List.cons (Value.ref 189) (List.cons (Value.ref 190) (List.cons (Value.ref 191) (List.cons (Value.int (418 : Int) 0) (List.cons (Value.int (98 : Int) 0) (List.cons (Value.str (Str.ofString "/claim/cut.py") 419) (List.nil)))))))))))))))))))))) (List.toArray (List.nil))) ::
  fo193 ::
  (Obj.mk (Value.type "tuple") (Option.none) (Data.seq (List.toArray (List.nil)) 0) (List.toArray (List.nil))) ::
  (Obj.mk Value.none (Option.none) (Data.fields (List.toArray (List.nil))) (List.toArray (List.nil))) ::
  (Obj.mk (Value.type "tuple") (Option.none) (Data.seq (List.toArray (List.cons (Value.str (Str.ofString "self") 424) (List.nil))) 0) (List.toArray (List.nil))) ::
  (Obj.mk (Value.type "tuple") (Option.none) (Data.seq (List.toArray (List.nil)) 0) (List.toArray (List.nil))) ::
  fo198 ::
  (Obj.mk (Value.type "code") (Option.none) (Data.fields (List.toArray (List.cons (Value.str (Str.ofString "current") 421) (List.cons (Value.str (Str.ofString "OpenStack.current") 422) (List.cons (Value.str (Str.ofString "/claim/cut.py") 423) (List.cons (Value.int (101 : Int) 0) (List.cons (Value.int (1 : Int) 0) (List.cons (Value.int (0 : Int) 0) (List.cons (Value.int (0 : Int) 0) (List.cons (Value.int (3 : Int) 0) (List.cons (Value.ref 194) (List.cons (Value.bool Bool.true) (List.cons (Value.int (181 : Int) 0) (List.cons (Value.ref 195) (List.cons Value.none (List.cons (Value.ref 196) (List.cons (Value.ref 197) (List.cons (Value.ref 198) (List.cons (Value.int (425 : Int) 0) (List.cons (Value.int (101 : Int) 0) (List.cons (Value.str (Str.ofString "/claim/cut.py") 426) (List.nil)))))))))))))))))))))) (List.toArray (List.nil))) ::
  fo200 ::
  (Obj.mk (Value.type "tuple") (Option.none) (Data.seq (List.toArray (List.nil)) 0) (List.toArray (List.nil))) ::
  (Obj.mk Value.none (Option.none) (Data.fields (List.toArray (List.nil))) (List.toArray (List.nil))) ::
  (Obj.mk (Value.type "tuple") (Option.none) (Data.seq (List.toArray (List.cons (Value.str (Str.ofString "self") 431) (List.nil))) 0) (List.toArray (List.nil))) ::
  (Obj.mk (Value.type "tuple") (Option.none) (Data.seq (List.toArray (List.nil)) 0) (List.toArray (List.nil))) ::
  fo205 ::
  (Obj.mk (Value.type "code") (Option.none) (Data.fields (List.toArray (List.cons (Value.str (Str.ofString "many") 428) (List.cons (Value.str (Str.ofString "OpenStack.many") 429) (List.cons (Value.str (Str.ofString "/claim/cut.py") 430) (List.cons (Value.int (106 : Int) 0) (List.cons (Value.int (1 : Int) 0) (List.cons (Value.int (0 : Int) 0) (List.cons (Value.int (0 : Int) 0) (List.cons (Value.int (3 : Int) 0) (List.cons (Value.ref 201) (List.cons (Value.bool Bool.true) (List.cons (Value.int (181 : Int) 0) (List.cons (Value.ref 202) (List.cons Value.none (List.cons (Value.ref 203) (List.cons (Value.ref 204) (List.cons (Value.ref 205) (List.cons (Value.int (432 : Int) 0) (List.cons (Value.int (106 : Int) 0) (List.cons (Value.str (Str.ofString "/claim/cut.py") 433) (List.nil)))))))))))))))))))))) (List.toArray (List.nil))) ::
  fo207 ::
  (Obj.mk (Value.type "tuple") (Option.none) (Data.seq (List.toArray (List.nil)) 0) (List.toArray (List.nil))) ::
  (Obj.mk Value.none (Option.none) (Data.fields (List.toArray (List.nil))) (List.toArray (List.nil))) ::
  (Obj.mk (Value.type "tuple") (Option.none) (Data.seq (List.toArray (List.cons (Value.str (Str.ofString "self") 438) (List.cons (Value.str (Str.ofString "node") 439) (List.nil)))) 0) (List.toArray (List.nil))) ::
  (Obj.mk (Value.type "tuple") (Option.none) (Data.seq (List.toArray (List.nil)) 0) (List.toArray (List.nil))) ::
  fo212 ::
  (Obj.mk (Value.type "code") (Option.none) (Data.fields (List.toArray (List.cons (Value.str (Str.ofString "has") 435) (List.cons (Value.str (Str.ofString "OpenStack.has") 436) (List.cons (Value.str (Str.ofString "/claim/cut.py") 437) (List.cons (Value.int (109 : Int) 0) (List.cons (Value.int (2 : Int) 0) (List.cons (Value.int (0 : Int) 0) (List.cons (Value.int (0 : Int) 0) (List.cons (Value.int (3 : Int) 0) (List.cons (Value.ref 208) (List.cons (Value.bool Bool.true) (List.cons (Value.int (181 : Int) 0) (List.cons (Value.ref 209) (List.cons Value.none (List.cons (Value.ref 210) (List.cons (Value.ref 211) (List.cons (Value.ref 212) (List.cons (Value.int (440 : Int) 0) (List.cons (Value.int (109 : Int) 0) (List.cons (Value.str (Str.ofString "/claim/cut.py") 441) (List.nil)))))))))))))))))))))) (List.toArray (List.nil))) ::
  fo214 ::
  (Obj.mk (Value.type "tuple") (Option.none) (Data.seq (List.toArray (List.nil)) 0) (List.toArray (List.nil))) ::
  (Obj.mk Value.none (Option.none) (Data.fields (List.toArray (List.nil))) (List.toArray (List.nil))) ::
  (Obj.mk (Value.type "tuple") (Option.none) (Data.seq (List.toArray (List.cons (Value.str (Str.ofString "self") 446) (List.cons (Value.str (Str.ofString "node") 447) (List.nil)))) 0) (List.toArray (List.nil))) ::
  (Obj.mk (Value.type "tuple") (Option.none) (Data.seq (List.toArray (List.nil)) 0) (List.toArray (List.nil))) ::
  fo219 ::
  (Obj.mk (Value.type "code") (Option.none) (Data.fields (List.toArray (List.cons (Value.str (Str.ofString "remove") 443) (List.cons (Value.str (Str.ofString "OpenStack.remove") 444) (List.cons (Value.str (Str.ofString "/claim/cut.py") 445) (List.cons (Value.int (112 : Int) 0) (List.cons (Value.int (2 : Int) 0) (List.cons (Value.int (0 : Int) 0) (List.cons (Value.int (0 : Int) 0) (List.cons (Value.int (3 : Int) 0) (List.cons (Value.ref 215) (List.cons (Value.bool Bool.true) (List.cons (Value.int (181 : Int) 0) (List.cons (Value.ref 216) (List.cons Value.none (List.cons (Value.ref 217) (List.cons (Value.ref 218) (List.cons (Value.ref 219) (List.cons (Value.int (448 : Int) 0) (List.cons (Value.int (112 : Int) 0) (List.cons (Value.str (Str.ofString "/claim/cut.py") 449) (List.nil)))))))))))))))))))))) (List.toArray (List.nil))) ::
  fo221 ::
  (Obj.mk (Value.type "tuple") (Option.none) (Data.seq (List.toArray (List.nil)) 0) (List.toArray (List.nil))) ::
  (Obj.mk Value.none (Option.none) (Data.fields (List.toArray (List.nil))) (List.toArray (List.nil))) ::
  (Obj.mk (Value.type "tuple") (Option.none) (Data.seq (List.toArray (List.cons (Value.str (Str.ofString "self") 454) (List.cons (Value.str (Str.ofString "node") 455) (List.nil)))) 0) (List.toArray (List.nil))) ::
  (Obj.mk (Value.type "tuple") (Option.none) (Data.seq (List.toArray (List.nil)) 0) (List.toArray (List.nil))) ::
  fo226 ::
  (Obj.mk (Value.type "code") (Option.none) (Data.fields (List.toArray (List.cons (Value.str (Str.ofString "place") 451) (List.cons (Value.str (Str.ofString "OpenStack.place") 452) (List.cons (Value.str (Str.ofString "/claim/cut.py") 453) (List.cons (Value.int (116 : Int) 0) (List.cons (Value.int (2 : Int) 0) (List.cons (Value.int (0 : Int) 0) (List.cons (Value.int (0 : Int) 0) (List.cons (Value.int (3 : Int) 0) (List.cons (Value.ref 222) (List.cons (Value.bool Bool.true) (List.cons (Value.int (181 : Int) 0) (List.cons (Value.ref 223) (List.cons Value.none (List.cons (Value.ref 224) (List.cons (Value.ref 225) (List.cons (Value.ref 226) (List.cons (Value.int (456 : Int) 0) (List.cons (Value.int (116 : Int) 0) (List.cons (Value.str (Str.ofString "/claim/cut.py") 457) (List.nil)))))))))))))))))))))) (List.toArray (List.nil))) ::
  fo228 ::
  (Obj.mk (Value.type "tuple") (Option.none) (Data.seq (List.toArray (List.nil)) 0) (List.toArray (List.nil))) ::
  (Obj.mk Value.none (Option.none) (Data.fields (List.toArray (List.nil))) (List.toArray (List.nil))) ::
  (Obj.mk (Value.type "tuple") (Option.none) (Data.seq (List.toArray (List.cons (Value.str (Str.ofString "self") 462) (List.cons (Value.str (Str.ofString "place") 463) (List.cons (Value.str (Str.ofString "node") 464) (List.nil))))) 0) (List.toArray (List.nil))) ::
  (Obj.mk (Value.type "tuple") (Option.none) (Data.seq (List.toArray (List.nil)) 0) (List.toArray (List.nil))) ::
  fo233 ::
  (Obj.mk (Value.type "code") (Option.none) (Data.fields (List.toArray (List.cons (Value.str (Str.ofString "put_at") 459) (List.cons (Value.str (Str.ofString "OpenStack.put_at") 460) (List.cons (Value.str (Str.ofString "/claim/cut.py") 461) (List.cons (Value.int (121 : Int) 0) (List.cons (Value.int (3 : Int) 0) (List.cons (Value.int (0 : Int) 0) (List.cons (Value.int (0 : Int) 0) (List.cons (Value.int (3 : Int) 0) (List.cons (Value.ref 229) (List.cons (Value.bool Bool.true) (List.cons (Value.int (181 : Int) 0) (List.cons (Value.ref 230) (List.cons Value.none (List.cons (Value.ref 231) (List.cons (Value.ref 232) (List.cons (Value.ref 233) (List.cons (Value.int (465 : Int) 0) (List.cons (Value.int (121 : Int) 0) (List.cons (Value.str (Str.ofString "/claim/cut.py") 466) (List.nil)))))))))))))))))))))) (List.toArray (List.nil))) ::
  fo235 ::
  (Obj.mk (Value.type "tuple") (Option.none) (Data.seq (List.toArray (List.nil)) 0) (List.toArray (List.nil))) ::
  (Obj.mk Value.none (Option.none) (Data.fields (List.toArray (List.nil))) (List.toArray (List.nil))) ::
  (Obj.mk (Value.type "tuple") (Option.none) (Data.seq (List.toArray (List.cons (Value.str (Str.ofString "self") 471) (List.cons (Value.str (Str.ofString "node") 472) (List.nil)))) 0) (List.toArray (List.nil))) ::
  (Obj.mk (Value.type "tuple") (Option.none) (Data.seq (List.toArray (List.nil)) 0) (List.toArray (List.nil))) ::
  fo240 ::
  (Obj.mk (Value.type "code") (Option.none) (Data.fields (List.toArray (List.cons (Value.str (Str.ofString "name") 468) (List.cons (Value.str (Str.ofString "OpenStack.name") 469) (List.cons (Value.str (Str.ofString "/claim/cut.py") 470) (List.cons (Value.int (124 : Int) 0) (List.cons (Value.int (1 : Int) 0) (List.cons (Value.int (0 : Int) 0) (List.cons (Value.int (0 : Int) 0) (List.cons (Value.int (3 : Int) 0) (List.cons (Value.ref 236) (List.cons (Value.bool Bool.true) (List.cons (Value.int (181 : Int) 0) (List.cons (Value.ref 237) (List.cons Value.none (List.cons (Value.ref 238) (List.cons (Value.ref 239) (List.cons (Value.ref 240) (List.cons (Value.int (473 : Int) 0) (List.cons (Value.int (124 : Int) 0) (List.cons (Value.str (Str.ofString "/claim/cut.py") 474) (List.nil)))))))))))))))))))))) (List.toArray (List.nil))) ::
  fo242 ::
  (Obj.mk (Value.type "tuple") (Option.none) (Data.seq (List.toArray (List.nil)) 0) (List.toArray (List.nil))) ::
  (Obj.mk Value.none (Option.none) (Data.fields (List.toArray (List.nil))) (List.toArray (List.nil))) ::
  (Obj.mk (Value.type "tuple") (Option.none) (Data.seq (List.toArray (List.cons (Value.str (Str.ofString "self") 479) (List.cons (Value.str (Str.ofString "name") 480) (List.nil)))) 0) (List.toArray (List.nil))) ::
  (Obj.mk (Value.type "tuple") (Option.none) (Data.seq (List.toArray (List.nil)) 0) (List.toArray (List.nil))) ::
  fo247 ::
  (Obj.mk (Value.type "code") (Option.none) (Data.fields (List.toArray (List.cons (Value.str (Str.ofString "has_name") 476) (List.cons (Value.str (Str.ofString "OpenStack.has_name") 477) (List.cons (Value.str (Str.ofString "/claim/cut.py") 478) (List.cons (Value.int (130 : Int) 0) (List.cons (Value.int (2 : Int) 0) (List.cons (Value.int (0 : Int) 0) (List.cons (Value.int (0 : Int) 0) (List.cons (Value.int (3 : Int) 0) (List.cons (Value.ref 243) (List.cons (Value.bool Bool.true) (List.cons (Value.int (181 : Int) 0) (List.cons (Value.ref 244) (List.cons Value.none (List.cons (Value.ref 245) (List.cons (Value.ref 246) (List.cons (Value.ref 247) (List.cons (Value.int (481 : Int) 0) (List.cons (Value.int (130 : Int) 0) (List.cons (Value.str (Str.ofString "/claim/cut.py") 482) (List.nil)))))))))))))))))))))) (List.toArray (List.nil))) ::
  fo249 ::
  (Obj.mk (Value.type "tuple") (Option.none) (Data.seq (List.toArray (List.nil)) 0) (List.toArray (List.nil))) ::
  (Obj.mk Value.none (Option.none) (Data.fields (List.toArray (List.nil))) (List.toArray (List.nil))) ::
  (Obj.mk (Value.type "tuple") (Option.none) (Data.seq (List.toArray (List.cons (Value.str (Str.ofString "self") 487) (List.cons (Value.str (Str.ofString "names") 488) (List.nil)))) 0) (List.toArray (List.nil))) ::
  (Obj.mk (Value.type "tuple") (Option.none) (Data.seq (List.toArray (List.nil)) 0) (List.toArray (List.nil))) ::
  fo254 ::
  (Obj.mk (Value.type "code") (Option.none) (Data.fields (List.toArray (List.cons (Value.str (Str.ofString "pop_until") 484) (List.cons (Value.str (Str.ofString "OpenStack.pop_until") 485) (List.cons (Value.str (Str.ofString "/claim/cut.py") 486) (List.cons (Value.int (133 : Int) 0) (List.cons (Value.int (2 : Int) 0) (List.cons (Value.int (0 : Int) 0) (List.cons (Value.int (0 : Int) 0) (List.cons (Value.int (3 : Int) 0) (List.cons (Value.ref 250) (List.cons (Value.bool Bool.true) (List.cons (Value.int (181 : Int) 0) (List.cons (Value.ref 251) (List.cons Value.none (List.cons (Value.ref 252) (List.cons (Value.ref 253) (List.cons (Value.ref 254) (List.cons (Value.int (489 : Int) 0) (List.cons (Value.int (133 : Int) 0) (List.cons (Value.str (Str.ofString "/claim/cut.py") 490) (List.nil)))))))))))))))))))))) (List.toArray (List.nil))) ::
  fo256 ::
  (Obj.mk (Value.type "tuple") (Option.none) (Data.seq (List.toArray (List.nil)) 0) (List.toArray (List.nil))) ::
  (Obj.mk Value.none (Option.none) (Data.fields (List.toArray (List.nil))) (List.toArray (List.nil))) ::
  (Obj.mk (Value.type "tuple") (Option.none) (Data.seq (List.toArray (List.cons (Value.str (Str.ofString "self") 495) (List.cons (Value.str (Str.ofString "names") 496) (List.nil)))) 0) (List.toArray (List.nil))) ::
  (Obj.mk (Value.type "tuple") (Option.none) (Data.seq (List.toArray (List.nil)) 0) (List.toArray (List.nil))) ::
  fo261 ::
  (Obj.mk (Value.type "code") (Option.none) (Data.fields (List.toArray (List.cons (Value.str (Str.ofString "pop_to") 492) (List.cons (Value.str (Str.ofString "OpenStack.pop_to") 493) (List.cons (Value.str (Str.ofString "/claim/cut.py") 494) (List.cons (Value.int (136 : Int) 0) (List.cons (Value.int (2 : Int) 0) (List.cons (Value.int (0 : Int) 0) (List.cons (Value.int (0 : Int) 0) (List.cons (Value.int (3 : Int) 0) (List.cons (Value.ref 257) (List.cons (Value.bool Bool.true) (List.cons (Value.int (181 : Int) 0) (List.cons (Value.ref 258) (List.cons Value.none (List.cons (Value.ref 259) (List.cons (Value.ref 260) (List.cons (Value.ref 261) (List.cons (Value.int (497 : Int) 0) (List.cons (Value.int (136 : Int) 0) (List.cons (Value.str (Str.ofString "/claim/cut.py") 498) (List.nil)))))))))))))))))))))) (List.toArray (List.nil))) ::
  fo263 ::
  (Obj.mk (Value.type "tuple") (Option.none) (Data.seq (List.toArray (List.cons (Value.str (Str.ofString "items") 500) (List.cons (Value.str (Str.ofString "tree") 501) (List.nil)))) 0) (List.toArray (List.nil))) ::
  (Obj.mk (Value.type "dict") (Option.none) (Data.dict (List.toArray (List.cons (DictEntry.mk (PyData.keyHash P (Str.ofString "__module__")) (Value.str (Str.ofString "__module__") 393) (Value.str (Str.ofString "htmltree.openstack") 384)) (List.cons (DictEntry.mk (PyData.keyHash P (Str.ofString "__firstlineno__")) (Value.str (Str.ofString "__firstlineno__") 397) (Value.int (89 : Int) 396)) (List.cons (DictEntry.mk (PyData.keyHash P (Str.ofString "__init__")) (Value.str (Str.ofString "__init__") 405) (Value.ref 179)) (List.cons (DictEntry.mk (PyData.keyHash P (Str.ofString "push")) (Value.str (Str.ofString "push") 413) (Value.ref 186)) (List.cons (DictEntry.mk (PyData.keyHash P (Str.ofString "pop")) (Value.str (Str.ofString "pop") 420) (Value.ref 193)) (List.cons (DictEntry.mk (PyData.keyHash P (Str.ofString "current")) (Value.str (Str.ofString "current") 427) (Value.ref 200)) (List.cons (DictEntry.mk (PyData.keyHash P (Str.ofString "many")) (Value.str (Str.ofString "many") 434) (Value.ref 207)) (List.cons (DictEntry.mk (PyData.keyHash P (Str.ofString "has")) (Value.str (Str.ofString "has") 442) (Value.ref 214)) (List.cons (DictEntry.mk (PyData.keyHash P (Str.ofString "remove")) (Value.str (Str.ofString "remove") 450) (Value.ref 221)) (List.cons (DictEntry.mk (PyData.keyHash P (Str.ofString "place")) (Value.str (Str.ofString "place") 458) (Value.ref 228)) (List.cons (DictEntry.mk (PyData.keyHash P (Str.ofString "put_at")) (Value.str (Str.ofString "put_at") 467) (Value.ref 235)) (List.cons (DictEntry.mk (PyData.keyHash P (Str.ofString "name")) (Value.str (Str.ofString "name") 475) (Value.ref 242)) (List.cons (DictEntry.mk (PyData.keyHash P (Str.ofString "has_name")) (Value.str (Str.ofString "has_name") 483) (Value.ref 249)) (List.cons (DictEntry.mk (PyData.keyHash P (Str.ofString "pop_until")) (Value.str (Str.ofString "pop_until") 491) (Value.ref 256)) (List.cons (DictEntry.mk (PyData.keyHash P (Str.ofString "pop_to")) (Value.str (Str.ofString "pop_to") 499) (Value.ref 263)) (List.cons (DictEntry.mk (PyData.keyHash P (Str.ofString "__static_attributes__")) (Value.str (Str.ofString "__static_attributes__") 502) (Value.ref 264)) (List.cons (DictEntry.mk (PyData.keyHash P (Str.ofString "__dict__")) (Value.str (Str.ofString "__dict__") 504) (Value.ref 267)) (List.cons (DictEntry.mk (PyData.keyHash P (Str.ofString "__weakref__")) (Value.str (Str.ofString "__weakref__") 506) (Value.ref 268)) (List.cons (DictEntry.mk (PyData.keyHash P (Str.ofString "__doc__")) (Value.str (Str.ofString "__doc__") 507) Value.none) (List.nil))))))))))))))))))))) 4) (List.toArray (List.nil))) ::
  (Obj.mk (Value.type "type") (Option.none) (Data.cls (ClassData.mk (Str.ofString "OpenStack") (List.cons (Value.type "object") (List.nil)) (List.cons (Value.ref 266) (List.cons (Value.type "object") (List.nil))) 265 (Str.ofString "OpenStack") Bool.true (List.nil) (List.nil) Bool.false (Option.none) Bool.false)) (List.toArray (List.cons (Option.none) (List.cons (Option.none) (List.cons (Option.some (Value.str (Str.ofString "OpenStack") 386)) (List.cons (Option.some (Value.str (Str.ofString "OpenStack") 394)) (List.cons (Option.some (Value.builtin "object.__new__")) (List.cons (Option.some (Value.bool Bool.true)) (List.nil))))))))) ::
  (Obj.mk (Value.type "getset_descriptor") (Option.none) (Data.fields (List.toArray (List.cons (Value.str (Str.ofString "__dict__") 503) (List.cons (Value.ref 266) (List.cons (Value.builtin "function.__dict__") (List.cons (Value.builtin "function.__dict__#set") (List.nil))))))) (List.toArray (List.nil))) ::
  (Obj.mk (Value.type "getset_descriptor") (Option.none) (Data.fields (List.toArray (List.cons (Value.str (Str.ofString "__weakref__") 505) (List.cons (Value.ref 266) (List.cons (Value.builtin "ExceptionGroup.__weakref__") (List.cons Value.none (List.nil))))))) (List.toArray (List.nil))) ::
  (Obj.mk (Value.type "super") (Option.none) (Data.fields (List.toArray (List.cons (Value.ref 266) (List.cons (Value.ref 266) (List.cons (Value.ref 266) (List.nil)))))) (List.toArray (List.nil))) ::
  (Obj.mk (Value.type "builtin_function_or_method") (Option.none) (Data.fields (List.toArray (List.cons (Value.builtin "object.__init_subclass__") (List.cons (Value.ref 266) (List.nil))))) (List.toArray (List.nil))) ::
  (Obj.mk (Value.type "tuple") (Option.none) (Data.seq (List.toArray (List.nil)) 0) (List.toArray (List.nil))) ::
  (Obj.mk (Value.type "builtin_function_or_method") (Option.none) (Data.fields (List.toArray (List.cons (Value.builtin "type.__prepare__") (List.cons (Value.type "type") (List.nil))))) (List.toArray (List.nil))) ::
  (Obj.mk (Value.type "dict") (Option.none) (Data.dict (List.toArray (List.cons (DictEntry.mk (PyData.keyHash P (Str.ofString "__module__")) (Value.str (Str.ofString "__module__") 519) (Value.str (Str.ofString "htmltree.tree") 510)) (List.cons (DictEntry.mk (PyData.keyHash P (Str.ofString "__qualname__")) (Value.str (Str.ofString "__qualname__") 521) (Value.str (Str.ofString "Tree") 520)) (List.cons (DictEntry.mk (PyData.keyHash P (Str.ofString "__firstlineno__")) (Value.str (Str.ofString "__firstlineno__") 523) (Value.int (139 : Int) 522)) (List.cons (DictEntry.mk (PyData.keyHash P (Str.ofString "__init__")) (Value.str (Str.ofString "__init__") 530) (Value.ref 284)) (List.cons (DictEntry.mk (PyData.keyHash P (Str.ofString "add")) (Value.str (Str.ofString "add") 545) (Value.ref 293)) (List.cons (DictEntry.mk (PyData.keyHash P (Str.ofString "element")) (Value.str (Str.ofString "element") 557) (Value.ref 302)) (List.cons (DictEntry.mk (PyData.keyHash P (Str.ofString "text")) (Value.str (Str.ofString "text") 565) (Value.ref 309)) (List.cons (DictEntry.mk (PyData.keyHash P (Str.ofString "comment")) (Value.str (Str.ofString "comment") 573) (Value.ref 316)) (List.cons (DictEntry.mk (PyData.keyHash P (Str.ofString "doctype")) (Value.str (Str.ofString "doctype") 583) (Value.ref 323)) (List.cons (DictEntry.mk (PyData.keyHash P (Str.ofString "insert")) (Value.str (Str.ofString "insert") 596) (Value.ref 331)) (List.cons (DictEntry.mk (PyData.keyHash P (Str.ofString "append")) (Value.str (Str.ofString "append") 605) (Value.ref 338)) (List.cons (DictEntry.mk (PyData.keyHash P (Str.ofString "remove")) (Value.str (Str.ofString "remove") 613) (Value.ref 345)) (List.cons (DictEntry.mk (PyData.keyHash P (Str.ofString "move_children")) (Value.str (Str.ofString "move_children") 622) (Value.ref 352)) (List.cons (DictEntry.mk (PyData.keyHash P (Str.ofString "place")) (Value.str (Str.ofString "place") 630) (Value.ref 359)) (List.cons (DictEntry.mk (PyData.keyHash P (Str.ofString "last")) (Value.str (Str.ofString "last") 638) (Value.ref 366)) (List.cons (DictEntry.mk (PyData.keyHash P (Str.ofString "value")) (Value.str (Str.ofString "value") 647) (Value.ref 373)) (List.cons (DictEntry.mk (PyData.keyHash P (Str.ofString "is_html")) (Value.str (Str.ofString "is_html") 656) (Value.ref 380)) (List.cons (DictEntry.mk (PyData.keyHash P (Str.ofString "__static_attributes__")) (Value.str (Str.ofString "__static_attributes__") 665) (Value.ref 381)) (List.nil)))))))))))))))))))) 18) (List.toArray (List.nil))) ::
  (Obj.mk (Value.type "tuple") (Option.none) (Data.seq (List.toArray (List.nil)) 0) (List.toArray (List.nil))) ::
  (Obj.mk Value.none (Option.none) (Data.fields (List.toArray (List.cons (Value.int (141 : Int) 0) (List.cons (Value.int (4 : Int) 0) (List.cons (Value.ref 283) (List.cons (Value.int (152 : Int) 0) (List.cons (Value.int (4 : Int) 0) (List.cons (Value.ref 292) (List.cons (Value.int (162 : Int) 0) (List.cons (Value.int (4 : Int) 0) (List.cons (Value.ref 301) (List.cons (Value.int (168 : Int) 0) (List.cons (Value.int (4 : Int) 0) (List.cons (Value.ref 308) (List.cons (Value.int (171 : Int) 0) (List.cons (Value.int (4 : Int) 0) (List.cons (Value.ref 315) (List.cons (Value.int (174 : Int) 0) (List.cons (Value.int (4 : Int) 0) (List.cons (Value.ref 322) (List.cons (Value.int (177 : Int) 0) (List.cons (Value.int (4 : Int) 0) (List.cons (Value.ref 330) (List.cons (Value.int (191 : Int) 0) (List.cons (Value.int (4 : Int) 0) (List.cons (Value.ref 337) (List.cons (Value.int (194 : Int) 0) (List.cons (Value.int (4 : Int) 0) (List.cons (Value.ref 344) (List.cons (Value.int (199 : Int) 0) (List.cons (Value.int (4 : Int) 0) (List.cons (Value.ref 351) (List.cons (Value.int (202 : Int) 0) (List.cons (Value.int (4 : Int) 0) (List.cons (Value.ref 358) (List.cons (Value.int (207 : Int) 0) (List.cons (Value.int (4 : Int) 0) (List.cons (Value.ref 365) (List.cons (Value.int (212 : Int) 0) (List.cons (Value.int (4 : Int) 0) (List.cons (Value.ref 372) (List.cons (Value.int (215 : Int) 0) (List.cons (Value.int (4 : Int) 0) (List.cons (Value.ref 379) (List.nil))))))))))))))))))))))))))))))))))))))))))))) (List.toArray (List.nil))) ::
  (Obj.mk (Value.type "code") (Option.none) (Data.fields (List.toArray (List.cons (Value.str (Str.ofString "Tree") 514) (List.cons (Value.str (Str.ofString "Tree") 515) (List.cons (Value.str (Str.ofString "/claim/cut.py") 516) (List.cons (Value.int (139 : Int) 0) (List.cons (Value.int (0 : Int) 0) (List.cons (Value.int (0 : Int) 0) (List.cons (Value.int (0 : Int) 0) (List.cons (Value.int (0 : Int) 0) (List.cons (Value.ref 274) (List.cons (Value.bool Bool.false) (List.cons (Value.int (181 : Int) 0) (List.cons (Value.ref 275) (List.cons Value.none (List.cons Value.none (List.cons Value.none (List.cons Value.none (List.cons (Value.int (517 : Int) 0) (List.cons (Value.int (139 : Int) 0) (List.cons (Value.str (Str.ofString "/claim/cut.py") 518) (List.nil)))))))))))))))))))))) (List.toArray (List.nil))) ::
  (Obj.mk (Value.type "frame") (Option.none) Data.plain (List.toArray (List.cons (Option.some (Value.ref 276)) (List.cons (Option.some (Value.ref 3)) (List.cons (Option.some (Value.ref 273)) (List.cons (Option.none) (List.cons (Option.some (Value.str (Str.ofString "htmltree.tree") 510)) (List.cons (Option.none) (List.cons (Option.some (Value.ref 0)) (List.nil)))))))))) ::
  (Obj.mk (Value.type "tuple") (Option.none) (Data.seq (List.toArray (List.nil)) 0) (List.toArray (List.nil))) ::
  (Obj.mk Value.none (Option.none) (Data.fields (List.toArray (List.nil))) (List.toArray (List.nil))) ::
  (Obj.mk (Value.type "tuple") (Option.none) (Data.seq (List.toArray (List.cons (Value.str (Str.ofString "self") 527) (List.nil))) 0) (List.toArray (List.nil))) ::
  (Obj.mk (Value.type "tuple") (Option.none) (Data.seq (List.toArray (List.nil)) 0) (List.toArray (List.nil))) ::
  fo282 ::
  (Obj.mk (Value.type "code") (Option.none) (Data.fields (List.toArray (List.cons (Value.str (Str.ofString "__init__") 524) (List.cons (Value.str (Str.ofString "Tree.__init__") 525) (List.cons (Value.str (Str.ofString "/claim/cut.py") 526) (List.cons (Value.int (141 : Int) 0) (List.cons (Value.int (1 : Int) 0) (List.cons (Value.int (0 : Int) 0) (List.cons (Value.int (0 : Int) 0) (List.cons (Value.int (3 : Int) 0) (List.cons (Value.ref 278) (List.cons (Value.bool Bool.true) (List.cons (Value.int (181 : Int) 0) (List.cons (Value.ref 279) (List.cons Value.none (List.cons (Value.ref 280) (List.cons (Value.ref 281) (List.cons (Value.ref 282) (List.cons (Value.int (528 : Int) 0) (List.cons (Value.int (141 : Int) 0) (List.cons (Value.str (Str.ofString "/claim/cut.py") 529) (List.nil)))))))))))))))))))))) (List.toArray (List.nil))) ::
  fo284 ::
  (Obj.mk (Value.type "tuple") (Option.none) (Data.seq (List.toArray (List.nil)) 0) (List.toArray (List.nil))) ::
  (Obj.mk (Value.type "tuple") (Option.none) (Data.seq (List.toArray (List.cons (Value.str (Str.ofString "") 531) (List.cons (Value.str (Str.ofString "") 532) (List.cons (Value.ref 285) (List.cons (Value.str (Str.ofString "") 533) (List.nil)))))) 0) (List.toArray (List.nil))) ::
  (Obj.mk (Value.type "tuple") (Option.none) (Data.seq (List.toArray (List.nil)) 0) (List.toArray (List.nil))) ::
  (Obj.mk Value.none (Option.none) (Data.fields (List.toArray (List.nil))) (List.toArray (List.nil))) ::
  (Obj.mk (Value.type "tuple") (Option.none) (Data.seq (List.toArray (List.cons (Value.str (Str.ofString "self") 537) (List.cons (Value.str (Str.ofString "kind") 538) (List.cons (Value.str (Str.ofString "space") 539) (List.cons (Value.str (Str.ofString "name") 540) (List.cons (Value.str (Str.ofString "attrs") 541) (List.cons (Value.str (Str.ofString "text") 542) (List.nil)))))))) 0) (List.toArray (List.nil))) ::
  (Obj.mk (Value.type "tuple") (Option.none) (Data.seq (List.toArray (List.nil)) 0) (List.toArray (List.nil))) ::
  fo291 ::
  (Obj.mk (Value.type "code") (Option.none) (Data.fields (List.toArray (List.cons (Value.str (Str.ofString "add") 534) (List.cons (Value.str (Str.ofString "Tree.add") 535) (List.cons (Value.str (Str.ofString "/claim/cut.py") 536) (List.cons (Value.int (152 : Int) 0) (List.cons (Value.int (6 : Int) 0) (List.cons (Value.int (0 : Int) 0) (List.cons (Value.int (0 : Int) 0) (List.cons (Value.int (3 : Int) 0) (List.cons (Value.ref 287) (List.cons (Value.bool Bool.true) (List.cons (Value.int (181 : Int) 0) (List.cons (Value.ref 288) (List.cons Value.none (List.cons (Value.ref 289) (List.cons (Value.ref 290) (List.cons (Value.ref 291) (List.cons (Value.int (543 : Int) 0) (List.cons (Value.int (152 : Int) 0) (List.cons (Value.str (Str.ofString "/claim/cut.py") 544) (List.nil)))))))))))))))))))))) (List.toArray (List.nil))) ::
  fo293 ::
  (Obj.mk (Value.type "tuple") (Option.none) (Data.seq (List.toArray (List.nil)) 0) (List.toArray (List.nil))) ::
  (Obj.mk (Value.type "tuple") (Option.none) (Data.seq (List.toArray (List.cons (Value.str (Str.ofString "html") 546) (List.cons (Value.ref 294) (List.nil)))) 0) (List.toArray (List.nil))) ::
  (Obj.mk (Value.type "tuple") (Option.none) (Data.seq (List.toArray (List.nil)) 0) (List.toArray (List.nil))) ::
  (Obj.mk Value.none (Option.none) (Data.fields (List.toArray (List.nil))) (List.toArray (List.nil))) ::
  (Obj.mk (Value.type "tuple") (Option.none) (Data.seq (List.toArray (List.cons (Value.str (Str.ofString "self") 550) (List.cons (Value.str (Str.ofString "name") 551) (List.cons (Value.str (Str.ofString "space") 552) (List.cons (Value.str (Str.ofString "attrs") 553) (List.cons (Value.str (Str.ofString "node") 554) (List.nil))))))) 0) (List.toArray (List.nil))) ::
  (Obj.mk (Value.type "tuple") (Option.none) (Data.seq (List.toArray (List.nil)) 0) (List.toArray (List.nil))) ::
  fo300 ::
  (Obj.mk (Value.type "code") (Option.none) (Data.fields (List.toArray (List.cons (Value.str (Str.ofString "element") 547) (List.cons (Value.str (Str.ofString "Tree.element") 548) (List.cons (Value.str (Str.ofString "/claim/cut.py") 549) (List.cons (Value.int (162 : Int) 0) (List.cons (Value.int (4 : Int) 0) (List.cons (Value.int (0 : Int) 0) (List.cons (Value.int (0 : Int) 0) (List.cons (Value.int (3 : Int) 0) (List.cons (Value.ref 296) (List.cons (Value.bool Bool.true) (List.cons (Value.int (181 : Int) 0) (List.cons (Value.ref 297) (List.cons Value.none (List.cons (Value.ref 298) (List.cons (Value.ref 299) (List.cons (Value.ref 300) (List.cons (Value.int (555 : Int) 0) (List.cons (Value.int (162 : Int) 0) (List.cons (Value.str (Str.ofString "/claim/cut.py") 556) (List.nil)))))))))))))))))))))) (List.toArray (List.nil))) ::
  fo302 ::
  (Obj.mk (Value.type "tuple") (Option.none) (Data.seq (List.toArray (List.nil)) 0) (List.toArray (List.nil))) ::
  (Obj.mk Value.none (Option.none) (Data.fields (List.toArray (List.nil))) (List.toArray (List.nil))) ::
  (Obj.mk (Value.type "tuple") (Option.none) (Data.seq (List.toArray (List.cons (Value.str (Str.ofString "self") 561) (List.cons (Value.str (Str.ofString "text") 562) (List.nil)))) 0) (List.toArray (List.nil))) ::
  (Obj.mk (Value.type "tuple") (Option.none) (Data.seq (List.toArray (List.nil)) 0) (List.toArray (List.nil))) ::
  fo307 ::
  (Obj.mk (Value.type "code") (Option.none) (Data.fields (List.toArray (List.cons (Value.str (Str.ofString "text") 558) (List.cons (Value.str (Str.ofString "Tree.text") 559) (List.cons (Value.str (Str.ofString "/claim/cut.py") 560) (List.cons (Value.int (168 : Int) 0) (List.cons (Value.int (2 : Int) 0) (List.cons (Value.int (0 : Int) 0) (List.cons (Value.int (0 : Int) 0) (List.cons (Value.int (3 : Int) 0) (List.cons (Value.ref 303) (List.cons (Value.bool Bool.true) (List.cons (Value.int (181 : Int) 0) (List.cons (Value.ref 304) (List.cons Value.none (List.cons (Value.ref 305) (List.cons (Value.ref 306) (List.cons (Value.ref 307) (List.cons (Value.int (563 : Int) 0) (List.cons (Value.int (168 : Int) 0) (List.cons (Value.str (Str.ofString "/claim/cut.py") 564) (List.nil)))))))))))))))))))))) (List.toArray (List.nil))) ::
  fo309 ::
  (Obj.mk (Value.type "tuple") (Option.none) (Data.seq (List.toArray (List.nil)) 0) (List.toArray (List.nil))) ::
  (Obj.mk Value.none (Option.none) (Data.fields (List.toArray (List.nil))) (List.toArray (List.nil))) ::
  (Obj.mk (Value.type "tuple") (Option.none) (Data.seq (List.toArray (List.cons (Value.str (Str.ofString "self") 569) (List.cons (Value.str (Str.ofString "text") 570) (List.nil)))) 0) (List.toArray (List.nil))) ::
  (Obj.mk (Value.type "tuple") (Option.none) (Data.seq (List.toArray (List.nil)) 0) (List.toArray (List.nil))) ::
  fo314 ::
  (Obj.mk (Value.type "code") (Option.none) (Data.fields (List.toArray (List.cons (Value.str (Str.ofString "comment") 566) (List.cons (Value.str (Str.ofString "Tree.comment") 567) (List.cons (Value.str (Str.ofString "/claim/cut.py") 568) (List.cons (Value.int (171 : Int) 0) (List.cons (Value.int (2 : Int) 0) (List.cons (Value.int (0 : Int) 0) (List.cons (Value.int (0 : Int) 0) (List.cons (Value.int (3 : Int) 0) (List.cons (Value.ref 310) (List.cons (Value.bool Bool.true) (List.cons (Value.int (181 : Int) 0) (List.cons (Value.ref 311) (List.cons Value.none (List.cons (Value.ref 312) (List.cons (Value.ref 313) (List.cons (Value.ref 314) (List.cons (Value.int (571 : Int) 0) (List.cons (Value.int (171 : Int) 0) (List.cons (Value.str (Str.ofString "/claim/cut.py") 572) (List.nil)))))))))))))))))))))) (List.toArray (List.nil))) ::
  fo316 ::
  (Obj.mk (Value.type "tuple") (Option.none) (Data.seq (List.toArray (List.nil)) 0) (List.toArray (List.nil))) ::
  (Obj.mk Value.none (Option.none) (Data.fields (List.toArray (List.nil))) (List.toArray (List.nil))) ::
  (Obj.mk (Value.type "tuple") (Option.none) (Data.seq (List.toArray (List.cons (Value.str (Str.ofString "self") 577) (List.cons (Value.str (Str.ofString "name") 578) (List.cons (Value.str (Str.ofString "public") 579) (List.cons (Value.str (Str.ofString "system") 580) (List.nil)))))) 0) (List.toArray (List.nil))) ::
  (Obj.mk (Value.type "tuple") (Option.none) (Data.seq (List.toArray (List.nil)) 0) (List.toArray (List.nil))) ::
  fo321 ::
  (Obj.mk (Value.type "code") (Option.none) (Data.fields (List.toArray (List.cons (Value.str (Str.ofString "doctype") 574) (List.cons (Value.str (Str.ofString "Tree.doctype") 575) (List.cons (Value.str (Str.ofString "/claim/cut.py") 576) (List.cons (Value.int (174 : Int) 0) (List.cons (Value.int (4 : Int) 0) (List.cons (Value.int (0 : Int) 0) (List.cons (Value.int (0 : Int) 0) (List.cons (Value.int (3 : Int) 0) (List.cons (Value.ref 317) (List.cons (Value.bool Bool.true) (List.cons (Value.int (181 : Int) 0) (List.cons (Value.ref 318) (List.cons Value.none (List.cons (Value.ref 319) (List.cons (Value.ref 320) (List.cons (Value.ref 321) (List.cons (Value.int (581 : Int) 0) (List.cons (Value.int (174 : Int) 0) (List.cons (Value.str (Str.ofString "/claim/cut.py") 582) (List.nil)))))))))))))))))))))) (List.toArray (List.nil))) ::
  fo323 ::
  (Obj.mk (Value.type "tuple") (Option.none) (Data.seq (List.toArray (List.cons (Value.int (Neg.neg (1 : Int)) 585) (List.nil))) 0) (List.toArray (List.nil))) ::
  (Obj.mk (Value.type "tuple") (Option.none) (Data.seq (List.toArray (List.nil)) 0) (List.toArray (List.nil))) ::
  (Obj.mk Value.none (Option.none) (Data.fields (List.toArray (List.nil))) (List.toArray (List.nil))) ::
  (Obj.mk (Value.type "tuple") (Option.none) (Data.seq (List.toArray (List.cons (Value.str (Str.ofString "self") 589) (List.cons (Value.str (Str.ofString "parent") 590) (List.cons (Value.str (Str.ofString "node") 591) (List.cons (Value.str (Str.ofString "before") 592) (List.cons (Value.str (Str.ofString "at") 593) (List.nil))))))) 0) (List.toArray (List.nil))) ::
  (Obj.mk (Value.type "tuple") (Option.none) (Data.seq (List.toArray (List.nil)) 0) (List.toArray (List.nil))) ::
  fo329 ::
  (Obj.mk (Value.type "code") (Option.none) (Data.fields (List.toArray (List.cons (Value.str (Str.ofString "insert") 586) (List.cons (Value.str (Str.ofString "Tree.insert") 587) (List.cons (Value.str (Str.ofString "/claim/cut.py") 588) (List.cons (Value.int (177 : Int) 0) (List.cons (Value.int (4 : Int) 0) (List.cons (Value.int (0 : Int) 0) (List.cons (Value.int (0 : Int) 0) (List.cons (Value.int (3 : Int) 0) (List.cons (Value.ref 325) (List.cons (Value.bool Bool.true) (List.cons (Value.int (181 : Int) 0) (List.cons (Value.ref 326) (List.cons Value.none (List.cons (Value.ref 327) (List.cons (Value.ref 328) (List.cons (Value.ref 329) (List.cons (Value.int (594 : Int) 0) (List.cons (Value.int (177 : Int) 0) (List.cons (Value.str (Str.ofString "/claim/cut.py") 595) (List.nil)))))))))))))))))))))) (List.toArray (List.nil))) ::
  fo331 ::
  (Obj.mk (Value.type "tuple") (Option.none) (Data.seq (List.toArray (List.nil)) 0) (List.toArray (List.nil))) ::
  (Obj.mk Value.none (Option.none) (Data.fields (List.toArray (List.nil))) (List.toArray (List.nil))) ::
  (Obj.mk (Value.type "tuple") (Option.none) (Data.seq (List.toArray (List.cons (Value.str (Str.ofString "self") 600) (List.cons (Value.str (Str.ofString "parent") 601) (List.cons (Value.str (Str.ofString "node") 602) (List.nil))))) 0) (List.toArray (List.nil))) ::
  (Obj.mk (Value.type "tuple") (Option.none) (Data.seq (List.toArray (List.nil)) 0) (List.toArray (List.nil))) ::
  fo336 ::
  (Obj.mk (Value.type "code") (Option.none) (Data.fields (List.toArray (List.cons (Value.str (Str.ofString "append") 597) (List.cons (Value.str (Str.ofString "Tree.append") 598) (List.cons (Value.str (Str.ofString "/claim/cut.py") 599) (List.cons (Value.int (191 : Int) 0) (List.cons (Value.int (3 : Int) 0) (List.cons (Value.int (0 : Int) 0) (List.cons (Value.int (0 : Int) 0) (List.cons (Value.int (3 : Int) 0) (List.cons (Value.ref 332) (List.cons (Value.bool Bool.true) (List.cons (Value.int (181 : Int) 0) (List.cons (Value.ref 333) (List.cons Value.none (List.cons (Value.ref 334) (List.cons (Value.ref 335) (List.cons (Value.ref 336) (List.cons (Value.int (603 : Int) 0) (List.cons (Value.int (191 : Int) 0) (List.cons (Value.str (Str.ofString "/claim/cut.py") 604) (List.nil)))))))))))))))))))))) (List.toArray (List.nil))) ::
  fo338 ::
  (Obj.mk (Value.type "tuple") (Option.none) (Data.seq (List.toArray (List.nil)) 0) (List.toArray (List.nil))) ::
  (Obj.mk Value.none (Option.none) (Data.fields (List.toArray (List.nil))) (List.toArray (List.nil))) ::
  (Obj.mk (Value.type "tuple") (Option.none) (Data.seq (List.toArray (List.cons (Value.str (Str.ofString "self") 609) (List.cons (Value.str (Str.ofString "node") 610) (List.nil)))) 0) (List.toArray (List.nil))) ::
  (Obj.mk (Value.type "tuple") (Option.none) (Data.seq (List.toArray (List.nil)) 0) (List.toArray (List.nil))) ::
  fo343 ::
  (Obj.mk (Value.type "code") (Option.none) (Data.fields (List.toArray (List.cons (Value.str (Str.ofString "remove") 606) (List.cons (Value.str (Str.ofString "Tree.remove") 607) (List.cons (Value.str (Str.ofString "/claim/cut.py") 608) (List.cons (Value.int (194 : Int) 0) (List.cons (Value.int (2 : Int) 0) (List.cons (Value.int (0 : Int) 0) (List.cons (Value.int (0 : Int) 0) (List.cons (Value.int (3 : Int) 0) (List.cons (Value.ref 339) (List.cons (Value.bool Bool.true) (List.cons (Value.int (181 : Int) 0) (List.cons (Value.ref 340) (List.cons Value.none (List.cons (Value.ref 341) (List.cons (Value.ref 342) (List.cons (Value.ref 343) (List.cons (Value.int (611 : Int) 0) (List.cons (Value.int (194 : Int) 0) (List.cons (Value.str (Str.ofString "/claim/cut.py") 612) (List.nil)))))))))))))))))))))) (List.toArray (List.nil))) ::
  fo345 ::
  (Obj.mk (Value.type "tuple") (Option.none) (Data.seq (List.toArray (List.nil)) 0) (List.toArray (List.nil))) ::
  (Obj.mk Value.none (Option.none) (Data.fields (List.toArray (List.nil))) (List.toArray (List.nil))) ::
  (Obj.mk (Value.type "tuple") (Option.none) (Data.seq (List.toArray (List.cons (Value.str (Str.ofString "self") 617) (List.cons (Value.str (Str.ofString "here") 618) (List.cons (Value.str (Str.ofString "there") 619) (List.nil))))) 0) (List.toArray (List.nil))) ::
  (Obj.mk (Value.type "tuple") (Option.none) (Data.seq (List.toArray (List.nil)) 0) (List.toArray (List.nil))) ::
  fo350 ::
  (Obj.mk (Value.type "code") (Option.none) (Data.fields (List.toArray (List.cons (Value.str (Str.ofString "move_children") 614) (List.cons (Value.str (Str.ofString "Tree.move_children") 615) (List.cons (Value.str (Str.ofString "/claim/cut.py") 616) (List.cons (Value.int (199 : Int) 0) (List.cons (Value.int (3 : Int) 0) (List.cons (Value.int (0 : Int) 0) (List.cons (Value.int (0 : Int) 0) (List.cons (Value.int (3 : Int) 0) (List.cons (Value.ref 346) (List.cons (Value.bool Bool.true) (List.cons (Value.int (181 : Int) 0) (List.cons (Value.ref 347) (List.cons Value.none (List.cons (Value.ref 348) (List.cons (Value.ref 349) (List.cons (Value.ref 350) (List.cons (Value.int (620 : Int) 0) (List.cons (Value.int (199 : Int) 0) (List.cons (Value.str (Str.ofString "/claim/cut.py") 621) (List.nil)))))))))))))))))))))) (List.toArray (List.nil))) ::
  fo352 ::
  (Obj.mk (Value.type "tuple") (Option.none) (Data.seq (List.toArray (List.nil)) 0) (List.toArray (List.nil))) ::
  (Obj.mk Value.none (Option.none) (Data.fields (List.toArray (List.nil))) (List.toArray (List.nil))) ::
  (Obj.mk (Value.type "tuple") (Option.none) (Data.seq (List.toArray (List.cons (Value.str (Str.ofString "self") 626) (List.cons (Value.str (Str.ofString "node") 627) (List.nil)))) 0) (List.toArray (List.nil))) ::
  (Obj.mk (Value.type "tuple") (Option.none) (Data.seq (List.toArray (List.nil)) 0) (List.toArray (List.nil))) ::
  fo357 ::
  (Obj.mk (Value.type "code") (Option.none) (Data.fields (List.toArray (List.cons (Value.str (Str.ofString "place") 623) (List.cons (Value.str (Str.ofString "Tree.place") 624) (List.cons (Value.str (Str.ofString "/claim/cut.py") 625) (List.cons (Value.int (202 : Int) 0) (List.cons (Value.int (2 : Int) 0) (List.cons (Value.int (0 : Int) 0) (List.cons (Value.int (0 : Int) 0) (List.cons (Value.int (3 : Int) 0) (List.cons (Value.ref 353) (List.cons (Value.bool Bool.true) (List.cons (Value.int (181 : Int) 0) (List.cons (Value.ref 354) (List.cons Value.none (List.cons (Value.ref 355) (List.cons (Value.ref 356) (List.cons (Value.ref 357) (List.cons (Value.int (628 : Int) 0) (List.cons (Value.int (202 : Int) 0) (List.cons (Value.str (Str.ofString "/claim/cut.py") 629) (List.nil)))))))))))))))))))))) (List.toArray (List.nil))) ::
  fo359 ::
  (Obj.mk (Value.type "tuple") (Option.none) (Data.seq (List.toArray (List.nil)) 0) (List.toArray (List.nil))) ::
  (Obj.mk Value.none (Option.none) (Data.fields (List.toArray (List.nil))) (List.toArray (List.nil))) ::
  (Obj.mk (Value.type "tuple") (Option.none) (Data.seq (List.toArray (List.cons (Value.str (Str.ofString "self") 634) (List.cons (Value.str (Str.ofString "parent") 635) (List.nil)))) 0) (List.toArray (List.nil))) ::
  (Obj.mk (Value.type "tuple") (Option.none) (Data.seq (List.toArray (List.nil)) 0) (List.toArray (List.nil))) ::
  fo364 ::
  (Obj.mk (Value.type "code") (Option.none) (Data.fields (List.toArray (List.cons (Value.str (Str.ofString "last") 631) (List.cons (Value.str (Str.ofString "Tree.last") 632) (List.cons (Value.str (Str.ofString "/claim/cut.py") 633) (List.cons (Value.int (207 : Int) 0) (List.cons (Value.int (2 : Int) 0) (List.cons (Value.int (0 : Int) 0) (List.cons (Value.int (0 : Int) 0) (List.cons (Value.int (3 : Int) 0) (List.cons (Value.ref 360) (List.cons (Value.bool Bool.true) (List.cons (Value.int (181 : Int) 0) (List.cons (Value.ref 361) (List.cons Value.none (List.cons (Value.ref 362) (List.cons (Value.ref 363) (List.cons (Value.ref 364) (List.cons (Value.int (636 : Int) 0) (List.cons (Value.int (207 : Int) 0) (List.cons (Value.str (Str.ofString "/claim/cut.py") 637) (List.nil)))))))))))))))))))))) (List.toArray (List.nil))) ::
  fo366 ::
  (Obj.mk (Value.type "tuple") (Option.none) (Data.seq (List.toArray (List.nil)) 0) (List.toArray (List.nil))) ::
  (Obj.mk Value.none (Option.none) (Data.fields (List.toArray (List.nil))) (List.toArray (List.nil))) ::
  (Obj.mk (Value.type "tuple") (Option.none) (Data.seq (List.toArray (List.cons (Value.str (Str.ofString "self") 642) (List.cons (Value.str (Str.ofString "node") 643) (List.cons (Value.str (Str.ofString "name") 644) (List.nil))))) 0) (List.toArray (List.nil))) ::
  (Obj.mk (Value.type "tuple") (Option.none) (Data.seq (List.toArray (List.nil)) 0) (List.toArray (List.nil))) ::
  fo371 ::
  (Obj.mk (Value.type "code") (Option.none) (Data.fields (List.toArray (List.cons (Value.str (Str.ofString "value") 639) (List.cons (Value.str (Str.ofString "Tree.value") 640) (List.cons (Value.str (Str.ofString "/claim/cut.py") 641) (List.cons (Value.int (212 : Int) 0) (List.cons (Value.int (3 : Int) 0) (List.cons (Value.int (0 : Int) 0) (List.cons (Value.int (0 : Int) 0) (List.cons (Value.int (3 : Int) 0) (List.cons (Value.ref 367) (List.cons (Value.bool Bool.true) (List.cons (Value.int (181 : Int) 0) (List.cons (Value.ref 368) (List.cons Value.none (List.cons (Value.ref 369) (List.cons (Value.ref 370) (List.cons (Value.ref 371) (List.cons (Value.int (645 : Int) 0) (List.cons (Value.int (212 : Int) 0) (List.cons (Value.str (Str.ofString "/claim/cut.py") 646) (List.nil)))))))))))))))))))))) (List.toArray (List.nil))) ::
  fo373 ::
  (Obj.mk (Value.type "tuple") (Option.none) (Data.seq (List.toArray (List.nil)) 0) (List.toArray (List.nil))) ::
  (Obj.mk Value.none (Option.none) (Data.fields (List.toArray (List.nil))) (List.toArray (List.nil))) ::
  (Obj.mk (Value.type "tuple") (Option.none) (Data.seq (List.toArray (List.cons (Value.str (Str.ofString "self") 651) (List.cons (Value.str (Str.ofString "node") 652) (List.cons (Value.str (Str.ofString "name") 653) (List.nil))))) 0) (List.toArray (List.nil))) ::
  (Obj.mk (Value.type "tuple") (Option.none) (Data.seq (List.toArray (List.nil)) 0) (List.toArray (List.nil))) ::
  fo378 ::
  (Obj.mk (Value.type "code") (Option.none) (Data.fields (List.toArray (List.cons (Value.str (Str.ofString "is_html") 648) (List.cons (Value.str (Str.ofString "Tree.is_html") 649) (List.cons (Value.str (Str.ofString "/claim/cut.py") 650) (List.cons (Value.int (215 : Int) 0) (List.cons (Value.int (3 : Int) 0) (List.cons (Value.int (0 : Int) 0) (List.cons (Value.int (0 : Int) 0) (List.cons (Value.int (3 : Int) 0) (List.cons (Value.ref 374) (List.cons (Value.bool Bool.true) (List.cons (Value.int (181 : Int) 0) (List.cons (Value.ref 375) (List.cons Value.none (List.cons (Value.ref 376) (List.cons (Value.ref 377) (List.cons (Value.ref 378) (List.cons (Value.int (654 : Int) 0) (List.cons (Value.int (215 : Int) 0) (List.cons (Value.str (Str.ofString "/claim/cut.py") 655) (List.nil)))))))))))))))))))))) (List.toArray (List.nil))) ::
  fo380 ::
  (Obj.mk (Value.type "tuple") (Option.none) (Data.seq (List.toArray (List.cons (Value.str (Str.ofString "attrs") 657) (List.cons (Value.str (Str.ofString "children") 658) (List.cons (Value.str (Str.ofString "contents") 659) (List.cons (Value.str (Str.ofString "kinds") 660) (List.cons (Value.str (Str.ofString "names") 661) (List.cons (Value.str (Str.ofString "parents") 662) (List.cons (Value.str (Str.ofString "spaces") 663) (List.cons (Value.str (Str.ofString "texts") 664) (List.nil)))))))))) 0) (List.toArray (List.nil))) ::
  (Obj.mk (Value.type "dict") (Option.none) (Data.dict (List.toArray (List.cons (DictEntry.mk (PyData.keyHash P (Str.ofString "__module__")) (Value.str (Str.ofString "__module__") 519) (Value.str (Str.ofString "htmltree.tree") 510)) (List.cons (DictEntry.mk (PyData.keyHash P (Str.ofString "__firstlineno__")) (Value.str (Str.ofString "__firstlineno__") 523) (Value.int (139 : Int) 522)) (List.cons (DictEntry.mk (PyData.keyHash P (Str.ofString "__init__")) (Value.str (Str.ofString "__init__") 530) (Value.ref 284)) (List.cons (DictEntry.mk (PyData.keyHash P (Str.ofString "add")) (Value.str (Str.ofString "add") 545) (Value.ref 293)) (List.cons (DictEntry.mk (PyData.keyHash P (Str.ofString "element")) (Value.str (Str.ofString "element") 557) (Value.ref 302)) (List.cons (DictEntry.mk (PyData.keyHash P (Str.ofString "text")) (Value.str (Str.ofString "text") 565) (Value.ref 309)) (List.cons (DictEntry.mk (PyData.keyHash P (Str.ofString "comment")) (Value.str (Str.ofString "comment") 573) (Value.ref 316)) (List.cons (DictEntry.mk (PyData.keyHash P (Str.ofString "doctype")) (Value.str (Str.ofString "doctype") 583) (Value.ref 323)) (List.cons (DictEntry.mk (PyData.keyHash P (Str.ofString "insert")) (Value.str (Str.ofString "insert") 596) (Value.ref 331)) (List.cons (DictEntry.mk (PyData.keyHash P (Str.ofString "append")) (Value.str (Str.ofString "append") 605) (Value.ref 338)) (List.cons (DictEntry.mk (PyData.keyHash P (Str.ofString "remove")) (Value.str (Str.ofString "remove") 613) (Value.ref 345)) (List.cons (DictEntry.mk (PyData.keyHash P (Str.ofString "move_children")) (Value.str (Str.ofString "move_children") 622) (Value.ref 352)) (List.cons (DictEntry.mk (PyData.keyHash P (Str.ofString "place")) (Value.str (Str.ofString "place") 630) (Value.ref 359)) (List.cons (DictEntry.mk (PyData.keyHash P (Str.ofString "last")) (Value.str (Str.ofString "last") 638) (Value.ref 366)) (List.cons (DictEntry.mk (PyData.keyHash P (Str.ofString "value")) (Value.str (Str.ofString "value") 647) (Value.ref 373)) (List.cons (DictEntry.mk (PyData.keyHash P (Str.ofString "is_html")) (Value.str (Str.ofString "is_html") 656) (Value.ref 380)) (List.cons (DictEntry.mk (PyData.keyHash P (Str.ofString "__static_attributes__")) (Value.str (Str.ofString "__static_attributes__") 665) (Value.ref 381)) (List.cons (DictEntry.mk (PyData.keyHash P (Str.ofString "__dict__")) (Value.str (Str.ofString "__dict__") 667) (Value.ref 384)) (List.cons (DictEntry.mk (PyData.keyHash P (Str.ofString "__weakref__")) (Value.str (Str.ofString "__weakref__") 669) (Value.ref 385)) (List.cons (DictEntry.mk (PyData.keyHash P (Str.ofString "__doc__")) (Value.str (Str.ofString "__doc__") 670) Value.none) (List.nil)))))))))))))))))))))) 4) (List.toArray (List.nil))) ::
  (Obj.mk (Value.type "type") (Option.none) (Data.cls (ClassData.mk (Str.ofString "Tree") (List.cons (Value.type "object") (List.nil)) (List.cons (Value.ref 383) (List.cons (Value.type "object") (List.nil))) 382 (Str.ofString "Tree") Bool.true (List.nil) (List.nil) Bool.false (Option.none) Bool.false)) (List.toArray (List.cons (Option.none) (List.cons (Option.none) (List.cons (Option.some (Value.str (Str.ofString "Tree") 512)) (List.cons (Option.some (Value.str (Str.ofString "Tree") 520)) (List.cons (Option.some (Value.builtin "object.__new__")) (List.cons (Option.some (Value.bool Bool.true)) (List.nil))))))))) ::
  (Obj.mk (Value.type "getset_descriptor") (Option.none) (Data.fields (List.toArray (List.cons (Value.str (Str.ofString "__dict__") 666) (List.cons (Value.ref 383) (List.cons (Value.builtin "function.__dict__") (List.cons (Value.builtin "function.__dict__#set") (List.nil))))))) (List.toArray (List.nil))) ::
  (Obj.mk (Value.type "getset_descriptor") (Option.none) (Data.fields (List.toArray (List.cons (Value.str (Str.ofString "__weakref__") 668) (List.cons (Value.ref 383) (List.cons (Value.builtin "ExceptionGroup.__weakref__") (List.cons Value.none (List.nil))))))) (List.toArray (List.nil))) ::
  (Obj.mk (Value.type "super") (Option.none) (Data.fields (List.toArray (List.cons (Value.ref 383) (List.cons (Value.ref 383) (List.cons (Value.ref 383) (List.nil)))))) (List.toArray (List.nil))) ::
  (Obj.mk (Value.type "builtin_function_or_method") (Option.none) (Data.fields (List.toArray (List.cons (Value.builtin "object.__init_subclass__") (List.cons (Value.ref 383) (List.nil))))) (List.toArray (List.nil))) ::
  []), (Life.mk (List.nil) (List.nil) (List.nil) 0 (List.nil) (List.nil) Bool.false (List.toArray (List.nil)) (List.nil) 0 Bool.false Bool.false Bool.false (0 : Int) (List.cons (2000 : Int) (List.cons (10 : Int) (List.cons (10 : Int) (List.nil)))) Bool.false 0 Bool.true (List.nil) (List.nil) 0 Bool.false)⟩
abbrev PP : Program := PySem.Challenge.rw_nt0607_01.row.prog
noncomputable def bE : List Stmt := behindTheImports PP
noncomputable def env0 : Env := { scope := PP.main.scope, locals := mainNs, globals := mainNs, cells := [], code := .ref 13, frame := some 14 }
noncomputable def cE : Code := .body bE env0
abbrev BB : List Frame := [topFrame default]
theorem c_pre : ∀ (w : World) (os : OsState), (topGo treeTable PP w 11 (some (.ref 6)) 12 ⟨boot_heap w.params, Array.mk [], boot_drawn, boot_toks, os⟩ (topStub PP)).map (·.2) = some ⟨denote treeTable cE, cE, default, BB⟩ := by
  intro w os; kernel_rfl
theorem c_block : ∀ (w : World) (s : Shared), segRun treeTable PP w 11 (some (.ref 6)) 1 1 s (blockOf bE env0 cE default BB) = some (.next, s, cE, default) := by
  intro w s; kernel_rfl
theorem c_size : ∀ w : World, ((boot_heap w.params).isNs mainGlobals && (Array.mk [] : Array GenState).size == 0, (boot_heap w.params).objs.size, (boot_heap w.params).nsMap mainGlobals "__annotations__") = (true, 11, some (.ref 6)) := by
  intro w; kernel_rfl
theorem three_of {α β γ : Type} {a a' : α} {b b' : β} {c c' : γ} (h : (a, b, c) = (a', b', c')) : a = a' ∧ b = b' ∧ c = c' := by cases h; exact ⟨rfl, rfl, rfl⟩
theorem c_size' (w : World) : ((boot_heap w.params).isNs mainGlobals && (Array.mk [] : Array GenState).size == 0) = true ∧ (boot_heap w.params).objs.size = 11 ∧ (boot_heap w.params).nsMap mainGlobals "__annotations__" = some (.ref 6) := three_of (c_size w)
theorem c_one : ∀ (w : World) (os : OsState), ((topGo treeTable PP w 11 (some (.ref 6)) 12 ⟨boot_heap w.params, Array.mk [], boot_drawn, boot_toks, os⟩ (topStub PP)).bind fun x =>
    segRun treeTable PP w 11 (some (.ref 6)) 1 1143 x.1 (piecesOf (bE.take 12) env0 cE default BB)) = some (.next, ⟨H1 w.params, Array.mk [], {}, 386, os⟩, cE, ⟨88, 0, 88, 8⟩) := by
  intro w os
  unfold piecesOf
  rw [Fast.te14374325043358763698, Fast.te15667345088766844465, Fast.te14364793385576792824, Fast.te12563942051412417395]
  kernel_rfl
theorem c_two : ∀ (w : World) (os : OsState), segRun treeTable PP w 11 (some (.ref 6)) 1 1292 ⟨H1 w.params, Array.mk [], {}, 386, os⟩ (piecesOf ((bE.drop 12).take 3) env0 cE ⟨88, 0, 88, 8⟩ BB)
    = some (.next, ⟨H2 w.params, Array.mk [], {}, 673, os⟩, cE, ⟨139, 0, 216, 88⟩) := by
  intro w os
  unfold piecesOf
  rw [Fast.te14374325043358763698, Fast.te14364793385576792824, Fast.te12563942051412417395]
  kernel_rfl
theorem Ke : ∀ P : Params, Kas = (hd.heap_39 P).map (·.1) := fun _ => by kernel_rfl
noncomputable def Xl (s : Shared) : Bool := xlAt hd.view_39 [] s && recOk (RowW.records (OpenRow.toRowW PySem.Challenge.rw_nt0607_01.row)) s
theorem c_three : ∀ (w : World) (os : OsState), ((topRun treeTable PP w 11 (some (.ref 6)) 680 ⟨H2 w.params, Array.mk [], {}, 673, os⟩ (restOf ((bE.drop 12).drop 3) env0 cE ⟨139, 0, 216, 88⟩ BB)).bind fun s =>
    bif staticsOk (importedModules PP.main.body) (boot_heap w.params) s.heap && namesBound PP s.heap && gensDone s && laidKept (boot_heap w.params) s.heap then
      some (openSeen hd.view_39 [Str.ofString "Tree"] (importedModules PP.main.body) Xl true s, Hook.obs (kHook hd.heap_39 Kas Ke) s) else none)
    = some (openGood hd.view_39 [Str.ofString "Tree"], Hook.val (kHook hd.heap_39 Kas Ke) w) := by
  intro w os
  unfold restOf
  rw [Fast.te14082659384304107361, Fast.te14364793385576792824, Fast.te12563942051412417395, Fast.te4187177175401517315]
  kernel_rfl
theorem c_plain : opening PP = plainProg PP.main.scope.names := by kernel_rfl
theorem topFrom_of {tb : String → Option Builtin} {p : Program} {w : World} {N m : Nat} {ann : Option Value} {s0 r : Shared} (z1 : (s0.heap.isNs mainGlobals && s0.gens.size == 0) = true) (z2 : s0.heap.objs.size = m) (z3 : s0.heap.nsMap mainGlobals "__annotations__" = ann)
    (g : topRun tb p w m ann N s0 (topStub p) = some r) (hc : (staticsOk (importedModules p.main.body) s0.heap r.heap && namesBound p r.heap && gensDone r && laidKept s0.heap r.heap) = true) : topFrom tb p w N s0 = some r := by
  subst z2 z3
  unfold topFrom
  rw [z1, g]
  show (match staticsOk (importedModules p.main.body) s0.heap r.heap && namesBound p r.heap && gensDone r && laidKept s0.heap r.heap with | true => _ | false => _) = _
  rw [hc]
theorem left_of {tb : String → Option Builtin} {p : Program} {w : World} {N : Nat} {s0 r : Shared} {α : Type} {f : Shared → α} {a : α} (e : fencedOpening tb p w N = some s0) (t : topFrom tb p w N s0 = some r) (h : f r = a) : (openEnds tb p w N).map f = some a := by
  unfold openEnds
  rw [e]
  show (topFrom tb p w N s0).map f = _
  rw [t]
  exact congrArg some h
theorem cond_some {α : Type} {c : Bool} {x y : α} (h : (bif c then some x else none) = some y) : c = true ∧ x = y := by
  cases c with
  | false => cases h
  | true => exact ⟨rfl, Option.some.inj h⟩
theorem left_h : LeftO PP hd.view_39 [Str.ofString "Tree"] Xl (Hook.obs (kHook hd.heap_39 Kas Ke)) (Hook.val (kHook hd.heap_39 Kas Ke)) 3128 true := by
  intro w

  obtain ⟨⟨h, gs, d, k, os⟩, e, e'⟩ := Option.map_eq_some_iff.mp (boot_open (p := PP) (N := 3128) c_plain rfl (fun _ => by kernel_rfl) w)
  obtain ⟨rfl, rfl, rfl, rfl⟩ : h = boot_heap w.params ∧ gs = Array.mk [] ∧ d = boot_drawn ∧ k = boot_toks := by simpa only [Option.some.injEq, Prod.mk.injEq] using e'
  obtain ⟨z1, z2, z3⟩ := c_size' w
  obtain ⟨r, hr, hk⟩ := Option.bind_eq_some_iff.mp (c_three w os)
  obtain ⟨⟨sx, tx⟩, hx, h1⟩ := Option.bind_eq_some_iff.mp (c_one w os)
  have hT := c_pre w os
  rw [hx] at hT
  have hT' : tx = ⟨denote treeTable cE, cE, default, BB⟩ := Option.some.inj hT
  subst hT'
  have k2 := piece_app (c_two w os) hr
  have k1 := piece_app h1 (List.take_append_drop 3 (bE.drop 12) ▸ k2)
  have k0 := piece_block (c_block w sx) (List.take_append_drop 12 bE ▸ k1)
  have g : topRun treeTable PP w 11 (some (.ref 6)) 3128 ⟨boot_heap w.params, Array.mk [], boot_drawn, boot_toks, os⟩ (topStub PP) = some r := go_top hx k0
  obtain ⟨hc, hv⟩ := cond_some hk
  exact left_of e (topFrom_of z1 z2 z3 g hc) hv
section
/-- what a contract asks of the frames, the written part and the top -/
structure Cx (w : World) (mean : ExcName → Option Value) (mg mb : Str → Option Value) (cs : Scope) (A₀ : Around) (base : Heap) (outer : List Env) (h₀ : Heap) (L : Addr) (m : Str → Option Value) (h : Heap) : Prop where
  B : Below A₀ base outer h₀
  F : Fr h₀ L h m
  X : (hd.heap_39 w.params).In h₀
  T : Top hd.view_39 (looseW hd.view_39 [Str.ofString "Tree"]) mean mg mb h₀
  k : cs.kind = .function

theorem my_item {prog : Program} {w : World} {A : Around} {E : Value → Shared → Prop} {s : Shared} {h₀ : Heap} {L : Addr} {news : List (Addr × Obj)} {value slice : PySem.Expr} {l : Addr} {its : List Value} {nn : Nat} {k : Int} {u : Tok} {v : Value} {Q : Value → Shared → Prop}
    (N : News h₀ L s.heap news) (hm : (l, listOf its.toArray nn) ∈ news) (h0 : 0 ≤ k) (h1 : k < 2 ^ 62) (hx : its[k.toNat]? = some v) (h : Q v s)
    (hs : subscripted slice false (.ref l) (.int k u) = operate [.ref l, .int k u] (getItem (.ref l) (.int k u)) := by with_unfolding_all rfl) :
    wpAny (model prog w) A (subscriptTail value slice (.ref l) (.int k u)) Q E s := by
  have hl : s.heap.IsList l its.toArray := News.isList N hm
  exact tail_any hl.typeIs slot_list_getitem.lookup (wpAny_getItem_list hl h0 (by omega) (by simpa using hx) h) hs

theorem my_len {prog : Program} {w : World} {A : Around} {E : Value → Shared → Prop} {s : Shared} {h₀ : Heap} {L : Addr} {news : List (Addr × Obj)} {l : Addr} {its : List Value} {nn n : Nat} {Q : Value → Shared → Prop}
    (N : News h₀ L s.heap news) (hm : (l, listOf its.toArray nn) ∈ news) (hn : its.length = n) (hf : n < 2 ^ 30) (h : Q (.int (n : Int) (s.toks + 1)) { s with toks := s.toks + 1 + 1 }) :
    wpAny (model prog w) A (call (.builtin "len") [.ref l]) Q E s := by
  have hl : s.heap.IsList l its.toArray := News.isList N hm
  refine PySem.Calls.call_len_list hl (by rw [List.size_toArray]; omega) ?_
  rw [List.size_toArray, hn]; exact h
theorem ret_bool {h₀ : Heap} {L : Addr} {m : Str → Option Value} {news : List (Addr × Obj)} {s : Shared} {Q : Value → Shared → Prop} {h' : Heap} {tk' : Nat} {x y : Bool}
    (hret : ∀ (h' : Heap) (tk' : Nat), Fr h₀ L h' m → News h₀ L h' news → Q (.bool x) { s with heap := h', toks := tk' }) (F : Fr h₀ L h' m) (N : News h₀ L h' news) (e : y = x) : Q (.bool y) { s with heap := h', toks := tk' } := by
  subst e; exact hret h' tk' F N
theorem ret_str {h₀ : Heap} {L : Addr} {m : Str → Option Value} {news : List (Addr × Obj)} {s : Shared} {Q : Value → Shared → Prop} {h' : Heap} {t tk' : Nat} {x y : Str}
    (hret : ∀ (t : Tok) (h' : Heap) (tk' : Nat), Fr h₀ L h' m → News h₀ L h' news → Q (.str x t) { s with heap := h', toks := tk' }) (F : Fr h₀ L h' m) (N : News h₀ L h' news) (e : y = x) : Q (.str y t) { s with heap := h', toks := tk' } := by
  subst e; exact hret t h' tk' F N
section
variable {prog : Program} {w : World} {A : Around} {E : Value → Shared → Prop} {Q : Flow → Shared → Prop} {s : Shared} {env : Env} {h₀ : Heap} {L : Addr}
/-- a turn's end of a while of ours; KswEnd under a name that no line of the library takes -/
def MwEnd {σ : Type} (h₀ : Heap) (L : Addr) (s : Shared) (Led : σ → List (Addr × Obj)) (ps : σ → List (Str × Value)) (stored : List Str) (m₀ : Str → Option Value) (P : σ → Prop) (μ : σ → Nat) (c : σ) (s₂ : Shared) : Prop :=
  KswEnd h₀ L s Led ps (fun _ => True) stored m₀ P μ c s₂
def MwPost {σ : Type} (h₀ : Heap) (L : Addr) (s : Shared) (Led : σ → List (Addr × Obj)) (ps : σ → List (Str × Value)) (stored : List Str) (m₀ : Str → Option Value) (P : σ → Prop) (μ : σ → Nat) (Q : Flow → Shared → Prop) (c : σ) (f : Flow) (s₂ : Shared) : Prop :=
  match f with
  | .ret v => Q (.ret v) s₂
  | .brk => Q .next s₂
  | _ => MwEnd h₀ L s Led ps stored m₀ P μ c s₂
theorem kst_same {stored : List Str} {u m₀ : Str → Option Value} {z : Str} (h2 : stored.contains z = false) : ∀ {ps : List (Str × Value)}, (∀ p ∈ ps, z ≠ p.1) → kstB (fun z => if stored.contains z = true then u z else m₀ z) ps z = m₀ z
  | [], _ => by
    show (if stored.contains z = true then u z else m₀ z) = m₀ z
    rw [h2, if_neg Bool.false_ne_true]
  | p :: r, h1 => (if_neg (h1 p (List.mem_cons_self ..))).trans (kst_same h2 fun q hq => h1 q (List.mem_cons_of_mem _ hq))
theorem kst_same' {stored : List Str} {u m₀ : Str → Option Value} {z : Str} {ps ps' : List (Str × Value)} (h2 : stored.contains z = false) (h1 : ∀ p ∈ ps', z ≠ p.1) (hk : ps.map (·.1) = ps'.map (·.1)) : kstB (fun z => if stored.contains z = true then u z else m₀ z) ps z = m₀ z :=
  kst_same h2 fun p hp e => by
    have : p.1 ∈ ps'.map (·.1) := hk ▸ List.mem_map_of_mem hp
    obtain ⟨q, hq, hq2⟩ := List.mem_map.mp this
    exact h1 q hq (e.trans hq2.symm)
theorem ne_of_stored {stored : List Str} {z x : Str} (h2 : stored.contains z = false) (hx : stored.contains x = true) : z ≠ x := fun e => by
  subst e; rw [hx] at h2; cases h2
theorem mw_end {σ : Type} {Led : σ → List (Addr × Obj)} {ps : σ → List (Str × Value)} {stored : List Str} {m₀ m' : Str → Option Value} {P : σ → Prop} {μ : σ → Nat} {c : σ} {h' : Heap} {tk : Nat} {news' : List (Addr × Obj)} (c' : σ)
    (F : Fr h₀ L h' m') (N : News h₀ L h' news') (hn : ∀ p ∈ Led c', p ∈ news') (hk : ∀ p ∈ ps c', m' p.1 = some p.2) (hr : ∀ z, (∀ p ∈ ps c', z ≠ p.1) → stored.contains z = false → m' z = m₀ z) (hp : P c') (hm : μ c' < μ c) :
    MwEnd h₀ L s Led ps stored m₀ P μ c { s with heap := h', toks := tk } := ksw_end c' F N hn trivial hk hr hp hm
theorem my_while {σ : Type} {test : PySem.Expr} {body : List Stmt} {pos : Pos} {m₀ : Str → Option Value} (Led : σ → List (Addr × Obj)) (ps : σ → List (Str × Value)) (stored : List Str) (P : σ → Prop) (μ : σ → Nat) (c₀ : σ)
    (F : Fr h₀ L s.heap m₀) (N : News h₀ L s.heap (Led c₀)) (hk : ∀ p ∈ ps c₀, m₀ p.1 = some p.2) (hp : P c₀)
    (turn : ∀ (c : σ) (u : Str → Option Value) h tk, P c → Fr h₀ L h (kstB (fun z => if stored.contains z then u z else m₀ z) (ps c)) → News h₀ L h (Led c) →
      wpAny (model prog w) A (isTrue test env (eval test env)) (fun b s₂ =>
        if b = true then wpAny (model prog w) A (execs body env) (MwPost h₀ L s Led ps stored m₀ P μ Q c) E s₂ else Q .next s₂) E { s with heap := h, toks := tk })
    (hE : PassesOwn (model prog w) A env E) :
    wpAny (model prog w) A (exec (.While test body [] pos) env) Q E s := by
  refine ksw_while Led ps (fun _ => True) stored P μ c₀ F N trivial hk hp (fun c u h tk _ hP F' N' => ?_) hE
  refine wpAny_mono (turn c u h tk hP F' N') (fun b s₂ hb => ?_) fun _ _ x => x
  cases b with
  | false => exact hb
  | true =>
    simp only [if_true] at hb ⊢
    refine wpAny_mono hb (fun f s₃ q => ?_) fun _ _ x => x
    cases f <;> exact q
end
end
local macro_rules | `(tactic| walk_at "MwPost") => `(tactic| (dsimp only [MwPost]))
local macro_rules | `(tactic| k_get) => `(tactic| assumption)
local macro_rules | `(tactic| k_mem) => `(tactic| first | with_reducible assumption | exact List.mem_cons_self .. | (refine List.mem_cons_of_mem _ ?_; k_mem) | (refine List.mem_append.mpr (Or.inl ?_); k_mem))
local macro_rules | `(tactic| walk_at "subscriptTail") => `(tactic| (k_here; (with_reducible show wpAny _ _ (subscriptTail _ _ (Value.ref _) (Value.int _ _)) _ _ _); (with_unfolding_all refine' my_item ?k1 ?k2 ?k3 ?k4 ?k5 ?_ ?k6; (case k1 => k_asm); (case k2 => k_mem); (case k3 => first | with_reducible assumption | omega); (case k4 => first | with_reducible assumption | omega); (case k5 => with_reducible assumption); (case k6 => with_unfolding_all rfl); k_whole)))
local macro_rules | `(tactic| walk_at "call ref") => `(tactic| (k_here; (with_reducible show wpAny _ _ (call (Value.ref 207) _ _) _ _ _); (have hk9 : PySem.ScopeKind.function = PySem.ScopeKind.function := rfl); (refine wpAny_call ?_); k_dflt cell_enter))
local macro_rules | `(tactic| walk_at "call ref") => `(tactic| (k_here; (with_reducible show wpAny _ _ (call (Value.ref 423) _ _) _ _ _); (have hk9 : PySem.ScopeKind.function = PySem.ScopeKind.function := rfl); (refine wpAny_call ?_); k_dflt cell_enter))
local macro_rules | `(tactic| walk_at "call builtin:len") => `(tactic| (k_here; (with_reducible show wpAny _ _ (call (Value.builtin "len") [Value.ref _]) _ _ _); k_dflt (refine' my_len ?k1 ?k2 ?k3 ?k4 ?_; (case k1 => k_asm); (case k2 => k_mem); (case k3 => with_reducible assumption); (case k4 => with_reducible assumption); k_whole)))
local macro_rules | `(tactic| k_all) => `(tactic| with_reducible assumption)
local macro_rules | `(tactic| walk_at "call builtin:len") => `(tactic| k_extra "mylen")
local macro_rules | `(tactic| walk_at "call type:list") => `(tactic| k_extra "mylist")
local macro_rules | `(tactic| walk_at "call builtin:list.append") => `(tactic| k_extra "myapp")
local macro_rules | `(tactic| walk_at "setItem ref") => `(tactic| k_extra "myset")
local macro_rules | `(tactic| walk_at "call ref") => `(tactic| k_extra "mycall")
local macro_rules | `(tactic| walk_at "setAttr ref") => `(tactic| k_extra "myattr")
local macro_rules | `(tactic| walk_at "eval Call") => `(tactic| ((with_reducible show wpAny _ _ (eval (PySem.Expr.Call (PySem.Expr.Name _ _) _ [] _) _) _ _ _); k_dflt (refine Call_ ?_)))
def isH (sp nm' nm : Str) : Bool := (sp == Str.ofString "html") && (nm' == nm)
section
variable {w : World} {mean : ExcName → Option Value} {mg mb : Str → Option Value} {dp un : Nat} {gd : Option (List Code)} {cn : Str} {cs : Scope} {a : Addr} {ccd : Value} {cl : List (Str × Addr)} {outer : List Env} {A₀ : Around} {base h₀ : Heap} {L : Addr} {m : Str → Option Value} {s : Shared} {news : List (Addr × Obj)} {Q E : Value → Shared → Prop}
theorem isHtml_c {t dt spA nmA : Addr} {es : List DictEntry} {n sn nn : Nat} {svs nvs : List Value} {node : Int} {k1 k2 stk ntk : Tok} {nm sp nm' : Str}
    (C : Cx w mean mg mb cs A₀ base outer h₀ L m s.heap) (N : News h₀ L s.heap news) (hd : dp + 1 < recursionLimit) (hu : un + 8 < cLine)
    (ht : (t, instObj 383 dt) ∈ news) (hdt : (dt, dictOf es n) ∈ news) (hsp : getL (Str.ofString "spaces") es = some (some (.ref spA))) (hnm : getL (Str.ofString "names") es = some (some (.ref nmA)))
    (hspL : (spA, listOf svs.toArray sn) ∈ news) (hnmL : (nmA, listOf nvs.toArray nn) ∈ news)
    (h0 : 0 ≤ node) (h1 : node < 2 ^ 62) (hs : svs[node.toNat]? = some (.str sp stk)) (hn : nvs[node.toNat]? = some (.str nm' ntk))
    (ret : ∀ h' tk', Fr h₀ L h' m → News h₀ L h' news → Q (.bool (isH sp nm' nm)) { s with heap := h', toks := tk' }) :
    wpAny (model PySem.Challenge.rw_nt0607_01.row.prog w) (ktrTop dp un gd cn cs L a ccd cl outer) (call (.ref 380) [.ref t, .int node k1, .str nm k2]) Q E s := by
  obtain ⟨B, F, X, T, hk⟩ := C
  revert X; k_fill; intro X
  k_with_none
  w_top off
  refine wpAny_call ?_
  k_dflt cell_enter
  k_steps
  all_goals (refine ret_bool ret (by assumption) (by assumption) ?_; unfold isH; simp_all)
end
local macro_rules | `(tactic| walk_at "call ref") => `(tactic| (k_here; (with_reducible show wpAny _ _ (call (Value.ref 380) _ _) _ _ _); k_dflt (refine' isHtml_c ?C ?N ?hd ?hu ?ht ?hdt ?hsp ?hnm ?hspL ?hnmL ?h0 ?h1 ?hs ?hn ?_; (case C => exact ⟨by k_asm, by k_asm, by k_asm, by k_asm, by first | rfl | assumption⟩); (case N => k_asm); (case hd => ktr_room); (case hu => ktr_units); (case ht => k_mem); (case hdt => k_mem); (case hsp => with_reducible assumption); (case hnm => with_reducible assumption); (case hspL => k_mem); (case hnmL => k_mem); (case h0 => first | with_reducible assumption | omega); (case h1 => first | with_reducible assumption | omega); (case hs => with_reducible assumption); (case hn => with_reducible assumption); intro h' tk' F' N'; (try dsimp only); (try k_fold))))
def modeTab : List (Str × Str) := [(Str.ofString "td", Str.ofString "in cell"), (Str.ofString "th", Str.ofString "in cell"), (Str.ofString "tr", Str.ofString "in row"), (Str.ofString "tbody", Str.ofString "in table body"), (Str.ofString "thead", Str.ofString "in table body"), (Str.ofString "tfoot", Str.ofString "in table body"), (Str.ofString "caption", Str.ofString "in caption"), (Str.ofString "colgroup", Str.ofString "in column group"), (Str.ofString "table", Str.ofString "in table"), (Str.ofString "head", Str.ofString "in head"), (Str.ofString "body", Str.ofString "in body"), (Str.ofString "frameset", Str.ofString "in frameset")]
def modeIn (nm : Str) : List (Str × Str) → Str
  | [] => Str.ofString ""
  | p :: r => if p.1 == nm then p.2 else modeIn nm r
def modeOf (nm : Str) : Str := modeIn nm modeTab
theorem modeIn_look (nm : Str) : ∀ l : List (Str × Str), (Spec.lookup (PyData.str nm) (l.map fun p => (PyData.str p.1, PyData.str p.2))).getD (PyData.str (Str.ofString "")) = PyData.str (modeIn nm l)
  | [] => rfl
  | p :: r => by
    have ih := modeIn_look nm r
    have es : Spec.same (PyData.str p.1) (PyData.str nm) = (p.1 == nm) := rfl
    simp only [List.map_cons, Spec.lookup, modeIn, es]
    cases h : p.1 == nm with
    | true => rfl
    | false => simpa using ih
section
variable {w : World} {mean : ExcName → Option Value} {mg mb : Str → Option Value} {dp un : Nat} {gd : Option (List Code)} {cn : Str} {cs : Scope} {a : Addr} {ccd : Value} {cl : List (Str × Addr)} {outer : List Env} {A₀ : Around} {base h₀ : Heap} {L : Addr} {m : Str → Option Value} {s : Shared} {news : List (Addr × Obj)} {Q E : Value → Shared → Prop}
theorem modeOf_ret {v : Value} {nm : Str} {h' : Heap} {tk' : Nat} {news' : List (Addr × Obj)} (hv : PyProof.V.Flat v (PyData.str (modeOf nm)))
    (ret : ∀ (t : Tok) (h' : Heap) (tk' : Nat), Fr h₀ L h' m → News h₀ L h' news → Q (.str (modeOf nm) t) { s with heap := h', toks := tk' }) (F : Fr h₀ L h' m) (N : News h₀ L h' news') (hs : ∀ p ∈ news, p ∈ news') :
    Q v { s with heap := h', toks := tk' } := by
  obtain ⟨t, rfl⟩ := hv.str_inv
  exact ret _ _ _ F (fun p hp => N p (hs p hp))
theorem modeOf_c {k1 : Tok} {nm : Str}
    (C : Cx w mean mg mb cs A₀ base outer h₀ L m s.heap) (N : News h₀ L s.heap news) (hd : dp + 1 < recursionLimit) (hu : un + 8 < cLine)
    (ret : ∀ t h' tk', Fr h₀ L h' m → News h₀ L h' news → Q (.str (modeOf nm) t) { s with heap := h', toks := tk' }) :
    wpAny (model PySem.Challenge.rw_nt0607_01.row.prog w) (ktrTop dp un gd cn cs L a ccd cl outer) (call (.ref 28) [.str nm k1]) Q E s := by
  obtain ⟨B, F, X, T, hk⟩ := C
  revert X; k_fill; intro X
  k_with_none
  w_top off
  refine wpAny_call ?_
  k_dflt cell_enter
  k_steps
  rename PyProof.V.Flat _ _ => hv
  rename Fr h₀ L _ m => kF
  rename News h₀ L _ _ => kN
  exact modeOf_ret (Eq.mp (congrArg (PyProof.V.Flat _) (modeIn_look nm modeTab)) hv) ret kF kN (fun p hp => List.mem_cons_of_mem _ hp)
end
local macro_rules | `(tactic| walk_at "call ref") => `(tactic| (k_here; (with_reducible show wpAny _ _ (call (Value.ref 28) _ _) _ _ _); k_dflt (refine' modeOf_c ?C ?N ?hd ?hu ?_; (case C => exact ⟨by k_asm, by k_asm, by k_asm, by k_asm, by first | rfl | assumption⟩); (case N => k_asm); (case hd => ktr_room); (case hu => ktr_units); intro t' h' tk' F' N'; (try dsimp only); (try k_fold))))
/-- a node's value stands for a row (space, name) -/
def NodeIs (svs nvs : List Value) (v : Value) (r : Str × Str) : Prop :=
  ∃ node tk t1 t2, v = .int node tk ∧ 0 ≤ node ∧ node < 2 ^ 62 ∧ svs[node.toNat]? = some (.str r.1 t1) ∧ nvs[node.toNat]? = some (.str r.2 t2)
def StackIs (svs nvs ivs : List Value) (R : List (Str × Str)) : Prop :=
  ivs.length = R.length ∧ R.length < 2 ^ 30 ∧ ∀ i (hi : i < R.length), ∃ v, ivs[i]? = some v ∧ NodeIs svs nvs v R[i]
structure Bd (news : List (Addr × Obj)) (b db t dt st dst spA nmA itA : Addr) (eb et es : List DictEntry) (nb nt ns sn nn itn : Nat) (svs nvs ivs : List Value) : Prop where
  hb : (b, instObj 461 db) ∈ news
  hdb : (db, dictOf eb nb) ∈ news
  ht : (t, instObj 383 dt) ∈ news
  hdt : (dt, dictOf et nt) ∈ news
  hst : (st, instObj 266 dst) ∈ news
  hdst : (dst, dictOf es ns) ∈ news
  htree : getL (Str.ofString "tree") eb = some (some (.ref t))
  hstack : getL (Str.ofString "stack") eb = some (some (.ref st))
  hitems : getL (Str.ofString "items") es = some (some (.ref itA))
  hspaces : getL (Str.ofString "spaces") et = some (some (.ref spA))
  hnames : getL (Str.ofString "names") et = some (some (.ref nmA))
  nhtml : getL (Str.ofString "is_html") et = some none
  nmany : getL (Str.ofString "many") es = some none
  nto : getL (Str.ofString "to") eb = some none
  lsp : (spA, listOf svs.toArray sn) ∈ news
  lnm : (nmA, listOf nvs.toArray nn) ∈ news
  lit : (itA, listOf ivs.toArray itn) ∈ news
def selMode (R : List (Str × Str)) : Nat → Str
  | 0 => Str.ofString "in select"
  | n + 1 => match R[n]? with
    | none => Str.ofString "in select"
    | some r => if isH r.1 r.2 (Str.ofString "template") then Str.ofString "in select" else if isH r.1 r.2 (Str.ofString "table") then Str.ofString "in select in table" else selMode R n
theorem selMode_tpl {R : List (Str × Str)} {n : Nat} (h : n < R.length) (e : isH R[n].1 R[n].2 (Str.ofString "template") = true) : Str.ofString "in select" = selMode R (n + 1) := by
  simp only [selMode, List.getElem?_eq_getElem h, e, if_true]
theorem selMode_tab {R : List (Str × Str)} {n : Nat} (h : n < R.length) (e : isH R[n].1 R[n].2 (Str.ofString "template") = false) (e2 : isH R[n].1 R[n].2 (Str.ofString "table") = true) : Str.ofString "in select in table" = selMode R (n + 1) := by
  simp only [selMode, List.getElem?_eq_getElem h, e, e2, if_true, if_false]
  simp
theorem selMode_on {R : List (Str × Str)} {n : Nat} (h : n < R.length) (e : isH R[n].1 R[n].2 (Str.ofString "template") = false) (e2 : isH R[n].1 R[n].2 (Str.ofString "table") = false) : selMode R n = selMode R (n + 1) := by
  simp only [selMode, List.getElem?_eq_getElem h, e, e2, if_false]
  simp
section
variable {w : World} {mean : ExcName → Option Value} {mg mb : Str → Option Value} {dp un : Nat} {gd : Option (List Code)} {cn : Str} {cs : Scope} {a : Addr} {ccd : Value} {cl : List (Str × Addr)} {outer : List Env} {A₀ : Around} {base h₀ : Heap} {L : Addr} {m : Str → Option Value} {s : Shared} {news : List (Addr × Obj)} {Q E : Value → Shared → Prop}
variable {b db t dt st dst spA nmA itA : Addr} {eb et es : List DictEntry} {nb nt ns sn nn itn : Nat} {svs nvs ivs : List Value} {R : List (Str × Str)}
theorem selectMode_c {at_ : Int} {k1 : Tok}
    (C : Cx w mean mg mb cs A₀ base outer h₀ L m s.heap) (N : News h₀ L s.heap news) (hd : dp + 2 < recursionLimit) (hu : un + 16 < cLine)
    (D : Bd news b db t dt st dst spA nmA itA eb et es nb nt ns sn nn itn svs nvs ivs) (S : StackIs svs nvs ivs R) (h0 : 0 ≤ at_) (h1 : at_ ≤ R.length)
    (ret : ∀ t h' tk', Fr h₀ L h' m → News h₀ L h' news → Q (.str (selMode R at_.toNat) t) { s with heap := h', toks := tk' }) :
    wpAny (model PySem.Challenge.rw_nt0607_01.row.prog w) (ktrTop dp un gd cn cs L a ccd cl outer) (call (.ref 35) [.ref b, .int at_ k1]) Q E s := by
  obtain ⟨B, F, X, T, hk⟩ := C
  obtain ⟨hb, hdb, ht, hdt, hst, hdst, htree, hstack, hitems, hspaces, hnames, nhtml, nmany, nto, lsp, lnm, lit⟩ := D
  revert X; k_fill; intro X
  k_with_none
  w_top off
  refine wpAny_call ?_
  k_dflt cell_enter
  walk1
  walk1
  (with_unfolding_all refine' my_while (σ := Int × Nat) (fun _ => news) (fun c => [(Str.ofString "at", Value.int c.1 c.2)]) [Str.ofString "node"] (fun c => 0 ≤ c.1 ∧ c.1 ≤ at_ ∧ selMode R c.1.toNat = selMode R at_.toNat) (fun c => c.1.toNat) (at_, k1) ?kF ?kN ?kk ?kp ?_ ?kE)
  (case kF => k_asm)
  (case kN => k_asm)
  (case kk => (intro p hp; rw [List.mem_singleton.mp hp]; rfl))
  (case kp => exact ⟨h0, Int.le_refl _, rfl⟩)
  (case kE => first | passes_own | with_unfolding_all passes_own)
  intro c u hh tk9 hP F9 N9
  obtain ⟨ci, ct⟩ := c
  obtain ⟨hc0, hc1, hsel⟩ := hP
  dsimp only at hc0 hc1 hsel F9 N9
  k_fold
  refine Or.elim (Int.lt_or_le 0 ci) (fun hpos => ?_) (fun hneg => ?_)
  obtain ⟨n, hn⟩ : ∃ n : Nat, ci = (n : Int) + 1 := ⟨(ci - 1).toNat, by omega⟩
  have hlt : n < R.length := by omega
  obtain ⟨v, hv, node, tkn, t1, t2, hve, hn0, hn1, hs1, hs2⟩ := S.2.2 n hlt
  subst hve
  have hb0 : 0 ≤ ci - 1 := by omega
  have hb1 : ci - 1 < 2 ^ 62 := by have := S.2.1; omega
  have hv9 : ivs[(ci - 1).toNat]? = some (.int node tkn) := by rw [show (ci - 1).toNat = n by omega]; exact hv
  have hsel9 : selMode R (n + 1) = selMode R at_.toNat := by rw [← hsel]; congr 1; omega
  all_goals k_steps
  · refine ret_str ret (by assumption) (by assumption) ?_
    rw [← hsel9]; exact selMode_tpl hlt (by assumption)
  · refine ret_str ret (by assumption) (by assumption) ?_
    rw [← hsel9]; exact selMode_tab hlt (by assumption) (by assumption)
  · refine' mw_end (ci - 1, _) ?kF ?kN ?kn ?kk ?kr ?kp ?km
    (case kF => assumption)
    (case kN => assumption)
    (case kn => exact fun _ hp => hp)
    (case kk => (intro p hp; rw [List.mem_singleton.mp hp]; rfl))
    (case kr => intro z h1 h2; refine (if_neg (ne_of_stored h2 (by decide))).trans ((if_neg ?_).trans (kst_same' h2 h1 rfl)); exact h1 _ (List.mem_cons_self ..))
    (case kp => exact ⟨by show 0 ≤ ci - 1; omega, by show ci - 1 ≤ at_; omega, by rw [← hsel9, show ((ci - 1, _) : Int × Nat).1.toNat = n from (by show (ci - 1).toNat = n; omega)]; exact selMode_on hlt (by assumption) (by assumption)⟩)
    (case km => show (ci - 1).toNat < ci.toNat; omega)
  · refine ret_str ret (by assumption) (by assumption) ?_
    rw [← hsel, show ci.toNat = 0 by omega]; rfl
end
local macro_rules | `(tactic| walk_at "call ref") => `(tactic| (k_here; (with_reducible show wpAny _ _ (call (Value.ref 35) _ _) _ _ _); k_dflt (refine' selectMode_c ?C ?N ?hd ?hu ?D ?S ?h0 ?h1 ?_; (case C => exact ⟨by k_asm, by k_asm, by k_asm, by k_asm, by first | rfl | assumption⟩); (case N => k_asm); (case D => with_reducible assumption); (case S => with_reducible assumption); (case h0 => first | with_reducible assumption | omega); (case h1 => first | with_reducible assumption | omega); (case hd => ktr_room); (case hu => ktr_units); intro t' h' tk' F' N'; (try dsimp only); (try k_fold))))
theorem last_ix {α : Type} {l : List α} {x : α} (h1 : 0 < l.length) (h : l[l.length - 1]? = some x) : l[((-1 : Int) + (l.length : Int)).toNat]? = some x := by
  rw [show ((-1 : Int) + (l.length : Int)).toNat = l.length - 1 by omega]; exact h
/-- the template modes: a list of texts, its last told -/
structure Md (news : List (Addr × Obj)) (eb : List DictEntry) (moA : Addr) (mvs : List Value) (mn : Nat) (top : Str) (hv : Int) : Prop where
  hmodes : getL (Str.ofString "modes") eb = some (some (.ref moA))
  lmo : (moA, listOf mvs.toArray mn) ∈ news
  mpos : 0 < mvs.length
  mfit : mvs.length < 2 ^ 30
  mlast : ∃ t, mvs[((-1 : Int) + (mvs.length : Int)).toNat]? = some (.str top t)
  mneg : -(mvs.length : Int) ≤ (-1 : Int)
  hhead : ∃ t, getL (Str.ofString "head") eb = some (some (.int hv t))
def modeFor (R : List (Str × Str)) (top : Str) (hh : Bool) (r : Str × Str) (at_ : Nat) : Str :=
  if (r.1 != Str.ofString "html") = true then Str.ofString ""
  else if (r.2 == Str.ofString "select") = true then selMode R at_
  else if (r.2 == Str.ofString "template") = true then top
  else if (r.2 == Str.ofString "html") = true then (if hh then Str.ofString "after head" else Str.ofString "before head")
  else if at_ = 0 ∧ ([Str.ofString "td", Str.ofString "th", Str.ofString "head"].any fun x => x == r.2) = true then Str.ofString ""
  else modeOf r.2
section
variable {R : List (Str × Str)} {top : Str} {hh : Bool} {hv : Int} {r : Str × Str} {n : Nat} {at_ : Int}
theorem modeFor_1 (h : (r.1 != Str.ofString "html") = true) : Str.ofString "" = modeFor R top hh r n := by rw [modeFor, if_pos h]
theorem modeFor_2 (h : (r.1 != Str.ofString "html") = false) (h2 : (r.2 == Str.ofString "select") = true) : selMode R n = modeFor R top hh r n := by rw [modeFor, if_neg (by rw [h]; decide), if_pos h2]
theorem modeFor_3 (h : (r.1 != Str.ofString "html") = false) (h2 : (r.2 == Str.ofString "select") = false) (h3 : (r.2 == Str.ofString "template") = true) : top = modeFor R top hh r n := by rw [modeFor, if_neg (by rw [h]; decide), if_neg (by rw [h2]; decide), if_pos h3]
theorem modeFor_4 (h : (r.1 != Str.ofString "html") = false) (h2 : (r.2 == Str.ofString "select") = false) (h3 : (r.2 == Str.ofString "template") = false) (h4 : (r.2 == Str.ofString "html") = true) :
    modeFor R top hh r n = if hh then Str.ofString "after head" else Str.ofString "before head" := by rw [modeFor, if_neg (by rw [h]; decide), if_neg (by rw [h2]; decide), if_neg (by rw [h3]; decide), if_pos h4]
theorem modeFor_4a (h : (r.1 != Str.ofString "html") = false) (h2 : (r.2 == Str.ofString "select") = false) (h3 : (r.2 == Str.ofString "template") = false) (h4 : (r.2 == Str.ofString "html") = true) (h5 : hv = -1) :
    Str.ofString "before head" = modeFor R top (hv != -1) r n := by rw [modeFor_4 h h2 h3 h4, h5]; rfl
theorem modeFor_4b (h : (r.1 != Str.ofString "html") = false) (h2 : (r.2 == Str.ofString "select") = false) (h3 : (r.2 == Str.ofString "template") = false) (h4 : (r.2 == Str.ofString "html") = true) (h5 : hv ≠ -1) :
    Str.ofString "after head" = modeFor R top (hv != -1) r n := by rw [modeFor_4 h h2 h3 h4, if_pos (by simpa using h5)]
theorem modeFor_5 (h : (r.1 != Str.ofString "html") = false) (h2 : (r.2 == Str.ofString "select") = false) (h3 : (r.2 == Str.ofString "template") = false) (h4 : (r.2 == Str.ofString "html") = false) :
    modeFor R top hh r n = if n = 0 ∧ ([Str.ofString "td", Str.ofString "th", Str.ofString "head"].any fun x => x == r.2) = true then Str.ofString "" else modeOf r.2 := by rw [modeFor, if_neg (by rw [h]; decide), if_neg (by rw [h2]; decide), if_neg (by rw [h3]; decide), if_neg (by rw [h4]; decide)]
theorem modeFor_5a (h : (r.1 != Str.ofString "html") = false) (h2 : (r.2 == Str.ofString "select") = false) (h3 : (r.2 == Str.ofString "template") = false) (h4 : (r.2 == Str.ofString "html") = false) (h5 : at_ = 0)
    (h6 : ([Str.ofString "td", Str.ofString "th", Str.ofString "head"].any fun x => x == r.2) = true) : Str.ofString "" = modeFor R top hh r at_.toNat := by rw [modeFor_5 h h2 h3 h4, if_pos ⟨by omega, h6⟩]
theorem modeFor_5b (h : (r.1 != Str.ofString "html") = false) (h2 : (r.2 == Str.ofString "select") = false) (h3 : (r.2 == Str.ofString "template") = false) (h4 : (r.2 == Str.ofString "html") = false)
    (h6 : ([Str.ofString "td", Str.ofString "th", Str.ofString "head"].any fun x => x == r.2) = false) : modeOf r.2 = modeFor R top hh r n := by rw [modeFor_5 h h2 h3 h4, if_neg (by rw [h6]; simp)]
theorem modeFor_5c (h : (r.1 != Str.ofString "html") = false) (h2 : (r.2 == Str.ofString "select") = false) (h3 : (r.2 == Str.ofString "template") = false) (h4 : (r.2 == Str.ofString "html") = false) (h5 : at_ ≠ 0) (h0 : 0 ≤ at_) :
    modeOf r.2 = modeFor R top hh r at_.toNat := by rw [modeFor_5 h h2 h3 h4, if_neg (by omega)]
end
section
variable {w : World} {mean : ExcName → Option Value} {mg mb : Str → Option Value} {dp un : Nat} {gd : Option (List Code)} {cn : Str} {cs : Scope} {a : Addr} {ccd : Value} {cl : List (Str × Addr)} {outer : List Env} {A₀ : Around} {base h₀ : Heap} {L : Addr} {m : Str → Option Value} {s : Shared} {news : List (Addr × Obj)} {Q E : Value → Shared → Prop}
variable {b db t dt st dst spA nmA itA moA : Addr} {eb et es : List DictEntry} {nb nt ns sn nn itn mn : Nat} {svs nvs ivs mvs : List Value} {R : List (Str × Str)} {top : Str} {hv : Int} {r : Str × Str}
theorem modeFor_c {at_ node : Int} {k1 k2 : Tok}
    (C : Cx w mean mg mb cs A₀ base outer h₀ L m s.heap) (N : News h₀ L s.heap news) (hd : dp + 3 < recursionLimit) (hu : un + 24 < cLine)
    (D : Bd news b db t dt st dst spA nmA itA eb et es nb nt ns sn nn itn svs nvs ivs) (M : Md news eb moA mvs mn top hv) (S : StackIs svs nvs ivs R) (h0 : 0 ≤ at_) (h1 : at_ ≤ R.length) (V : NodeIs svs nvs (.int node k2) r)
    (ret : ∀ t h' tk', Fr h₀ L h' m → News h₀ L h' news → Q (.str (modeFor R top (hv != -1) r at_.toNat) t) { s with heap := h', toks := tk' }) :
    wpAny (model PySem.Challenge.rw_nt0607_01.row.prog w) (ktrTop dp un gd cn cs L a ccd cl outer) (call (.ref 42) [.ref b, .int node k2, .int at_ k1]) Q E s := by
  obtain ⟨B, F, X, T, hk⟩ := C
  obtain ⟨hb, hdb, ht, hdt, hst, hdst, htree, hstack, hitems, hspaces, hnames, nhtml, nmany, nto, lsp, lnm, lit⟩ := id D
  obtain ⟨hmodes, lmo, mpos, mfit, ⟨mt, mlast⟩, mneg, ⟨hht, hhead⟩⟩ := id M
  obtain ⟨node', k2', t1, t2, hve, hn0, hn1, hs1, hs2⟩ := V
  cases hve
  revert X; k_fill; intro X
  k_with_none
  w_top off
  k_with "subscriptTail" => (with_unfolding_all refine' kim_back ?k1 ?k2 ?k3 ?k4 ?k5 ?k6 ?k7 ?k8 ?_ ?k9 ?kA; (case k1 => k_asm); (case k2 => exact lmo); (case k3 => exact rfl); (case k4 => exact rfl); (case k5 => decide); (case k6 => exact mneg); (case k7 => decide); (case k8 => exact mlast); (case k9 => with_unfolding_all rfl); (case kA => (intro _; with_unfolding_all rfl)))
  refine wpAny_call ?_
  k_dflt cell_enter
  k_steps
  all_goals (refine ret_str ret (by assumption) (by first | assumption | exact cb_drop (by assumption) (fun _ hp => List.mem_cons_of_mem _ hp)) ?_; first
    | exact modeFor_1 (by assumption) | exact modeFor_2 (by assumption) (by assumption) | exact modeFor_3 (by assumption) (by assumption) (by assumption)
    | exact modeFor_4a (by assumption) (by assumption) (by assumption) (by assumption) (by assumption) | exact modeFor_4b (by assumption) (by assumption) (by assumption) (by assumption) (by assumption)
    | exact modeFor_5a (by assumption) (by assumption) (by assumption) (by assumption) (by assumption) (by assumption) | exact modeFor_5b (by assumption) (by assumption) (by assumption) (by assumption) (by assumption)
    | exact modeFor_5c (by assumption) (by assumption) (by assumption) (by assumption) (by assumption) (by assumption))
end
local macro_rules | `(tactic| walk_at "call ref") => `(tactic| (k_here; (with_reducible show wpAny _ _ (call (Value.ref 42) _ _) _ _ _); k_dflt (refine' modeFor_c ?C ?N ?hd ?hu ?D ?M ?S ?h0 ?h1 ?V ?_; (case C => exact ⟨by k_asm, by k_asm, by k_asm, by k_asm, by first | rfl | assumption⟩); (case N => k_asm); (case D => with_reducible assumption); (case M => with_reducible assumption); (case S => with_reducible assumption); (case h0 => first | with_reducible assumption | omega); (case h1 => first | with_reducible assumption | omega); (case V => with_reducible assumption); (case hd => ktr_room); (case hu => ktr_units); intro t' h' tk' F' N'; (try dsimp only); (try k_fold))))
def rowAt (R : List (Str × Str)) (c : Option (Str × Str)) (n : Nat) : Str × Str :=
  match c with
  | none => R.getD n (Str.ofString "", Str.ofString "")
  | some r => if n = 0 then r else R.getD n (Str.ofString "", Str.ofString "")
def search (R : List (Str × Str)) (c : Option (Str × Str)) (top : Str) (hh : Bool) : Nat → Str
  | 0 => Str.ofString "in body"
  | n + 1 => if (modeFor R top hh (rowAt R c n) n == Str.ofString "") = true then search R c top hh n else modeFor R top hh (rowAt R c n) n
structure Cn (eb : List DictEntry) (svs nvs : List Value) (cv : Int) (c : Option (Str × Str)) : Prop where
  hctx : ∃ t, getL (Str.ofString "context") eb = some (some (.int cv t))
  hnone : c = none → cv = -1
  hsome : ∀ r, c = some r → cv ≠ -1 ∧ ∀ t, NodeIs svs nvs (.int cv t) r
theorem NodeIs.any {svs nvs : List Value} {n : Int} {t t' : Tok} {r : Str × Str} (h : NodeIs svs nvs (.int n t) r) : NodeIs svs nvs (.int n t') r := by
  obtain ⟨n', k, t1, t2, e, r⟩ := h
  cases e
  exact ⟨_, _, _, _, rfl, r⟩
section
variable {R : List (Str × Str)} {c : Option (Str × Str)} {top : Str} {hh : Bool} {ci : Int} {md : Str} {n : Nat} {r : Str × Str}
theorem search_step (hci : ci = (n : Int)) (hm : (md == Str.ofString "") = true) (hsel : (if (md == Str.ofString "") = true then search R c top hh (ci + 1).toNat else md) = search R c top hh R.length) (e : rowAt R c n = r) :
    (if (modeFor R top hh r ci.toNat == Str.ofString "") = true then search R c top hh (ci - 1 + 1).toNat else modeFor R top hh r ci.toNat) = search R c top hh R.length := by
  rw [if_pos hm] at hsel
  rw [← hsel, show (ci + 1).toNat = n + 1 by omega, search, e, show ci.toNat = n by omega, show (ci - 1 + 1).toNat = n by omega]
theorem search_low (hci : ci < 0) (hm : (md == Str.ofString "") = true) (hsel : (if (md == Str.ofString "") = true then search R c top hh (ci + 1).toNat else md) = search R c top hh R.length) : Str.ofString "in body" = search R c top hh R.length := by
  rw [if_pos hm] at hsel
  rw [← hsel, show (ci + 1).toNat = 0 by omega]; rfl
theorem search_hit (hm : (md == Str.ofString "") = false) (hsel : (if (md == Str.ofString "") = true then search R c top hh (ci + 1).toNat else md) = search R c top hh R.length) : md = search R c top hh R.length := by
  rw [if_neg (by rw [hm]; decide)] at hsel; exact hsel
theorem row_none (h : n < R.length) : rowAt R none n = R[n] := by
  show R.getD n _ = _
  rw [List.getD_eq_getElem?_getD, List.getElem?_eq_getElem h]; rfl
theorem row_some (h : n < R.length) (h0 : ci ≠ 0) (hci : ci = (n : Int)) : rowAt R (some r) n = R[n] := by
  show (if n = 0 then r else R.getD n _) = _
  rw [if_neg (by omega), List.getD_eq_getElem?_getD, List.getElem?_eq_getElem h]; rfl
theorem row_zero (h0 : ci = 0) (hci : ci = (n : Int)) : rowAt R (some r) n = r := by
  show (if n = 0 then r else R.getD n _) = _
  rw [if_pos (by omega)]
end
section
variable {w : World} {mean : ExcName → Option Value} {mg mb : Str → Option Value} {dp un : Nat} {gd : Option (List Code)} {cn : Str} {cs : Scope} {a : Addr} {ccd : Value} {cl : List (Str × Addr)} {outer : List Env} {A₀ : Around} {base h₀ : Heap} {L : Addr} {m : Str → Option Value} {s : Shared} {rest : List (Addr × Obj)} {Q E : Value → Shared → Prop}
variable {b db t dt st dst spA nmA itA moA : Addr} {eb et es : List DictEntry} {nb nt ns sn nn itn mn : Nat} {svs nvs ivs mvs : List Value} {R : List (Str × Str)} {top : Str} {hv cv : Int} {c : Option (Str × Str)}
theorem reset_ret {x : Str} {tkm tkv : Tok} {h' : Heap} {tk' : Nat} {v : Str}
    (ret : ∀ tkm tkv h' tk', Fr h₀ L h' m → News h₀ L h' ((db, dictOf (putL (Str.ofString "mode") (PyData.keyHash w.params (Str.ofString "mode")) (.str (Str.ofString "mode") tkm) (.str v tkv) eb) (putN (Str.ofString "mode") eb nb)) :: rest) → Q .none { s with heap := h', toks := tk' })
    (F : Fr h₀ L h' m) (N : News h₀ L h' ((db, dictOf (putL (Str.ofString "mode") (PyData.keyHash w.params (Str.ofString "mode")) (.str (Str.ofString "mode") tkm) (.str x tkv) eb) (putN (Str.ofString "mode") eb nb)) :: rest)) (e : x = v) :
    Q .none { s with heap := h', toks := tk' } := by
  subst e; exact ret _ _ _ _ F N
theorem reset_off {stored : List Str} {u m₀ : Str → Option Value} {z : Str} {p1 p2 : Value} (n1 : z ≠ Str.ofString "at") (n2 : z ≠ Str.ofString "mode") (h2 : stored.contains z = false) :
    kstB (fun z => if stored.contains z = true then u z else m₀ z) [(Str.ofString "at", p1), (Str.ofString "mode", p2)] z = m₀ z :=
  kst_same h2 fun p hp => by
    rcases List.mem_cons.mp hp with rfl | hp
    · exact n1
    · rw [List.mem_singleton.mp hp]; exact n2
theorem reset_turn {md' : Str} {ci : Int} {ct mt ct' mt' : Nat} {md top : Str} {hh : Bool} {m₀ m' : Str → Option Value} {news : List (Addr × Obj)} {h' : Heap} {tk' : Nat}
    (F : Fr h₀ L h' (fun y => if y = Str.ofString "at" then some (.int (ci - 1) ct') else if y = Str.ofString "mode" then some (.str md' mt') else m' y)) (N : News h₀ L h' news) (hc : 0 ≤ ci) (hl : ci < R.length)
    (hm' : ∀ z, z ≠ Str.ofString "at" → z ≠ Str.ofString "mode" → ([Str.ofString "node"] : List Str).contains z = false → m' z = m₀ z)
    (e : (if (md' == Str.ofString "") = true then search R c top hh (ci - 1 + 1).toNat else md') = search R c top hh R.length) :
    MwEnd h₀ L s (fun (_ : (Int × Nat) × (Str × Nat)) => news) (fun c => [(Str.ofString "at", Value.int c.1.1 c.1.2), (Str.ofString "mode", Value.str c.2.1 c.2.2)]) [Str.ofString "node"] m₀ (fun x => -1 ≤ x.1.1 ∧ x.1.1 < R.length ∧ (if (x.2.1 == Str.ofString "") = true then search R c top hh (x.1.1 + 1).toNat else x.2.1) = search R c top hh R.length) (fun x => (x.1.1 + 1).toNat) ((ci, ct), (md, mt)) { s with heap := h', toks := tk' } := by
  refine mw_end ((ci - 1, ct'), (md', mt')) F N (fun _ hp => hp) ?_ ?_ ⟨by show -1 ≤ ci - 1; omega, by show ci - 1 < _; omega, e⟩ (by show (ci - 1 + 1).toNat < (ci + 1).toNat; omega)
  · intro p hp
    rcases List.mem_cons.mp hp with rfl | hp
    · rfl
    · rw [List.mem_singleton.mp hp]; rfl
  · intro z h1 h2
    have n1 : z ≠ Str.ofString "at" := h1 _ (List.mem_cons_self ..)
    have n2 : z ≠ Str.ofString "mode" := h1 _ (List.mem_cons_of_mem _ (List.mem_cons_self ..))
    exact (if_neg n1).trans ((if_neg n2).trans (hm' z n1 n2 h2))
theorem resetMode_c
    (C : Cx w mean mg mb cs A₀ base outer h₀ L m s.heap) (N : News h₀ L s.heap ((db, dictOf eb nb) :: rest)) (hd : dp + 4 < recursionLimit) (hu : un + 32 < cLine)
    (D : Bd ((db, dictOf eb nb) :: rest) b db t dt st dst spA nmA itA eb et es nb nt ns sn nn itn svs nvs ivs) (M : Md ((db, dictOf eb nb) :: rest) eb moA mvs mn top hv) (S : StackIs svs nvs ivs R) (K : Cn eb svs nvs cv c)
    (hne : ∀ p ∈ rest, p.1 ≠ db) (hmode : (getL (Str.ofString "mode") eb).isSome = true) (hlen : ∀ hsh k v, (putL (Str.ofString "mode") hsh k v eb).length ≤ 1000)
    (ret : ∀ tkm tkv h' tk', Fr h₀ L h' m → News h₀ L h' ((db, dictOf (putL (Str.ofString "mode") (PyData.keyHash w.params (Str.ofString "mode")) (.str (Str.ofString "mode") tkm) (.str (search R c top (hv != -1) R.length) tkv) eb) (putN (Str.ofString "mode") eb nb)) :: rest) →
      Q .none { s with heap := h', toks := tk' }) :
    wpAny (model PySem.Challenge.rw_nt0607_01.row.prog w) (ktrTop dp un gd cn cs L a ccd cl outer) (call (.ref 49) [.ref b]) Q E s := by
  obtain ⟨B, F, X, T, hk⟩ := C
  obtain ⟨hb, hdb, ht, hdt, hst, hdst, htree, hstack, hitems, hspaces, hnames, nhtml, nmany, nto, lsp, lnm, lit⟩ := id D
  obtain ⟨⟨ctk, hctx⟩, hnone, hsome⟩ := K
  obtain ⟨hil, hir, hiv⟩ := id S
  revert X; k_fill; intro X
  k_with_none
  w_top off
  refine wpAny_call ?_
  k_dflt cell_enter
  iterate 33 walk1
  (with_unfolding_all refine' my_while (σ := (Int × Nat) × (Str × Nat)) (fun _ => (db, dictOf eb nb) :: rest) (fun c => [(Str.ofString "at", Value.int c.1.1 c.1.2), (Str.ofString "mode", Value.str c.2.1 c.2.2)]) [Str.ofString "node"] (fun x => -1 ≤ x.1.1 ∧ x.1.1 < R.length ∧ (if (x.2.1 == Str.ofString "") = true then search R c top (hv != -1) (x.1.1 + 1).toNat else x.2.1) = search R c top (hv != -1) R.length) (fun x => (x.1.1 + 1).toNat) ((_, _), (_, _)) ?kF ?kN ?kk ?kp ?_ ?kE)
  (case kF => k_asm)
  (case kN => k_asm)
  (case kk => (intro p hp; rcases List.mem_cons.mp hp with rfl | hp; (exact rfl); rw [List.mem_singleton.mp hp]; rfl))
  (case kp => exact ⟨by dsimp only; omega, by dsimp only; omega, by dsimp only; rw [if_pos (by decide)]; congr 1; omega⟩)
  (case kE => first | passes_own | with_unfolding_all passes_own)
  intro x u hh tk9 hP F9 N9
  obtain ⟨⟨ci, ct⟩, ⟨md, mt⟩⟩ := x
  obtain ⟨hc0, hc1, hsel⟩ := hP
  dsimp only at hc0 hc1 hsel F9 N9
  k_fold
  k_with "setAttr ref" => (refine' set_dict ?k1 ?k2 ?k3 ?k4 ?k5 ?k6 ?k7 ?k8 ?k9 ?k10 ?k11 ?k12 ?k13 ?_; (case k1 => k_asm); (case k2 => k_asm); (case k3 => k_asm); (case k4 => k_inst); (case k5 => exact rfl); (case k6 => k_is); (case k7 => k_is); (case k8 => k_is); (case k9 => k_is); (case k10 => exact hmode); (case k11 => exact rfl); (case k12 => exact Upd.head hne); (case k13 => exact hlen _ _ _); k_whole; intro h' F' N'; (try k_sweep))
  refine Or.elim (Int.lt_or_le ci 0) (fun hneg => ?_) (fun hpos => ?_)
  rotate_left
  obtain ⟨n, hn⟩ : ∃ n : Nat, ci = (n : Int) := ⟨ci.toNat, by omega⟩
  have hlt : n < R.length := by omega
  have hb1 : ci < 2 ^ 62 := by omega
  have hle : ci ≤ R.length := by omega
  obtain ⟨v, hv0, hV0⟩ := hiv n hlt
  obtain ⟨node, tkn, t1, t2, hve, hn0, hn1, hs1, hs2⟩ := id hV0
  subst hve
  have hv9 : ivs[ci.toNat]? = some (.int node tkn) := by rw [show ci.toNat = n by omega]; exact hv0
  cases c with
  | none =>
    have hcv : cv = -1 := hnone rfl
    subst hcv
    k_steps
    · refine reset_turn (by assumption) (by assumption) hpos (by omega) (fun z n1 n2 h2 => ?_) (search_step hn (by assumption) hsel (row_none hlt))
      exact (if_neg (ne_of_stored h2 (by decide))).trans (reset_off n1 n2 h2)
    · refine reset_turn (by assumption) (by assumption) hpos (by omega) (fun z n1 n2 h2 => ?_) (search_step hn (by assumption) hsel (row_none hlt))
      exact (if_neg (ne_of_stored h2 (by decide))).trans (reset_off n1 n2 h2)
    · exact reset_ret ret (by assumption) (by assumption) (search_hit (by assumption) hsel)
  | some rc =>
    obtain ⟨hcv, hVc0⟩ := hsome rc rfl
    have hVc := hVc0 ctk
    k_steps
    · refine reset_turn (by assumption) (by assumption) hpos (by omega) (fun z n1 n2 h2 => ?_) (search_step hn (by assumption) hsel (row_zero (by assumption) hn))
      exact (if_neg (ne_of_stored h2 (by decide))).trans ((if_neg (ne_of_stored h2 (by decide))).trans (reset_off n1 n2 h2))
    · exact absurd (by assumption) hcv
    · refine reset_turn (by assumption) (by assumption) hpos (by omega) (fun z n1 n2 h2 => ?_) (search_step hn (by assumption) hsel (row_some hlt (by assumption) hn))
      exact (if_neg (ne_of_stored h2 (by decide))).trans (reset_off n1 n2 h2)
    · exact reset_ret ret (by assumption) (by assumption) (search_hit (by assumption) hsel)
  all_goals k_steps
  · exact reset_ret ret (by assumption) (by assumption) (search_low hneg (by assumption) hsel)
  · exact reset_ret ret (by assumption) (by assumption) (search_hit (by assumption) hsel)
end
def lawMode (nm : Str) : Str :=
  if ([Str.ofString "th", Str.ofString "td"].any fun x => x == nm) = true then Str.ofString "in cell"
  else if ([Str.ofString "tfoot", Str.ofString "thead", Str.ofString "tbody"].any fun x => x == nm) = true then Str.ofString "in table body"
  else if (nm == Str.ofString "colgroup") = true then Str.ofString "in column group"
  else if (nm == Str.ofString "tr") = true then Str.ofString "in row"
  else if ([Str.ofString "frameset", Str.ofString "body", Str.ofString "head", Str.ofString "table", Str.ofString "caption"].any fun x => x == nm) = true then Str.ofString "in " ++ nm
  else Str.ofString ""
section
variable {nm : Str}
theorem in_short (h : ([Str.ofString "frameset", Str.ofString "body", Str.ofString "head", Str.ofString "table", Str.ofString "caption"].any fun x => x == nm) = true) : (Str.ofString "in ").length + nm.length ≤ sizeLine := by
  obtain ⟨x, hx, e⟩ := List.any_eq_true.mp h
  obtain rfl := eq_of_beq e
  simp only [List.mem_cons, List.not_mem_nil, or_false] at hx
  rcases hx with rfl | rfl | rfl | rfl | rfl <;> decide +kernel
theorem lawMode_1 (h : ([Str.ofString "th", Str.ofString "td"].any fun x => x == nm) = true) : Str.ofString "in cell" = lawMode nm := by rw [lawMode, if_pos h]
theorem lawMode_2 (h : ([Str.ofString "th", Str.ofString "td"].any fun x => x == nm) = false) (h2 : ([Str.ofString "tfoot", Str.ofString "thead", Str.ofString "tbody"].any fun x => x == nm) = true) : Str.ofString "in table body" = lawMode nm := by
  rw [lawMode, if_neg (by rw [h]; decide), if_pos h2]
theorem lawMode_3 (h : ([Str.ofString "th", Str.ofString "td"].any fun x => x == nm) = false) (h2 : ([Str.ofString "tfoot", Str.ofString "thead", Str.ofString "tbody"].any fun x => x == nm) = false) (h3 : (nm == Str.ofString "colgroup") = true) : Str.ofString "in column group" = lawMode nm := by
  rw [lawMode, if_neg (by rw [h]; decide), if_neg (by rw [h2]; decide), if_pos h3]
theorem lawMode_4 (h : ([Str.ofString "th", Str.ofString "td"].any fun x => x == nm) = false) (h2 : ([Str.ofString "tfoot", Str.ofString "thead", Str.ofString "tbody"].any fun x => x == nm) = false) (h3 : (nm == Str.ofString "colgroup") = false) (h4 : (nm == Str.ofString "tr") = true) : Str.ofString "in row" = lawMode nm := by
  rw [lawMode, if_neg (by rw [h]; decide), if_neg (by rw [h2]; decide), if_neg (by rw [h3]; decide), if_pos h4]
theorem lawMode_5 (h : ([Str.ofString "th", Str.ofString "td"].any fun x => x == nm) = false) (h2 : ([Str.ofString "tfoot", Str.ofString "thead", Str.ofString "tbody"].any fun x => x == nm) = false) (h3 : (nm == Str.ofString "colgroup") = false) (h4 : (nm == Str.ofString "tr") = false)
    (h5 : ([Str.ofString "frameset", Str.ofString "body", Str.ofString "head", Str.ofString "table", Str.ofString "caption"].any fun x => x == nm) = true) : Str.ofString "in " ++ nm = lawMode nm := by
  rw [lawMode, if_neg (by rw [h]; decide), if_neg (by rw [h2]; decide), if_neg (by rw [h3]; decide), if_neg (by rw [h4]; decide), if_pos h5]
theorem lawMode_6 (h : ([Str.ofString "th", Str.ofString "td"].any fun x => x == nm) = false) (h2 : ([Str.ofString "tfoot", Str.ofString "thead", Str.ofString "tbody"].any fun x => x == nm) = false) (h3 : (nm == Str.ofString "colgroup") = false) (h4 : (nm == Str.ofString "tr") = false)
    (h5 : ([Str.ofString "frameset", Str.ofString "body", Str.ofString "head", Str.ofString "table", Str.ofString "caption"].any fun x => x == nm) = false) : Str.ofString "" = lawMode nm := by
  rw [lawMode, if_neg (by rw [h]; decide), if_neg (by rw [h2]; decide), if_neg (by rw [h3]; decide), if_neg (by rw [h4]; decide), if_neg (by rw [h5]; decide)]
end
section
variable {w : World} {mean : ExcName → Option Value} {mg mb : Str → Option Value} {dp un : Nat} {gd : Option (List Code)} {cn : Str} {cs : Scope} {a : Addr} {ccd : Value} {cl : List (Str × Addr)} {outer : List Env} {A₀ : Around} {base h₀ : Heap} {L : Addr} {m : Str → Option Value} {s : Shared} {news : List (Addr × Obj)} {Q E : Value → Shared → Prop}
theorem lawMode_c {k1 : Tok} {nm : Str}
    (C : Cx w mean mg mb cs A₀ base outer h₀ L m s.heap) (N : News h₀ L s.heap news) (hd : dp + 1 < recursionLimit) (hu : un + 8 < cLine)
    (ret : ∀ t h' tk', Fr h₀ L h' m → News h₀ L h' news → Q (.str (lawMode nm) t) { s with heap := h', toks := tk' }) :
    wpAny (model PySem.Challenge.rw_nt0607_01.row.prog w) (ktrTop dp un gd cn cs L a ccd cl outer) (call (.ref 486) [.str nm k1]) Q E s := by
  obtain ⟨B, F, X, T, hk⟩ := C
  revert X; k_fill; intro X
  k_with_none
  w_top off
  k_with "binaryOp Add str str" => (refine PyProof.Rows.add_str ?_ (in_short (by assumption)); intro t9 tk9; (try dsimp only))
  refine wpAny_call ?_
  k_dflt cell_enter
  k_steps
  all_goals (refine ret_str ret (by assumption) (cb_drop (by assumption) (fun _ hp => by first | exact hp | exact List.mem_cons_of_mem _ hp | exact List.mem_cons_of_mem _ (List.mem_cons_of_mem _ hp) | exact List.mem_cons_of_mem _ (List.mem_cons_of_mem _ (List.mem_cons_of_mem _ hp)))) ?_)
  · exact lawMode_1 (by assumption)
  · exact lawMode_2 (by assumption) (by assumption)
  · exact lawMode_3 (by assumption) (by assumption) (by assumption)
  · exact lawMode_4 (by assumption) (by assumption) (by assumption) (by assumption)
  · exact lawMode_5 (by assumption) (by assumption) (by assumption) (by assumption) (by assumption)
  · exact lawMode_6 (by assumption) (by assumption) (by assumption) (by assumption) (by assumption)
end
local macro_rules | `(tactic| walk_at "call ref") => `(tactic| (k_here; (with_reducible show wpAny _ _ (call (Value.ref 486) _ _) _ _ _); k_dflt (refine' lawMode_c ?C ?N ?hd ?hu ?_; (case C => exact ⟨by k_asm, by k_asm, by k_asm, by k_asm, by first | rfl | assumption⟩); (case N => k_asm); (case hd => ktr_room); (case hu => ktr_units); intro t' h' tk' F' N'; (try dsimp only); (try k_fold))))
section
variable {w : World} {mean : ExcName → Option Value} {mg mb : Str → Option Value} {dp un : Nat} {gd : Option (List Code)} {cn : Str} {cs : Scope} {a : Addr} {ccd : Value} {cl : List (Str × Addr)} {outer : List Env} {A₀ : Around} {base h₀ : Heap} {L : Addr} {m : Str → Option Value} {s : Shared} {news : List (Addr × Obj)} {Q E : Value → Shared → Prop}
theorem digit_c {k1 : Tok} {l : Addr} {vs : List Value} {ns : List Int} {i : Int}
    (C : Cx w mean mg mb cs A₀ base outer h₀ L m s.heap) (N : News h₀ L s.heap news) (hd : dp + 1 < recursionLimit) (hu : un + 8 < cLine)
    (hl : base.IsList l vs.toArray) (hi : IntsAre vs ns) (hfit : ns.length < 2 ^ 62) (h0 : 0 ≤ i)
    (ret : ∀ k t h' tk', Fr h₀ L h' m → News h₀ L h' news → Q (.int k t) { s with heap := h', toks := tk' }) :
    wpAny (model PySem.Challenge.rw_nt0607_01.row.prog w) (ktrTop dp un gd cn cs L a ccd cl outer) (call (.ref 472) [.ref l, .int i k1]) Q E s := by
  obtain ⟨B, F, X, T, hk⟩ := C
  revert X; k_fill; intro X
  k_with_none
  w_top off
  refine wpAny_call ?_
  k_dflt cell_enter
  k_steps
  all_goals exact ret _ _ _ _ (by assumption) (by assumption)
end
local macro_rules | `(tactic| walk_at "call ref") => `(tactic| (k_here; (with_reducible show wpAny _ _ (call (Value.ref 472) _ _) _ _ _); k_dflt (refine' digit_c ?C ?N ?hd ?hu ?hl ?hi ?hfit ?h0 ?_; (case C => exact ⟨by k_asm, by k_asm, by k_asm, by k_asm, by first | rfl | assumption⟩); (case N => k_asm); (case hl => with_reducible assumption); (case hi => with_reducible assumption); (case hfit => with_reducible assumption); (case h0 => first | with_reducible assumption | omega | decide); (case hd => ktr_room); (case hu => ktr_units); intro d' t' h' tk' F' N'; (try dsimp only); (try k_fold))))
abbrev tupOf (vs : List Value) : Obj := { cls := .type "tuple", data := .seq vs.toArray }
theorem drop2 {p q r : Addr × Obj} {news : List (Addr × Obj)} : ∀ x ∈ p :: news, x ∈ p :: q :: r :: news := fun x hx => by
  rcases List.mem_cons.mp hx with rfl | hx
  · exact List.mem_cons_self ..
  · exact List.mem_cons_of_mem _ (List.mem_cons_of_mem _ (List.mem_cons_of_mem _ hx))
theorem ok_getD {xs : List Str} {i : Nat} (h : xs.all PyData.strOk = true) : PyData.strOk (xs.getD i Str.empty) = true := by
  rw [List.getD_eq_getElem?_getD]
  cases e : xs[i]? with
  | none => show PyData.strOk Str.empty = true; decide +kernel
  | some x => exact List.all_eq_true.mp h x (List.mem_of_getElem? e)
section
variable {w : World} {mean : ExcName → Option Value} {mg mb : Str → Option Value} {dp un : Nat} {gd : Option (List Code)} {cn : Str} {cs : Scope} {a : Addr} {ccd : Value} {cl : List (Str × Addr)} {outer : List Env} {A₀ : Around} {base h₀ : Heap} {L : Addr} {m : Str → Option Value} {s : Shared} {news : List (Addr × Obj)} {Q E : Value → Shared → Prop}
theorem lawElement_c {k1 k2 : Tok} {i j : Int}
    (C : Cx w mean mg mb cs A₀ base outer h₀ L m s.heap) (N : News h₀ L s.heap news) (hd : dp + 1 < recursionLimit) (hu : un + 8 < cLine)
    (ret : ∀ D sp t1 nm t2 h' tk', PyData.strOk sp = true → PyData.strOk nm = true → Fr h₀ L h' m → News h₀ L h' ((D, tupOf [.str sp t1, .str nm t2]) :: news) → AllLt D news → Q (.ref D) { s with heap := h', toks := tk' }) :
    wpAny (model PySem.Challenge.rw_nt0607_01.row.prog w) (ktrTop dp un gd cn cs L a ccd cl outer) (call (.ref 479) [.int i k1, .int j k2]) Q E s := by
  obtain ⟨B, F, X, T, hk⟩ := C
  revert X; k_fill; intro X
  k_with_none
  w_top off
  k_with "table" => skip
  refine wpAny_call ?_
  k_dflt cell_enter
  k_steps
  rename _ ∧ _ ∧ AllLt _ _ => lt
  refine' ret _ _ _ _ _ _ _ ?o1 ?o2 (by assumption) (cb_drop (by assumption) drop2) lt.2.2
  (case o1 => exact ok_getD (by decide +kernel))
  (case o2 => exact ok_getD (by decide +kernel))
end
local macro_rules | `(tactic| walk_at "call ref") => `(tactic| (k_here; (with_reducible show wpAny _ _ (call (Value.ref 479) _ _) _ _ _); k_dflt (refine' lawElement_c ?C ?N ?hd ?hu ?_; (case C => exact ⟨by k_asm, by k_asm, by k_asm, by k_asm, by first | rfl | assumption⟩); (case N => k_asm); (case hd => ktr_room); (case hu => ktr_units); intro D' sp' t1' nm' t2' h' tk' o1' o2' F' N' l1; (try simp only [AllLt, and_true] at l1); (try dsimp only); (try k_fold))))
section
variable {prog : Program} {w : World} {A : Around} {E : Value → Shared → Prop} {s : Shared} {env : Env} {h₀ : Heap} {x : Str} {body : List Stmt} {Q : Flow → Shared → Prop}
/-- a turn's end of a for of ours: the ledger may have grown -/
def GrEnd {σ : Type} (h₀ : Heap) (L : Addr) (Led : σ → List (Addr × Obj)) (ps : σ → List (Str × Value)) (x : Str) (stored : List Str) (m₀ : Str → Option Value) (P : σ → Prop) (own : List (Addr × Obj)) (s₁ s₂ : Shared) : Prop :=
  ∃ (c : σ) (h' : Heap) (tk : Nat) (m' : Str → Option Value) (news' : List (Addr × Obj)), s₂ = { s₁ with heap := h', toks := tk } ∧ Fr h₀ L h' m' ∧ News h₀ L h' news' ∧ (∀ p ∈ Led c, p ∈ news') ∧ (∀ p ∈ own, p ∈ news') ∧ TbOff own (Led c) ∧ (∀ p ∈ ps c, m' p.1 = some p.2) ∧ (∀ z, z ≠ x → (∀ p ∈ ps c, z ≠ p.1) → stored.contains z = false → m' z = m₀ z) ∧ P c
def GrPost {σ : Type} (h₀ : Heap) (L : Addr) (Led : σ → List (Addr × Obj)) (ps : σ → List (Str × Value)) (x : Str) (stored : List Str) (m₀ : Str → Option Value) (P : σ → Prop) (own : List (Addr × Obj)) (s₁ : Shared) (Q : Flow → Shared → Prop) (f : Flow) (s₂ : Shared) : Prop :=
  match f with
  | .ret v => Q (.ret v) s₂
  | .brk => Q .next s₂
  | _ => GrEnd h₀ L Led ps x stored m₀ P own s₁ s₂
theorem gr_end {σ : Type} {L : Addr} {Led : σ → List (Addr × Obj)} {ps : σ → List (Str × Value)} {stored : List Str} {m₀ m' : Str → Option Value} {P : σ → Prop} {own news' : List (Addr × Obj)} {s₁ : Shared} {h' : Heap} {tk : Nat} (c : σ)
    (F : Fr h₀ L h' m') (N : News h₀ L h' news') (hn : ∀ p ∈ Led c, p ∈ news') (ho : ∀ p ∈ own, p ∈ news') (hoff : TbOff own (Led c)) (hk : ∀ p ∈ ps c, m' p.1 = some p.2) (hr : ∀ z, z ≠ x → (∀ p ∈ ps c, z ≠ p.1) → stored.contains z = false → m' z = m₀ z) (hp : P c) :
    GrEnd h₀ L Led ps x stored m₀ P own s₁ { s₁ with heap := h', toks := tk } := ⟨c, h', tk, m', news', rfl, F, N, hn, ho, hoff, hk, hr, hp⟩
theorem gr_loop {σ : Type} {I : Addr} {n : Nat} {V : Nat → Value → Prop} {St : Nat → Heap → Prop} {m₀ : Str → Option Value} (Led : σ → List (Addr × Obj)) (ps : σ → List (Str × Value)) (stored : List Str) (P : Nat → σ → Prop) (c₀ : σ)
    (W : Walks prog w A I [I] [I] n V St) (hIL : env.locals ≠ I) (hI₀ : h₀.get? I = none) (hStI : ∀ i h, St i h → ∃ o, h.get? I = some o) (hnw : ∀ p ∈ Led c₀, p.1 ≠ I) (hst : St 0 s.heap)
    (F : Fr h₀ env.locals s.heap m₀) (N : News h₀ env.locals s.heap (Led c₀)) (hk : ∀ p ∈ ps c₀, m₀ p.1 = some p.2) (hp : P 0 c₀)
    (turn : ∀ (c : σ) i v (u : Str → Option Value) h tk own, i < n → V i v → TbOff own (Led c) → P i c →
      Fr h₀ env.locals h (fun y => if y = x then some v else kstB (fun z => if stored.contains z then u z else m₀ z) (ps c) y) → News h₀ env.locals h (Led c ++ own) →
      wpAny (model prog w) A (execs body env) (GrPost h₀ env.locals Led ps x stored m₀ (P (i + 1)) own { s with heap := h, toks := tk } Q) E { s with heap := h, toks := tk })
    (done : ∀ (c : σ) (u : Str → Option Value) h tk, P n c → Fr h₀ env.locals h (fun y => if y = x then u y else kstB (fun z => if stored.contains z then u z else m₀ z) (ps c) y) → News h₀ env.locals h (Led c) → Q .next { s with heap := h, toks := tk }) :
    LoopAtV prog w A h₀ env x body Q E (.ref I) s := by
  refine ⟨I, [I], [I], n, V, St, m₀, Led c₀, fun i m nx => ∃ c : σ, nx = Led c ∧ (∀ p ∈ ps c, m p.1 = some p.2) ∧ (∀ z, z ≠ x → (∀ p ∈ ps c, z ≠ p.1) → stored.contains z = false → m z = m₀ z) ∧ P i c, rfl, W, ?_, ?_, ?_, hst, F, N, ⟨c₀, rfl, hk, fun _ _ _ _ => rfl, hp⟩, ?_, ?_⟩
  · exact fun hm => hIL (List.mem_singleton.mp hm)
  · intro b hb
    rw [List.mem_singleton.mp hb]; exact hI₀
  · exact fun p hp hm => hnw p hp (List.mem_singleton.mp hm)
  · rintro i v m₁ nx s₁ own ⟨hh', tk', rfl⟩ hin hV ⟨c, rfl, h1, h2, hP⟩ hoff hown _ hmem hst' F₁ N₁
    obtain ⟨oi, hoi⟩ := hStI _ _ hst'
    have hI : (I, oi) ∈ own := hmem _ (.head _) hI₀ oi hoi
    have hsep : TbOff own (Led c) := fun p hp q hq e => hoff q hq (by rw [← e]; exact hown p hp)
    have N₂ : News h₀ env.locals hh' (Led c ++ own) := fun p hp => N₁ p ((List.mem_append.mp hp).elim (fun h => List.mem_append.mpr (.inr h)) fun h => List.mem_append.mpr (.inl h))
    refine wpAny_mono (turn c i v m₁ hh' tk' own hin hV hsep hP (kst_fr h1 h2 F₁) N₂) (fun f s₂ p => ?_) fun _ _ e => e
    have fin : GrEnd h₀ env.locals Led ps x stored m₀ (P (i + 1)) own { s with heap := hh', toks := tk' } s₂ →
        LoopStepU h₀ env.locals [I] own (fun m nx => ∃ c : σ, nx = Led c ∧ (∀ p ∈ ps c, m p.1 = some p.2) ∧ (∀ z, z ≠ x → (∀ p ∈ ps c, z ≠ p.1) → stored.contains z = false → m z = m₀ z) ∧ P (i + 1) c) { s with heap := hh', toks := tk' } .next s₂ := by
      rintro ⟨c', h', tk, m', news', e, F', N', hn, ho, ha, hk', hr', hm⟩
      exact ⟨rfl, h', tk, m', Led c', e, F', fun p hp => N' p ((List.mem_append.mp hp).elim (ho p) (hn p)), fun p hp hq => ha _ hI p hp (List.mem_singleton.mp hq).symm, c', rfl, hk', hr', hm⟩
    cases f with
    | ret v => exact .ret p
    | brk => exact .brk p
    | next => exact .next (fin p)
    | cont => exact .cont (fin p)
  · rintro h' tk m' news' F' N' _ ⟨c, rfl, h1, h2, hP⟩
    exact done c m' h' tk hP (kst_frOut h1 h2 F') N'
theorem up_size (n : Nat) : Builtin.Range.rangeSize 0 (n : Int) 1 = (n : Int) := by
  unfold Builtin.Range.rangeSize
  simp only [show ((1 : Int) > 0) by decide, if_true, Int.ediv_one]
  split <;> omega
theorem my_range {σ : Type} {r : Addr} {t₀ u₀ v₀ : Tok} {n : Nat} {b₀ : Int} {m₀ : Str → Option Value} (Led : σ → List (Addr × Obj)) (ps : σ → List (Str × Value)) (stored : List Str) (P : Nat → σ → Prop) (c₀ : σ)
    (hh : A.handled = none) (hr : IsRange s.heap r 0 b₀ 1 t₀ u₀ v₀) (hb : b₀ = (n : Int)) (hn : n < 2 ^ 30) (F : Fr h₀ env.locals s.heap m₀) (N : News h₀ env.locals s.heap (Led c₀)) (hk : ∀ p ∈ ps c₀, m₀ p.1 = some p.2) (hp : P 0 c₀)
    (turn : ∀ (c : σ) (i : Nat) t (u : Str → Option Value) h tk own, i < n → TbOff own (Led c) → P i c →
      Fr h₀ env.locals h (fun y => if y = x then some (.int (i : Int) t) else kstB (fun z => if stored.contains z then u z else m₀ z) (ps c) y) → News h₀ env.locals h (Led c ++ own) →
      wpAny (model prog w) A (execs body env) (GrPost h₀ env.locals Led ps x stored m₀ (P (i + 1)) own { s with heap := h, toks := tk } Q) E { s with heap := h, toks := tk })
    (done : ∀ (c : σ) (u : Str → Option Value) h tk, P n c → Fr h₀ env.locals h (fun y => if y = x then u y else kstB (fun z => if stored.contains z then u z else m₀ z) (ps c) y) → News h₀ env.locals h (Led c) → Q .next { s with heap := h, toks := tk }) :
    wpAny (model prog w) A (pyIter (.ref r)) (fun it s₂ => LoopAtV prog w A h₀ env x body Q E it s₂) E s := by
  subst hb
  refine wpAny_pyIter_range hr (small_one (by omega) (by omega) (by omega) (by omega)) ?_
  have W : Walks prog w A s.heap.objs.size [s.heap.objs.size] [s.heap.objs.size] n (fun i v => i < n ∧ ∃ t, v = .int (0 + i * 1) t)
      (fun i h => IsRangeIter h s.heap.objs.size (0 + (i : Nat) * 1) ((n : Int) - (i : Nat)) 1) := (Walks.range hh _ 0 1 n).bound
  refine gr_loop Led ps stored P c₀ W ?_ (next_is_new F) (fun i h st => ⟨_, st⟩) (fun p hp hI => absurd (Heap.lt_size (N p hp).1) (hI ▸ Nat.lt_irrefl _)) (by show IsRangeIter _ _ _ _ _; rw [up_size]; simpa using Heap.get?_push_size _ rfl) (F.push _) (fun p hp => ⟨Heap.get?_push_of_some _ (N p hp).1, (N p hp).2⟩) hk hp ?_ ?_
  · exact fun hI => absurd F.ns.lt (hI ▸ Nat.lt_irrefl _)
  · rintro c i v u h tk own hi ⟨_, t, rfl⟩ hoff hP F₁ N₁
    have e1 : (0 : Int) + (i : Int) * 1 = (i : Int) := by omega
    rw [e1] at F₁
    exact turn c i t u h tk own hi hoff hP F₁ N₁
  · exact done
theorem my_rangeD {σ : Type} {r : Addr} {t₀ u₀ v₀ : Tok} {n : Nat} {a₀ : Int} {m₀ : Str → Option Value} (Led : σ → List (Addr × Obj)) (ps : σ → List (Str × Value)) (stored : List Str) (P : Nat → σ → Prop) (c₀ : σ)
    (hh : A.handled = none) (hr : IsRange s.heap r a₀ 0 (-1) t₀ u₀ v₀) (hb : a₀ = (n : Int)) (hn : n < 2 ^ 30) (F : Fr h₀ env.locals s.heap m₀) (N : News h₀ env.locals s.heap (Led c₀)) (hk : ∀ p ∈ ps c₀, m₀ p.1 = some p.2) (hp : P 0 c₀)
    (turn : ∀ (c : σ) (i : Nat) t (u : Str → Option Value) h tk own, i < n → TbOff own (Led c) → P i c →
      Fr h₀ env.locals h (fun y => if y = x then some (.int ((n : Int) - (i : Int)) t) else kstB (fun z => if stored.contains z then u z else m₀ z) (ps c) y) → News h₀ env.locals h (Led c ++ own) →
      wpAny (model prog w) A (execs body env) (GrPost h₀ env.locals Led ps x stored m₀ (P (i + 1)) own { s with heap := h, toks := tk } Q) E { s with heap := h, toks := tk })
    (done : ∀ (c : σ) (u : Str → Option Value) h tk, P n c → Fr h₀ env.locals h (fun y => if y = x then u y else kstB (fun z => if stored.contains z then u z else m₀ z) (ps c) y) → News h₀ env.locals h (Led c) → Q .next { s with heap := h, toks := tk }) :
    wpAny (model prog w) A (pyIter (.ref r)) (fun it s₂ => LoopAtV prog w A h₀ env x body Q E it s₂) E s := by
  subst hb
  have hz : Builtin.Range.rangeSize (n : Int) 0 (-1) = (n : Int) := by rw [rangeSize_down]; split <;> omega
  refine wpAny_pyIter_range hr (small_down (by omega) (by omega) (by omega) (by omega)) ?_
  have W : Walks prog w A s.heap.objs.size [s.heap.objs.size] [s.heap.objs.size] n (fun i v => i < n ∧ ∃ t, v = .int ((n : Int) + i * (-1)) t)
      (fun i h => IsRangeIter h s.heap.objs.size ((n : Int) + (i : Nat) * (-1)) ((n : Int) - (i : Nat)) (-1)) := (Walks.range hh _ (n : Int) (-1) n).bound
  refine gr_loop Led ps stored P c₀ W ?_ (next_is_new F) (fun i h st => ⟨_, st⟩) (fun p hp hI => absurd (Heap.lt_size (N p hp).1) (hI ▸ Nat.lt_irrefl _)) (by show IsRangeIter _ _ _ _ _; rw [hz]; simpa using Heap.get?_push_size _ rfl) (F.push _) (fun p hp => ⟨Heap.get?_push_of_some _ (N p hp).1, (N p hp).2⟩) hk hp ?_ ?_
  · exact fun hI => absurd F.ns.lt (hI ▸ Nat.lt_irrefl _)
  · rintro c i v u h tk own hi ⟨_, t, rfl⟩ hoff hP F₁ N₁
    have e1 : (n : Int) + (i : Int) * (-1) = (n : Int) - (i : Int) := by omega
    rw [e1] at F₁
    exact turn c i t u h tk own hi hoff hP F₁ N₁
  · exact done
end
section
variable {prog : Program} {w : World} {A : Around} {E : Value → Shared → Prop} {s : Shared} {env : Env} {h₀ : Heap} {L : Addr} {Q : Flow → Shared → Prop} {m : Str → Option Value} {led : List (Addr × Obj)}
/-- a statement whose ways meet: one name of the frame has a told value behind it -/
def JnPost (h₀ : Heap) (L : Addr) (m : Str → Option Value) (led : List (Addr × Obj)) (x : Str) (V : Tok → Value) (s : Shared) (f : Flow) (s' : Shared) : Prop :=
  f = .next ∧ ∃ t h' tk', s' = { s with heap := h', toks := tk' } ∧ Fr h₀ L h' (fun y => if y = x then some (V t) else m y) ∧ News h₀ L h' led
theorem jn_set {x : Str} {V : Tok → Value} {h' : Heap} {tk' : Nat} {led' : List (Addr × Obj)} {t : Tok} {v : Value} (F : Fr h₀ L h' (fun y => if y = x then some v else m y)) (N : News h₀ L h' led') (hs : ∀ p ∈ led, p ∈ led') (e : v = V t) :
    JnPost h₀ L m led x V s .next { s with heap := h', toks := tk' } := by
  subst e; exact ⟨rfl, t, h', tk', rfl, F, fun p hp => N p (hs p hp)⟩
theorem jn_keep {x : Str} {V : Tok → Value} {h' : Heap} {tk' : Nat} {led' : List (Addr × Obj)} {t : Tok} {v : Value} (F : Fr h₀ L h' m) (hv : m x = some v) (N : News h₀ L h' led') (hs : ∀ p ∈ led, p ∈ led') (e : v = V t) :
    JnPost h₀ L m led x V s .next { s with heap := h', toks := tk' } := by
  refine jn_set (t := t) (v := v) ?_ N hs e
  have em : (fun y => if y = x then some v else m y) = m := by
    funext y
    by_cases hy : y = x
    · rw [if_pos hy, hy, hv]
    · rw [if_neg hy]
  rw [em]; exact F
theorem jn_execs {st : Stmt} {rest : List Stmt} (x : Str) (V : Tok → Value) (_F : Fr h₀ L s.heap m) (_N : News h₀ L s.heap led)
    (h1 : wpAny (model prog w) A (exec st env) (JnPost h₀ L m led x V s) E s)
    (h2 : ∀ t h' tk', Fr h₀ L h' (fun y => if y = x then some (V t) else m y) → News h₀ L h' led → wpAny (model prog w) A (execs rest env) Q E { s with heap := h', toks := tk' }) :
    wpAny (model prog w) A (execs (st :: rest) env) Q E s := by
  refine wpAny_execs_cons (wpAny_mono h1 (fun f s' h => ?_) fun _ _ e => e)
  obtain ⟨rfl, t, h', tk', rfl, F', N'⟩ := h
  exact h2 t h' tk' F' N'
end
theorem sub_app {x : Addr × Obj} {news own : List (Addr × Obj)} : ∀ p ∈ x :: news, p ∈ x :: (news ++ own) := fun p hp => by
  rcases List.mem_cons.mp hp with rfl | hp
  · exact List.mem_cons_self ..
  · exact List.mem_cons_of_mem _ (List.mem_append.mpr (Or.inl hp))
theorem own_app {x : Addr × Obj} {news own : List (Addr × Obj)} : ∀ p ∈ own, p ∈ x :: (news ++ own) := fun _ hp => List.mem_cons_of_mem _ (List.mem_append.mpr (Or.inr hp))
theorem off_head {a : Addr} {o o' : Obj} {news own : List (Addr × Obj)} (h : TbOff own ((a, o) :: news)) : TbOff own ((a, o') :: news) := fun p hp q hq => by
  rcases List.mem_cons.mp hq with rfl | hq
  · exact h p hp (a, o) (List.mem_cons_self ..)
  · exact h p hp q (List.mem_cons_of_mem _ hq)
theorem my_append {prog : Program} {w : World} {A : Around} {E : Value → Shared → Prop} {s : Shared} {h₀ : Heap} {L D : Addr} {m : Str → Option Value} {rest : List (Addr × Obj)} {its : List Value} {n : Nat} {x : Value} {Q : Value → Shared → Prop} (F : Fr h₀ L s.heap m) (N : News h₀ L s.heap ((D, listOf its.toArray n) :: rest)) (hne : ∀ p ∈ rest, p.1 ≠ D) (hsz : its.length < 2 ^ 20)
    (h : ∀ h', Fr h₀ L h' m → News h₀ L h' ((D, listOf (its ++ [x]).toArray (n + 1)) :: rest) → Q .none { s with heap := h' }) : wpAny (model prog w) A (call (.builtin "list.append") [.ref D, x]) Q E s :=
  append_K F N (Upd.head hne) (fun h' F' N' => h h' F' (by rw [List.push_toArray] at N'; exact N')) (by rw [List.size_toArray, sizeLine_eq]; omega)
local macro_rules | `(tactic| walk_at "GrPost") => `(tactic| (dsimp only [GrPost]))
def lm1 (iw : Bool) (nm x : Str) : Str := if (nm == Str.ofString "select") = true then (if iw = true then Str.ofString "in select in table" else Str.ofString "in select") else x
def lm2 (top nm x : Str) : Str := if (nm == Str.ofString "template") = true then top else x
def lm3 (hh : Bool) (nm x : Str) : Str := if (nm == Str.ofString "html") = true then (if hh = true then Str.ofString "after head" else Str.ofString "before head") else x
def lm4 (i : Nat) (nm x : Str) : Str := if i = 0 ∧ ([Str.ofString "head", Str.ofString "th", Str.ofString "td"].any fun x => x == nm) = true then Str.ofString "" else x
def lm5 (i : Nat) (nm : Str) (iw : Bool) : Bool := if i ≠ 0 ∧ ([Str.ofString "table", Str.ofString "template"].any fun x => x == nm) = true then nm == Str.ofString "table" else iw
def lm6 (x told : Str) : Str := if (x == Str.ofString "") = true then told else x
section
variable {iw hh : Bool} {nm x top told : Str} {i : Nat}
theorem lm1_a (h : (nm == Str.ofString "select") = true) (h2 : iw = true) : Str.ofString "in select in table" = lm1 iw nm x := by rw [lm1, if_pos h, if_pos h2]
theorem lm1_b (h : (nm == Str.ofString "select") = true) (h2 : iw = false) : Str.ofString "in select" = lm1 iw nm x := by rw [lm1, if_pos h, h2]; rfl
theorem lm1_c (h : (nm == Str.ofString "select") = false) : x = lm1 iw nm x := by rw [lm1, h]; rfl
theorem lm2_a (h : (nm == Str.ofString "template") = true) : top = lm2 top nm x := by rw [lm2, if_pos h]
theorem lm2_b (h : (nm == Str.ofString "template") = false) : x = lm2 top nm x := by rw [lm2, h]; rfl
theorem lm3_a (h : (nm == Str.ofString "html") = true) (h2 : hh = true) : Str.ofString "after head" = lm3 hh nm x := by rw [lm3, if_pos h, if_pos h2]
theorem lm3_b (h : (nm == Str.ofString "html") = true) (h2 : hh = false) : Str.ofString "before head" = lm3 hh nm x := by rw [lm3, if_pos h, h2]; rfl
theorem lm3_c (h : (nm == Str.ofString "html") = false) : x = lm3 hh nm x := by rw [lm3, h]; rfl
theorem lm4_a (h : (i : Int) = 0) (h2 : ([Str.ofString "head", Str.ofString "th", Str.ofString "td"].any fun x => x == nm) = true) : Str.ofString "" = lm4 i nm x := by rw [lm4, if_pos ⟨by omega, h2⟩]
theorem lm4_b (h2 : ([Str.ofString "head", Str.ofString "th", Str.ofString "td"].any fun x => x == nm) = false) : x = lm4 i nm x := by rw [lm4, if_neg (by rw [h2]; simp)]
theorem lm4_c (h : (i : Int) ≠ 0) : x = lm4 i nm x := by rw [lm4, if_neg (by omega)]
theorem lm5_a (h : (i : Int) > 0) (h2 : ([Str.ofString "table", Str.ofString "template"].any fun x => x == nm) = true) : (nm == Str.ofString "table") = lm5 i nm iw := by rw [lm5, if_pos ⟨by omega, h2⟩]
theorem lm5_b (h2 : ([Str.ofString "table", Str.ofString "template"].any fun x => x == nm) = false) : iw = lm5 i nm iw := by rw [lm5, if_neg (by rw [h2]; simp)]
theorem lm5_c (h : ¬ (i : Int) > 0) : iw = lm5 i nm iw := by rw [lm5, if_neg (by omega)]
theorem lm6_a (h : (x != Str.ofString "") = true) : x = lm6 x told := by
  have : (x == Str.ofString "") = false := by rw [bne] at h; simpa using h
  rw [lm6, this]; rfl
theorem lm6_b (h : (x != Str.ofString "") = false) : told = lm6 x told := by
  have : (x == Str.ofString "") = true := by rw [bne] at h; simpa using h
  rw [lm6, if_pos this]
end
def lawM (top : Str) (hh iw : Bool) (i : Nat) (nm : Str) : Str := lm4 i nm (lm3 hh nm (lm2 top nm (lm1 iw nm (lawMode nm))))
def lawTold (top : Str) (hh iw : Bool) (i : Nat) (r : Str × Str) (told : Str) : Str := if (r.1 == Str.ofString "html") = true then lm6 (lawM top hh iw i r.2) told else told
def lawIn (iw : Bool) (i : Nat) (r : Str × Str) : Bool := if (r.1 == Str.ofString "html") = true then lm5 i r.2 iw else iw
def rowD (R : List (Str × Str)) (i : Nat) : Str × Str := R.getD i (Str.ofString "", Str.ofString "")
def lawSt (R : List (Str × Str)) (top : Str) (hh : Bool) : Nat → Str × Bool
  | 0 => (Str.ofString "in body", false)
  | i + 1 => (lawTold top hh (lawSt R top hh i).2 i (rowD R i) (lawSt R top hh i).1, lawIn (lawSt R top hh i).2 i (rowD R i))
/-- a made list of tuples (space, name) -/
def RowsIs (news : List (Addr × Obj)) (rvs : List Value) (R : List (Str × Str)) : Prop :=
  rvs.length = R.length ∧ ∀ i, i < R.length → ∃ a t1 t2, rvs[i]? = some (.ref a) ∧ (a, tupOf [.str (rowD R i).1 t1, .str (rowD R i).2 t2]) ∈ news
def DuesAre (dvs : List Value) (R : List (Str × Str)) (top : Str) (hh : Bool) (n : Nat) : Prop :=
  dvs.length = n ∧ ∀ j, j < n → ∃ t, dvs[j]? = some (.str (lawSt R top hh (j + 1)).1 t)
section
variable {R : List (Str × Str)} {top told : Str} {hh iw : Bool} {i : Nat} {dvs : List Value}
theorem st_html (hsp : ((rowD R i).1 == Str.ofString "html") = true) (hp1 : told = (lawSt R top hh i).1) (hp2 : iw = (lawSt R top hh i).2) : lm6 (lawM top hh iw i (rowD R i).2) told = (lawSt R top hh (i + 1)).1 := by
  rw [lawSt, lawTold, if_pos hsp, hp1, hp2]
theorem st_html2 (hsp : ((rowD R i).1 == Str.ofString "html") = true) (hp2 : iw = (lawSt R top hh i).2) : lm5 i (rowD R i).2 iw = (lawSt R top hh (i + 1)).2 := by
  rw [lawSt, lawIn, if_pos hsp, hp2]
theorem st_other (hsp : ((rowD R i).1 == Str.ofString "html") = false) (hp1 : told = (lawSt R top hh i).1) : told = (lawSt R top hh (i + 1)).1 := by
  rw [lawSt, lawTold, hsp, hp1]; rfl
theorem st_other2 (hsp : ((rowD R i).1 == Str.ofString "html") = false) (hp2 : iw = (lawSt R top hh i).2) : iw = (lawSt R top hh (i + 1)).2 := by
  rw [lawSt, lawIn, hsp, hp2]; rfl
theorem dues_push {v : Str} {t : Tok} (h : DuesAre dvs R top hh i) (e : v = (lawSt R top hh (i + 1)).1) : DuesAre (dvs ++ [.str v t]) R top hh (i + 1) := by
  refine ⟨by rw [List.length_append, h.1]; rfl, fun j hj => ?_⟩
  by_cases hji : j < i
  · obtain ⟨t', ht⟩ := h.2 j hji
    exact ⟨t', by rw [List.getElem?_append_left (by rw [h.1]; exact hji)]; exact ht⟩
  · have hj' : j = i := by omega
    subst hj'
    exact ⟨t, by rw [List.getElem?_append_right (by rw [h.1]; exact Nat.le_refl _), h.1, Nat.sub_self, e]; rfl⟩
end
section
variable {s : Shared} {h₀ : Heap} {L : Addr} {m : Str → Option Value} {led : List (Addr × Obj)}
theorem jn_setS {x : Str} {h' : Heap} {tk' : Nat} {led' : List (Addr × Obj)} {t : Tok} {v val : Str} (F : Fr h₀ L h' (fun y => if y = x then some (.str v t) else m y)) (N : News h₀ L h' led') (hs : ∀ p ∈ led, p ∈ led') (e : v = val) :
    JnPost h₀ L m led x (fun t => .str val t) s .next { s with heap := h', toks := tk' } := jn_set F N hs (by rw [e])
theorem jn_keepS {x : Str} {h' : Heap} {tk' : Nat} {led' : List (Addr × Obj)} {t : Tok} {v val : Str} (F : Fr h₀ L h' m) (hv : m x = some (.str v t)) (N : News h₀ L h' led') (hs : ∀ p ∈ led, p ∈ led') (e : v = val) :
    JnPost h₀ L m led x (fun t => .str val t) s .next { s with heap := h', toks := tk' } := jn_keep F hv N hs (by rw [e])
theorem jn_setB {x : Str} {h' : Heap} {tk' : Nat} {led' : List (Addr × Obj)} {v val : Bool} (F : Fr h₀ L h' (fun y => if y = x then some (.bool v) else m y)) (N : News h₀ L h' led') (hs : ∀ p ∈ led, p ∈ led') (e : v = val) :
    JnPost h₀ L m led x (fun _ => .bool val) s .next { s with heap := h', toks := tk' } := jn_set (t := 0) F N hs (by rw [e])
theorem jn_keepB {x : Str} {h' : Heap} {tk' : Nat} {led' : List (Addr × Obj)} {v val : Bool} (F : Fr h₀ L h' m) (hv : m x = some (.bool v)) (N : News h₀ L h' led') (hs : ∀ p ∈ led, p ∈ led') (e : v = val) :
    JnPost h₀ L m led x (fun _ => .bool val) s .next { s with heap := h', toks := tk' } := jn_keep (t := 0) F hv N hs (by rw [e])
end
section
variable {w : World} {mean : ExcName → Option Value} {mg mb : Str → Option Value} {dp un : Nat} {gd : Option (List Code)} {cn : Str} {cs : Scope} {a : Addr} {ccd : Value} {cl : List (Str × Addr)} {outer : List Env} {A₀ : Around} {base h₀ : Heap} {L : Addr} {m : Str → Option Value} {s : Shared} {news : List (Addr × Obj)} {Q E : Value → Shared → Prop}
theorem lawModes_c {k1 : Tok} {ro : Addr} {rvs : List Value} {rn : Nat} {R : List (Str × Str)} {top : Str} {hh : Bool} {n : Nat}
    (C : Cx w mean mg mb cs A₀ base outer h₀ L m s.heap) (N : News h₀ L s.heap news) (hd : dp + 2 < recursionLimit) (hu : un + 16 < cLine)
    (hro : (ro, listOf rvs.toArray rn) ∈ news) (hR : RowsIs news rvs R) (hRn : R.length = n) (hrn0 : n < 2 ^ 20)
    (ret : ∀ D dvs dn h' tk', Fr h₀ L h' m → DuesAre dvs R top hh n → News h₀ L h' ((D, listOf dvs.toArray dn) :: news) → AllLt D news → Q (.ref D) { s with heap := h', toks := tk' }) :
    wpAny (model PySem.Challenge.rw_nt0607_01.row.prog w) (ktrTop dp un gd cn cs L a ccd cl outer) (call (.ref 493) [.ref ro, .str top k1, .bool hh]) Q E s := by
  obtain ⟨B, F, X, T, hk⟩ := C
  have hrl : rvs.length = n := hR.1.trans hRn
  have hrn : n < 2 ^ 30 := by omega
  revert X; k_fill; intro X
  k_with_none
  w_top off
  refine wpAny_call ?_
  k_dflt cell_enter
  iterate 17 walk1
  rename_i q1 q2 mo q3 lD q4 q5 q6
  (rename Fr _ _ _ _ => lF')
  (with_unfolding_all refine' For_invVF lF' ?k1 ?k2 ?_ ?k3 ?k4; (case k1 => exact rfl); (case k2 => exact rfl); (case k3 => (intro _; rfl)); (case k4 => first | passes_own | with_unfolding_all passes_own))
  k_fold
  iterate 13 walk1
  k_unfold
  (with_unfolding_all refine' my_range (σ := (Str × Nat) × Bool × (List Value × Nat)) (fun c => (mo, listOf c.2.2.1.toArray c.2.2.2) :: news) (fun c => [(Str.ofString "told", Value.str c.1.1 c.1.2), (Str.ofString "is_within_table", Value.bool c.2.1)]) [Str.ofString "space", Str.ofString "name", Str.ofString "mode"] (fun i c => c.1.1 = (lawSt R top hh i).1 ∧ c.2.1 = (lawSt R top hh i).2 ∧ DuesAre c.2.2.1 R top hh i) ((_, _), false, ([], _)) ?kh ?kr rfl hrn ?kF ?kN ?kk ?kp ?_ ?_)
  (case kh => rfl)
  (case kr => assumption)
  (case kF => k_asm)
  (case kN => k_asm)
  (case kk => (intro p hp; rcases List.mem_cons.mp hp with rfl | hp; (exact rfl); rw [List.mem_singleton.mp hp]; rfl))
  (case kp => exact ⟨rfl, rfl, rfl, fun j hj => absurd hj (Nat.not_lt_zero _)⟩)
  · rintro ⟨⟨told, tt⟩, iw, ⟨dvs, dn⟩⟩ i ti u h9 tk9 own hi hoff ⟨hp1, hp2, hp3⟩ F9 N9
    dsimp only at hp1 hp2 hp3 hoff F9 N9
    k_fold
    obtain ⟨ai, t1, t2, hrv, hai⟩ := hR.2 i (by omega)
    have hb0 : 0 ≤ (i : Int) := by omega
    have hb1 : (i : Int) < 2 ^ 62 := by omega
    have hrv9 : rvs[((i : Nat) : Int).toNat]? = some (.ref ai) := by rw [Int.toNat_natCast]; exact hrv
    have hne : ∀ p ∈ news ++ own, p.1 ≠ mo := fun p hp => (List.mem_append.mp hp).elim (fun h => Nat.ne_of_lt (lD p h)) (fun h => hoff p h _ (List.mem_cons_self ..))
    have hdl : dvs.length < 2 ^ 20 := by rw [hp3.1]; omega
    simp only [List.cons_append] at N9
    iterate 14 walk1
    refine Or.elim (Bool.eq_false_or_eq_true ((rowD R i).1 == Str.ofString "html")) (fun hsp => ?_) (fun hsp => ?_)
    iterate 8 walk1
    k_fold
    iterate 12 walk1
    dsimp only
    refine jn_execs (Str.ofString "mode") (fun t => .str (lm1 iw (rowD R i).2 (lawMode (rowD R i).2)) t) (by assumption) (by assumption) ?_ ?_
    · k_fold
      k_steps
      · exact jn_setS (by assumption) (by assumption) (fun p hp => by first | exact hp | exact List.mem_cons_of_mem _ hp) (lm1_a (by assumption) (by assumption))
      · exact jn_setS (by assumption) (by assumption) (fun p hp => by first | exact hp | exact List.mem_cons_of_mem _ hp) (lm1_b (by assumption) (by assumption))
      · exact jn_keepS (by assumption) rfl (by assumption) (fun p hp => by first | exact hp | exact List.mem_cons_of_mem _ hp) (lm1_c (by assumption))
    intro tj hj tkj Fj Nj
    refine jn_execs (Str.ofString "mode") (fun t => .str (lm2 top (rowD R i).2 (lm1 iw (rowD R i).2 (lawMode (rowD R i).2))) t) (by assumption) (by assumption) ?_ ?_
    · k_fold
      k_steps
      · exact jn_setS (by assumption) (by assumption) (fun p hp => by first | exact hp | exact List.mem_cons_of_mem _ hp) (lm2_a (by assumption))
      · exact jn_keepS (by assumption) rfl (by assumption) (fun p hp => by first | exact hp | exact List.mem_cons_of_mem _ hp) (lm2_b (by assumption))
    intro tj hj tkj Fj Nj
    refine jn_execs (Str.ofString "mode") (fun t => .str (lm3 hh (rowD R i).2 (lm2 top (rowD R i).2 (lm1 iw (rowD R i).2 (lawMode (rowD R i).2)))) t) (by assumption) (by assumption) ?_ ?_
    · k_fold
      k_steps
      · exact jn_setS (by assumption) (by assumption) (fun p hp => by first | exact hp | exact List.mem_cons_of_mem _ hp) (lm3_a (by assumption) (by assumption))
      · exact jn_setS (by assumption) (by assumption) (fun p hp => by first | exact hp | exact List.mem_cons_of_mem _ hp) (lm3_b (by assumption) (by assumption))
      · exact jn_keepS (by assumption) rfl (by assumption) (fun p hp => by first | exact hp | exact List.mem_cons_of_mem _ hp) (lm3_c (by assumption))
    intro tj hj tkj Fj Nj
    refine jn_execs (Str.ofString "mode") (fun t => .str (lm4 i (rowD R i).2 (lm3 hh (rowD R i).2 (lm2 top (rowD R i).2 (lm1 iw (rowD R i).2 (lawMode (rowD R i).2))))) t) (by assumption) (by assumption) ?_ ?_
    · k_fold
      k_steps
      · exact jn_setS (by assumption) (by assumption) (fun p hp => by first | exact hp | exact List.mem_cons_of_mem _ hp) (lm4_a (by assumption) (by assumption))
      · exact jn_keepS (by assumption) rfl (by assumption) (fun p hp => by first | exact hp | exact List.mem_cons_of_mem _ hp) (lm4_b (by assumption))
      · exact jn_keepS (by assumption) rfl (by assumption) (fun p hp => by first | exact hp | exact List.mem_cons_of_mem _ hp) (lm4_c (by assumption))
    intro tj hj tkj Fj Nj
    refine jn_execs (Str.ofString "is_within_table") (fun t => .bool (lm5 i (rowD R i).2 iw)) (by assumption) (by assumption) ?_ ?_
    · k_fold
      k_steps
      · exact jn_setB (by assumption) (by assumption) (fun p hp => by first | exact hp | exact List.mem_cons_of_mem _ hp) (lm5_a (by assumption) (by assumption))
      · exact jn_keepB (by assumption) rfl (by assumption) (fun p hp => by first | exact hp | exact List.mem_cons_of_mem _ hp) (lm5_b (by assumption))
      · exact jn_keepB (by assumption) rfl (by assumption) (fun p hp => by first | exact hp | exact List.mem_cons_of_mem _ hp) (lm5_c (by assumption))
    intro tj hj tkj Fj Nj
    refine jn_execs (Str.ofString "told") (fun t => .str (lm6 (lm4 i (rowD R i).2 (lm3 hh (rowD R i).2 (lm2 top (rowD R i).2 (lm1 iw (rowD R i).2 (lawMode (rowD R i).2))))) told) t) (by assumption) (by assumption) ?_ ?_
    · k_fold
      k_steps
      · exact jn_setS (by assumption) (by assumption) (fun p hp => by first | exact hp | exact List.mem_cons_of_mem _ hp) (lm6_a (by assumption))
      · exact jn_keepS (by assumption) rfl (by assumption) (fun p hp => by first | exact hp | exact List.mem_cons_of_mem _ hp) (lm6_b (by assumption))
    intro tj hj tkj Fj Nj
    k_with "call builtin:list.append" => (refine' my_append ?k1 ?k2 ?k3 ?k4 ?_; (case k1 => k_asm); (case k2 => k_asm); (case k3 => exact hne); (case k4 => exact hdl); k_whole; intro h' F' N')
    k_steps
    · refine' gr_end ((lm6 (lawM top hh iw i (rowD R i).2) told, _), lm5 i (rowD R i).2 iw, (dvs ++ [.str (lm6 (lawM top hh iw i (rowD R i).2) told) _], dn + 1)) (by assumption) (by assumption) ?hn ?ho ?hoff ?hk ?hr ?hp
      (case hn => exact sub_app)
      (case ho => exact own_app)
      (case hoff => exact off_head hoff)
      (case hk => (intro p hp; rcases List.mem_cons.mp hp with rfl | hp; (exact rfl); rw [List.mem_singleton.mp hp]; rfl))
      (case hr =>
        intro z hx h1 h2
        repeat (first | exact kst_same' h2 h1 rfl | refine (if_neg (by first | exact hx | exact ne_of_stored h2 (by decide) | exact h1 _ (List.mem_cons_self ..) | exact h1 _ (List.mem_cons_of_mem _ (List.mem_cons_self ..)))).trans ?_))
      (case hp => exact ⟨st_html hsp hp1 hp2, st_html2 hsp hp2, dues_push hp3 (st_html hsp hp1 hp2)⟩)
    · refine' gr_end ((told, _), iw, (dvs ++ [.str told _], dn + 1)) (by assumption) (by assumption) ?hn ?ho ?hoff ?hk ?hr ?hp
      (case hn => exact sub_app)
      (case ho => exact own_app)
      (case hoff => exact off_head hoff)
      (case hk => (intro p hp; rcases List.mem_cons.mp hp with rfl | hp; (exact rfl); rw [List.mem_singleton.mp hp]; rfl))
      (case hr =>
        intro z hx h1 h2
        repeat (first | exact kst_same' h2 h1 rfl | refine (if_neg (by first | exact hx | exact ne_of_stored h2 (by decide) | exact h1 _ (List.mem_cons_self ..) | exact h1 _ (List.mem_cons_of_mem _ (List.mem_cons_self ..)))).trans ?_))
      (case hp => exact ⟨st_other hsp hp1, st_other2 hsp hp2, dues_push hp3 (st_other hsp hp1)⟩)
  · rintro ⟨⟨told, tt⟩, iw, ⟨dvs, dn⟩⟩ u h9 tk9 ⟨hp1, hp2, hp3⟩ F9 N9
    dsimp only at hp1 hp2 hp3 F9 N9
    k_steps
    exact ret mo dvs dn _ _ (by assumption) hp3 (by assumption) (allLt_of lD)
end
structure TA where
  (kA sA nA aA xA pA hA oA : Addr)
structure TD where
  (kvs svs nvs avs xvs pvs cvs : List Value)
  (c1 c2 c3 c4 c5 c6 c7 : Nat)
  od : Obj
def TD.led (D : TD) (A : TA) : List (Addr × Obj) :=
  [(A.kA, listOf D.kvs.toArray D.c1), (A.sA, listOf D.svs.toArray D.c2), (A.nA, listOf D.nvs.toArray D.c3), (A.aA, listOf D.avs.toArray D.c4), (A.xA, listOf D.xvs.toArray D.c5), (A.pA, listOf D.pvs.toArray D.c6), (A.hA, listOf D.cvs.toArray D.c7), (A.oA, D.od)]
def TA.all (A : TA) : List Nat := [A.kA, A.sA, A.nA, A.aA, A.xA, A.pA, A.hA, A.oA]
/-- the tree's data behind an add -/
def TD.add (D : TD) (kd sp nm at_ tx ch : Value) (pa : Value) : TD :=
  { D with kvs := D.kvs ++ [kd], svs := D.svs ++ [sp], nvs := D.nvs ++ [nm], avs := D.avs ++ [at_], xvs := D.xvs ++ [tx], pvs := D.pvs ++ [pa], cvs := D.cvs ++ [ch], c1 := D.c1 + 1, c2 := D.c2 + 1, c3 := D.c3 + 1, c4 := D.c4 + 1, c5 := D.c5 + 1, c6 := D.c6 + 1, c7 := D.c7 + 1 }
def DictOk (w : World) (o : Obj) (k : Nat) : Prop :=
  ∃ kvs, o.IsDictOf (intKind PySem.Challenge.rw_nt0607_01.row.prog w) kvs ∧ kvs.length ≤ k
structure TOk (w : World) (D : TD) (N : Nat) : Prop where
  l1 : D.kvs.length = N
  l2 : D.svs.length = N
  l3 : D.nvs.length = N
  l4 : D.avs.length = N
  l5 : D.xvs.length = N
  l6 : D.pvs.length = N
  l7 : D.cvs.length = N
  dk : DictOk w D.od N
structure TAt (rest : List (Addr × Obj)) (t dt : Addr) (et : List DictEntry) (nt : Nat) (A : TA) : Prop where
  ht : (t, instObj 383 dt) ∈ rest
  hdt : (dt, dictOf et nt) ∈ rest
  gk : getL (Str.ofString "kinds") et = some (some (.ref A.kA))
  gs : getL (Str.ofString "spaces") et = some (some (.ref A.sA))
  gn : getL (Str.ofString "names") et = some (some (.ref A.nA))
  ga : getL (Str.ofString "attrs") et = some (some (.ref A.aA))
  gx : getL (Str.ofString "texts") et = some (some (.ref A.xA))
  gp : getL (Str.ofString "parents") et = some (some (.ref A.pA))
  gh : getL (Str.ofString "children") et = some (some (.ref A.hA))
  go : getL (Str.ofString "contents") et = some (some (.ref A.oA))
  gadd : getL (Str.ofString "add") et = some none
  apart : @LT.lt Nat _ A.kA A.sA ∧ @LT.lt Nat _ A.sA A.nA ∧ @LT.lt Nat _ A.nA A.aA ∧ @LT.lt Nat _ A.aA A.xA ∧ @LT.lt Nat _ A.xA A.pA ∧ @LT.lt Nat _ A.pA A.hA ∧ @LT.lt Nat _ A.hA A.oA
  off : ∀ a ∈ A.all, ∀ p ∈ rest, p.1 ≠ a
  low : (A.oA == sysModules) = false
theorem drop_one {x y : Addr × Obj} {led : List (Addr × Obj)} : ∀ p ∈ x :: led, p ∈ x :: y :: led := fun p hp => by
  rcases List.mem_cons.mp hp with rfl | hp
  · exact List.mem_cons_self ..
  · exact List.mem_cons_of_mem _ (List.mem_cons_of_mem _ hp)
theorem tat_off {A : TA} {rest : List (Addr × Obj)} (ap : @LT.lt Nat _ A.kA A.sA ∧ @LT.lt Nat _ A.sA A.nA ∧ @LT.lt Nat _ A.nA A.aA ∧ @LT.lt Nat _ A.aA A.xA ∧ @LT.lt Nat _ A.xA A.pA ∧ @LT.lt Nat _ A.pA A.hA ∧ @LT.lt Nat _ A.hA A.oA)
    (h : ∀ p ∈ rest, @LT.lt Nat _ p.1 A.kA ∨ @LT.lt Nat _ A.oA p.1) : ∀ a ∈ A.all, ∀ p ∈ rest, p.1 ≠ a := by
  obtain ⟨kA, sA, nA, aA, xA, pA, hA, oA⟩ := A
  intro a ha p hp
  dsimp only at ap h
  have h9 := h p hp
  simp only [TA.all, List.mem_cons, List.not_mem_nil, or_false] at ha
  rcases ha with rfl | rfl | rfl | rfl | rfl | rfl | rfl | rfl <;> (refine neN ?_; omega)
theorem TOk.add {w : World} {D : TD} {N : Nat} (O : TOk w D N) (kd sp nm at_ tx ch pa : Value) : TOk w (D.add kd sp nm at_ tx ch pa) (N + 1) := by
  obtain ⟨l1, l2, l3, l4, l5, l6, l7, ⟨kvs, h1, h2⟩⟩ := O
  refine ⟨?_, ?_, ?_, ?_, ?_, ?_, ?_, ⟨kvs, h1, by omega⟩⟩ <;> simp only [TD.add, List.length_append, List.length_cons, List.length_nil, *]
section
variable {w : World} {mean : ExcName → Option Value} {mg mb : Str → Option Value} {dp un : Nat} {gd : Option (List Code)} {cn : Str} {cs : Scope} {a : Addr} {ccd : Value} {cl : List (Str × Addr)} {outer : List Env} {A₀ : Around} {base h₀ : Heap} {L : Addr} {m : Str → Option Value} {s : Shared} {rest : List (Addr × Obj)} {Q E : Value → Shared → Prop}
variable {t dt : Addr} {et : List DictEntry} {nt n : Nat} {D : TD} {A : TA}
theorem int_ret {v k : Int} {u : Tok} {h' : Heap} {tk' : Nat} {led led' : List (Addr × Obj)}
    (ret : ∀ (u : Tok) (h' : Heap) (tk' : Nat), Fr h₀ L h' m → News h₀ L h' led → Q (.int k u) { s with heap := h', toks := tk' }) (F : Fr h₀ L h' m) (N : News h₀ L h' led') (hs : ∀ p ∈ led, p ∈ led') (e : v = k) :
    Q (.int v u) { s with heap := h', toks := tk' } := by
  subst e; exact ret u h' tk' F fun p hp => N p (hs p hp)
theorem add_c {k1 k2 k3 : Tok} {kd sp nm : Str}
    (C : Cx w mean mg mb cs A₀ base outer h₀ L m s.heap) (N : News h₀ L s.heap (D.led A ++ rest)) (hd : dp + 1 < recursionLimit) (hu : un + 8 < cLine)
    (T' : TAt rest t dt et nt A) (O : TOk w D n) (hn : n < 2 ^ 18)
    (ret : ∀ u t1 t2 D1 D2 h' tk', Fr h₀ L h' m → News h₀ L h' ((D.add (.str kd k1) (.str sp k2) (.str nm k3) (.ref D1) (.str (Str.ofString "") t1) (.ref D2) (.int (-1) t2)).led A ++ rest) → Q (.int n u) { s with heap := h', toks := tk' }) :
    wpAny (model PySem.Challenge.rw_nt0607_01.row.prog w) (ktrTop dp un gd cn cs L a ccd cl outer) (call (.ref 293) [.ref t, .str kd k1, .str sp k2, .str nm k3, .ref 294]) Q E s := by
  obtain ⟨B, F, X, T, hk⟩ := C
  obtain ⟨kA, sA, nA, aA, xA, pA, hA, oA⟩ := A
  obtain ⟨kvs, svs, nvs, avs, xvs, pvs, cvs, c1, c2, c3, c4, c5, c6, c7, od⟩ := D
  obtain ⟨l1, l2, l3, l4, l5, l6, l7, ⟨dkvs, dk1, dk3⟩⟩ := O
  obtain ⟨ht, hdt, gk, gs, gn, ga, gx, gp, gh, go, gadd, apart, off, low⟩ := T'
  dsimp only at l1 l2 l3 l4 l5 l6 l7 gk gs gn ga gx gp gh go low dk1 apart
  simp only [TD.led, List.cons_append, List.nil_append] at N
  simp only [TA.all, List.mem_cons, List.not_mem_nil, or_false, forall_eq_or_imp, forall_eq] at off
  obtain ⟨o1, o2, o3, o4, o5, o6, o7, o8⟩ := off
  revert X; k_fill; intro X
  k_with_none
  w_top off
  k_with "myapp" => (k_dflt (refine' append_K ?k1 ?k2 ?k3 ?_ ?z; (case k1 => k_asm); (case k2 => k_asm); (case k3 => k_upd); (case z => ((try simp only [List.size_toArray, List.length_append, List.length_cons, List.length_nil]); rw [sizeLine_eq]; omega)); k_whole; intro h' F' N'; (try simp only [List.push_toArray] at N'); (try k_sweep)))
  k_with "mylist" => (k_dflt (refine' list_copyKT ?k1 ?k2 ?k3 ?_ ?z; (case k1 => k_asm); (case k2 => k_asm); (case k3 => (refine' tupK (l := []) ?x ?y; (case x => k_in); (case y => k_is))); (case z => exact Nat.zero_le _); k_whole; intro D' c' h' F' N' l1; (try k_lt l1); (try k_sweep)))
  k_with "mylen" => (k_dflt (refine' my_len ?k1 ?k2 ?k3 ?k4 ?_; (case k1 => k_asm); (case k2 => k_mem); (case k3 => (simp only [List.length_append, List.length_cons, List.length_nil, l1]; exact rfl)); (case k4 => omega); k_whole))
  refine wpAny_call ?_
  (refine' code_def ?k1 ?k2 ?k3 ?k4 ?k5 ?kA ?kF ?kK ?k6 ?k7 ?k8 ?k9 ?kB ?_ ?c2 ?c3 ?c4 ?c5; (case kA => exact rfl); (case kF => exact rfl); (case kK => assumption); (case k1 => k_asm); (case k2 => k_asm); (case k3 => k_asm); (case k4 => k_asm); (case k5 => k_asm); (case k6 => k_is); (case k7 => k_is); (case k8 => ktr_room); (case k9 => first | exact BindsTo.of_eq rfl | exact binds_K (by k_in) rfl (by k_is) rfl rfl rfl); (case c5 => decide); (case kB => exact locs rfl); (case c2 => exact rfl); (case c3 => exact rfl); (case c4 => exact rfl); k_whole; intro g' L' h' FG' F' N' B' X' T'; (try dsimp only); (try k_fold))
  k_steps
  refine int_ret (fun u h' tk' => ret u _ _ _ _ h' tk') (by assumption) (by assumption) (fun p hp => List.mem_cons_of_mem _ (List.mem_cons_of_mem _ hp)) ?_
  omega
theorem add_d0 {k1 : Tok} {kd : Str}
    (C : Cx w mean mg mb cs A₀ base outer h₀ L m s.heap) (N : News h₀ L s.heap (D.led A ++ rest)) (hd : dp + 1 < recursionLimit) (hu : un + 8 < cLine)
    (T' : TAt rest t dt et nt A) (O : TOk w D n) (hn : n < 2 ^ 18)
    (ret : ∀ u t1 t2 t3 t4 D1 D2 h' tk', Fr h₀ L h' m → News h₀ L h' ((D2, listOf ([] : List Value).toArray 0) :: ((D.add (.str kd k1) (.str (Str.ofString "") t3) (.str (Str.ofString "") t4) (.ref D1) (.str (Str.ofString "") t1) (.ref D2) (.int (-1) t2)).led A ++ rest)) → @LT.lt Nat _ A.oA D2 → AllLt D2 rest → Q (.int n u) { s with heap := h', toks := tk' }) :
    wpAny (model PySem.Challenge.rw_nt0607_01.row.prog w) (ktrTop dp un gd cn cs L a ccd cl outer) (call (.ref 293) [.ref t, .str kd k1]) Q E s := by
  obtain ⟨B, F, X, T, hk⟩ := C
  obtain ⟨kA, sA, nA, aA, xA, pA, hA, oA⟩ := A
  obtain ⟨kvs, svs, nvs, avs, xvs, pvs, cvs, c1, c2, c3, c4, c5, c6, c7, od⟩ := D
  obtain ⟨l1, l2, l3, l4, l5, l6, l7, ⟨dkvs, dk1, dk3⟩⟩ := O
  obtain ⟨ht, hdt, gk, gs, gn, ga, gx, gp, gh, go, gadd, apart, off, low⟩ := T'
  dsimp only at l1 l2 l3 l4 l5 l6 l7 gk gs gn ga gx gp gh go low dk1 apart
  simp only [TD.led, List.cons_append, List.nil_append] at N
  simp only [TA.all, List.mem_cons, List.not_mem_nil, or_false, forall_eq_or_imp, forall_eq] at off
  obtain ⟨o1, o2, o3, o4, o5, o6, o7, o8⟩ := off
  revert X; k_fill; intro X
  k_with_none
  w_top off
  k_with "myapp" => (k_dflt (refine' append_K ?k1 ?k2 ?k3 ?_ ?z; (case k1 => k_asm); (case k2 => k_asm); (case k3 => k_upd); (case z => ((try simp only [List.size_toArray, List.length_append, List.length_cons, List.length_nil]); rw [sizeLine_eq]; omega)); k_whole; intro h' F' N'; (try simp only [List.push_toArray] at N'); (try k_sweep)))
  k_with "mylist" => (k_dflt (refine' list_copyKT ?k1 ?k2 ?k3 ?_ ?z; (case k1 => k_asm); (case k2 => k_asm); (case k3 => (refine' tupK (l := []) ?x ?y; (case x => k_in); (case y => k_is))); (case z => exact Nat.zero_le _); k_whole; intro D' c' h' F' N' l1; (try k_lt l1); (try k_sweep)))
  k_with "mylen" => (k_dflt (refine' my_len ?k1 ?k2 ?k3 ?k4 ?_; (case k1 => k_asm); (case k2 => k_mem); (case k3 => (simp only [List.length_append, List.length_cons, List.length_nil, l1]; exact rfl)); (case k4 => omega); k_whole))
  refine wpAny_call ?_
  (refine' code_def ?k1 ?k2 ?k3 ?k4 ?k5 ?kA ?kF ?kK ?k6 ?k7 ?k8 ?k9 ?kB ?_ ?c2 ?c3 ?c4 ?c5; (case kA => exact rfl); (case kF => exact rfl); (case kK => assumption); (case k1 => k_asm); (case k2 => k_asm); (case k3 => k_asm); (case k4 => k_asm); (case k5 => k_asm); (case k6 => k_is); (case k7 => k_is); (case k8 => ktr_room); (case k9 => first | exact BindsTo.of_eq rfl | exact binds_K (by k_in) rfl (by k_is) rfl rfl rfl); (case c5 => decide); (case kB => exact locs rfl); (case c2 => exact rfl); (case c3 => exact rfl); (case c4 => exact rfl); k_whole; intro g' L' h' FG' F' N' B' X' T'; (try dsimp only); (try k_fold))
  k_steps
  rename_i l9 h9 k9 kF9 kN9 Tc9 kX9
  obtain ⟨q0, q1, q2, q3, q4, q5, q6, q7, q8, q9⟩ := k9
  refine int_ret (fun u h' tk' F N => ret u _ _ _ _ _ l9 h' tk' F N q8 q9) kF9 kN9 drop_one ?_
  omega
theorem add_d {k1 : Tok} {kd : Str}
    (C : Cx w mean mg mb cs A₀ base outer h₀ L m s.heap) (N : News h₀ L s.heap (D.led A ++ rest)) (hd : dp + 1 < recursionLimit) (hu : un + 8 < cLine)
    (T' : TAt rest t dt et nt A) (O : TOk w D n) (hn : n < 2 ^ 18)
    (ret : ∀ u t1 t2 t3 t4 D1 D2 h' tk', Fr h₀ L h' m → News h₀ L h' ((D.add (.str kd k1) (.str (Str.ofString "") t3) (.str (Str.ofString "") t4) (.ref D1) (.str (Str.ofString "") t1) (.ref D2) (.int (-1) t2)).led A ++ rest) → Q (.int n u) { s with heap := h', toks := tk' }) :
    wpAny (model PySem.Challenge.rw_nt0607_01.row.prog w) (ktrTop dp un gd cn cs L a ccd cl outer) (call (.ref 293) [.ref t, .str kd k1]) Q E s := 
  add_d0 C N hd hu T' O hn fun u t1 t2 t3 t4 D1 D2 h' tk' F' N' _ _ => ret u t1 t2 t3 t4 D1 D2 h' tk' F' fun p hp => N' p (List.mem_cons_of_mem _ hp)
end
local macro_rules | `(tactic| k_mem) => `(tactic| (refine List.mem_append.mpr (Or.inr ?_); with_reducible assumption))
local macro_rules | `(tactic| walk_at "call ref") => `(tactic| (k_here; (with_reducible rename TAt _ _ _ _ _ _ => tA9); (with_reducible show wpAny _ _ (call (Value.ref 293) _ _) _ _ _); k_dflt (refine' add_c ?C ?N ?hd ?hu ?T ?O ?hn ?_; (case C => exact ⟨by k_asm, by k_asm, by k_asm, by k_asm, by first | rfl | assumption⟩); (case N => k_asm); (case hd => ktr_room); (case hu => ktr_units); (case T => with_reducible assumption); (case O => with_reducible assumption); (case hn => first | with_reducible assumption | omega); intro u' t1' t2' D1' D2' h' tk' F' N'; (try dsimp only); (try k_fold))))
local macro_rules | `(tactic| walk_at "call ref") => `(tactic| (k_here; (with_reducible rename TAt _ _ _ _ _ _ => tA9); (with_reducible show wpAny _ _ (call (Value.ref 293) _ _) _ _ _); k_dflt (refine' add_d ?C ?N ?hd ?hu ?T ?O ?hn ?_; (case C => exact ⟨by k_asm, by k_asm, by k_asm, by k_asm, by first | rfl | assumption⟩); (case N => k_asm); (case hd => ktr_room); (case hu => ktr_units); (case T => with_reducible assumption); (case O => first | with_reducible assumption | exact TOk.add (by with_reducible assumption) _ _ _ _ _ _ _); (case hn => first | with_reducible assumption | omega); intro u' t1' t2' t3' t4' D1' D2' h' tk' F' N'; (try dsimp only); (try k_fold))))
def AllStr (vs : List Value) : Prop := ∀ v ∈ vs, ∃ x t, v = Value.str x t ∧ PyData.strOk x = true
/-- what the tree's data are behind an element -/
structure Grew (D D' : TD) (n n' : Nat) (sp nm : Str) : Prop where
  lo : n < n'
  hi : n' ≤ n + 2
  gs : ∃ t r, D'.svs = D.svs ++ (.str sp t :: r) ∧ AllStr r
  gn : ∃ t r, D'.nvs = D.nvs ++ (.str nm t :: r) ∧ AllStr r
  gc : ∃ r, D'.cvs = D.cvs ++ r
theorem DictOk.mono {w : World} {o : Obj} {k k' : Nat} (h : DictOk w o k) (e : k ≤ k') : DictOk w o k' := let ⟨kvs, a, b⟩ := h; ⟨kvs, a, Nat.le_trans b e⟩
theorem grew_one {D : TD} {n : Nat} {kd at_ tx ch pa : Value} {sp nm : Str} {k2 k3 : Tok} : Grew D (D.add kd (.str sp k2) (.str nm k3) at_ tx ch pa) n (n + 1) sp nm :=
  ⟨Nat.lt_succ_self _, Nat.le_succ _, ⟨k2, [], rfl, fun _ h => nomatch h⟩, ⟨k3, [], rfl, fun _ h => nomatch h⟩, ⟨[ch], rfl⟩⟩
theorem grew_two {D : TD} {n : Nat} {kd at_ tx ch pa kd' at_' tx' ch' pa' : Value} {sp nm : Str} {k2 k3 k2' k3' : Tok} {od : Obj} :
    Grew D { (D.add kd (.str sp k2) (.str nm k3) at_ tx ch pa).add kd' (.str (Str.ofString "") k2') (.str (Str.ofString "") k3') at_' tx' ch' pa' with od := od } n (n + 2) sp nm := by
  refine ⟨by omega, Nat.le_refl _, ⟨k2, [.str (Str.ofString "") k2'], ?_, ?_⟩, ⟨k3, [.str (Str.ofString "") k3'], ?_, ?_⟩, ⟨[ch, ch'], ?_⟩⟩
  · simp only [TD.add, List.append_assoc, List.cons_append, List.nil_append]
  · intro v hv; rw [List.mem_singleton.mp hv]; exact ⟨_, _, rfl, by decide +kernel⟩
  · simp only [TD.add, List.append_assoc, List.cons_append, List.nil_append]
  · intro v hv; rw [List.mem_singleton.mp hv]; exact ⟨_, _, rfl, by decide +kernel⟩
  · simp only [TD.add, List.append_assoc, List.cons_append, List.nil_append]
theorem TOk.dict {w : World} {D : TD} {N : Nat} {od : Obj} (O : TOk w D N) (h : DictOk w od N) : TOk w { D with od := od } N := ⟨O.l1, O.l2, O.l3, O.l4, O.l5, O.l6, O.l7, h⟩
theorem tree_upd {D : TD} {A : TA} {rest : List (Addr × Obj)} {t dt : Addr} {et : List DictEntry} {nt : Nat} (T : TAt rest t dt et nt A) : UpdF A.oA D.od (D.led A ++ rest) (fun o' => ({ D with od := o' } : TD).led A ++ rest) := by
  obtain ⟨kA, sA, nA, aA, xA, pA, hA, oA⟩ := A
  obtain ⟨ht, hdt, gk, gs, gn, ga, gx, gp, gh, go, gadd, apart, off, low⟩ := T
  dsimp only at apart
  refine .tail (neN (by dsimp only; omega)) (.tail (neN (by dsimp only; omega)) (.tail (neN (by dsimp only; omega)) (.tail (neN (by dsimp only; omega)) (.tail (neN (by dsimp only; omega)) (.tail (neN (by dsimp only; omega)) (.tail (neN (by dsimp only; omega)) (.head fun p hp => ?_)))))))
  exact off oA (by simp [TA.all]) p hp
section
variable {w : World} {mean : ExcName → Option Value} {mg mb : Str → Option Value} {dp un : Nat} {gd : Option (List Code)} {cn : Str} {cs : Scope} {a : Addr} {ccd : Value} {cl : List (Str × Addr)} {outer : List Env} {A₀ : Around} {base h₀ : Heap} {L : Addr} {m : Str → Option Value} {s : Shared} {rest : List (Addr × Obj)} {Q E : Value → Shared → Prop}
variable {t dt : Addr} {et : List DictEntry} {nt n : Nat} {D : TD} {A : TA}
theorem tree_set {Ar : Around} {E : Value → Shared → Prop} {k : Int} {u : Tok} {v : Value} {n₀ : Nat} {Q : Unit → Shared → Prop} (F : Fr h₀ L s.heap m) (N : News h₀ L s.heap (D.led A ++ rest)) (T : TAt rest t dt et nt A) (K : DictOk w D.od n₀) (hn : n₀ < 2 ^ 18)
    (h : ∀ h' od', Fr h₀ L h' m → News h₀ L h' (({ D with od := od' } : TD).led A ++ rest) → DictOk w od' (n₀ + 1) → Q () { s with heap := h', toks := s.toks + 1 }) :
    wpAny (model PySem.Challenge.rw_nt0607_01.row.prog w) Ar (setItem (.ref A.oA) (.int k u) v) Q E s := by
  obtain ⟨kvs, hk, hl⟩ := K
  refine kda_set (knd := intKind _ _) F N (tree_upd T) hk (intKind_is _ _ _ _) (by rw [sizeLine_eq]; omega) fun h' o' F' N' hd => h h' o' F' N' ⟨_, hd, Nat.le_trans (stored_length_le _ _ _) (by omega)⟩
theorem element_ret {u : Tok} {sp nm : Str} {D' : TD} {n' : Nat} {h' : Heap} {tk' : Nat}
    (ret : ∀ u D' n' h' tk', Grew D D' n n' sp nm → TOk w D' n' → Fr h₀ L h' m → News h₀ L h' (D'.led A ++ rest) → Q (.int n u) { s with heap := h', toks := tk' })
    (G : Grew D D' n n' sp nm) (O : TOk w D' n') (F : Fr h₀ L h' m) (N : News h₀ L h' (D'.led A ++ rest)) : Q (.int n u) { s with heap := h', toks := tk' } := ret u D' n' h' tk' G O F N
theorem element_c {k1 k2 : Tok} {nm sp : Str}
    (C : Cx w mean mg mb cs A₀ base outer h₀ L m s.heap) (N : News h₀ L s.heap (D.led A ++ rest)) (hd : dp + 2 < recursionLimit) (hu : un + 16 < cLine)
    (T' : TAt rest t dt et nt A) (O : TOk w D n) (hn : n < 2 ^ 17)
    (ret : ∀ u D' n' h' tk', Grew D D' n n' sp nm → TOk w D' n' → Fr h₀ L h' m → News h₀ L h' (D'.led A ++ rest) → Q (.int n u) { s with heap := h', toks := tk' }) :
    wpAny (model PySem.Challenge.rw_nt0607_01.row.prog w) (ktrTop dp un gd cn cs L a ccd cl outer) (call (.ref 302) [.ref t, .str nm k1, .str sp k2]) Q E s := by
  obtain ⟨B, F, X, T, hk⟩ := C
  obtain ⟨ht, hdt, gk, gs, gn, ga, gx, gp, gh, go, gadd, apart, off, low⟩ := id T'
  have hn18 : n < 2 ^ 18 := by omega
  have hn19 : n + 1 < 2 ^ 18 := by omega
  revert X; k_fill; intro X
  k_with_none
  w_top off
  k_with "myset" => (k_dflt (refine' tree_set ?k1 ?k2 ?k3 ?k4 ?k5 ?_; (case k1 => k_asm); (case k2 => k_asm); (case k3 => with_reducible assumption); (case k4 => exact O.dk); (case k5 => assumption); k_whole; intro h' od' F' N' K'; (try k_sweep)))
  refine wpAny_call ?_
  (refine' code_def ?k1 ?k2 ?k3 ?k4 ?k5 ?kA ?kF ?kK ?k6 ?k7 ?k8 ?k9 ?kB ?_ ?c2 ?c3 ?c4 ?c5; (case kA => exact rfl); (case kF => exact rfl); (case kK => assumption); (case k1 => k_asm); (case k2 => k_asm); (case k3 => k_asm); (case k4 => k_asm); (case k5 => k_asm); (case k6 => k_is); (case k7 => k_is); (case k8 => ktr_room); (case k9 => first | exact BindsTo.of_eq rfl | exact binds_K (by k_in) rfl (by k_is) rfl rfl rfl); (case c5 => decide); (case kB => exact locs rfl); (case c2 => exact rfl); (case c3 => exact rfl); (case c4 => exact rfl); k_whole; intro g' L' h' FG' F' N' B' X' T'; (try dsimp only); (try k_fold))
  k_steps
  · rename DictOk w _ (n + 1) => hK
    exact element_ret ret grew_two (((O.add _ _ _ _ _ _ _).add _ _ _ _ _ _ _).dict (hK.mono (Nat.le_succ _))) (by assumption) (by assumption)
  all_goals exact element_ret ret grew_one (O.add _ _ _ _ _ _ _) (by assumption) (by assumption)
theorem element_d {k1 : Tok} {nm : Str}
    (C : Cx w mean mg mb cs A₀ base outer h₀ L m s.heap) (N : News h₀ L s.heap (D.led A ++ rest)) (hd : dp + 2 < recursionLimit) (hu : un + 16 < cLine)
    (T' : TAt rest t dt et nt A) (O : TOk w D n) (hn : n < 2 ^ 17)
    (ret : ∀ u D' n' h' tk', Grew D D' n n' (Str.ofString "html") nm → TOk w D' n' → Fr h₀ L h' m → News h₀ L h' (D'.led A ++ rest) → Q (.int n u) { s with heap := h', toks := tk' }) :
    wpAny (model PySem.Challenge.rw_nt0607_01.row.prog w) (ktrTop dp un gd cn cs L a ccd cl outer) (call (.ref 302) [.ref t, .str nm k1]) Q E s := by
  obtain ⟨B, F, X, T, hk⟩ := C
  obtain ⟨ht, hdt, gk, gs, gn, ga, gx, gp, gh, go, gadd, apart, off, low⟩ := id T'
  have hn18 : n < 2 ^ 18 := by omega
  have hn19 : n + 1 < 2 ^ 18 := by omega
  revert X; k_fill; intro X
  k_with_none
  w_top off
  k_with "myset" => (k_dflt (refine' tree_set ?k1 ?k2 ?k3 ?k4 ?k5 ?_; (case k1 => k_asm); (case k2 => k_asm); (case k3 => with_reducible assumption); (case k4 => exact O.dk); (case k5 => assumption); k_whole; intro h' od' F' N' K'; (try k_sweep)))
  refine wpAny_call ?_
  (refine' code_def ?k1 ?k2 ?k3 ?k4 ?k5 ?kA ?kF ?kK ?k6 ?k7 ?k8 ?k9 ?kB ?_ ?c2 ?c3 ?c4 ?c5; (case kA => exact rfl); (case kF => exact rfl); (case kK => assumption); (case k1 => k_asm); (case k2 => k_asm); (case k3 => k_asm); (case k4 => k_asm); (case k5 => k_asm); (case k6 => k_is); (case k7 => k_is); (case k8 => ktr_room); (case k9 => first | exact BindsTo.of_eq rfl | exact binds_K (by k_in) rfl (by k_is) rfl rfl rfl); (case c5 => decide); (case kB => exact locs rfl); (case c2 => exact rfl); (case c3 => exact rfl); (case c4 => exact rfl); k_whole; intro g' L' h' FG' F' N' B' X' T'; (try dsimp only); (try k_fold))
  k_steps
  · rename DictOk w _ (n + 1) => hK
    exact element_ret ret grew_two (((O.add _ _ _ _ _ _ _).add _ _ _ _ _ _ _).dict (hK.mono (Nat.le_succ _))) (by assumption) (by assumption)
  all_goals exact element_ret ret grew_one (O.add _ _ _ _ _ _ _) (by assumption) (by assumption)
end
local macro_rules | `(tactic| walk_at "call ref") => `(tactic| (k_here; (with_reducible rename TAt _ _ _ _ _ _ => tA9); (with_reducible show wpAny _ _ (call (Value.ref 302) _ _) _ _ _); k_dflt (refine' element_c ?C ?N ?hd ?hu ?T ?O ?hn ?_; (case C => exact ⟨by k_asm, by k_asm, by k_asm, by k_asm, by first | rfl | assumption⟩); (case N => k_asm); (case hd => ktr_room); (case hu => ktr_units); (case T => with_reducible assumption); (case O => with_reducible assumption); (case hn => first | with_reducible assumption | omega); intro u' D' n' h' tk' G' O' F' N'; (try dsimp only); (try k_fold))))
local macro_rules | `(tactic| walk_at "call ref") => `(tactic| (k_here; (with_reducible rename TAt _ _ _ _ _ _ => tA9); (with_reducible show wpAny _ _ (call (Value.ref 302) _ _) _ _ _); k_dflt (refine' element_d ?C ?N ?hd ?hu ?T ?O ?hn ?_; (case C => exact ⟨by k_asm, by k_asm, by k_asm, by k_asm, by first | rfl | assumption⟩); (case N => k_asm); (case hd => ktr_room); (case hu => ktr_units); (case T => with_reducible assumption); (case O => with_reducible assumption); (case hn => first | with_reducible assumption | omega); intro u' D' n' h' tk' G' O' F' N'; (try dsimp only); (try k_fold))))
def lawBody : List Stmt := match PySem.Challenge.pw_nt0607_01.main.body.getLast? with
  | some (.FunctionDef (body := b) ..) => b
  | _ => []
def lawScope : Scope := match PySem.Challenge.pw_nt0607_01.main.body.getLast? with
  | some (.FunctionDef (scope := sc) ..) => sc
  | _ => { kind := .function, names := [], isGenerator := false, isCoroutine := false, more := [] }
def lawEnv (L fa : Addr) (cd : Value) : Env := envOfC (Str.ofString "law") lawScope L fa cd
def lawA (L fa : Addr) (cd : Value) : Around := callerA.deeper (lawEnv L fa cd)
theorem fr_kst {h₀ h : Heap} {L : Addr} {m : Str → Option Value} (ps : List (Str × Value)) (F : Fr h₀ L h m) (hk : ∀ p ∈ ps, m p.1 = some p.2) : Fr h₀ L h (kstB m ps) := by
  have e : kstB m ps = m := funext fun y => kstB_eq hk fun _ => rfl
  rw [e]; exact F
theorem allLt_mem {d : Addr} : ∀ {l : List (Addr × Obj)}, AllLt d l → ∀ p ∈ l, p.1 < d
  | [], _, _, h => nomatch h
  | q :: r, h, p, hp => by
    rcases List.mem_cons.mp hp with rfl | hp
    · exact h.1
    · exact allLt_mem h.2 p hp
section
variable {ro D : Addr} {o o' t : Obj} {tups led own : List (Addr × Obj)} {q : Addr × Obj} {rvs : List Value} {R : List (Str × Str)}
theorem seg1_sub1 : ∀ p ∈ (ro, o) :: (D, t) :: (tups ++ led ++ own), p ∈ (D, t) :: q :: ((ro, o) :: (tups ++ led) ++ own) := fun p hp => by
  rcases List.mem_cons.mp hp with rfl | hp
  · exact List.mem_cons_of_mem _ (List.mem_cons_of_mem _ (List.mem_cons_self ..))
  · rcases List.mem_cons.mp hp with rfl | hp
    · exact List.mem_cons_self ..
    · exact List.mem_cons_of_mem _ (List.mem_cons_of_mem _ (List.mem_cons_of_mem _ hp))
theorem seg1_ne (h : ∀ p ∈ (ro, o) :: (tups ++ led) ++ own, p.1 < D) (h1 : ∀ p ∈ tups, p.1 ≠ ro) (h2 : ∀ p ∈ led, p.1 < ro) (h3 : TbOff own ((ro, o) :: (tups ++ led))) : ∀ p ∈ (D, t) :: (tups ++ led ++ own), p.1 ≠ ro := fun p hp => by
  rcases List.mem_cons.mp hp with rfl | hp
  · exact Nat.ne_of_gt (h (ro, o) (List.mem_append.mpr (Or.inl (List.mem_cons_self ..))))
  · rcases List.mem_append.mp hp with hp | hp
    · exact (List.mem_append.mp hp).elim (h1 p) (fun h => Nat.ne_of_lt (h2 p h))
    · exact h3 p hp _ (List.mem_cons_self ..)
theorem seg1_sub2 : ∀ p ∈ (ro, o) :: ((D, t) :: tups ++ led), p ∈ (ro, o) :: (D, t) :: (tups ++ led ++ own) := fun p hp => by
  rcases List.mem_cons.mp hp with rfl | hp
  · exact List.mem_cons_self ..
  · rcases List.mem_cons.mp hp with rfl | hp
    · exact List.mem_cons_of_mem _ (List.mem_cons_self ..)
    · exact List.mem_cons_of_mem _ (List.mem_cons_of_mem _ (List.mem_append.mpr (Or.inl hp)))
theorem seg1_own : ∀ p ∈ own, p ∈ (ro, o) :: (D, t) :: (tups ++ led ++ own) := fun _ hp => List.mem_cons_of_mem _ (List.mem_cons_of_mem _ (List.mem_append.mpr (Or.inr hp)))
theorem seg1_off (h3 : TbOff own ((ro, o) :: (tups ++ led))) (h : ∀ p ∈ (ro, o) :: (tups ++ led) ++ own, p.1 < D) : TbOff own ((ro, o') :: ((D, t) :: tups ++ led)) := fun p hp q hq => by
  rcases List.mem_cons.mp hq with rfl | hq
  · exact h3 p hp (ro, o) (List.mem_cons_self ..)
  · rcases List.mem_cons.mp hq with rfl | hq
    · exact Nat.ne_of_lt (h p (List.mem_append.mpr (Or.inr hp)))
    · exact h3 p hp q (List.mem_cons_of_mem _ hq)
theorem seg1_tups (h1 : ∀ p ∈ tups, p.1 ≠ ro) (h : D ≠ ro) : ∀ p ∈ (D, t) :: tups, p.1 ≠ ro := fun p hp => by
  rcases List.mem_cons.mp hp with rfl | hp
  · exact h
  · exact h1 p hp
theorem rows_push {sp nm : Str} {t1 t2 : Tok} (h : RowsIs tups rvs R) : RowsIs ((D, tupOf [.str sp t1, .str nm t2]) :: tups) (rvs ++ [.ref D]) (R ++ [(sp, nm)]) := by
  refine ⟨by rw [List.length_append, List.length_append, h.1]; rfl, fun i hi => ?_⟩
  by_cases hlt : i < R.length
  · obtain ⟨a, k1, k2, h1, h2⟩ := h.2 i hlt
    have e : rowD (R ++ [(sp, nm)]) i = rowD R i := by
      unfold rowD; rw [List.getD_eq_getElem?_getD, List.getD_eq_getElem?_getD, List.getElem?_append_left hlt]
    rw [e]
    exact ⟨a, k1, k2, by rw [List.getElem?_append_left (by rw [h.1]; exact hlt)]; exact h1, List.mem_cons_of_mem _ h2⟩
  · have hi' : i = R.length := by rw [List.length_append, List.length_singleton] at hi; omega
    subst hi'
    have e : rowD (R ++ [(sp, nm)]) R.length = (sp, nm) := by
      unfold rowD; rw [List.getD_eq_getElem?_getD, List.getElem?_append_right (Nat.le_refl _), Nat.sub_self]; rfl
    rw [e]
    exact ⟨D, t1, t2, by rw [List.getElem?_append_right (by rw [h.1]; exact Nat.le_refl _), h.1, Nat.sub_self]; rfl, List.mem_cons_self ..⟩
theorem seg1_low (h1 : ∀ p ∈ tups, ∀ q ∈ led, @LT.lt Nat _ q.1 p.1) (h : ∀ p ∈ (ro, o) :: (tups ++ led) ++ own, p.1 < D) : ∀ p ∈ (D, t) :: tups, ∀ q ∈ led, @LT.lt Nat _ q.1 p.1 := fun p hp q hq => by
  rcases List.mem_cons.mp hp with rfl | hp
  · exact h q (List.mem_append.mpr (Or.inl (List.mem_cons_of_mem _ (List.mem_append.mpr (Or.inr hq)))))
  · exact h1 p hp q hq
def RowsOk (R : List (Str × Str)) : Prop := ∀ r ∈ R, PyData.strOk r.1 = true ∧ PyData.strOk r.2 = true
theorem rows_ok1 {sp nm : Str} (h : PyData.strOk sp = true) (h' : PyData.strOk nm = true) : RowsOk [(sp, nm)] := fun r hr => by rw [List.mem_singleton.mp hr]; exact ⟨h, h'⟩
theorem rows_okp {sp nm : Str} (H : RowsOk R) (h : PyData.strOk sp = true) (h' : PyData.strOk nm = true) : RowsOk (R ++ [(sp, nm)]) := fun r hr => (List.mem_append.mp hr).elim (H r) (rows_ok1 h h' r)
theorem rows_zero {x y : Str × Str} (h : rowD R 0 = x) (h0 : 0 < R.length) : rowD (R ++ [y]) 0 = x := by
  rw [← h]; unfold rowD; rw [List.getD_eq_getElem?_getD, List.getD_eq_getElem?_getD, List.getElem?_append_left h0]
theorem rows_one {sp nm : Str} {t1 t2 : Tok} : RowsIs [(D, tupOf [.str sp t1, .str nm t2])] [.ref D] [(sp, nm)] := by
  have := rows_push (D := D) (sp := sp) (nm := nm) (t1 := t1) (t2 := t2) (tups := []) (rvs := []) (R := []) ⟨rfl, fun i hi => absurd hi (Nat.not_lt_zero _)⟩
  exact this
end
section
variable {w : World} {mean : ExcName → Option Value} {mg mb : Str → Option Value} {h₀ : Heap} {L fa : Addr} {cd : Value} {s : Shared} {Q : Flow → Shared → Prop} {E : Value → Shared → Prop}
variable {l : Addr} {vs : List Value} {ns : List Int} {u : Str → Option Value} {led : List (Addr × Obj)}
theorem seg1 (B : Below callerA h₀ [] h₀) (F : Fr h₀ L s.heap (kstB u [(Str.ofString "script", .ref l)])) (X : (hd.heap_39 w.params).In h₀) (N : News h₀ L s.heap led) (T : Top hd.view_39 (looseW hd.view_39 [Str.ofString "Tree"]) mean mg mb h₀)
    (hE : PassesOwn (model PySem.Challenge.rw_nt0607_01.row.prog w) (lawA L fa cd) (lawEnv L fa cd) E) (hl : h₀.IsList l vs.toArray) (hi : IntsAre vs ns) (hfit : ns.length < 2 ^ 62)
    (next : ∀ (u : Str → Option Value) h' tk' ro rvs rn R tups, Fr h₀ L h' (kstB u [(Str.ofString "script", .ref l), (Str.ofString "rows", .ref ro)]) → RowsIs tups rvs R → RowsOk R → 1 ≤ R.length → R.length ≤ 8 → rowD R 0 = (Str.ofString "html", Str.ofString "html") → (∀ q ∈ led, @LT.lt Nat _ q.1 ro) → (∀ p ∈ tups, ∀ q ∈ led, @LT.lt Nat _ q.1 p.1) → News h₀ L h' ((ro, listOf rvs.toArray rn) :: (tups ++ led)) →
      wpAny (model PySem.Challenge.rw_nt0607_01.row.prog w) (lawA L fa cd) (execs (lawBody.drop 2) (lawEnv L fa cd)) Q E { s with heap := h', toks := tk' }) :
    wpAny (model PySem.Challenge.rw_nt0607_01.row.prog w) (lawA L fa cd) (execs lawBody (lawEnv L fa cd)) Q E s := by
  revert X; k_fill; intro X
  k_with_none
  w_top off
  obtain ⟨sc, hsc⟩ : ∃ x, x = lawScope := ⟨_, rfl⟩
  unfold lawA lawEnv at next hE ⊢
  rw [← hsc] at next hE ⊢
  obtain ⟨bd, hbd⟩ : ∃ x, x = lawBody := ⟨_, rfl⟩
  rw [← hbd]
  conv at hsc => rhs; whnf
  conv at hbd => rhs; whnf
  subst hbd
  subst hsc
  iterate 16 walk1
  rename_i NX lT q3 ro q4 lR q5 q6 q7
  (rename Fr _ _ _ _ => lF')
  (with_unfolding_all refine' For_invVF lF' ?k1 ?k2 ?_ ?k3 ?k4; (case k1 => exact rfl); (case k2 => exact rfl); (case k3 => (intro _; rfl)); (case k4 => exact hE))
  k_fold
  iterate 22 walk1
  k_unfold
  rename_i dd td h1 tk1 F1 N1 hR tkR t1 u1 v1 isR FR NR kR
  have hd0 : 0 ≤ (dd + 7).fmod 8 := Int.fmod_nonneg_of_pos _ (by decide)
  have hd8 : (dd + 7).fmod 8 < 8 := Int.fmod_lt_of_pos _ (by decide)
  obtain ⟨nn, hnn⟩ := Int.eq_ofNat_of_zero_le hd0
  have hnn8 : nn < 8 := by omega
  (with_unfolding_all refine' my_range (σ := (List Value × Nat) × List (Str × Str) × List (Addr × Obj)) (fun c => (ro, listOf c.1.1.toArray c.1.2) :: (c.2.2 ++ led)) (fun _ => [(Str.ofString "script", Value.ref l), (Str.ofString "rows", Value.ref ro)]) [] (fun i c => RowsIs c.2.2 c.1.1 c.2.1 ∧ c.2.1.length = i + 1 ∧ rowD c.2.1 0 = (Str.ofString "html", Str.ofString "html") ∧ (∀ p ∈ c.2.2, p.1 ≠ ro) ∧ RowsOk c.2.1 ∧ (∀ p ∈ c.2.2, ∀ q ∈ led, @LT.lt Nat _ q.1 p.1)) (([.ref NX], 0), [(Str.ofString "html", Str.ofString "html")], [(NX, _)]) ?kh ?kr hnn (Nat.lt_trans hnn8 (by decide)) ?kF ?kN ?kk ?kp ?_ ?_)
  (case kh => rfl)
  (case kr => assumption)
  (case kF => k_asm)
  (case kN => k_asm)
  (case kk => (intro p hp; rcases List.mem_cons.mp hp with rfl | hp; (exact rfl); rw [List.mem_singleton.mp hp]; rfl))
  (case kp => exact ⟨rows_one, rfl, rfl, fun p hp => by rw [List.mem_singleton.mp hp]; exact Nat.ne_of_lt lR.1, rows_ok1 (by decide +kernel) (by decide +kernel), fun p hp q hq => by rw [List.mem_singleton.mp hp]; exact q3 q hq⟩)
  · rintro ⟨⟨rvs, rn⟩, R, tups⟩ i ti u h9 tk9 own hi9 hoff ⟨hp1, hp2, hp3, hp4, hp5, hp6⟩ F9 N9
    dsimp only at hp1 hp2 hp3 hp4 hp5 hp6 hoff F9 N9
    k_fold
    have hi0 : 0 ≤ (i : Int) := by omega
    have hi7 : (i : Int) < 7 := by omega
    k_steps
    rename_i d9 t9 h8 tk8 l9 h7 F7 N7 l7 t7 D9 sp9 t71 nm9 t72 h6 tk6 o91 o92 F6 N6 l6
    obtain ⟨l61, l62⟩ := l6
    refine my_append (its := rvs) (n := rn) (rest := (D9, tupOf [.str sp9 t71, .str nm9 t72]) :: (tups ++ led ++ own)) F6 (cb_drop N6 ?_) ?_ ?_ ?_
    · exact seg1_sub1
    · exact seg1_ne (allLt_mem l62) hp4 (allLt_mem lR.2) hoff
    · rw [hp1.1, hp2]; omega
    intro h5 F5 N5
    k_steps
    refine' gr_end ((rvs ++ [.ref D9], rn + 1), R ++ [(sp9, nm9)], (D9, _) :: tups) F5 N5 ?hn ?ho ?hoff ?hk ?hr ?hp
    (case hn => exact seg1_sub2)
    (case ho => exact seg1_own)
    (case hoff => exact seg1_off hoff (allLt_mem l62))
    (case hk => (intro p hp; rcases List.mem_cons.mp hp with rfl | hp; (exact rfl); rw [List.mem_singleton.mp hp]; rfl))
    (case hr =>
      intro z hx h1 h2
      exact (if_neg hx).trans (kst_same h2 h1))
    (case hp => exact ⟨rows_push hp1, by rw [List.length_append, hp2]; rfl, rows_zero hp3 (by omega), seg1_tups hp4 (Nat.ne_of_gt (allLt_mem l62 _ (List.mem_append.mpr (Or.inl (List.mem_cons_self ..))))), rows_okp hp5 o91 o92, seg1_low hp6 (allLt_mem l62)⟩)
  · rintro ⟨⟨rvs, rn⟩, R, tups⟩ u9 h9 tk9 ⟨hp1, hp2, hp3, hp4, hp5, hp6⟩ F9 N9
    dsimp only at hp1 hp2 hp3 hp4 hp5 hp6 F9 N9
    exact next _ _ _ _ _ _ _ _ (fr_kst [(Str.ofString "script", Value.ref l), (Str.ofString "rows", Value.ref ro)] F9 (by intro p hp; rcases List.mem_cons.mp hp with rfl | hp; (exact rfl); rw [List.mem_singleton.mp hp]; rfl)) hp1 hp5 (by omega) (by omega) hp3 (allLt_mem lR.2) hp6 N9
end
def Six (nvs : List Value) : Prop := nvs.length = 6 ∧ AllStr nvs
theorem allStr_push {mvs : List Value} {x : Str} {t : Tok} (h : AllStr mvs) (hx : PyData.strOk x = true) : AllStr (mvs ++ [.str x t]) := fun v hv => by
  rcases List.mem_append.mp hv with hv | hv
  · exact h v hv
  · rw [List.mem_singleton.mp hv]; exact ⟨_, _, rfl, hx⟩
theorem six_of {a b c d e f : Str} {ta tb tc td te tf : Tok} (h : [a, b, c, d, e, f].all PyData.strOk = true) : Six [.str a ta, .str b tb, .str c tc, .str d td, .str e te, .str f tf] := by
  refine ⟨rfl, ?_⟩
  intro v hv
  simp only [List.mem_cons, List.not_mem_nil, or_false] at hv
  simp only [List.all_cons, List.all_nil, Bool.and_true, Bool.and_eq_true] at h
  obtain ⟨h1, h2, h3, h4, h5, h6⟩ := h
  rcases hv with rfl | rfl | rfl | rfl | rfl | rfl <;> exact ⟨_, _, rfl, by assumption⟩
theorem six_item {prog : Program} {w : World} {A : Around} {E : Value → Shared → Prop} {s : Shared} {h₀ : Heap} {L : Addr} {news : List (Addr × Obj)} {value slice : PySem.Expr} {l : Addr} {its : List Value} {nn : Nat} {x : Int} {u : Tok} {Q : Value → Shared → Prop}
    (N : News h₀ L s.heap news) (hm : (l, listOf its.toArray nn) ∈ news) (h6 : Six its) (h : ∀ x t, PyData.strOk x = true → Q (.str x t) s)
    (hs : subscripted slice false (.ref l) (.int (x.fmod 6) u) = operate [.ref l, .int (x.fmod 6) u] (getItem (.ref l) (.int (x.fmod 6) u)) := by with_unfolding_all rfl) :
    wpAny (model prog w) A (subscriptTail value slice (.ref l) (.int (x.fmod 6) u)) Q E s := by
  have h0 : 0 ≤ x.fmod 6 := Int.fmod_nonneg_of_pos _ (by decide)
  have h1 : x.fmod 6 < 6 := Int.fmod_lt_of_pos _ (by decide)
  have hlt : (x.fmod 6).toNat < its.length := by rw [h6.1]; omega
  obtain ⟨y, t, e, ho⟩ := h6.2 its[(x.fmod 6).toNat] (List.getElem_mem hlt)
  exact my_item N hm h0 (by omega) (by rw [List.getElem?_eq_getElem hlt, e]) (h y t ho) hs
section
variable {w : World} {mean : ExcName → Option Value} {mg mb : Str → Option Value} {h₀ : Heap} {L fa : Addr} {cd : Value} {s : Shared} {Q : Flow → Shared → Prop} {E : Value → Shared → Prop}
variable {l ro : Addr} {vs : List Value} {ns : List Int} {u : Str → Option Value} {led : List (Addr × Obj)}
theorem seg2 (B : Below callerA h₀ [] h₀) (F : Fr h₀ L s.heap (kstB u [(Str.ofString "script", .ref l), (Str.ofString "rows", .ref ro)])) (X : (hd.heap_39 w.params).In h₀) (N : News h₀ L s.heap led) (T : Top hd.view_39 (looseW hd.view_39 [Str.ofString "Tree"]) mean mg mb h₀)
    (hE : PassesOwn (model PySem.Challenge.rw_nt0607_01.row.prog w) (lawA L fa cd) (lawEnv L fa cd) E) (hl : h₀.IsList l vs.toArray) (hi : IntsAre vs ns) (hfit : ns.length < 2 ^ 62)
    (next : ∀ (u : Str → Option Value) h' tk' ar sp nm t1 t2 mo mvs mn, Fr h₀ L h' (kstB u [(Str.ofString "script", .ref l), (Str.ofString "rows", .ref ro), (Str.ofString "around", .ref ar), (Str.ofString "modes", .ref mo)]) → AllStr mvs → 1 ≤ mvs.length → mvs.length ≤ 3 → PyData.strOk sp = true → PyData.strOk nm = true → (∀ q ∈ led, @LT.lt Nat _ q.1 ar ∧ @LT.lt Nat _ q.1 mo) → @LT.lt Nat _ ar mo → News h₀ L h' ((mo, listOf mvs.toArray mn) :: (ar, tupOf [.str sp t1, .str nm t2]) :: led) →
      wpAny (model PySem.Challenge.rw_nt0607_01.row.prog w) (lawA L fa cd) (execs (lawBody.drop 6) (lawEnv L fa cd)) Q E { s with heap := h', toks := tk' }) :
    wpAny (model PySem.Challenge.rw_nt0607_01.row.prog w) (lawA L fa cd) (execs (lawBody.drop 2) (lawEnv L fa cd)) Q E s := by
  revert X; k_fill; intro X
  k_with_none
  w_top off
  obtain ⟨sc, hsc⟩ : ∃ x, x = lawScope := ⟨_, rfl⟩
  unfold lawA lawEnv at next hE ⊢
  rw [← hsc] at next hE ⊢
  obtain ⟨bd, hbd⟩ : ∃ x, x = lawBody.drop 2 := ⟨_, rfl⟩
  rw [← hbd]
  conv at hsc => rhs; whnf
  conv at hbd => rhs; whnf
  subst hbd
  subst hsc
  iterate 49 walk1
  rename_i da ta ha tka ar spa tsa nma tna hb tkb ok1 ok2 la hc na hd' lna he tke mo hf lmo hg F7 N7
  obtain ⟨nvs, nn9, N8, hnv⟩ : ∃ nvs nn9, News h₀ L hg ((mo, listOf ([] : List Value).toArray 0) :: (na, listOf nvs.toArray nn9) :: (ar, tupOf [.str spa tsa, .str nma tna]) :: led) ∧ Six nvs := ⟨_, _, N7, six_of (by decide +kernel)⟩
  clear N7
  (with_unfolding_all refine' For_invVF F7 ?k1 ?k2 ?_ ?k3 ?k4; (case k1 => exact rfl); (case k2 => exact rfl); (case k3 => (intro _; rfl)); (case k4 => exact hE))
  k_fold
  iterate 25 walk1
  k_unfold
  rename_i dd td h1 tk1 F1 N1 hR tkR t1 u1 v1 isR FR NR kR
  have hd0 : 0 ≤ (dd + 2).fmod 3 := Int.fmod_nonneg_of_pos _ (by decide)
  have hd8 : (dd + 2).fmod 3 < 3 := Int.fmod_lt_of_pos _ (by decide)
  obtain ⟨nn, hnn⟩ := Int.eq_ofNat_of_zero_le hd0
  have hnn8 : nn < 3 := by omega
  have hnb : (dd + 2).fmod 3 + 1 = ((nn + 1 : Nat) : Int) := by omega
  (with_unfolding_all refine' my_range (σ := List Value × Nat) (fun c => (mo, listOf c.1.toArray c.2) :: (na, listOf nvs.toArray nn9) :: (ar, tupOf [.str spa tsa, .str nma tna]) :: led) (fun _ => [(Str.ofString "script", Value.ref l), (Str.ofString "rows", Value.ref ro), (Str.ofString "around", Value.ref ar), (Str.ofString "names", Value.ref na), (Str.ofString "modes", Value.ref mo)]) [] (fun i c => AllStr c.1 ∧ c.1.length = i) ([], 0) ?kh ?kr hnb (by omega) ?kF ?kN ?kk ?kp ?_ ?_)
  (case kh => rfl)
  (case kr => assumption)
  (case kF => k_asm)
  (case kN => k_asm)
  (case kk => (intro p hp; simp only [List.mem_cons, List.not_mem_nil, or_false] at hp; rcases hp with rfl | rfl | rfl | rfl | rfl <;> exact rfl))
  (case kp => exact ⟨(fun _ h => nomatch h), rfl⟩)
  · rintro ⟨mvs, mn⟩ i ti u h9 tk9 own hi9 hoff ⟨hp1, hp2⟩ F9 N9
    dsimp only at hp1 hp2 hoff F9 N9
    k_fold
    have hi0 : 0 ≤ (i : Int) := by omega
    have hi7 : (i : Int) < 3 := by omega
    k_with "subscriptTail" => (with_unfolding_all refine' six_item ?k1 ?k2 ?k3 ?_ ?k4; (case k1 => k_asm); (case k2 => k_mem); (case k3 => exact hnv); (case k4 => with_unfolding_all rfl); k_whole; intro x9 t9 o9)
    have hne : ∀ p ∈ ((na, listOf nvs.toArray nn9) :: (ar, tupOf [.str spa tsa, .str nma tna]) :: led) ++ own, p.1 ≠ mo := fun p hp => (List.mem_append.mp hp).elim (fun h => by
      rcases List.mem_cons.mp h with rfl | h
      · exact Nat.ne_of_lt lmo.1
      · rcases List.mem_cons.mp h with rfl | h
        · exact Nat.ne_of_lt lmo.2.1
        · exact Nat.ne_of_lt (allLt_mem lmo.2.2 p h)) (fun h => hoff p h _ (List.mem_cons_self ..))
    have hdl : mvs.length < 2 ^ 20 := by omega
    k_with "call builtin:list.append" => (refine' my_append ?k1 ?k2 ?k3 ?k4 ?_; (case k1 => k_asm); (case k2 => k_asm); (case k3 => exact hne); (case k4 => exact hdl); k_whole; intro h' F' N')
    k_steps
    refine' gr_end (mvs ++ [.str x9 t9], mn + 1) (by assumption) (by assumption) ?hn ?ho ?hoff ?hk ?hr ?hp
    (case hn => exact sub_app)
    (case ho => exact own_app)
    (case hoff => exact off_head hoff)
    (case hk => (intro p hp; simp only [List.mem_cons, List.not_mem_nil, or_false] at hp; rcases hp with rfl | rfl | rfl | rfl | rfl <;> exact rfl))
    (case hr =>
      intro z hx h1 h2
      exact (if_neg hx).trans (kst_same h2 h1))
    (case hp => exact ⟨allStr_push hp1 o9, by rw [List.length_append, hp2]; rfl⟩)
  · rintro ⟨mvs, mn⟩ u9 h9 tk9 ⟨hp1, hp2⟩ F9 N9
    dsimp only at hp1 hp2 F9 N9
    refine next _ _ _ _ _ _ _ _ _ _ _ (fr_kst [(Str.ofString "script", Value.ref l), (Str.ofString "rows", Value.ref ro), (Str.ofString "around", Value.ref ar), (Str.ofString "modes", Value.ref mo)] F9 (by intro p hp; simp only [List.mem_cons, List.not_mem_nil, or_false] at hp; rcases hp with rfl | rfl | rfl | rfl <;> exact rfl)) hp1 (by omega) (by omega) ok1 ok2 (fun q hq => ⟨allLt_mem la q hq, allLt_mem lmo.2.2 q hq⟩) lmo.2.1 (cb_drop N9 drop_one)
end
/-- the builder's addresses and what stays of it -/
structure BA where
  (bu db t dt st dst er c0 : Addr)
  et : List DictEntry
  nt : Nat
  oc : Obj
def BA.fix (b : BA) (L : Addr) (rest : List (Addr × Obj)) : List (Addr × Obj) :=
  (b.bu, instObj 461 b.db) :: (b.st, instObj 266 b.dst) :: (b.er, listOf ([] : List Value).toArray 0) :: (b.c0, listOf ([] : List Value).toArray 0) :: (b.t, instObj 383 b.dt) :: (b.dt, dictOf b.et b.nt) :: (L + 1, b.oc) :: rest
structure BO (eb : List DictEntry) (t st er : Addr) : Prop where
  btree : getL (Str.ofString "tree") eb = some (some (.ref t))
  bstack : getL (Str.ofString "stack") eb = some (some (.ref st))
  berr : getL (Str.ofString "errors") eb = some (some (.ref er))
  borig : ∃ k, getL (Str.ofString "original") eb = some (some (.str (Str.ofString "") k))
  bto : getL (Str.ofString "to") eb = some none
  bmode : ∃ v, getL (Str.ofString "mode") eb = some (some v)
  bmodes : ∃ v, getL (Str.ofString "modes") eb = some (some v)
  bhead : ∃ v, getL (Str.ofString "head") eb = some (some v)
  bctx : ∃ v, getL (Str.ofString "context") eb = some (some v)
  blen : eb.length ≤ 1000
structure SO (es : List DictEntry) : Prop where
  sitems : ∃ v, getL (Str.ofString "items") es = some (some v)
  smany : getL (Str.ofString "many") es = some none
  slen : es.length ≤ 1000
structure TO (et : List DictEntry) : Prop where
  telem : getL (Str.ofString "element") et = some none
  thtml : getL (Str.ofString "is_html") et = some none
structure Sep (b : BA) (L : Addr) (rest : List (Addr × Obj)) : Prop where
  sdb : ∀ p ∈ b.fix L rest, p.1 ≠ b.db
  sdst : ∀ p ∈ b.fix L rest, p.1 ≠ b.dst
  sne : @Ne Nat b.db b.dst
structure S3 (w : World) (L : Addr) (b : BA) (A : TA) (D : TD) (eb : List DictEntry) (nb : Nat) (es : List DictEntry) (ns : Nat) (rest : List (Addr × Obj)) : Prop where
  tat : TAt ((b.db, dictOf eb nb) :: (b.dst, dictOf es ns) :: b.fix L rest) b.t b.dt b.et b.nt A
  tok : TOk w D 1
  d1 : ∃ k, D.svs = [.str (Str.ofString "") k]
  d2 : ∃ k, D.nvs = [.str (Str.ofString "") k]
  d3 : D.cvs = [.ref b.c0]
  bo : BO eb b.t b.st b.er
  so : SO es
  tt : TO b.et
  oc : b.oc.data = .cell (some (.ref b.t))
  sep : Sep b L rest
section
variable {w : World} {mean : ExcName → Option Value} {mg mb : Str → Option Value} {h₀ : Heap} {L fa : Addr} {cd : Value} {s : Shared} {Q : Flow → Shared → Prop} {E : Value → Shared → Prop}
variable {l ro ar mo : Addr} {u : Str → Option Value} {rest : List (Addr × Obj)} {oc : Obj}
theorem seg3 (B : Below callerA h₀ [] h₀) (F : Fr h₀ L s.heap (kstB u [(Str.ofString "script", .ref l), (Str.ofString "rows", .ref ro), (Str.ofString "around", .ref ar), (Str.ofString "modes", .ref mo)])) (X : (hd.heap_39 w.params).In h₀) (N : News h₀ L s.heap ((L + 1, oc) :: rest)) (T : Top hd.view_39 (looseW hd.view_39 [Str.ofString "Tree"]) mean mg mb h₀)
    (hE : PassesOwn (model PySem.Challenge.rw_nt0607_01.row.prog w) (lawA L fa cd) (lawEnv L fa cd) E) (hoc : oc.data = .cell none) (hoff : ∀ p ∈ rest, p.1 ≠ L + 1)
    (next : ∀ (u : Str → Option Value) h' tk' (b : BA) (A : TA) (D : TD) eb nb es ns, Fr h₀ L h' (kstB u [(Str.ofString "script", .ref l), (Str.ofString "rows", .ref ro), (Str.ofString "around", .ref ar), (Str.ofString "modes", .ref mo), (Str.ofString "builder", .ref b.bu)]) →
      News h₀ L h' (D.led A ++ ((b.db, dictOf eb nb) :: (b.dst, dictOf es ns) :: b.fix L rest)) → S3 w L b A D eb nb es ns rest →
      wpAny (model PySem.Challenge.rw_nt0607_01.row.prog w) (lawA L fa cd) (execs (lawBody.drop 8) (lawEnv L fa cd)) Q E { s with heap := h', toks := tk' }) :
    wpAny (model PySem.Challenge.rw_nt0607_01.row.prog w) (lawA L fa cd) (execs (lawBody.drop 6) (lawEnv L fa cd)) Q E s := by
  revert X; k_fill; intro X
  k_with_none
  w_top off
  obtain ⟨sc, hsc⟩ : ∃ x, x = lawScope := ⟨_, rfl⟩
  unfold lawA lawEnv at next hE ⊢
  rw [← hsc] at next hE ⊢
  obtain ⟨bd, hbd⟩ : ∃ x, x = lawBody.drop 6 := ⟨_, rfl⟩
  rw [← hbd]
  conv at hsc => rhs; whnf
  conv at hbd => rhs; whnf
  obtain ⟨tl, htl⟩ : ∃ x, x = lawBody.drop 8 := ⟨_, rfl⟩
  rw [← htl] at next
  conv at htl => rhs; whnf
  rw [← htl] at hbd
  subst hbd
  subst hsc
  iterate 84 walk1
  rename_i d_3 h_21 o_1 lo_1 hs_1 fs_1 hi_1 fi_1 l1_10 x_1 d_2 h_20 F_2 N_2 l1_9 l2_1 g_1 L_1 h_19 FG_1 B_1 X_1 T_1 qk_0 ek_0 tk_7 h_18 x_0 d_1 h_17 F_1 N_1 l1_8 l2_0 g_0 L_0 h_16 FG_0 B_0 X_0 T_0 tk_6 l_6 h_15 l1_7 h_14 tk_5 l_5 h_13 l1_6 h_12 tk_4 l_4 h_11 l1_5 h_10 tk_3 l_3 h_9 l1_4 h_8 tk_2 l_2 h_7 l1_3 h_6 tk_1 l_1 h_5 l1_2 h_4 tk_0 l_0 h_3 l1_1 h_2 d_0 h_1 o_0 lo_0 hs_0 fs_0 hi_0 fi_0 l1_0 h_0 F_0 N_0
  dsimp only
  iterate 11 walk1
  refine' add_d0 (rest := (x_0, instObj 383 d_1) :: (d_1, dictOf ?e1 ?n1) :: (x_1, instObj 461 d_2) :: (d_2, dictOf ?e2 ?n2) :: (d_3, o_1) :: (L + 1, oc) :: rest) (D := ⟨[],[],[],[],[],[],[],0,0,0,0,0,0,0,o_0⟩) (A := ⟨l_6,l_5,l_4,l_3,l_2,l_1,l_0,d_0⟩) (n := 0) ⟨B_0, F_0, X_0, T_0, rfl⟩ (cb_drop N_0 ?hs) ?hd ?hu ?hT ?hO (by decide) ?_
  (case hs =>
    dsimp only [TD.led, List.cons_append, List.nil_append]
    iterate 14 (refine List.forall_mem_cons.mpr ⟨by k_mem, ?_⟩)
    intro p hp
    iterate 14 (refine List.mem_cons_of_mem _ ?_)
    exact hp)
  (case hd => ktr_room)
  (case hu => exact Nat.le_of_ble_eq_true rfl)
  (case hO => exact ⟨rfl, rfl, rfl, rfl, rfl, rfl, rfl, ⟨[], hi_0, Nat.le_refl _⟩⟩)
  (case hT =>
    have ap : @LT.lt Nat _ l_6 l_5 ∧ @LT.lt Nat _ l_5 l_4 ∧ @LT.lt Nat _ l_4 l_3 ∧ @LT.lt Nat _ l_3 l_2 ∧ @LT.lt Nat _ l_2 l_1 ∧ @LT.lt Nat _ l_1 l_0 ∧ @LT.lt Nat _ l_0 d_0 := ⟨by omega, by omega, by omega, by omega, by omega, by omega, by omega⟩
    refine ⟨by k_mem, by k_mem, rfl, rfl, rfl, rfl, rfl, rfl, rfl, rfl, rfl, ap, tat_off ap ?_, lo_0⟩
    obtain ⟨a1, a2, a3, a4, a5, a6, a7⟩ := l1_7
    exact List.forall_mem_cons.mpr ⟨Or.inl a1, List.forall_mem_cons.mpr ⟨Or.inl a2, List.forall_mem_cons.mpr ⟨Or.inl a3, List.forall_mem_cons.mpr ⟨Or.inl a4, List.forall_mem_cons.mpr ⟨Or.inl a5, List.forall_mem_cons.mpr ⟨Or.inl a6, fun p hp => Or.inl (allLt_mem a7 p hp)⟩⟩⟩⟩⟩⟩)
  intro u9 t91 t92 t93 t94 D1 D2 h9 tk9 F9 N9 oD2 lD2
  dsimp only [TD.led, TD.add, List.cons_append, List.nil_append] at N9 oD2
  (try k_fold)
  k_steps
  rename_i nqk_1 nek_1 ntk_11 ntk_10 nTc_3 nkX_3 nh_35 ntk_9 nx_1 nd_3 nh_34 nl1_7 nl2_1 ng_1 nL_1 nh_33 nB_1 nX_1 nT_1 nqk_0 nek_0 ntk_8 nh_32 nl_4 nh_31 nl1_6 nh_30 nF_3 nN_3 ntk_7 nTc_2 nkX_2 nh_29 ntk_6 nx_0 nd_2 nh_28 nl1_5 nl2_0 ng_0 nL_0 nh_27 nB_0 nX_0 nT_0 ntk_5 nh_26 nl_3 nh_25 nl1_4 nh_24 nF_2 nN_2 ntk_4 nTc_1 nkX_1 nh_23 ntk_3 nh_22 nh_21 nl_2 nh_20 nl1_3 nh_19 ntk_2 nh_18 nh_17 nd_1 nh_16 no_1 nlo_0 nhs_0 nfs_0 nhi_0 nfi_0 nl1_2 nh_15 nh_14 nh_13 nh_12 nh_11 nh_10 nl_1 nh_9 nl1_1 nh_8 ntk_1 nl_0 nh_7 nl1_0 nh_6 ntk_0 nh_5 nh_4 nh_3 nh_2 nF_1 nN_1 nTc_0 nkX_0 nh_1 nh_0 no_0 nF_0 nN_0 nd_0
  dsimp only
  refine' next _ _ _ ⟨x_1, d_2, x_0, d_1, nx_1, nd_3, nl_1, D2, ?et, ?nt, no_0⟩ ⟨l_6,l_5,l_4,l_3,l_2,l_1,l_0,d_0⟩ ⟨[_],[_],[_],[_],[_],[_],[_],_,_,_,_,_,_,_,o_0⟩ ?eb ?nb ?es ?ns (fr_kst [(Str.ofString "script", Value.ref l), (Str.ofString "rows", Value.ref ro), (Str.ofString "around", Value.ref ar), (Str.ofString "modes", Value.ref mo), (Str.ofString "builder", Value.ref x_1)] nF_0 ?hk) (cb_drop nN_0 ?hs) ?hS
  (case hk => (intro p hp; simp only [List.mem_cons, List.not_mem_nil, or_false] at hp; rcases hp with rfl | rfl | rfl | rfl | rfl <;> exact rfl))
  (case hs =>
    dsimp only [TD.led, BA.fix, List.cons_append, List.nil_append]
    iterate 17 (refine List.forall_mem_cons.mpr ⟨by k_mem, ?_⟩)
    intro p hp
    (repeat refine List.mem_cons_of_mem _ ?_)
    exact hp)
  have hrest : ∀ p ∈ rest, @LT.lt Nat _ p.1 d_2 := allLt_mem l1_9.2.2
  have ap : @LT.lt Nat _ l_6 l_5 ∧ @LT.lt Nat _ l_5 l_4 ∧ @LT.lt Nat _ l_4 l_3 ∧ @LT.lt Nat _ l_3 l_2 ∧ @LT.lt Nat _ l_2 l_1 ∧ @LT.lt Nat _ l_1 l_0 ∧ @LT.lt Nat _ l_0 d_0 := ⟨by omega, by omega, by omega, by omega, by omega, by omega, by omega⟩
  refine ⟨⟨by k_mem, by k_mem, rfl, rfl, rfl, rfl, rfl, rfl, rfl, rfl, rfl, ap, tat_off ap ?_, lo_0⟩, ⟨rfl, rfl, rfl, rfl, rfl, rfl, rfl, ⟨[], hi_0, by decide⟩⟩, ⟨_, rfl⟩, ⟨_, rfl⟩, rfl, ⟨rfl, rfl, rfl, ⟨_, rfl⟩, rfl, ⟨_, rfl⟩, ⟨_, rfl⟩, ⟨_, rfl⟩, ⟨_, rfl⟩, Nat.le_of_ble_eq_true rfl⟩, ⟨⟨_, rfl⟩, rfl, Nat.le_of_ble_eq_true rfl⟩, ⟨rfl, rfl⟩, nd_0, ⟨?_, ?_, ?_⟩⟩
  · dsimp only [BA.fix]
    iterate 9 (refine List.forall_mem_cons.mpr ⟨by dsimp only; omega, ?_⟩)
    intro p hp
    have := hrest p hp
    left; omega
  · dsimp only [BA.fix]
    iterate 7 (refine List.forall_mem_cons.mpr ⟨neN (by dsimp only; omega), ?_⟩)
    exact fun p hp => Nat.ne_of_lt (hrest p hp)
  · dsimp only [BA.fix]
    iterate 7 (refine List.forall_mem_cons.mpr ⟨neN (by dsimp only; omega), ?_⟩)
    intro p hp
    have := hrest p hp
    refine neN ?_
    omega
  · refine neN ?_
    dsimp only
    omega
end
/-- turns of a comprehension by an invariant -/
theorem comp_ind {prog : Program} {w : World} {A : Around} {h₀ : Heap} {L : Addr} {m : Str → Option Value} {env : Env} {elt : PySem.Expr} {x x₂ : Str} {scope : Scope} {cl : List (Str × Addr)} {s : Shared} {S : List (Addr × Obj) → Prop} {P : Nat → Value → Prop} {Fin : List Value → List (Addr × Obj) → Prop} (Inv : Nat → List Value → List (Addr × Obj) → Prop) (N : Nat)
    (fin : ∀ ys news, Inv N ys news → Fin ys news)
    (step : ∀ i ys news v, i < N → Inv i ys news → P i v → ∃ (t : Addr) (ot : Obj) (v₁ v₂ : Value) (nt : Nat), v = .ref t ∧ (t, ot) ∈ news ∧ ot.cls = .type "tuple" ∧ ot.data = .seq #[v₁, v₂] nt ∧
      ∀ I oI C oC D m₂ h tk (E' : Value → Shared → Prop), LCg.NsObj oC m₂ → m₂ x = some v₁ → m₂ x₂ = some v₂ → Fr h₀ L h m → News h₀ L h ((I, oI) :: (C, oC) :: (D, LCg.lst ys) :: news) → LCg.Off3 I C D news → ((@Ne Nat I C) ∧ (@Ne Nat I D) ∧ (@Ne Nat C D)) →
      wpAny (model prog w) A (eval elt (compEnvC scope cl C env)) (LCg.CompEnd h₀ L m { s with heap := h, toks := tk } I oI C oC D (LCg.lst ys) S (fun y news' => Inv (i + 1) (ys ++ [y]) news')) E' { s with heap := h, toks := tk }) :
    ∀ k i ys news, i + k = N → Inv i ys news → LCp.CompRestP prog w A h₀ L m env elt x x₂ scope cl s S P Fin k i ys news := by
  intro k
  induction k with
  | zero =>
    intro i ys news hk hI
    have : i = N := by omega
    subst this
    exact LCp.CompRestP.zero (fin _ _ hI)
  | succ k ih =>
    intro i ys news hk hI
    refine LCp.CompRestP.succ fun v hv => ?_
    obtain ⟨t, ot, v₁, v₂, nt, e, hm, hc, hd, h⟩ := step i ys news v (by omega) hI hv
    refine ⟨t, ot, v₁, v₂, nt, e, hm, hc, hd, fun I oI C oC D m₂ h' tk E' a1 a2 a3 a4 a5 a6 a7 => ?_⟩
    refine wpAny_mono (h I oI C oC D m₂ h' tk E' a1 a2 a3 a4 a5 a6 a7) (fun y s' hy => ?_) fun _ _ e => e
    obtain ⟨h1, tk1, news', e1, F1, N1, o1, S1, r1⟩ := hy
    exact ⟨h1, tk1, news', e1, F1, N1, o1, S1, ih (i + 1) (ys ++ [y]) news' (by omega) r1⟩
theorem off1_mem {D : Addr} : ∀ {l : List (Addr × Obj)}, LCg.Off1 D l → ∀ p ∈ l, p.1 ≠ D
  | [], _, _, h => nomatch h
  | _ :: _, h, p, hp => by
    rcases List.mem_cons.mp hp with rfl | hp
    · exact h.1
    · exact off1_mem h.2 p hp
theorem mid_mem {x : Addr × Obj} {a r : List (Addr × Obj)} : ∀ p ∈ a ++ (x :: r), p ∈ x :: (a ++ r) := fun p hp => by
  rcases List.mem_append.mp hp with hp | hp
  · exact List.mem_cons_of_mem _ (List.mem_append.mpr (Or.inl hp))
  · rcases List.mem_cons.mp hp with rfl | hp
    · exact List.mem_cons_self ..
    · exact List.mem_cons_of_mem _ (List.mem_append.mpr (Or.inr hp))
theorem three_mem {x y z : Addr × Obj} {a r : List (Addr × Obj)} : ∀ p ∈ a ++ (x :: y :: z :: r), p ∈ x :: y :: z :: (a ++ r) := fun p hp => by
  rcases List.mem_cons.mp (mid_mem p hp) with rfl | hp
  · exact List.mem_cons_self ..
  · refine List.mem_cons_of_mem _ ?_
    rcases List.mem_cons.mp (mid_mem p hp) with rfl | hp
    · exact List.mem_cons_self ..
    · exact List.mem_cons_of_mem _ (mid_mem p hp)
theorem three_back {x y z : Addr × Obj} {a r : List (Addr × Obj)} : ∀ p ∈ x :: y :: z :: (a ++ r), p ∈ a ++ (x :: y :: z :: r) := fun p hp => by
  simp only [List.mem_cons, List.mem_append] at hp ⊢
  rcases hp with h | h | h | h | h
  · exact Or.inr (Or.inl h)
  · exact Or.inr (Or.inr (Or.inl h))
  · exact Or.inr (Or.inr (Or.inr (Or.inl h)))
  · exact Or.inl h
  · exact Or.inr (Or.inr (Or.inr (Or.inr h)))
theorem off_three {A : TA} {I C D : Addr} {oI oC oD : Obj} {TDl : TD} {r : List (Addr × Obj)} (h : ∀ a ∈ A.all, ∀ p ∈ r, p.1 ≠ a) (o : LCg.Off3 I C D (TDl.led A ++ r)) : ∀ a ∈ A.all, ∀ p ∈ (I, oI) :: (C, oC) :: (D, oD) :: r, p.1 ≠ a := by
  intro a ha p hp
  have hk : ∃ q ∈ TDl.led A, q.1 = a := by
    simp only [TA.all, List.mem_cons, List.not_mem_nil, or_false] at ha
    rcases ha with rfl | rfl | rfl | rfl | rfl | rfl | rfl | rfl
    · exact ⟨_, List.mem_cons_self .., rfl⟩
    · exact ⟨_, List.mem_cons_of_mem _ (List.mem_cons_self ..), rfl⟩
    · exact ⟨_, List.mem_cons_of_mem _ (List.mem_cons_of_mem _ (List.mem_cons_self ..)), rfl⟩
    · exact ⟨_, List.mem_cons_of_mem _ (List.mem_cons_of_mem _ (List.mem_cons_of_mem _ (List.mem_cons_self ..))), rfl⟩
    · exact ⟨_, List.mem_cons_of_mem _ (List.mem_cons_of_mem _ (List.mem_cons_of_mem _ (List.mem_cons_of_mem _ (List.mem_cons_self ..)))), rfl⟩
    · exact ⟨_, List.mem_cons_of_mem _ (List.mem_cons_of_mem _ (List.mem_cons_of_mem _ (List.mem_cons_of_mem _ (List.mem_cons_of_mem _ (List.mem_cons_self ..))))), rfl⟩
    · exact ⟨_, List.mem_cons_of_mem _ (List.mem_cons_of_mem _ (List.mem_cons_of_mem _ (List.mem_cons_of_mem _ (List.mem_cons_of_mem _ (List.mem_cons_of_mem _ (List.mem_cons_self ..)))))), rfl⟩
    · exact ⟨_, List.mem_cons_of_mem _ (List.mem_cons_of_mem _ (List.mem_cons_of_mem _ (List.mem_cons_of_mem _ (List.mem_cons_of_mem _ (List.mem_cons_of_mem _ (List.mem_cons_of_mem _ (List.mem_cons_self ..))))))), rfl⟩
  obtain ⟨q, hq, rfl⟩ := hk
  have h3 := o.mem q (List.mem_append.mpr (Or.inl hq))
  rcases List.mem_cons.mp hp with rfl | hp
  · exact Ne.symm h3.1
  · rcases List.mem_cons.mp hp with rfl | hp
    · exact Ne.symm h3.2.1
    · rcases List.mem_cons.mp hp with rfl | hp
      · exact Ne.symm h3.2.2
      · exact h _ ha p hp
theorem off3_led {A : TA} {I C D : Addr} {D1 D2 : TD} {r : List (Addr × Obj)} (o : LCg.Off3 I C D (D1.led A ++ r)) : LCg.Off3 I C D (D2.led A ++ r) := by
  simp only [TD.led, List.cons_append, List.nil_append, LCg.Off3] at o ⊢
  exact o
theorem off_one {A : TA} {I : Addr} {oI : Obj} {TDl : TD} {r : List (Addr × Obj)} (h : ∀ a ∈ A.all, ∀ p ∈ r, p.1 ≠ a) (o : ∀ p ∈ TDl.led A ++ r, p.1 ≠ I) : ∀ a ∈ A.all, ∀ p ∈ (I, oI) :: r, p.1 ≠ a := by
  intro a ha p hp
  rcases List.mem_cons.mp hp with rfl | hp
  · have o' : ∀ p ∈ TDl.led A, p.1 ≠ I := fun p hp => o p (List.mem_append.mpr (Or.inl hp))
    simp only [TD.led, List.forall_mem_cons] at o'
    simp only [TA.all, List.mem_cons, List.not_mem_nil, or_false] at ha
    obtain ⟨o1, o2, o3, o4, o5, o6, o7, o8, _⟩ := o'
    rcases ha with rfl | rfl | rfl | rfl | rfl | rfl | rfl | rfl
    · exact Ne.symm o1
    · exact Ne.symm o2
    · exact Ne.symm o3
    · exact Ne.symm o4
    · exact Ne.symm o5
    · exact Ne.symm o6
    · exact Ne.symm o7
    · exact Ne.symm o8
  · exact h a ha p hp
theorem rows_okD {R : List (Str × Str)} {i : Nat} (h : RowsOk R) (hi : i < R.length) : PyData.strOk (rowD R i).1 = true ∧ PyData.strOk (rowD R i).2 = true := by
  unfold rowD
  rw [List.getD_eq_getElem?_getD, List.getElem?_eq_getElem hi]
  exact h _ (List.getElem_mem hi)
/-- the nodes made so far -/
structure Nd (w : World) (A : TA) (r : List (Addr × Obj)) (c0 : Addr) (R : List (Str × Str)) (i : Nat) (ys : List Value) (D : TD) (n : Nat) : Prop where
  tok : TOk w D n
  hn : n ≤ 1 + 2 * i
  hy : ys.length = i
  nodes : ∀ j, j < i → ∃ v, ys[j]? = some v ∧ NodeIs D.svs D.nvs v (rowD R j)
  aints : ∀ v ∈ ys, ∃ k t, v = Value.int k t
  as : AllStr D.svs
  an : AllStr D.nvs
  ch : D.cvs[0]? = some (.ref c0)
section
variable {w : World} {A : TA} {r : List (Addr × Obj)} {c0 : Addr} {R : List (Str × Str)} {i n n' : Nat} {ys : List Value} {D D' : TD} {u : Tok}
theorem getElem?_app {l l' : List Value} {k : Nat} {v : Value} (h : l[k]? = some v) : (l ++ l')[k]? = some v := by
  obtain ⟨hlt, e⟩ := List.getElem?_eq_some_iff.mp h
  rw [List.getElem?_append_left hlt]; exact h
theorem NodeIs.app {svs nvs a b : List Value} {v : Value} {r : Str × Str} (h : NodeIs svs nvs v r) : NodeIs (svs ++ a) (nvs ++ b) v r := by
  obtain ⟨node, tk, t1, t2, e, h0, h1, h2, h3⟩ := h
  exact ⟨node, tk, t1, t2, e, h0, h1, getElem?_app h2, getElem?_app h3⟩
theorem allStr_app {a b : List Value} (h : AllStr a) (h' : AllStr b) : AllStr (a ++ b) := fun v hv => (List.mem_append.mp hv).elim (h v) (h' v)
theorem allStr_cons {a : Str} {t : Tok} {b : List Value} (ha : PyData.strOk a = true) (h' : AllStr b) : AllStr (.str a t :: b) := fun v hv => by
  rcases List.mem_cons.mp hv with rfl | hv
  · exact ⟨_, _, rfl, ha⟩
  · exact h' v hv
/-- the node that an element call hands back -/
theorem grew_node {sp nm : Str} (G : Grew D D' n n' sp nm) (O : TOk w D n) (hn : n < 2 ^ 62) : NodeIs D'.svs D'.nvs (.int n u) (sp, nm) := by
  obtain ⟨lo, hi, ⟨t, rs, es, hs⟩, ⟨t', rn, en, hn'⟩, ⟨rc, ec⟩⟩ := G
  refine ⟨n, u, t, t', rfl, by omega, by omega, ?_, ?_⟩
  · rw [Int.toNat_natCast, es, List.getElem?_append_right (by rw [O.l2]; exact Nat.le_refl _), O.l2, Nat.sub_self]; rfl
  · rw [Int.toNat_natCast, en, List.getElem?_append_right (by rw [O.l3]; exact Nat.le_refl _), O.l3, Nat.sub_self]; rfl
theorem Nd.step (H : Nd w A r c0 R i ys D n) {sp nm : Str} (G : Grew D D' n n' sp nm) (O : TOk w D' n') (e : rowD R i = (sp, nm)) (hsp : PyData.strOk sp = true) (hnm : PyData.strOk nm = true) (hi : i < 2 ^ 20) : Nd w A r c0 R (i + 1) (ys ++ [.int n u]) D' n' := by
  have hN := grew_node (u := u) G H.tok (by have := H.hn; omega)
  obtain ⟨lo, hi, ⟨t, rs, es, hs⟩, ⟨t', rn, en, hn'⟩, ⟨rc, ec⟩⟩ := G
  refine ⟨O, by have := H.hn; omega, by rw [List.length_append, H.hy]; rfl, fun j hj => ?_, fun v hv => ?_, ?_, ?_, ?_⟩
  · by_cases hji : j < i
    · obtain ⟨v, h1, h2⟩ := H.nodes j hji
      exact ⟨v, getElem?_app h1, by rw [es, en]; exact h2.app⟩
    · have : j = i := by omega
      subst this
      exact ⟨_, by rw [List.getElem?_append_right (by rw [H.hy]; exact Nat.le_refl _), H.hy, Nat.sub_self]; rfl, by rw [e]; exact hN⟩
  · rcases List.mem_append.mp hv with hv | hv
    · exact H.aints v hv
    · rw [List.mem_singleton.mp hv]; exact ⟨_, _, rfl⟩
  · rw [es]; exact allStr_app H.as (allStr_cons hsp hs)
  · rw [en]; exact allStr_app H.an (allStr_cons hnm hn')
  · rw [ec]; exact getElem?_app H.ch
end
section
variable {w : World} {mean : ExcName → Option Value} {mg mb : Str → Option Value} {h₀ : Heap} {L fa : Addr} {cd : Value} {s : Shared} {Q : Flow → Shared → Prop} {E : Value → Shared → Prop}
variable {l ro ar mo : Addr} {u : Str → Option Value} {rest : List (Addr × Obj)} {b : BA} {A : TA} {D : TD} {eb es : List DictEntry} {nb ns rn : Nat} {rvs : List Value} {R : List (Str × Str)}
theorem seg4 (B : Below callerA h₀ [] h₀) (F : Fr h₀ L s.heap (kstB u [(Str.ofString "script", .ref l), (Str.ofString "rows", .ref ro), (Str.ofString "around", .ref ar), (Str.ofString "modes", .ref mo), (Str.ofString "builder", .ref b.bu)])) (X : (hd.heap_39 w.params).In h₀)
    (N : News h₀ L s.heap (D.led A ++ ((b.db, dictOf eb nb) :: (b.dst, dictOf es ns) :: b.fix L rest))) (T : Top hd.view_39 (looseW hd.view_39 [Str.ofString "Tree"]) mean mg mb h₀)
    (hE : PassesOwn (model PySem.Challenge.rw_nt0607_01.row.prog w) (lawA L fa cd) (lawEnv L fa cd) E) (H : S3 w L b A D eb nb es ns rest) (hro : (ro, listOf rvs.toArray rn) ∈ rest) (hR : RowsIs rest rvs R) (hok : RowsOk R) (hRl : R.length ≤ 8)
    (next : ∀ (u : Str → Option Value) h' tk' (D : TD) n no ys, Fr h₀ L h' (kstB u [(Str.ofString "script", .ref l), (Str.ofString "rows", .ref ro), (Str.ofString "around", .ref ar), (Str.ofString "modes", .ref mo), (Str.ofString "builder", .ref b.bu), (Str.ofString "nodes", .ref no)]) →
      News h₀ L h' (D.led A ++ ((no, LCg.lst ys) :: (b.db, dictOf eb nb) :: (b.dst, dictOf es ns) :: b.fix L rest)) → (∀ p ∈ D.led A ++ ((b.db, dictOf eb nb) :: (b.dst, dictOf es ns) :: b.fix L rest), p.1 ≠ no) → Nd w A rest b.c0 R R.length ys D n →
      wpAny (model PySem.Challenge.rw_nt0607_01.row.prog w) (lawA L fa cd) (execs (lawBody.drop 9) (lawEnv L fa cd)) Q E { s with heap := h', toks := tk' }) :
    wpAny (model PySem.Challenge.rw_nt0607_01.row.prog w) (lawA L fa cd) (execs (lawBody.drop 8) (lawEnv L fa cd)) Q E s := by
  revert X; k_fill; intro X
  k_with_none
  w_top off
  obtain ⟨sc, hsc⟩ : ∃ x, x = lawScope := ⟨_, rfl⟩
  unfold lawA lawEnv at next hE ⊢
  rw [← hsc] at next hE ⊢
  obtain ⟨bd, hbd⟩ : ∃ x, x = lawBody.drop 8 := ⟨_, rfl⟩
  rw [← hbd]
  conv at hsc => rhs; whnf
  conv at hbd => rhs; whnf
  obtain ⟨tl, htl⟩ : ∃ x, x = lawBody.drop 9 := ⟨_, rfl⟩
  rw [← htl] at next
  conv at htl => rhs; whnf
  rw [← htl] at hbd
  subst hbd
  subst hsc
  iterate 1 walk1
  k_dflt (refine LCp.Assign_ListComp_P (F₀ := by k_asm) (by rfl) (by with_unfolding_all rfl) (by with_unfolding_all rfl) (by decide) (by rfl) (by decide) (by rfl) (by rfl) (by decide) (by rfl) (by rfl) ?_)
  iterate 1 walk1
  obtain ⟨ht, hdt, gk, gs, gn, ga, gx, gp, gh, go, gadd, apart, off, low⟩ := id H.tat
  have hrl : rvs.toArray.size = R.length := by rw [List.size_toArray]; exact hR.1
  have hfx : ∀ p ∈ rest, p ∈ b.fix L rest := fun p hp => List.mem_cons_of_mem _ (List.mem_cons_of_mem _ (List.mem_cons_of_mem _ (List.mem_cons_of_mem _ (List.mem_cons_of_mem _ (List.mem_cons_of_mem _ (List.mem_cons_of_mem _ hp))))))
  k_dflt (refine LCp.SrcLP.ledger (its := rvs.toArray) (k := rn) (by rfl) F N (List.mem_append.mpr (Or.inr (List.mem_cons_of_mem _ (List.mem_cons_of_mem _ (hfx _ hro))))) (by rw [hrl, sizeLine_eq]; omega) ?_)
  intro g'
  rw [hrl]
  k_dflt (refine comp_ind (fun i ys news => ∃ D n, news = D.led A ++ ((b.db, dictOf eb nb) :: (b.dst, dictOf es ns) :: b.fix L rest) ∧ Nd w A rest b.c0 R i ys D n) R.length ?fin ?step R.length 0 [] _ (Nat.zero_add _) ?start)
  case start =>
    obtain ⟨k1, e1⟩ := H.d1
    obtain ⟨k2, e2⟩ := H.d2
    refine ⟨D, 1, rfl, H.tok, Nat.le_refl _, rfl, fun j hj => absurd hj (Nat.not_lt_zero _), (fun _ h => nomatch h), ?_, ?_, ?_⟩
    · rw [e1]; exact allStr_cons (by decide +kernel) (fun _ h => nomatch h)
    · rw [e2]; exact allStr_cons (by decide +kernel) (fun _ h => nomatch h)
    · rw [H.d3]; rfl
  case fin =>
    rintro ys news ⟨D', n, rfl, hN⟩
    intro no h1 tk1 F1 N1 o1
    exact next _ h1 tk1 D' n no ys (fr_kst [(Str.ofString "script", Value.ref l), (Str.ofString "rows", Value.ref ro), (Str.ofString "around", Value.ref ar), (Str.ofString "modes", Value.ref mo), (Str.ofString "builder", Value.ref b.bu), (Str.ofString "nodes", Value.ref no)] F1 (by intro p hp; simp only [List.mem_cons, List.not_mem_nil, or_false] at hp; rcases hp with rfl | rfl | rfl | rfl | rfl | rfl <;> exact rfl)) (cb_drop N1 mid_mem) (off1_mem o1) hN
  case step =>
    rintro i ys news v hi ⟨D', n, rfl, hN⟩ hv
    obtain ⟨a, t1, t2, hva, ham⟩ := hR.2 i hi
    have hve : v = .ref a := by
      rw [List.getElem?_toArray, hva] at hv
      exact (Option.some.inj hv).symm
    refine ⟨a, _, _, _, _, hve, List.mem_append.mpr (Or.inr (List.mem_cons_of_mem _ (List.mem_cons_of_mem _ (hfx _ ham)))), rfl, rfl, ?_⟩
    intro I oI C oC Dl m₂ h1 tk1 E' hCo hx hy F1 N1 off3 ne3
    obtain ⟨r2, hr2⟩ : ∃ r2, r2 = (I, oI) :: (C, oC) :: (Dl, LCg.lst ys) :: ((b.db, dictOf eb nb) :: (b.dst, dictOf es ns) :: b.fix L rest) := ⟨_, rfl⟩
    have N2 : News h₀ L h1 (D'.led A ++ r2) := cb_drop N1 (by rw [hr2]; exact three_mem)
    have T2 : TAt r2 b.t b.dt b.et b.nt A := by
      rw [hr2]
      exact ⟨List.mem_cons_of_mem _ (List.mem_cons_of_mem _ (List.mem_cons_of_mem _ ht)), List.mem_cons_of_mem _ (List.mem_cons_of_mem _ (List.mem_cons_of_mem _ hdt)), gk, gs, gn, ga, gx, gp, gh, go, gadd, apart, off_three off off3, low⟩
    have hcell : (L + 1, b.oc) ∈ r2 := by
      rw [hr2]
      exact List.mem_cons_of_mem _ (List.mem_cons_of_mem _ (List.mem_cons_of_mem _ (List.mem_cons_of_mem _ (List.mem_cons_of_mem _ (List.mem_cons_of_mem _ (List.mem_cons_of_mem _ (List.mem_cons_of_mem _ (List.mem_cons_of_mem _ (List.mem_cons_of_mem _ (List.mem_cons_of_mem _ (List.mem_cons_self ..)))))))))))
    have hcm : (C, oC) ∈ r2 := by
      rw [hr2]
      exact List.mem_cons_of_mem _ (List.mem_cons_self ..)
    have ht2 : (b.t, instObj 383 b.dt) ∈ r2 := T2.ht
    have hdt2 : (b.dt, dictOf b.et b.nt) ∈ r2 := T2.hdt
    have hoc9 : b.oc.data = .cell (some (.ref b.t)) := H.oc
    have hel9 : getL (Str.ofString "element") b.et = some none := H.tt.telem
    have O2 : TOk w D' n := hN.tok
    have hn9 : n < 2 ^ 17 := by have := hN.hn; omega
    clear N1 N F
    (try k_fold)
    iterate 12 walk1
    rename_i u9 D9 n9 h9 tk9 G9 O9 F9 N9
    refine LCg.CompEnd.intro F9 N9 (D9.led A ++ ((b.db, dictOf eb nb) :: (b.dst, dictOf es ns) :: b.fix L rest)) (by rw [hr2]; exact three_back) (off3_led off3) (.inr ⟨_, List.mem_append.mpr (Or.inr (List.mem_cons_of_mem _ (List.mem_cons_of_mem _ (hfx _ hro)))), rfl, _, rfl⟩) ⟨D9, n9, rfl, hN.step G9 O9 rfl (rows_okD hok hi).1 (rows_okD hok hi).2 (by omega)⟩
end
section
variable {D D' : TD} {n n' : Nat} {sp nm : Str}
theorem Grew.node {v : Value} {r : Str × Str} (G : Grew D D' n n' sp nm) (h : NodeIs D.svs D.nvs v r) : NodeIs D'.svs D'.nvs v r := by
  obtain ⟨lo, hi, ⟨t, rs, es, hs⟩, ⟨t', rn, en, hn'⟩, ⟨rc, ec⟩⟩ := G
  rw [es, en]; exact h.app
theorem Grew.as (G : Grew D D' n n' sp nm) (hsp : PyData.strOk sp = true) (h : AllStr D.svs) : AllStr D'.svs := by
  obtain ⟨lo, hi, ⟨t, rs, es, hs⟩, ⟨t', rn, en, hn'⟩, ⟨rc, ec⟩⟩ := G
  rw [es]; exact allStr_app h (allStr_cons hsp hs)
theorem Grew.an (G : Grew D D' n n' sp nm) (hnm : PyData.strOk nm = true) (h : AllStr D.nvs) : AllStr D'.nvs := by
  obtain ⟨lo, hi, ⟨t, rs, es, hs⟩, ⟨t', rn, en, hn'⟩, ⟨rc, ec⟩⟩ := G
  rw [en]; exact allStr_app h (allStr_cons hnm hn')
theorem Grew.ch {v : Value} (G : Grew D D' n n' sp nm) (h : D.cvs[0]? = some v) : D'.cvs[0]? = some v := by
  obtain ⟨lo, hi, ⟨t, rs, es, hs⟩, ⟨t', rn, en, hn'⟩, ⟨rc, ec⟩⟩ := G
  rw [ec]; exact getElem?_app h
end
structure Nd2 (w : World) (c0 : Addr) (R : List (Str × Str)) (ys : List Value) (D : TD) (cx hx : Int) (c : Str × Str) : Prop where
  ns : D.svs.length < 2 ^ 10
  nn : D.nvs.length < 2 ^ 10
  hy : ys.length = R.length
  nodes : ∀ j, j < R.length → ∃ v, ys[j]? = some v ∧ NodeIs D.svs D.nvs v (rowD R j)
  aints : ∀ v ∈ ys, ∃ k t, v = Value.int k t
  as : AllStr D.svs
  an : AllStr D.nvs
  ch : D.cvs[0]? = some (.ref c0)
  ctx : ∀ t, NodeIs D.svs D.nvs (.int cx t) c
  hcx : 0 ≤ cx
  hhx : 0 ≤ hx
section
variable {w : World} {mean : ExcName → Option Value} {mg mb : Str → Option Value} {h₀ : Heap} {L fa : Addr} {cd : Value} {s : Shared} {Q : Flow → Shared → Prop} {E : Value → Shared → Prop}
variable {l ro ar mo no : Addr} {u : Str → Option Value} {rest : List (Addr × Obj)} {b : BA} {A : TA} {D D0 : TD} {eb es : List DictEntry} {nb ns n : Nat} {ys : List Value} {R : List (Str × Str)} {sp nm : Str} {t1 t2 : Tok}
theorem seg5 (B : Below callerA h₀ [] h₀) (F : Fr h₀ L s.heap (kstB u [(Str.ofString "script", .ref l), (Str.ofString "rows", .ref ro), (Str.ofString "around", .ref ar), (Str.ofString "modes", .ref mo), (Str.ofString "builder", .ref b.bu), (Str.ofString "nodes", .ref no)])) (X : (hd.heap_39 w.params).In h₀)
    (N : News h₀ L s.heap (D.led A ++ ((no, LCg.lst ys) :: (b.db, dictOf eb nb) :: (b.dst, dictOf es ns) :: b.fix L rest))) (T : Top hd.view_39 (looseW hd.view_39 [Str.ofString "Tree"]) mean mg mb h₀)
    (hE : PassesOwn (model PySem.Challenge.rw_nt0607_01.row.prog w) (lawA L fa cd) (lawEnv L fa cd) E) (H : S3 w L b A D0 eb nb es ns rest) (har : (ar, tupOf [.str sp t1, .str nm t2]) ∈ rest) (hno : ∀ p ∈ D.led A ++ ((b.db, dictOf eb nb) :: (b.dst, dictOf es ns) :: b.fix L rest), p.1 ≠ no)
    (hN : Nd w A rest b.c0 R R.length ys D n) (hsp : PyData.strOk sp = true) (hnm : PyData.strOk nm = true) (hRl : R.length ≤ 8)
    (next : ∀ (u : Str → Option Value) h' tk' (D' : TD) cx hx cu hu sl wo ls lw, Fr h₀ L h' (kstB u [(Str.ofString "script", .ref l), (Str.ofString "rows", .ref ro), (Str.ofString "around", .ref ar), (Str.ofString "modes", .ref mo), (Str.ofString "builder", .ref b.bu), (Str.ofString "nodes", .ref no), (Str.ofString "context", .int cx cu), (Str.ofString "head", .int hx hu), (Str.ofString "spaces", .ref sl), (Str.ofString "words", .ref wo)]) →
      News h₀ L h' ((wo, listOf D'.nvs.toArray lw) :: (sl, listOf D'.svs.toArray ls) :: (D'.led A ++ ((no, LCg.lst ys) :: (b.db, dictOf eb nb) :: (b.dst, dictOf es ns) :: b.fix L rest))) →
      (∀ p ∈ D'.led A ++ ((no, LCg.lst ys) :: (b.db, dictOf eb nb) :: (b.dst, dictOf es ns) :: b.fix L rest), @LT.lt Nat _ p.1 sl ∧ @LT.lt Nat _ p.1 wo) → Nd2 w b.c0 R ys D' cx hx (sp, nm) →
      wpAny (model PySem.Challenge.rw_nt0607_01.row.prog w) (lawA L fa cd) (execs (lawBody.drop 13) (lawEnv L fa cd)) Q E { s with heap := h', toks := tk' }) :
    wpAny (model PySem.Challenge.rw_nt0607_01.row.prog w) (lawA L fa cd) (execs (lawBody.drop 9) (lawEnv L fa cd)) Q E s := by
  revert X; k_fill; intro X
  k_with_none
  w_top off
  obtain ⟨sc, hsc⟩ : ∃ x, x = lawScope := ⟨_, rfl⟩
  unfold lawA lawEnv at next hE ⊢
  rw [← hsc] at next hE ⊢
  obtain ⟨bd, hbd⟩ : ∃ x, x = lawBody.drop 9 := ⟨_, rfl⟩
  rw [← hbd]
  conv at hsc => rhs; whnf
  conv at hbd => rhs; whnf
  obtain ⟨tl, htl⟩ : ∃ x, x = lawBody.drop 13 := ⟨_, rfl⟩
  rw [← htl] at next
  conv at htl => rhs; whnf
  rw [← htl] at hbd
  obtain ⟨tl2, htl2⟩ : ∃ x, x = lawBody.drop 11 := ⟨_, rfl⟩
  conv at htl2 => rhs; whnf
  rw [← htl] at htl2
  rw [← htl2] at hbd
  subst hbd
  subst hsc
  obtain ⟨ht, hdt, gk, gs, gn, ga, gx, gp, gh, go, gadd, apart, off, low⟩ := id H.tat
  obtain ⟨r2, hr2⟩ : ∃ r2, r2 = (no, LCg.lst ys) :: (b.db, dictOf eb nb) :: (b.dst, dictOf es ns) :: b.fix L rest := ⟨_, rfl⟩
  have T2 : TAt r2 b.t b.dt b.et b.nt A := by
    rw [hr2]
    exact ⟨List.mem_cons_of_mem _ ht, List.mem_cons_of_mem _ hdt, gk, gs, gn, ga, gx, gp, gh, go, gadd, apart, off_one off hno, low⟩
  have hfx : ∀ p ∈ rest, p ∈ r2 := fun p hp => by rw [hr2]; exact List.mem_cons_of_mem _ (List.mem_cons_of_mem _ (List.mem_cons_of_mem _ (List.mem_cons_of_mem _ (List.mem_cons_of_mem _ (List.mem_cons_of_mem _ (List.mem_cons_of_mem _ (List.mem_cons_of_mem _ (List.mem_cons_of_mem _ (List.mem_cons_of_mem _ hp)))))))))
  have hcell : (L + 1, b.oc) ∈ r2 := by
    rw [hr2]
    exact List.mem_cons_of_mem _ (List.mem_cons_of_mem _ (List.mem_cons_of_mem _ (List.mem_cons_of_mem _ (List.mem_cons_of_mem _ (List.mem_cons_of_mem _ (List.mem_cons_of_mem _ (List.mem_cons_of_mem _ (List.mem_cons_of_mem _ (List.mem_cons_self ..)))))))))
  have ht2 : (b.t, instObj 383 b.dt) ∈ r2 := T2.ht
  have hdt2 : (b.dt, dictOf b.et b.nt) ∈ r2 := T2.hdt
  have har2 := hfx _ har
  have hoc9 : b.oc.data = .cell (some (.ref b.t)) := H.oc
  have hel9 : getL (Str.ofString "element") b.et = some none := H.tt.telem
  have O2 : TOk w D n := hN.tok
  have hn9 : n < 2 ^ 16 := by have := hN.hn; omega
  have hn8 : n < 2 ^ 17 := by omega
  rw [← hr2] at N
  iterate 10 walk1
  refine item_tupleT (l := [.str sp t1, .str nm t2]) (News.isTup N (List.mem_append.mpr (Or.inr har2))) (by decide) (by decide) rfl rfl ?_ (by with_unfolding_all rfl)
  iterate 4 walk1
  refine item_tupleT (l := [.str sp t1, .str nm t2]) (News.isTup N (List.mem_append.mpr (Or.inr har2))) (by decide) (by decide) rfl rfl ?_ (by with_unfolding_all rfl)
  iterate 6 walk1
  rename_i u1 D1 n1 hh1 tk1 G1 O1 hh2 F1 N1
  have hn1 : n1 < 2 ^ 17 := by have := G1.hi; omega
  iterate 10 walk1
  k_unfold
  (try dsimp only)
  rename_i u2 D2 n2 hh3 tk3 G2 O2 hh4 F2 N2
  have e1 : n2 ≤ n + 4 := by have := G1.hi; have := G2.hi; omega
  have e0 : n < n1 := G1.lo
  have hnn : n ≤ 17 := by have := hN.hn; omega
  subst htl2
  obtain ⟨r3, hr3⟩ : ∃ r3, r3 = D2.led A ++ r2 := ⟨_, rfl⟩
  have hz2 : D2.svs.toArray.size ≤ sizeLine := by rw [List.size_toArray, O2.l2, sizeLine_eq]; omega
  have hz3 : D2.nvs.toArray.size ≤ sizeLine := by rw [List.size_toArray, O2.l3, sizeLine_eq]; omega
  have hS9 : (A.sA, listOf D2.svs.toArray D2.c2) ∈ r3 := by rw [hr3]; exact List.mem_cons_of_mem _ (List.mem_cons_self ..)
  have hN9 : (A.nA, listOf D2.nvs.toArray D2.c3) ∈ r3 := by rw [hr3]; exact List.mem_cons_of_mem _ (List.mem_cons_of_mem _ (List.mem_cons_self ..))
  have hcell3 : (L + 1, b.oc) ∈ r3 := by rw [hr3]; exact List.mem_append.mpr (Or.inr hcell)
  have ht3 : (b.t, instObj 383 b.dt) ∈ r3 := by rw [hr3]; exact List.mem_append.mpr (Or.inr ht2)
  have hdt3 : (b.dt, dictOf b.et b.nt) ∈ r3 := by rw [hr3]; exact List.mem_append.mpr (Or.inr hdt2)
  have N3 := N2
  rw [← hr3] at N3
  (try clear N); (try clear N1); (try clear N2); clear hcell ht2 hdt2 har2
  k_with "mylist" => (k_dflt (refine' list_copyK ?k1 ?k2 ?k3 ?_ ?z; (case k1 => k_asm); (case k2 => k_asm); (case k3 => exact News.isList (by k_asm) (by k_mem)); (case z => assumption); k_whole; intro D' c' h' F' N' l1))
  k_steps
  rename_i sl ls hh5 l1s hh6 hh7 F7 N7
  subst hr3
  subst hr2
  exact next _ _ _ D2 n n1 u1 u2 sl D' ls c' (fr_kst [(Str.ofString "script", Value.ref l), (Str.ofString "rows", Value.ref ro), (Str.ofString "around", Value.ref ar), (Str.ofString "modes", Value.ref mo), (Str.ofString "builder", Value.ref b.bu), (Str.ofString "nodes", Value.ref no), (Str.ofString "context", Value.int n u1), (Str.ofString "head", Value.int n1 u2), (Str.ofString "spaces", Value.ref sl), (Str.ofString "words", Value.ref D')] F7 (by intro p hp; simp only [List.mem_cons, List.not_mem_nil, or_false] at hp; rcases hp with rfl | rfl | rfl | rfl | rfl | rfl | rfl | rfl | rfl | rfl <;> exact rfl)) N7
    (fun p hp => ⟨l1s p hp, l1 p (List.mem_cons_of_mem _ hp)⟩)
    ⟨by rw [O2.l2]; omega, by rw [O2.l3]; omega, hN.hy, fun j hj => (let ⟨v, h1, h2⟩ := hN.nodes j hj; ⟨v, h1, G2.node (G1.node h2)⟩), hN.aints, G2.as (by decide +kernel) (G1.as hsp hN.as), G2.an (by decide +kernel) (G1.an hnm hN.an), G2.ch (G1.ch hN.ch), fun t => G2.node (grew_node (u := t) G1 hN.tok (by omega)), by omega, by omega⟩
end
open PySem.Spec PySem.SeqAt PyProof.V in
section
def AllAtom (vs : List Value) : Prop := ∀ v ∈ vs, (∃ k t, v = Value.int k t) ∨ (∃ x t, v = Value.str x t ∧ PyData.strOk x = true)
def atomOf : Value → PyData
  | .int k _ => .int k
  | .str x _ => .str x
  | _ => .none
theorem atom_reads {h : Heap} : ∀ {vs : List Value}, AllAtom vs → ReadsAll h vs (vs.map atomOf) []
  | [], _ => .nil
  | v :: r, hv => by
    have ih := atom_reads (h := h) (vs := r) fun x hx => hv x (List.mem_cons_of_mem _ hx)
    rcases hv v (List.mem_cons_self ..) with ⟨k, t, rfl⟩ | ⟨x, t, rfl, ho⟩
    · have := ReadsAll.cons (Reads.int (h := h) k t) ih
      simpa [atomOf] using this
    · have := ReadsAll.cons (Reads.str (h := h) x t) ih
      simpa [atomOf] using this
theorem atom_lay : ∀ {vs : List Value}, AllAtom vs → PyData.canLayAll0 (vs.map atomOf) = true ∧ PyData.depthAll (vs.map atomOf) ≤ 1
  | [], _ => by simp [PyData.canLayAll0, PyData.depthAll]
  | v :: r, hv => by
    have ih := atom_lay (vs := r) fun x hx => hv x (List.mem_cons_of_mem _ hx)
    rcases hv v (List.mem_cons_self ..) with ⟨k, t, rfl⟩ | ⟨x, t, rfl, ho⟩
    · simp only [List.map_cons, atomOf, PyData.canLayAll0, PyData.canLay0, PyData.depthAll, PyData.depth, ih.1, Bool.and_true]
      exact ⟨trivial, by omega⟩
    · simp only [List.map_cons, atomOf, PyData.canLayAll0, PyData.canLay0, PyData.depthAll, PyData.depth, ih.1, Bool.and_true]
      exact ⟨ho, by omega⟩
theorem atom_shaped {vs : List Value} (hv : AllAtom vs) : shaped (.list (vs.map atomOf)) = true := by
  have h := atom_lay hv
  have h2 : PyData.depth (.list (vs.map atomOf)) ≤ 64 := by simp only [PyData.depth]; omega
  show (PyData.canLay0 (.list (vs.map atomOf)) && decide (PyData.depth (.list (vs.map atomOf)) ≤ 64)) = true
  rw [Bool.and_eq_true]
  exact ⟨by simp only [PyData.canLay0]; exact h.1, decide_eq_true h2⟩
theorem atom_same : ∀ {vs : List Value}, AllAtom vs → noMixAll (vs.map atomOf) (vs.map atomOf) = true ∧ PySem.Spec.sameAll (vs.map atomOf) (vs.map atomOf) = true
  | [], _ => by simp [noMixAll, PySem.Spec.sameAll]
  | v :: r, hv => by
    have ih := atom_same (vs := r) fun x hx => hv x (List.mem_cons_of_mem _ hx)
    rcases hv v (List.mem_cons_self ..) with ⟨k, t, rfl⟩ | ⟨x, t, rfl, ho⟩
    · simp only [List.map_cons, atomOf, noMixAll, noMix, PySem.Spec.sameAll, PySem.Spec.same, ih.1, ih.2]
      simp
    · simp only [List.map_cons, atomOf, noMixAll, noMix, PySem.Spec.sameAll, PySem.Spec.same, ih.1, ih.2]
      simp
theorem atom_list {h : Heap} {a : Addr} {vs : List Value} (hl : h.IsList a vs.toArray) (hv : AllAtom vs) : Reads h (.ref a) (.list (vs.map atomOf)) [a] := by
  obtain ⟨o, ho, hc, n, hd⟩ := hl
  exact Reads.list ho hc hd (by simpa using atom_reads hv)
section
variable {prog : Program} {w : World} {A : Around} {E : Value → Shared → Prop} {s : Shared} {a b : Addr} {vs : List Value} {Q : Value → Shared → Prop}
theorem ne_atoms (hl : s.heap.IsList a vs.toArray) (hl' : s.heap.IsList b vs.toArray) (hv : AllAtom vs) (hu : A.units + 64 < cLine) (h : Q (.bool false) s) : wpAny (model prog w) A (compareOp .NotEq (.ref a) (.ref b)) Q E s :=
  ne_dataH_same (atom_list hl hv) (atom_list hl' hv) (atom_shaped hv) (atom_shaped hv) hu (by simp only [noMix]; exact (atom_same hv).1) (by simp only [PySem.Spec.same]; rw [(atom_same hv).2]; exact h)
theorem eq_atoms (hl : s.heap.IsList a vs.toArray) (hl' : s.heap.IsList b vs.toArray) (hv : AllAtom vs) (hu : A.units + 64 < cLine) (h : Q (.bool true) s) : wpAny (model prog w) A (compareOp .Eq (.ref a) (.ref b)) Q E s :=
  eq_dataH_same (atom_list hl hv) (atom_list hl' hv) (atom_shaped hv) (atom_shaped hv) hu (by simp only [noMix]; exact (atom_same hv).1) (by simp only [PySem.Spec.same]; rw [(atom_same hv).2]; exact h)
end
theorem AllStr.atoms {vs : List Value} (h : AllStr vs) : AllAtom vs := fun v hv => Or.inr (h v hv)
theorem ints_atoms {vs : List Value} (h : ∀ v ∈ vs, ∃ k t, v = Value.int k t) : AllAtom vs := fun v hv => Or.inl (h v hv)
end
section
theorem any_eq {l : List Str} {nm : Str} : (l.any fun x => x == nm) = true ↔ nm ∈ l := by
  rw [List.any_eq_true]
  constructor
  · rintro ⟨x, hx, e⟩
    rw [← eq_of_beq e]; exact hx
  · intro h
    exact ⟨nm, h, beq_self_eq_true _⟩
theorem any_no {l : List Str} {nm : Str} (h : nm ∉ l) : (l.any fun x => x == nm) = false := by
  cases e : (l.any fun x => x == nm) with
  | false => rfl
  | true => exact absurd (any_eq.mp e) h
/-- the two readings of a name's mode -/
theorem mode_same (nm : Str) : modeOf nm = lawMode nm := by
  by_cases h : nm ∈ [Str.ofString "td", Str.ofString "th", Str.ofString "tr", Str.ofString "tbody", Str.ofString "thead", Str.ofString "tfoot", Str.ofString "caption", Str.ofString "colgroup", Str.ofString "table", Str.ofString "head", Str.ofString "body", Str.ofString "frameset"]
  · simp only [List.mem_cons, List.not_mem_nil, or_false] at h
    rcases h with rfl | rfl | rfl | rfl | rfl | rfl | rfl | rfl | rfl | rfl | rfl | rfl <;> decide +kernel
  · simp only [List.mem_cons, List.not_mem_nil, or_false, not_or] at h
    obtain ⟨h1, h2, h3, h4, h5, h6, h7, h8, h9, h10, h11, h12⟩ := h
    have b : ∀ x : Str, ¬ nm = x → (x == nm) = false := fun x hx => by
      rw [beq_eq_false_iff_ne]; exact fun e => hx e.symm
    have b' : ∀ x : Str, ¬ nm = x → (nm == x) = false := fun x hx => by
      rw [beq_eq_false_iff_ne]; exact hx
    simp only [modeOf, modeTab, modeIn, lawMode, List.any_cons, List.any_nil, b _ h1, b _ h2, b _ h3, b _ h4, b _ h5, b _ h6, b _ h7, b _ h8, b _ h9, b _ h10, b _ h11, b _ h12, b' _ h8, b' _ h3, Bool.or_self, Bool.false_eq_true, if_false]
def rowsC (R : List (Str × Str)) (c : Option (Str × Str)) : List (Str × Str) := match c with
  | none => R
  | some r => r :: R.drop 1
theorem row_same {R : List (Str × Str)} {c : Option (Str × Str)} (n : Nat) : rowAt R c n = rowD (rowsC R c) n := by
  cases c with
  | none => rfl
  | some r =>
    cases n with
    | zero => rfl
    | succ n =>
      show R.getD (n + 1) _ = (r :: R.drop 1).getD (n + 1) _
      rw [List.getD_eq_getElem?_getD, List.getD_eq_getElem?_getD, List.getElem?_cons_succ, List.getElem?_drop, Nat.add_comm]
theorem row_late {R : List (Str × Str)} {c : Option (Str × Str)} {n : Nat} (h : n ≠ 0) : rowD (rowsC R c) n = rowD R n := by
  rw [← row_same]
  cases c with
  | none => rfl
  | some r => exact if_neg h
def selTold (iw : Bool) : Str := if iw = true then Str.ofString "in select in table" else Str.ofString "in select"
theorem str_beq {a b : Str} (h : a ≠ b) : (a == b) = false := beq_eq_false_iff_ne.mpr h
theorem sel_same {R : List (Str × Str)} {c : Option (Str × Str)} {top : Str} {hh : Bool} (h0 : rowD R 0 = (Str.ofString "html", Str.ofString "html")) :
    ∀ n, n ≤ R.length → selMode R n = selTold (lawSt (rowsC R c) top hh n).2
  | 0, _ => rfl
  | n + 1, hn => by
    have ih := sel_same (c := c) (top := top) (hh := hh) h0 n (by omega)
    have hlt : n < R.length := by omega
    have hr : R[n]? = some (rowD R n) := by
      unfold rowD; rw [List.getD_eq_getElem?_getD, List.getElem?_eq_getElem hlt]; rfl
    rw [selMode, hr, lawSt]
    dsimp only
    rw [ih]
    by_cases hz : n = 0
    · subst hz
      rw [h0]
      have e1 : isH (Str.ofString "html") (Str.ofString "html") (Str.ofString "template") = false := by decide +kernel
      have e2 : isH (Str.ofString "html") (Str.ofString "html") (Str.ofString "table") = false := by decide +kernel
      dsimp only
      rw [e1, e2]
      unfold lawIn
      simp only [lm5, ne_eq, not_true_eq_false, false_and, if_false, Bool.false_eq_true, ite_self]
    · rw [row_late hz]
      generalize rowD R n = r
      obtain ⟨sp, nm⟩ := r
      generalize (lawSt (rowsC R c) top hh n).2 = iw
      dsimp only
      unfold lawIn isH
      dsimp only
      by_cases hsp : sp = Str.ofString "html"
      · subst hsp
        rw [beq_self_eq_true]
        simp only [Bool.true_and, if_true]
        by_cases ht : nm = Str.ofString "template"
        · subst ht
          rw [if_pos (beq_self_eq_true _), ← lm5_a (nm := Str.ofString "template") (by omega) (by decide +kernel)]
          decide +kernel
        · by_cases hb : nm = Str.ofString "table"
          · subst hb
            rw [if_neg (by decide +kernel), if_pos (beq_self_eq_true _), ← lm5_a (nm := Str.ofString "table") (by omega) (by decide +kernel)]
            decide +kernel
          · have e : ([Str.ofString "table", Str.ofString "template"].any fun x => x == nm) = false := any_no (by
              simp only [List.mem_cons, List.not_mem_nil, or_false, not_or]; exact ⟨hb, ht⟩)
            rw [if_neg (by rw [str_beq ht]; decide), if_neg (by rw [str_beq hb]; decide), ← lm5_b e]
      · rw [str_beq hsp]
        simp
theorem mode_told {R : List (Str × Str)} {top : Str} {hh iw : Bool} {n : Nat} {sp nm : Str} (hsel : selMode R n = selTold iw) (hsp : sp = Str.ofString "html") : modeFor R top hh (sp, nm) n = lawM top hh iw n nm := by
  subst hsp
  unfold modeFor lawM
  dsimp only
  rw [show (Str.ofString "html" != Str.ofString "html") = false by decide +kernel]
  rw [if_neg (by decide)]
  by_cases h1 : nm = Str.ofString "select"
  · subst h1
    rw [if_pos (beq_self_eq_true _), hsel, ← lm4_b (nm := Str.ofString "select") (by decide +kernel), ← lm3_c (nm := Str.ofString "select") (by decide +kernel), ← lm2_b (nm := Str.ofString "select") (by decide +kernel)]
    unfold lm1 selTold
    rw [if_pos (beq_self_eq_true _)]
  · rw [str_beq h1, if_neg (by decide)]
    by_cases h2 : nm = Str.ofString "template"
    · subst h2
      rw [if_pos (beq_self_eq_true _), ← lm4_b (nm := Str.ofString "template") (by decide +kernel), ← lm3_c (nm := Str.ofString "template") (by decide +kernel), ← lm2_a (nm := Str.ofString "template") (by decide +kernel)]
    · rw [str_beq h2, if_neg (by decide)]
      by_cases h3 : nm = Str.ofString "html"
      · subst h3
        rw [if_pos (beq_self_eq_true _), ← lm4_b (nm := Str.ofString "html") (by decide +kernel)]
        unfold lm3
        rw [if_pos (beq_self_eq_true _)]
      · rw [str_beq h3, if_neg (by decide)]
        unfold lm4 lm3 lm2 lm1
        rw [str_beq h1, str_beq h2, str_beq h3, if_neg (by decide : ¬ (false = true)), if_neg (by decide : ¬ (false = true)), if_neg (by decide : ¬ (false = true)), mode_same]
        by_cases h4 : n = 0 ∧ nm ∈ [Str.ofString "td", Str.ofString "th", Str.ofString "head"]
        · rw [if_pos ⟨h4.1, any_eq.mpr h4.2⟩, if_pos ⟨h4.1, any_eq.mpr (by
            have := h4.2
            simp only [List.mem_cons, List.not_mem_nil, or_false] at this ⊢
            rcases this with h | h | h
            · exact Or.inr (Or.inr h)
            · exact Or.inr (Or.inl h)
            · exact Or.inl h)⟩]
        · rw [if_neg (fun h => h4 ⟨h.1, any_eq.mp h.2⟩), if_neg (fun h => h4 ⟨h.1, by
            have := any_eq.mp h.2
            simp only [List.mem_cons, List.not_mem_nil, or_false] at this ⊢
            rcases this with h | h | h
            · exact Or.inr (Or.inr h)
            · exact Or.inr (Or.inl h)
            · exact Or.inl h⟩)]
theorem search_law {R : List (Str × Str)} {c : Option (Str × Str)} {top : Str} {hh : Bool} (h0 : rowD R 0 = (Str.ofString "html", Str.ofString "html")) :
    ∀ n, n ≤ R.length → search R c top hh n = (lawSt (rowsC R c) top hh n).1
  | 0, _ => rfl
  | n + 1, hn => by
    have ih := search_law (c := c) (top := top) (hh := hh) h0 n (by omega)
    have hs := sel_same (c := c) (top := top) (hh := hh) h0 n (by omega)
    rw [search, row_same, lawSt, ih]
    dsimp only
    unfold lawTold
    generalize rowD (rowsC R c) n = r
    obtain ⟨sp, nm⟩ := r
    dsimp only
    by_cases hsp : sp = Str.ofString "html"
    · rw [mode_told hs hsp, hsp, if_pos (beq_self_eq_true (Str.ofString "html"))]
      rfl
    · rw [str_beq hsp]
      have : modeFor R top hh (sp, nm) n = Str.ofString "" := by
        unfold modeFor
        rw [if_pos]
        dsimp only
        rw [bne, str_beq hsp]; rfl
      rw [this]
      rfl
theorem sel_take {R : List (Str × Str)} {k : Nat} : ∀ n, n ≤ k → selMode (R.take k) n = selMode R n
  | 0, _ => rfl
  | n + 1, hn => by
    rw [selMode, selMode, sel_take n (by omega), List.getElem?_take, if_pos (by omega)]
theorem search_take {R : List (Str × Str)} {c : Option (Str × Str)} {top : Str} {hh : Bool} {k : Nat} : ∀ n, n ≤ k → search (R.take k) c top hh n = search R c top hh n
  | 0, _ => rfl
  | n + 1, hn => by
    have e : rowAt (R.take k) c n = rowAt R c n := by
      unfold rowAt
      have e1 : (R.take k).getD n (Str.ofString "", Str.ofString "") = R.getD n (Str.ofString "", Str.ofString "") := by
        rw [List.getD_eq_getElem?_getD, List.getD_eq_getElem?_getD, List.getElem?_take, if_pos (by omega)]
      cases c with
      | none => exact e1
      | some r => dsimp only; rw [e1]
    have e2 : ∀ r, modeFor (R.take k) top hh r n = modeFor R top hh r n := fun r => by
      unfold modeFor; rw [sel_take n (by omega)]
    rw [search, search, e, e2, search_take n (by omega)]
/-- the plain law -/
theorem plain_law {R : List (Str × Str)} {c : Option (Str × Str)} {top : Str} {hh : Bool} {k : Nat} (h0 : rowD R 0 = (Str.ofString "html", Str.ofString "html")) (hk : k ≤ R.length) :
    search (R.take k) c top hh (R.take k).length = (lawSt (rowsC R c) top hh k).1 := by
  rw [List.length_take, Nat.min_eq_left hk, search_take k (Nat.le_refl _), search_law h0 k hk]
end
section
def HasK (n : Str) (es : List DictEntry) : Prop := ∃ v, getL n es = some (some v)
theorem hasK_any {n : Str} {es : List DictEntry} (h : HasK n es) : es.any (·.key.isStr n) = true := by
  obtain ⟨v, hv⟩ := h
  unfold getL at hv
  cases e : es.find? (·.key.isStr n) with
  | none =>
    rw [e] at hv
    dsimp only at hv
    split at hv <;> cases hv
  | some x =>
    rw [List.any_eq_true]
    exact ⟨x, List.mem_of_find?_eq_some e, by simpa using List.find?_some e⟩
theorem isStr_ne {n n' : Str} (hne : n ≠ n') {k : Value} (h : k.isStr n = true) : k.isStr n' = false := by
  cases k with
  | str s t =>
    have e : s = n := eq_of_beq h
    subst e
    exact beq_eq_false_iff_ne.mpr hne
  | _ => cases h
theorem put_find {n n' : Str} (hne : n ≠ n') {hsh : Int} {k v : Value} : ∀ {es : List DictEntry}, es.any (·.key.isStr n) = true → (putL n hsh k v es).find? (·.key.isStr n') = es.find? (·.key.isStr n')
  | [], h => by cases h
  | e :: r, h => by
    rw [putL]
    cases he : e.key.isStr n with
    | true =>
      rw [if_pos rfl, List.find?_cons, List.find?_cons]
      dsimp only
      rw [isStr_ne hne he]
    | false =>
      rw [if_neg (by decide), List.find?_cons, List.find?_cons, put_find hne (by simpa [he] using h)]
theorem put_find_eq {n : Str} {hsh : Int} {k v : Value} : ∀ {es : List DictEntry}, es.any (·.key.isStr n) = true → ∃ e, (putL n hsh k v es).find? (·.key.isStr n) = some e ∧ e.val = v
  | [], h => by cases h
  | e :: r, h => by
    rw [putL]
    cases he : e.key.isStr n with
    | true =>
      rw [if_pos rfl, List.find?_cons]
      dsimp only
      rw [he]
      exact ⟨_, rfl, rfl⟩
    | false =>
      obtain ⟨x, h1, h2⟩ := put_find_eq (hsh := hsh) (k := k) (v := v) (es := r) (by simpa [he] using h)
      rw [if_neg (by decide), List.find?_cons, he]
      exact ⟨x, h1, h2⟩
theorem put_ref {n : Str} {hsh : Int} {k v : Value} : ∀ {es : List DictEntry}, es.any (·.key.isStr n) = true → (putL n hsh k v es).any (·.refKey) = es.any (·.refKey)
  | [], h => by cases h
  | e :: r, h => by
    rw [putL]
    cases he : e.key.isStr n with
    | true => rw [if_pos rfl, List.any_cons, List.any_cons]; rfl
    | false => rw [if_neg (by decide), List.any_cons, List.any_cons, put_ref (by simpa [he] using h)]
theorem put_len {n : Str} {hsh : Int} {k v : Value} : ∀ {es : List DictEntry}, es.any (·.key.isStr n) = true → (putL n hsh k v es).length = es.length
  | [], h => by cases h
  | e :: r, h => by
    rw [putL]
    cases he : e.key.isStr n with
    | true => rw [if_pos rfl]; rfl
    | false => rw [if_neg (by decide), List.length_cons, List.length_cons, put_len (by simpa [he] using h)]
theorem getL_ne {n n' : Str} {hsh : Int} {k v : Value} {es : List DictEntry} (hne : n ≠ n') (h : HasK n es) : getL n' (putL n hsh k v es) = getL n' es := by
  unfold getL
  rw [put_find hne (hasK_any h), put_ref (hasK_any h)]
theorem getL_eq {n : Str} {hsh : Int} {k v : Value} {es : List DictEntry} (h : HasK n es) : getL n (putL n hsh k v es) = some (some v) := by
  obtain ⟨e, h1, h2⟩ := put_find_eq (hsh := hsh) (k := k) (v := v) (hasK_any h)
  unfold getL
  rw [h1, ← h2]
theorem getL_len {n : Str} {hsh : Int} {k v : Value} {es : List DictEntry} (h : HasK n es) : (putL n hsh k v es).length = es.length := put_len (hasK_any h)
/-- the builder's dict behind a store to one of its turning names -/
theorem BO.put {eb : List DictEntry} {t st er : Addr} (H : BO eb t st er) {n : Str} {hsh : Int} {k v : Value} (hn : n ∈ [Str.ofString "mode", Str.ofString "modes", Str.ofString "head", Str.ofString "context"]) : BO (putL n hsh k v eb) t st er := by
  obtain ⟨h1, h2, h3, ⟨k4, h4⟩, h5, h6, h7, h8, h9, h10⟩ := H
  have hk : HasK n eb := by
    simp only [List.mem_cons, List.not_mem_nil, or_false] at hn
    rcases hn with rfl | rfl | rfl | rfl
    · exact h6
    · exact h7
    · exact h8
    · exact h9
  have ne : ∀ m, m ∉ [Str.ofString "mode", Str.ofString "modes", Str.ofString "head", Str.ofString "context"] → n ≠ m := fun m hm e => hm (e ▸ hn)
  have keep : ∀ m, HasK m eb → HasK m (putL n hsh k v eb) := fun m ⟨x, hx⟩ => by
    by_cases e : n = m
    · subst e; exact ⟨v, getL_eq hk⟩
    · exact ⟨x, by rw [getL_ne e hk]; exact hx⟩
  refine ⟨?_, ?_, ?_, ⟨k4, ?_⟩, ?_, keep _ h6, keep _ h7, keep _ h8, keep _ h9, by rw [getL_len hk]; exact h10⟩
  · rw [getL_ne (ne _ (by decide +kernel)) hk]; exact h1
  · rw [getL_ne (ne _ (by decide +kernel)) hk]; exact h2
  · rw [getL_ne (ne _ (by decide +kernel)) hk]; exact h3
  · rw [getL_ne (ne _ (by decide +kernel)) hk]; exact h4
  · rw [getL_ne (ne _ (by decide +kernel)) hk]; exact h5
theorem SO.put {es : List DictEntry} (H : SO es) {hsh : Int} {k v : Value} : SO (putL (Str.ofString "items") hsh k v es) := by
  obtain ⟨h1, h2, h3⟩ := H
  exact ⟨⟨v, getL_eq h1⟩, by rw [getL_ne (by decide +kernel) h1]; exact h2, by rw [getL_len h1]; exact h3⟩
end
section
variable {w : World} {mean : ExcName → Option Value} {mg mb : Str → Option Value} {A : Around} {E : Value → Shared → Prop} {h₀ : Heap} {L : Addr} {m : Str → Option Value} {s : Shared} {news rest : List (Addr × Obj)}
variable {bu db t st er dst : Addr} {eb es : List DictEntry} {nb ns : Nat} {name : Str} {v : Value} {Q : Unit → Shared → Prop}
def turners : List Str := [Str.ofString "mode", Str.ofString "modes", Str.ofString "head", Str.ofString "context"]
theorem bo_some (H : BO eb t st er) (hn : name ∈ turners) : (getL name eb).isSome = true := by
  simp only [turners, List.mem_cons, List.not_mem_nil, or_false] at hn
  rcases hn with rfl | rfl | rfl | rfl
  · obtain ⟨v, h⟩ := H.bmode; rw [h]; rfl
  · obtain ⟨v, h⟩ := H.bmodes; rw [h]; rfl
  · obtain ⟨v, h⟩ := H.bhead; rw [h]; rfl
  · obtain ⟨v, h⟩ := H.bctx; rw [h]; rfl
theorem set_b (F : Fr h₀ L s.heap m) (X : (hd.heap_39 w.params).In h₀) (N : News h₀ L s.heap news) (sub : ∀ p ∈ (db, dictOf eb nb) :: rest, p ∈ news) (hbu : (bu, instObj 461 db) ∈ rest) (hne : ∀ p ∈ rest, p.1 ≠ db) (H : BO eb t st er) (hn : name ∈ turners)
    (h : ∀ h' tok, Fr h₀ L h' m → News h₀ L h' ((db, dictOf (putL name (PyData.keyHash w.params name) (.str name tok) v eb) (putN name eb nb)) :: rest) → BO (putL name (PyData.keyHash w.params name) (.str name tok) v eb) t st er → Q () { s with heap := h', toks := s.toks + 2 }) :
    wpAny (model PySem.Challenge.rw_nt0607_01.row.prog w) A (setAttr (.ref bu) name v) Q E s := by
  revert X; k_fill; intro X
  have N' : News h₀ L s.heap ((db, dictOf eb nb) :: rest) := cb_drop N sub
  have I : InstAt s.heap bu ⟨.ref 461, some db, .plain, #[]⟩ 461 (some (dictOf eb nb)) := InstAt.of_news N' (List.mem_cons_of_mem _ hbu) (List.mem_cons_self ..)
  have hs := bo_some H hn
  have hl : ∀ tok, (putL name (PyData.keyHash w.params name) (.str name tok) v eb).length ≤ 1000 := fun tok => (H.put hn).blen
  have ht : takerIn (hd.heap_39 w.params) 461 name = some none := by
    simp only [turners, List.mem_cons, List.not_mem_nil, or_false] at hn
    rcases hn with rfl | rfl | rfl | rfl <;> k_is
  exact W.set_dict F X N' I rfl (by k_is) (by k_is) ht (by k_is) hs rfl (Upd.head hne) (hl _) fun h' F' N' => h h' _ F' N' (H.put hn)
theorem set_s (F : Fr h₀ L s.heap m) (X : (hd.heap_39 w.params).In h₀) (N : News h₀ L s.heap news) (sub : ∀ p ∈ (dst, dictOf es ns) :: rest, p ∈ news) (hst : (st, instObj 266 dst) ∈ rest) (hne : ∀ p ∈ rest, p.1 ≠ dst) (H : SO es)
    (h : ∀ h' tok, Fr h₀ L h' m → News h₀ L h' ((dst, dictOf (putL (Str.ofString "items") (PyData.keyHash w.params (Str.ofString "items")) (.str (Str.ofString "items") tok) v es) (putN (Str.ofString "items") es ns)) :: rest) → Q () { s with heap := h', toks := s.toks + 2 }) :
    wpAny (model PySem.Challenge.rw_nt0607_01.row.prog w) A (setAttr (.ref st) (Str.ofString "items") v) Q E s := by
  revert X; k_fill; intro X
  have N' : News h₀ L s.heap ((dst, dictOf es ns) :: rest) := cb_drop N sub
  have I : InstAt s.heap st ⟨.ref 266, some dst, .plain, #[]⟩ 266 (some (dictOf es ns)) := InstAt.of_news N' (List.mem_cons_of_mem _ hst) (List.mem_cons_self ..)
  have hs : (getL (Str.ofString "items") es).isSome = true := by
    obtain ⟨v, h⟩ := H.sitems; rw [h]; rfl
  have hl : ∀ tok, (putL (Str.ofString "items") (PyData.keyHash w.params (Str.ofString "items")) (.str (Str.ofString "items") tok) v es).length ≤ 1000 := fun tok => H.put.slen
  exact W.set_dict F X N' I rfl (by k_is) (by k_is) (by k_is) (by k_is) hs rfl (Upd.head hne) (hl _) fun h' F' N' => h h' _ F' N'
end
section
variable {w : World} {mean : ExcName → Option Value} {mg mb : Str → Option Value} {dp un : Nat} {gd : Option (List Code)} {cn : Str} {cs : Scope} {a : Addr} {ccd : Value} {cl : List (Str × Addr)} {outer : List Env} {A₀ : Around} {base h₀ : Heap} {L : Addr} {m : Str → Option Value} {s : Shared} {rest : List (Addr × Obj)} {Q E : Value → Shared → Prop}
variable {bu db t st er : Addr} {eb : List DictEntry} {nb : Nat} {x : Str} {k1 : Tok}
theorem to_c (C : Cx w mean mg mb cs A₀ base outer h₀ L m s.heap) (N : News h₀ L s.heap ((db, dictOf eb nb) :: rest)) (hd : dp + 1 < recursionLimit) (hbu : (bu, instObj 461 db) ∈ rest) (hne : ∀ p ∈ rest, p.1 ≠ db) (H : BO eb t st er)
    (ret : ∀ tok h' tk', Fr h₀ L h' m → News h₀ L h' ((db, dictOf (putL (Str.ofString "mode") (PyData.keyHash w.params (Str.ofString "mode")) (.str (Str.ofString "mode") tok) (.str x k1) eb) (putN (Str.ofString "mode") eb nb)) :: rest) →
      BO (putL (Str.ofString "mode") (PyData.keyHash w.params (Str.ofString "mode")) (.str (Str.ofString "mode") tok) (.str x k1) eb) t st er → Q .none { s with heap := h', toks := tk' }) :
    wpAny (model PySem.Challenge.rw_nt0607_01.row.prog w) (ktrTop dp un gd cn cs L a ccd cl outer) (call (.ref 423) [.ref bu, .str x k1]) Q E s := by
  obtain ⟨B, F, X, T, hk⟩ := C
  revert X; k_fill; intro X
  k_with_none
  w_top off
  refine wpAny_call ?_
  k_dflt cell_enter
  iterate 5 walk1
  rename_i g1 L1 h1 FG F1 N1 B1 X1 T1
  refine set_b F1 X1 N1 (fun p hp => hp) hbu hne H (by decide +kernel) (fun h6 tok F6 N6 H6 => ?_)
  (try dsimp only)
  k_steps
  exact ret tok _ _ (by assumption) (by assumption) H6
end
/-- the body of the inner two loops, read off the law -/
def forBody : List Stmt → List Stmt
  | Stmt.For _ _ b _ _ :: _ => b
  | _ => []
def midBody : List Stmt := forBody (forBody (lawBody.drop 13))
def manyBody : List Stmt := forBody (midBody.drop 3)
abbrev psL (ro ar mo bu no sl wo : Addr) (cx hx : Int) (cu hu : Tok) : List (Str × Value) :=
  [(Str.ofString "rows", .ref ro), (Str.ofString "around", .ref ar), (Str.ofString "modes", .ref mo), (Str.ofString "builder", .ref bu), (Str.ofString "nodes", .ref no), (Str.ofString "context", .int cx cu), (Str.ofString "head", .int hx hu), (Str.ofString "spaces", .ref sl), (Str.ofString "words", .ref wo)]
abbrev psM (fr hh : Bool) (du : Addr) (ps : List (Str × Value)) : List (Str × Value) :=
  (Str.ofString "is_fragment", .bool fr) :: (Str.ofString "has_head", .bool hh) :: (Str.ofString "dues", .ref du) :: ps
/-- what stays in the ledger through the loops -/
structure Fx (fixed : List (Addr × Obj)) (b : BA) (A : TA) (D : TD) (no mo : Addr) (ys mvs : List Value) (mn : Nat) : Prop where
  hbu : (b.bu, instObj 461 b.db) ∈ fixed
  hst : (b.st, instObj 266 b.dst) ∈ fixed
  her : (b.er, listOf ([] : List Value).toArray 0) ∈ fixed
  ht : (b.t, instObj 383 b.dt) ∈ fixed
  hdt : (b.dt, dictOf b.et b.nt) ∈ fixed
  hS : (A.sA, listOf D.svs.toArray D.c2) ∈ fixed
  hN : (A.nA, listOf D.nvs.toArray D.c3) ∈ fixed
  hno : (no, LCg.lst ys) ∈ fixed
  hmo : (mo, listOf mvs.toArray mn) ∈ fixed
  sdb : ∀ p ∈ fixed, p.1 ≠ b.db
  sdst : ∀ p ∈ fixed, p.1 ≠ b.dst
  sne : @Ne Nat b.db b.dst
/-- what the builder's dicts tell -/
structure Bx (eb es : List DictEntry) (b : BA) (D : TD) (c : Option (Str × Str)) (cv hv : Int) : Prop where
  bo : BO eb b.t b.st b.er
  so : SO es
  cn : Cn eb D.svs D.nvs cv c
  hd : ∃ t, getL (Str.ofString "head") eb = some (some (.int hv t))
/-- what is told of the law's own data -/
structure Lx (w : World) (b : BA) (A : TA) (D : TD) (R : List (Str × Str)) (ys mvs : List Value) (top : Str) (cx hx : Int) (ca : Str × Str) : Prop where
  nd : Nd2 w b.c0 R ys D cx hx ca
  rl : R.length ≤ 8
  r1 : 1 ≤ R.length
  r0 : rowD R 0 = (Str.ofString "html", Str.ofString "html")
  tt : TO b.et
  gs : getL (Str.ofString "spaces") b.et = some (some (.ref A.sA))
  gn : getL (Str.ofString "names") b.et = some (some (.ref A.nA))
  am : AllStr mvs
  m1 : 1 ≤ mvs.length
  m3 : mvs.length ≤ 3
  mlast : ∃ t, mvs[((-1 : Int) + (mvs.length : Int)).toNat]? = some (.str top t)
theorem kms_take {l : List Value} {k : Nat} (hk : k ≤ l.length) : kms_pick l none (some (k : Int)) = l.take k := by
  unfold kms_pick kms_lo kms_hi
  dsimp only
  rw [if_neg (by omega), List.drop_zero, Int.toNat_natCast, Nat.min_eq_left hk, Nat.sub_zero]
theorem perm_s {x y z : Addr × Obj} {r : List (Addr × Obj)} : ∀ p ∈ z :: y :: x :: r, p ∈ x :: y :: z :: r := fun p hp => by
  simp only [List.mem_cons] at hp ⊢
  rcases hp with h | h | h | h
  · exact Or.inr (Or.inr (Or.inl h))
  · exact Or.inr (Or.inl h)
  · exact Or.inl h
  · exact Or.inr (Or.inr (Or.inr h))
theorem many_sub {a b c d x y : Addr × Obj} {r : List (Addr × Obj)} : ∀ p ∈ x :: y :: r, p ∈ a :: b :: x :: y :: c :: d :: r := fun p hp => by
  simp only [List.mem_cons] at hp ⊢
  rcases hp with h | h | h
  · exact Or.inr (Or.inr (Or.inl h))
  · exact Or.inr (Or.inr (Or.inr (Or.inl h)))
  · exact Or.inr (Or.inr (Or.inr (Or.inr (Or.inr (Or.inr h)))))
theorem kms_drop {l : List Value} : kms_pick l (some 1) none = l.drop 1 := by
  unfold kms_pick kms_lo kms_hi
  dsimp only
  rw [if_neg (by omega)]
  cases l with
  | nil => rfl
  | cons x r =>
    have e : min (Int.toNat 1) (x :: r).length = 1 := by
      rw [List.length_cons]; show min 1 (r.length + 1) = 1; omega
    rw [e]
    exact List.take_of_length_le (by simp)
theorem stack_take {svs nvs ys : List Value} {R : List (Str × Str)} {k : Nat} (hy : ys.length = R.length) (hn : ∀ j, j < R.length → ∃ v, ys[j]? = some v ∧ NodeIs svs nvs v (rowD R j)) (hk : k ≤ R.length) (hR : R.length ≤ 8) : StackIs svs nvs (ys.take k) (R.take k) := by
  refine ⟨by rw [List.length_take, List.length_take, hy], by rw [List.length_take]; omega, fun i hi => ?_⟩
  rw [List.length_take] at hi
  obtain ⟨v, h1, h2⟩ := hn i (by omega)
  refine ⟨v, by rw [List.getElem?_take, if_pos (by omega)]; exact h1, ?_⟩
  have e : (R.take k)[i]'(by rw [List.length_take]; exact hi) = rowD R i := by
    unfold rowD
    rw [List.getElem_take, List.getD_eq_getElem?_getD, List.getElem?_eq_getElem (by omega)]; rfl
  rw [e]; exact h2
section
variable {w : World} {mean : ExcName → Option Value} {mg mb : Str → Option Value} {h₀ : Heap} {L fa : Addr} {cd : Value} {s : Shared} {Q : Flow → Shared → Prop} {E : Value → Shared → Prop}
variable {ro ar mo no sl wo du : Addr} {u : Str → Option Value} {fixed : List (Addr × Obj)} {b : BA} {A : TA} {D : TD} {eb es : List DictEntry} {nb ns mn dn k : Nat} {R : List (Str × Str)} {ys mvs dvs : List Value} {top : Str} {cx hx cv hv : Int} {cu hu tm : Tok} {ca : Str × Str} {c : Option (Str × Str)} {fr hh : Bool}
theorem many_turn (B : Below callerA h₀ [] h₀) (F : Fr h₀ L s.heap (kstB u ((Str.ofString "many", .int (k : Int) tm) :: psM fr hh du (psL ro ar mo b.bu no sl wo cx hx cu hu)))) (X : (hd.heap_39 w.params).In h₀)
    (N : News h₀ L s.heap ((b.db, dictOf eb nb) :: (b.dst, dictOf es ns) :: fixed)) (T : Top hd.view_39 (looseW hd.view_39 [Str.ofString "Tree"]) mean mg mb h₀)
    (FX : Fx fixed b A D no mo ys mvs mn) (hdu : (du, listOf dvs.toArray dn) ∈ fixed) (BX : Bx eb es b D c cv hv) (LX : Lx w b A D R ys mvs top cx hx ca) (hk1 : 1 ≤ k) (hk2 : k ≤ R.length) (hD : DuesAre dvs (rowsC R c) top (hv != -1) R.length)
    (next : ∀ h' tk' eb' nb' es' ns', Fr h₀ L h' (kstB u ((Str.ofString "many", .int (k : Int) tm) :: psM fr hh du (psL ro ar mo b.bu no sl wo cx hx cu hu))) → News h₀ L h' ((b.db, dictOf eb' nb') :: (b.dst, dictOf es' ns') :: fixed) → Bx eb' es' b D c cv hv → Q .next { s with heap := h', toks := tk' }) :
    wpAny (model PySem.Challenge.rw_nt0607_01.row.prog w) (lawA L fa cd) (execs manyBody (lawEnv L fa cd)) Q E s := by
  revert X; k_fill; intro X
  k_with_none
  w_top off
  obtain ⟨sc, hsc⟩ : ∃ x, x = lawScope := ⟨_, rfl⟩
  unfold lawA lawEnv
  rw [← hsc]
  obtain ⟨bd, hbd⟩ : ∃ x, x = manyBody := ⟨_, rfl⟩
  rw [← hbd]
  conv at hsc => rhs; whnf
  conv at hbd => rhs; whnf
  subst hbd
  subst hsc
  obtain ⟨hbu, hst, her, ht, hdt, hS, hN, hno, hmo, sdb, sdst, sne⟩ := id FX
  obtain ⟨bo, so, cn, ⟨th, hhd⟩⟩ := id BX
  obtain ⟨btree, bstack, berr, borig, bto, bmode, bmodes, bhead, bctx, blen⟩ := id bo
  have hyl : k ≤ ys.length := by rw [LX.nd.hy]; exact hk2
  have hya : ys.length ≤ 8 := by rw [LX.nd.hy]; exact LX.rl
  iterate 9 walk1
  refine kms_slice_lit F N (News.isList N (List.mem_cons_of_mem _ (List.mem_cons_of_mem _ hno))) IsPart.none (IsPart.int _ _) (kms_take hyl) (fun D1 h1 F1 N1 l1 => ?_) (by with_unfolding_all rfl) (by intro _; with_unfolding_all rfl) (by rw [List.size_toArray, sizeLine_eq]; omega)
  have N1 : News h₀ L h1 ((D1, listOf (ys.take k).toArray 0) :: (b.db, dictOf eb nb) :: (b.dst, dictOf es ns) :: fixed) := N1
  iterate 3 walk1
  have d1a : b.db < D1 := l1 _ (List.mem_cons_self ..)
  have d1b : b.dst < D1 := l1 _ (List.mem_cons_of_mem _ (List.mem_cons_self ..))
  refine set_s (rest := (b.db, dictOf eb nb) :: (D1, listOf (ys.take k).toArray 0) :: fixed) F1 X N1 perm_s (List.mem_cons_of_mem _ (List.mem_cons_of_mem _ hst)) (List.forall_mem_cons.mpr ⟨sne, List.forall_mem_cons.mpr ⟨Nat.ne_of_gt d1b, sdst⟩⟩) so (fun h2 tok2 F2 N2 => ?_)
  (try dsimp only)
  obtain ⟨es1, ns1, so1, hi1, N2⟩ : ∃ es1 ns1, SO es1 ∧ getL (Str.ofString "items") es1 = some (some (.ref D1)) ∧ News h₀ L h2 ((b.dst, dictOf es1 ns1) :: (b.db, dictOf eb nb) :: (D1, listOf (ys.take k).toArray 0) :: fixed) := ⟨_, _, so.put, getL_eq so.sitems, N2⟩
  have hm3 := LX.m3
  k_with "mylist" => (k_dflt (refine' list_copyK ?k1 ?k2 ?k3 ?_ ?z; (case k1 => k_asm); (case k2 => k_asm); (case k3 => exact News.isList N2 (List.mem_cons_of_mem _ (List.mem_cons_of_mem _ (List.mem_cons_of_mem _ hmo)))); (case z => (rw [List.size_toArray, sizeLine_eq]; omega)); k_whole; intro D2 c2 h3 F3 N3 l2))
  iterate 10 walk1
  have d2a : b.db < D2 := l2 _ (List.mem_cons_of_mem _ (List.mem_cons_self ..))
  have d2b : b.dst < D2 := l2 _ (List.mem_cons_self ..)
  refine set_b (rest := (b.dst, dictOf es1 ns1) :: (D2, listOf mvs.toArray c2) :: (D1, listOf (ys.take k).toArray 0) :: fixed) F3 X N3 perm_s (List.mem_cons_of_mem _ (List.mem_cons_of_mem _ (List.mem_cons_of_mem _ hbu))) (List.forall_mem_cons.mpr ⟨Ne.symm sne, List.forall_mem_cons.mpr ⟨Nat.ne_of_gt d2a, List.forall_mem_cons.mpr ⟨Nat.ne_of_gt d1a, sdb⟩⟩⟩) bo (by decide +kernel) (fun h4 tok4 F4 N4 bo4 => ?_)
  (try dsimp only)
  have nem : Str.ofString "modes" ≠ Str.ofString "head" := by decide +kernel
  have nec : Str.ofString "modes" ≠ Str.ofString "context" := by decide +kernel
  obtain ⟨eb4, nb4, bo4, hm4, hh4, hc4, N4⟩ : ∃ eb4 nb4, BO eb4 b.t b.st b.er ∧ getL (Str.ofString "modes") eb4 = some (some (.ref D2)) ∧ getL (Str.ofString "head") eb4 = getL (Str.ofString "head") eb ∧ getL (Str.ofString "context") eb4 = getL (Str.ofString "context") eb ∧
      News h₀ L h4 ((b.db, dictOf eb4 nb4) :: (b.dst, dictOf es1 ns1) :: (D2, listOf mvs.toArray c2) :: (D1, listOf (ys.take k).toArray 0) :: fixed) := ⟨_, _, bo4, getL_eq bo.bmodes, getL_ne nem bo.bmodes, getL_ne nec bo.bmodes, N4⟩
  have bto4 := bo4.bto
  iterate 10 walk1
  refine to_c ⟨B, F4, X, T, rfl⟩ N4 (by ktr_room) (List.mem_cons_of_mem _ (List.mem_cons_of_mem _ (List.mem_cons_of_mem _ hbu))) (List.forall_mem_cons.mpr ⟨Ne.symm sne, List.forall_mem_cons.mpr ⟨Nat.ne_of_gt d2a, List.forall_mem_cons.mpr ⟨Nat.ne_of_gt d1a, sdb⟩⟩⟩) bo4 (fun tok5 h5 tk5 F5 N5 bo5 => ?_)
  (try dsimp only)
  have nmm : Str.ofString "mode" ≠ Str.ofString "modes" := by decide +kernel
  have nmh : Str.ofString "mode" ≠ Str.ofString "head" := by decide +kernel
  have nmc : Str.ofString "mode" ≠ Str.ofString "context" := by decide +kernel
  obtain ⟨eb5, nb5, bo5, hm5, hh5, hc5, N5⟩ : ∃ eb5 nb5, BO eb5 b.t b.st b.er ∧ getL (Str.ofString "modes") eb5 = some (some (.ref D2)) ∧ getL (Str.ofString "head") eb5 = getL (Str.ofString "head") eb ∧ getL (Str.ofString "context") eb5 = getL (Str.ofString "context") eb ∧
      News h₀ L h5 ((b.db, dictOf eb5 nb5) :: (b.dst, dictOf es1 ns1) :: (D2, listOf mvs.toArray c2) :: (D1, listOf (ys.take k).toArray 0) :: fixed) := ⟨_, _, bo5, (getL_ne nmm bo4.bmode).trans hm4, (getL_ne nmh bo4.bmode).trans hh4, (getL_ne nmc bo4.bmode).trans hc4, N5⟩
  iterate 9 walk1
  obtain ⟨tl, htl⟩ := LX.mlast
  have hm1 := LX.m1
  have nmo : Str.ofString "mode" ≠ Str.ofString "errors" := by decide +kernel
  refine resetMode_c (dp := _) ⟨B, F5, X, T, rfl⟩ N5 (by ktr_room) (by ktr_units)
    ⟨List.mem_cons_of_mem _ (List.mem_cons_of_mem _ (List.mem_cons_of_mem _ (List.mem_cons_of_mem _ hbu))), List.mem_cons_self .., List.mem_cons_of_mem _ (List.mem_cons_of_mem _ (List.mem_cons_of_mem _ (List.mem_cons_of_mem _ ht))), List.mem_cons_of_mem _ (List.mem_cons_of_mem _ (List.mem_cons_of_mem _ (List.mem_cons_of_mem _ hdt))), List.mem_cons_of_mem _ (List.mem_cons_of_mem _ (List.mem_cons_of_mem _ (List.mem_cons_of_mem _ hst))), List.mem_cons_of_mem _ (List.mem_cons_self ..), bo5.btree, bo5.bstack, hi1, LX.gs, LX.gn, LX.tt.thtml, so1.smany, bo5.bto, List.mem_cons_of_mem _ (List.mem_cons_of_mem _ (List.mem_cons_of_mem _ (List.mem_cons_of_mem _ hS))), List.mem_cons_of_mem _ (List.mem_cons_of_mem _ (List.mem_cons_of_mem _ (List.mem_cons_of_mem _ hN))), List.mem_cons_of_mem _ (List.mem_cons_of_mem _ (List.mem_cons_of_mem _ (List.mem_cons_self ..)))⟩
    ⟨hm5, List.mem_cons_of_mem _ (List.mem_cons_of_mem _ (List.mem_cons_self ..)), by omega, by omega, ⟨tl, htl⟩, by omega, ⟨th, hh5.trans hhd⟩⟩
    (stack_take LX.nd.hy LX.nd.nodes hk2 LX.rl) ⟨let ⟨t, h⟩ := cn.hctx; ⟨t, hc5.trans h⟩, cn.hnone, cn.hsome⟩
    (List.forall_mem_cons.mpr ⟨Ne.symm sne, List.forall_mem_cons.mpr ⟨Nat.ne_of_gt d2a, List.forall_mem_cons.mpr ⟨Nat.ne_of_gt d1a, sdb⟩⟩⟩) (bo_some bo5 (by decide +kernel)) (fun hsh key v => by rw [getL_len bo5.bmode]; exact bo5.blen) ?_
  intro tk6 tk7 h6 tk8 F6 N6
  rw [plain_law LX.r0 hk2] at N6
  obtain ⟨td, hdv⟩ := hD.2 (k - 1) (by omega)
  rw [show k - 1 + 1 = k by omega] at hdv
  have hdv9 : dvs[((k : Int) - 1).toNat]? = some (.str (lawSt (rowsC R c) top (hv != -1) k).1 td) := by rw [show ((k : Int) - 1).toNat = k - 1 by omega]; exact hdv
  obtain ⟨Y, hY⟩ : ∃ Y, Y = (lawSt (rowsC R c) top (hv != -1) k).1 := ⟨_, rfl⟩
  rw [← hY] at N6 hdv9
  obtain ⟨eb6, nb6, bo6, hmd6, hm6, hh6, hc6, N6⟩ : ∃ eb6 nb6, BO eb6 b.t b.st b.er ∧ getL (Str.ofString "mode") eb6 = some (some (.str Y tk7)) ∧ getL (Str.ofString "modes") eb6 = some (some (.ref D2)) ∧ getL (Str.ofString "head") eb6 = getL (Str.ofString "head") eb ∧ getL (Str.ofString "context") eb6 = getL (Str.ofString "context") eb ∧
      News h₀ L h6 ((b.db, dictOf eb6 nb6) :: (b.dst, dictOf es1 ns1) :: (D2, listOf mvs.toArray c2) :: (D1, listOf (ys.take k).toArray 0) :: fixed) := ⟨_, _, bo5.put (by decide +kernel), getL_eq bo5.bmode, (getL_ne nmm bo5.bmode).trans hm5, (getL_ne nmh bo5.bmode).trans hh5, (getL_ne nmc bo5.bmode).trans hc5, N6⟩
  have hst6 := bo6.bstack
  have her6 := bo6.berr
  have hk0 : 0 ≤ (k : Int) - 1 := by omega
  have hk62 : (k : Int) - 1 < 2 ^ 62 := by have := LX.rl; omega
  iterate 12 walk1
  refine my_item N6 (List.mem_cons_of_mem _ (List.mem_cons_of_mem _ (List.mem_cons_of_mem _ (List.mem_cons_of_mem _ hdu)))) hk0 hk62 hdv9 ?_ (by with_unfolding_all rfl)
  iterate 3 walk1
  · rename (Y != Y) = true => hbad
    exact absurd hbad (by simp)
  iterate 18 (first | walk1 | (dsimp only; walk1))
  refine kms_slice_lit F6 N6 (News.isList N6 (List.mem_cons_of_mem _ (List.mem_cons_of_mem _ (List.mem_cons_of_mem _ (List.mem_cons_of_mem _ hno))))) IsPart.none (IsPart.int _ _) (kms_take hyl) (fun D3 h7 F7 N7 l7 => ?_) (by with_unfolding_all rfl) (by intro _; with_unfolding_all rfl) (by rw [List.size_toArray, sizeLine_eq]; omega)
  have N7 : News h₀ L h7 ((D3, listOf (ys.take k).toArray 0) :: (b.db, dictOf eb6 nb6) :: (b.dst, dictOf es1 ns1) :: (D2, listOf mvs.toArray c2) :: (D1, listOf (ys.take k).toArray 0) :: fixed) := N7
  refine ne_atoms (vs := ys.take k) (News.isList N7 (List.mem_cons_of_mem _ (List.mem_cons_of_mem _ (List.mem_cons_of_mem _ (List.mem_cons_of_mem _ (List.mem_cons_self ..)))))) (News.isList N7 (List.mem_cons_self ..)) (ints_atoms fun v hv => LX.nd.aints v (List.mem_of_mem_take hv)) (Nat.le_of_ble_eq_true rfl) ?_
  iterate 8 (first | walk1 | (dsimp only; walk1))
  refine ne_atoms (vs := mvs) (News.isList N7 (List.mem_cons_of_mem _ (List.mem_cons_of_mem _ (List.mem_cons_of_mem _ (List.mem_cons_self ..))))) (News.isList N7 (List.mem_cons_of_mem _ (List.mem_cons_of_mem _ (List.mem_cons_of_mem _ (List.mem_cons_of_mem _ (List.mem_cons_of_mem _ hmo)))))) LX.am.atoms (Nat.le_of_ble_eq_true rfl) ?_
  iterate 10 (first | walk1 | (dsimp only; walk1))
  rename_i D4 h8 F8 N8 l8
  have N8 : News h₀ L h8 ((D4, listOf ([] : List Value).toArray 0) :: (D3, listOf (ys.take k).toArray 0) :: (b.db, dictOf eb6 nb6) :: (b.dst, dictOf es1 ns1) :: (D2, listOf mvs.toArray c2) :: (D1, listOf (ys.take k).toArray 0) :: fixed) := N8
  refine ne_atoms (vs := []) (News.isList N8 (List.mem_cons_of_mem _ (List.mem_cons_of_mem _ (List.mem_cons_of_mem _ (List.mem_cons_of_mem _ (List.mem_cons_of_mem _ (List.mem_cons_of_mem _ her))))))) (News.isList N8 (List.mem_cons_self ..)) (fun _ h => nomatch h) (Nat.le_of_ble_eq_true rfl) ?_
  k_steps
  exact next _ _ eb6 nb6 es1 ns1 F8 (cb_drop N8 many_sub) ⟨bo6, so1, ⟨let ⟨t, h⟩ := cn.hctx; ⟨t, hc6.trans h⟩, cn.hnone, cn.hsome⟩, ⟨th, hh6.trans hhd⟩⟩
end
theorem rows_frag {news : List (Addr × Obj)} {rvs : List Value} {R : List (Str × Str)} {ar : Addr} {sp nm : Str} {t1 t2 : Tok} (h : RowsIs news rvs R) (har : (ar, tupOf [.str sp t1, .str nm t2]) ∈ news) : RowsIs news ([.ref ar] ++ rvs.drop 1) ((sp, nm) :: R.drop 1) := by
  refine ⟨by rw [List.length_append, List.length_cons, List.length_drop, h.1]; simp only [List.length_cons, List.length_drop, List.length_nil]; omega, fun i hi => ?_⟩
  cases i with
  | zero => exact ⟨ar, t1, t2, rfl, har⟩
  | succ i =>
    rw [List.length_cons, List.length_drop] at hi
    obtain ⟨a, k1, k2, h1, h2⟩ := h.2 (i + 1) (by omega)
    have e : rowD ((sp, nm) :: R.drop 1) (i + 1) = rowD R (i + 1) := by
      unfold rowD
      rw [List.getD_eq_getElem?_getD, List.getD_eq_getElem?_getD, List.getElem?_cons_succ, List.getElem?_drop, Nat.add_comm]
    rw [e]
    exact ⟨a, k1, k2, by rw [List.singleton_append, List.getElem?_cons_succ, List.getElem?_drop, Nat.add_comm]; exact h1, h2⟩
theorem RowsIs.mono {news news' : List (Addr × Obj)} {rvs : List Value} {R : List (Str × Str)} (h : RowsIs news rvs R) (hs : ∀ p ∈ news, p ∈ news') : RowsIs news' rvs R := ⟨h.1, fun i hi => let ⟨a, t1, t2, h1, h2⟩ := h.2 i hi; ⟨a, t1, t2, h1, hs _ h2⟩⟩
section
variable {w : World} {mean : ExcName → Option Value} {mg mb : Str → Option Value} {h₀ : Heap} {L fa : Addr} {cd : Value} {s : Shared} {Q : Flow → Shared → Prop} {E : Value → Shared → Prop}
variable {ro ar mo no sl wo : Addr} {u : Str → Option Value} {fixed : List (Addr × Obj)} {b : BA} {A : TA} {D : TD} {eb es : List DictEntry} {nb ns mn rn : Nat} {R : List (Str × Str)} {ys mvs rvs : List Value} {top : Str} {cx hx : Int} {cu hu t1 t2 : Tok} {ca : Str × Str} {fr hh : Bool}
/-- the first statement of the loops' body: the dues -/
theorem mid_dues (B : Below callerA h₀ [] h₀) (F : Fr h₀ L s.heap (kstB u ((Str.ofString "is_fragment", .bool fr) :: (Str.ofString "has_head", .bool hh) :: psL ro ar mo b.bu no sl wo cx hx cu hu))) (X : (hd.heap_39 w.params).In h₀)
    (N : News h₀ L s.heap ((b.db, dictOf eb nb) :: (b.dst, dictOf es ns) :: fixed)) (T : Top hd.view_39 (looseW hd.view_39 [Str.ofString "Tree"]) mean mg mb h₀)
    (FX : Fx fixed b A D no mo ys mvs mn) (LX : Lx w b A D R ys mvs top cx hx ca) (hro : (ro, listOf rvs.toArray rn) ∈ fixed) (hR : RowsIs fixed rvs R) (har : (ar, tupOf [.str ca.1 t1, .str ca.2 t2]) ∈ fixed)
    (next : ∀ u h' tk' du dvs dn, Fr h₀ L h' (kstB u (psM fr hh du (psL ro ar mo b.bu no sl wo cx hx cu hu))) → News h₀ L h' ((du, listOf dvs.toArray dn) :: (b.db, dictOf eb nb) :: (b.dst, dictOf es ns) :: fixed) → DuesAre dvs (rowsC R (if fr then some ca else none)) top hh R.length →
      (∀ p ∈ (b.db, dictOf eb nb) :: (b.dst, dictOf es ns) :: fixed, @LT.lt Nat _ p.1 du) → wpAny (model PySem.Challenge.rw_nt0607_01.row.prog w) (lawA L fa cd) (execs (midBody.drop 1) (lawEnv L fa cd)) Q E { s with heap := h', toks := tk' }) :
    wpAny (model PySem.Challenge.rw_nt0607_01.row.prog w) (lawA L fa cd) (execs midBody (lawEnv L fa cd)) Q E s := by
  revert X; k_fill; intro X
  k_with_none
  w_top off
  obtain ⟨sc, hsc⟩ : ∃ x, x = lawScope := ⟨_, rfl⟩
  unfold lawA lawEnv at next ⊢
  rw [← hsc] at next ⊢
  obtain ⟨bd, hbd⟩ : ∃ x, x = midBody := ⟨_, rfl⟩
  rw [← hbd]
  conv at hsc => rhs; whnf
  conv at hbd => rhs; whnf
  obtain ⟨tl, htl⟩ : ∃ x, x = midBody.drop 1 := ⟨_, rfl⟩
  rw [← htl] at next
  conv at htl => rhs; whnf
  rw [← htl] at hbd
  subst hbd
  subst hsc
  obtain ⟨hbu, hst, her, ht, hdt, hS, hN, hno, hmo, sdb, sdst, sne⟩ := id FX
  obtain ⟨tl9, htl9⟩ := LX.mlast
  have hm1 := LX.m1
  have hm3 := LX.m3
  have hrl := LX.rl
  have hr1 := LX.r1
  cases fr with
  | false =>
    iterate 18 (first | walk1 | (dsimp only; walk1))
    refine kim_back N (List.mem_cons_of_mem _ (List.mem_cons_of_mem _ hmo)) rfl rfl (by decide) (by omega) (by decide) htl9 ?_ (by with_unfolding_all rfl) (by intro _; with_unfolding_all rfl)
    iterate 4 (first | walk1 | (dsimp only; walk1))
    refine lawModes_c (n := R.length) ⟨B, F, X, T, rfl⟩ N (by ktr_room) (by ktr_units) (List.mem_cons_of_mem _ (List.mem_cons_of_mem _ hro)) (hR.mono fun p hp => List.mem_cons_of_mem _ (List.mem_cons_of_mem _ hp)) rfl (by omega) (fun du dvs dn h1 tk1 F1 hD N1 lD => ?_)
    (try dsimp only)
    k_steps
    rename_i h9 F9 N9
    exact next _ _ _ du dvs dn (fr_kst (psM false hh du (psL ro ar mo b.bu no sl wo cx hx cu hu)) F9 (by intro p hp; simp only [psM, psL, List.mem_cons, List.not_mem_nil, or_false] at hp; rcases hp with rfl | rfl | rfl | rfl | rfl | rfl | rfl | rfl | rfl | rfl | rfl | rfl <;> exact rfl)) N9 hD (allLt_mem lD)
  | true =>
    iterate 24 (first | walk1 | (dsimp only; walk1))
    rename_i lA h1 F1 N1 l1
    have hrvl : rvs.length = R.length := hR.1
    refine kms_slice_lit F1 N1 (News.isList N1 (List.mem_cons_of_mem _ (List.mem_cons_of_mem _ (List.mem_cons_of_mem _ hro)))) (IsPart.int _ _) IsPart.none kms_drop (fun D2 h2 F2 N2 l2 => ?_) (by with_unfolding_all rfl) (by intro _; with_unfolding_all rfl) (by rw [List.size_toArray, sizeLine_eq]; omega)
    refine kmk_add_lit (zs := [.ref ar] ++ rvs.drop 1) F2 N2 (News.isList N2 (List.mem_cons_of_mem _ (List.mem_cons_self ..))) (News.isList N2 (List.mem_cons_self ..)) rfl (fun D3 h3 F3 N3 l3 => ?_) (by simp only [List.length_cons, List.length_nil, List.length_drop]; rw [sizeLine_eq]; omega)
    iterate 6 (first | walk1 | (dsimp only; walk1))
    refine kim_back N3 (List.mem_cons_of_mem _ (List.mem_cons_of_mem _ (List.mem_cons_of_mem _ (List.mem_cons_of_mem _ (List.mem_cons_of_mem _ hmo))))) rfl rfl (by decide) (by omega) (by decide) htl9 ?_ (by with_unfolding_all rfl) (by intro _; with_unfolding_all rfl)
    iterate 4 (first | walk1 | (dsimp only; walk1))
    refine lawModes_c (n := R.length) (R := ca :: R.drop 1) (rvs := [.ref ar] ++ rvs.drop 1) (rn := 0) ⟨B, F3, X, T, rfl⟩ N3 (by ktr_room) (by ktr_units) (List.mem_cons_self ..) ((rows_frag hR har).mono fun p hp => List.mem_cons_of_mem _ (List.mem_cons_of_mem _ (List.mem_cons_of_mem _ (List.mem_cons_of_mem _ (List.mem_cons_of_mem _ hp))))) (by rw [List.length_cons, List.length_drop]; omega) (by omega) (fun du dvs dn h1 tk1 F1 hD N1 lD => ?_)
    (try dsimp only)
    k_steps
    rename_i h9 F9 N9
    exact next _ _ _ du dvs dn (fr_kst (psM true hh du (psL ro ar mo b.bu no sl wo cx hx cu hu)) F9 (by intro p hp; simp only [psM, psL, List.mem_cons, List.not_mem_nil, or_false] at hp; rcases hp with rfl | rfl | rfl | rfl | rfl | rfl | rfl | rfl | rfl | rfl | rfl | rfl <;> exact rfl))
      (cb_drop N9 fun p hp => (List.mem_cons.mp hp).elim (fun e => e ▸ List.mem_cons_self ..) fun h => List.mem_cons_of_mem _ (List.mem_cons_of_mem _ (List.mem_cons_of_mem _ (List.mem_cons_of_mem _ h)))) hD (fun p hp => allLt_mem lD p (List.mem_cons_of_mem _ (List.mem_cons_of_mem _ (List.mem_cons_of_mem _ hp))))
end
def cOf (fr : Bool) (ca : Str × Str) : Option (Str × Str) := if fr then some ca else none
def vOf (f : Bool) (x : Int) : Int := if f then x else -1
theorem Fx.cons {fixed : List (Addr × Obj)} {b : BA} {A : TA} {D : TD} {no mo : Addr} {ys mvs : List Value} {mn : Nat} (H : Fx fixed b A D no mo ys mvs mn) {x : Addr × Obj} (h1 : x.1 ≠ b.db) (h2 : x.1 ≠ b.dst) : Fx (x :: fixed) b A D no mo ys mvs mn := by
  obtain ⟨hbu, hst, her, ht, hdt, hS, hN, hno, hmo, sdb, sdst, sne⟩ := H
  exact ⟨List.mem_cons_of_mem _ hbu, List.mem_cons_of_mem _ hst, List.mem_cons_of_mem _ her, List.mem_cons_of_mem _ ht, List.mem_cons_of_mem _ hdt, List.mem_cons_of_mem _ hS, List.mem_cons_of_mem _ hN, List.mem_cons_of_mem _ hno, List.mem_cons_of_mem _ hmo, List.forall_mem_cons.mpr ⟨h1, sdb⟩, List.forall_mem_cons.mpr ⟨h2, sdst⟩, sne⟩
section
variable {w : World} {mean : ExcName → Option Value} {mg mb : Str → Option Value} {h₀ : Heap} {L fa : Addr} {cd : Value} {s : Shared} {Q : Flow → Shared → Prop} {E : Value → Shared → Prop}
variable {ro ar mo no sl wo du : Addr} {u : Str → Option Value} {fixed : List (Addr × Obj)} {b : BA} {A : TA} {D : TD} {eb es : List DictEntry} {nb ns mn : Nat} {R : List (Str × Str)} {ys mvs : List Value} {top : Str} {cx hx : Int} {cu hu : Tok} {ca : Str × Str} {fr hh : Bool}
theorem sets_bx {k1 k2 x1 x2 : Value} {hs1 hs2 : Int} {t1 t2 : Tok} (bo : BO eb b.t b.st b.er) (so : SO es) (LX : Lx w b A D R ys mvs top cx hx ca) (e1 : x1 = .int (vOf fr cx) t1) (e2 : x2 = .int (vOf hh hx) t2) :
    Bx (putL (Str.ofString "head") hs2 k2 x2 (putL (Str.ofString "context") hs1 k1 x1 eb)) es b D (cOf fr ca) (vOf fr cx) (vOf hh hx) := by
  subst e1 e2
  have b1 : BO (putL (Str.ofString "context") hs1 k1 (.int (vOf fr cx) t1) eb) b.t b.st b.er := bo.put (by decide +kernel)
  have ne : Str.ofString "head" ≠ Str.ofString "context" := by decide +kernel
  refine ⟨b1.put (by decide +kernel), so, ⟨⟨t1, (getL_ne ne b1.bhead).trans (getL_eq bo.bctx)⟩, fun h => ?_, fun r h => ?_⟩, ⟨t2, getL_eq b1.bhead⟩⟩
  · cases fr with
    | false => rfl
    | true => cases h
  · cases fr with
    | false => cases h
    | true =>
      cases h
      exact ⟨by have := LX.nd.hcx; show cx ≠ -1; omega, LX.nd.ctx⟩
theorem mid_sets (B : Below callerA h₀ [] h₀) (F : Fr h₀ L s.heap (kstB u (psM fr hh du (psL ro ar mo b.bu no sl wo cx hx cu hu)))) (X : (hd.heap_39 w.params).In h₀)
    (N : News h₀ L s.heap ((b.db, dictOf eb nb) :: (b.dst, dictOf es ns) :: fixed)) (T : Top hd.view_39 (looseW hd.view_39 [Str.ofString "Tree"]) mean mg mb h₀)
    (FX : Fx fixed b A D no mo ys mvs mn) (LX : Lx w b A D R ys mvs top cx hx ca) (bo : BO eb b.t b.st b.er) (so : SO es)
    (next : ∀ h' tk' eb' nb', Fr h₀ L h' (kstB u (psM fr hh du (psL ro ar mo b.bu no sl wo cx hx cu hu))) → News h₀ L h' ((b.db, dictOf eb' nb') :: (b.dst, dictOf es ns) :: fixed) → Bx eb' es b D (cOf fr ca) (vOf fr cx) (vOf hh hx) →
      wpAny (model PySem.Challenge.rw_nt0607_01.row.prog w) (lawA L fa cd) (execs (midBody.drop 3) (lawEnv L fa cd)) Q E { s with heap := h', toks := tk' }) :
    wpAny (model PySem.Challenge.rw_nt0607_01.row.prog w) (lawA L fa cd) (execs (midBody.drop 1) (lawEnv L fa cd)) Q E s := by
  revert X; k_fill; intro X
  k_with_none
  w_top off
  obtain ⟨sc, hsc⟩ : ∃ x, x = lawScope := ⟨_, rfl⟩
  unfold lawA lawEnv at next ⊢
  rw [← hsc] at next ⊢
  obtain ⟨bd, hbd⟩ : ∃ x, x = midBody.drop 1 := ⟨_, rfl⟩
  rw [← hbd]
  conv at hsc => rhs; whnf
  conv at hbd => rhs; whnf
  obtain ⟨tl, htl⟩ : ∃ x, x = midBody.drop 3 := ⟨_, rfl⟩
  rw [← htl] at next
  conv at htl => rhs; whnf
  rw [← htl] at hbd
  subst hbd
  subst hsc
  obtain ⟨hbu, hst, her, ht, hdt, hS, hN, hno, hmo, sdb, sdst, sne⟩ := id FX
  have hne : ∀ p ∈ (b.dst, dictOf es ns) :: fixed, p.1 ≠ b.db := List.forall_mem_cons.mpr ⟨Ne.symm sne, sdb⟩
  k_with "setAttr ref" => (refine' set_b (rest := (b.dst, dictOf es ns) :: fixed) ?F ?X ?N ?S ?b ?e ?H ?n ?_; (case F => k_asm); (case X => k_asm); (case N => k_asm); (case S => exact fun _ h => h); (case b => exact List.mem_cons_of_mem _ hbu); (case e => exact hne); (case H => with_reducible assumption); (case n => decide +kernel); k_whole; intro h' tok' F' N' H')
  cases fr <;> cases hh
  all_goals k_steps
  all_goals exact next _ _ _ _ (by assumption) (by assumption) (sets_bx bo so LX rfl rfl)
end
theorem vOf_ne {hh : Bool} {hx : Int} (h : 0 ≤ hx) : (vOf hh hx != -1) = hh := by
  cases hh with
  | false => rfl
  | true =>
    show (hx != -1) = true
    rw [bne_iff_ne]; omega
theorem Fx.app {fixed own : List (Addr × Obj)} {b : BA} {A : TA} {D : TD} {no mo : Addr} {ys mvs : List Value} {mn : Nat} (H : Fx fixed b A D no mo ys mvs mn) (h1 : ∀ p ∈ own, p.1 ≠ b.db) (h2 : ∀ p ∈ own, p.1 ≠ b.dst) : Fx (fixed ++ own) b A D no mo ys mvs mn := by
  obtain ⟨hbu, hst, her, ht, hdt, hS, hN, hno, hmo, sdb, sdst, sne⟩ := H
  have l : ∀ {p : Addr × Obj}, p ∈ fixed → p ∈ fixed ++ own := fun h => List.mem_append.mpr (Or.inl h)
  exact ⟨l hbu, l hst, l her, l ht, l hdt, l hS, l hN, l hno, l hmo, fun p hp => (List.mem_append.mp hp).elim (sdb p) (h1 p), fun p hp => (List.mem_append.mp hp).elim (sdst p) (h2 p), sne⟩
theorem kstB_off {m : Str → Option Value} {z : Str} : ∀ {ps : List (Str × Value)}, (∀ p ∈ ps, z ≠ p.1) → kstB m ps z = m z
  | [], _ => rfl
  | p :: r, h => (if_neg (h p (List.mem_cons_self ..))).trans (kstB_off fun q hq => h q (List.mem_cons_of_mem _ hq))
theorem for_sub {x y : Addr × Obj} {r own : List (Addr × Obj)} : ∀ p ∈ x :: y :: r, p ∈ x :: y :: (r ++ own) := fun p hp => by
  simp only [List.mem_cons, List.mem_append] at hp ⊢
  rcases hp with h | h | h
  · exact Or.inl h
  · exact Or.inr (Or.inl h)
  · exact Or.inr (Or.inr (Or.inl h))
theorem for_own {x y : Addr × Obj} {r own : List (Addr × Obj)} : ∀ p ∈ own, p ∈ x :: y :: (r ++ own) := fun p hp => List.mem_cons_of_mem _ (List.mem_cons_of_mem _ (List.mem_append.mpr (Or.inr hp)))
theorem for_off {a b : Addr} {o o' q q' : Obj} {r own : List (Addr × Obj)} (h : TbOff own ((a, o) :: (b, q) :: r)) : TbOff own ((a, o') :: (b, q') :: r) := fun p hp z hz => by
  rcases List.mem_cons.mp hz with rfl | hz
  · exact h p hp (a, o) (List.mem_cons_self ..)
  · rcases List.mem_cons.mp hz with rfl | hz
    · exact h p hp (b, q) (List.mem_cons_of_mem _ (List.mem_cons_self ..))
    · exact h p hp z (List.mem_cons_of_mem _ (List.mem_cons_of_mem _ hz))
section
variable {w : World} {mean : ExcName → Option Value} {mg mb : Str → Option Value} {h₀ : Heap} {L fa : Addr} {cd : Value} {s : Shared} {Q : Flow → Shared → Prop} {E : Value → Shared → Prop}
variable {ro ar mo no sl wo du : Addr} {u : Str → Option Value} {fixed : List (Addr × Obj)} {b : BA} {A : TA} {D : TD} {eb es : List DictEntry} {nb ns mn rn dn : Nat} {R : List (Str × Str)} {ys mvs rvs dvs : List Value} {top : Str} {cx hx : Int} {cu hu : Tok} {ca : Str × Str} {fr hh : Bool}
theorem mid_for (B : Below callerA h₀ [] h₀) (F : Fr h₀ L s.heap (kstB u (psM fr hh du (psL ro ar mo b.bu no sl wo cx hx cu hu)))) (X : (hd.heap_39 w.params).In h₀)
    (N : News h₀ L s.heap ((b.db, dictOf eb nb) :: (b.dst, dictOf es ns) :: fixed)) (T : Top hd.view_39 (looseW hd.view_39 [Str.ofString "Tree"]) mean mg mb h₀)
    (hE : PassesOwn (model PySem.Challenge.rw_nt0607_01.row.prog w) (lawA L fa cd) (lawEnv L fa cd) E)
    (FX : Fx fixed b A D no mo ys mvs mn) (hdu : (du, listOf dvs.toArray dn) ∈ fixed) (hro : (ro, listOf rvs.toArray rn) ∈ fixed) (hR : RowsIs fixed rvs R) (BX : Bx eb es b D (cOf fr ca) (vOf fr cx) (vOf hh hx)) (LX : Lx w b A D R ys mvs top cx hx ca)
    (hD : DuesAre dvs (rowsC R (cOf fr ca)) top hh R.length)
    (next : ∀ u h' tk' eb' nb' es' ns', Fr h₀ L h' (kstB u (psM fr hh du (psL ro ar mo b.bu no sl wo cx hx cu hu))) → News h₀ L h' ((b.db, dictOf eb' nb') :: (b.dst, dictOf es' ns') :: fixed) → Bx eb' es' b D (cOf fr ca) (vOf fr cx) (vOf hh hx) →
      wpAny (model PySem.Challenge.rw_nt0607_01.row.prog w) (lawA L fa cd) (execs (midBody.drop 4) (lawEnv L fa cd)) Q E { s with heap := h', toks := tk' }) :
    wpAny (model PySem.Challenge.rw_nt0607_01.row.prog w) (lawA L fa cd) (execs (midBody.drop 3) (lawEnv L fa cd)) Q E s := by
  revert X; k_fill; intro X
  k_with_none
  w_top off
  obtain ⟨sc, hsc⟩ : ∃ x, x = lawScope := ⟨_, rfl⟩
  unfold lawA lawEnv at next hE ⊢
  rw [← hsc] at next hE ⊢
  obtain ⟨bd, hbd⟩ : ∃ x, x = midBody.drop 3 := ⟨_, rfl⟩
  rw [← hbd]
  conv at hsc => rhs; whnf
  conv at hbd => rhs; whnf
  obtain ⟨tl, htl⟩ : ∃ x, x = midBody.drop 4 := ⟨_, rfl⟩
  rw [← htl] at next
  conv at htl => rhs; whnf
  rw [← htl] at hbd
  obtain ⟨mb, hmb9⟩ : ∃ x, x = manyBody := ⟨_, rfl⟩
  have hmb := hmb9
  conv at hmb => rhs; whnf
  rw [← hmb] at hbd
  clear hmb
  subst hbd
  subst hsc
  have hrvl : rvs.length = R.length := hR.1
  have hrl := LX.rl
  have hfit : R.length < 2 ^ 30 := by omega
  iterate 1 walk1
  (with_unfolding_all refine' For_invVF F ?k1 ?k2 ?_ ?k3 ?k4; (case k1 => exact rfl); (case k2 => exact rfl); (case k3 => (intro _; rfl)); (case k4 => exact hE))
  k_fold
  iterate 19 walk1
  k_unfold
  rename_i hR9 tkR t1 u1 v1 isR FR NR kR
  (with_unfolding_all refine' my_rangeD (σ := (List DictEntry × Nat) × (List DictEntry × Nat)) (n := R.length) (fun c => (b.db, dictOf c.1.1 c.1.2) :: (b.dst, dictOf c.2.1 c.2.2) :: fixed) (fun _ => psM fr hh du (psL ro ar mo b.bu no sl wo cx hx cu hu)) [] (fun _ c => Bx c.1.1 c.2.1 b D (cOf fr ca) (vOf fr cx) (vOf hh hx)) ((eb, nb), (es, ns)) ?kh ?kr rfl hfit ?kF ?kN ?kk BX ?_ ?_)
  (case kh => rfl)
  (case kr => assumption)
  (case kF => k_asm)
  (case kN => k_asm)
  (case kk => (intro p hp; simp only [psM, psL, List.mem_cons, List.not_mem_nil, or_false] at hp; rcases hp with rfl | rfl | rfl | rfl | rfl | rfl | rfl | rfl | rfl | rfl | rfl | rfl <;> exact rfl))
  · rintro ⟨⟨eb1, nb1⟩, ⟨es1, ns1⟩⟩ i ti u9 h9 tk9 own hi9 hoff hP F9 N9
    dsimp only at hP hoff F9 N9
    obtain ⟨k, hk⟩ : ∃ k : Nat, (R.length : Int) - (i : Int) = (k : Int) := ⟨R.length - i, by omega⟩
    rw [hk] at F9
    rw [hmb9]
    have F10 := fr_kst ((Str.ofString "many", Value.int (k : Int) ti) :: psM fr hh du (psL ro ar mo b.bu no sl wo cx hx cu hu)) F9 (by intro p hp; simp only [psM, psL, List.mem_cons, List.not_mem_nil, or_false] at hp; rcases hp with rfl | rfl | rfl | rfl | rfl | rfl | rfl | rfl | rfl | rfl | rfl | rfl | rfl <;> exact rfl)
    refine many_turn (fr := fr) (hh := hh) (ro := ro) (ar := ar) (sl := sl) (wo := wo) (cu := cu) (hu := hu) (fixed := fixed ++ own) (k := k) (tm := ti) (dn := dn) (mn := mn) B F10 X N9 T (FX.app (fun p hp => hoff p hp _ (List.mem_cons_self ..)) (fun p hp => hoff p hp _ (List.mem_cons_of_mem _ (List.mem_cons_self ..)))) (List.mem_append.mpr (Or.inl hdu)) hP LX (by omega) (by omega) (by rw [vOf_ne LX.nd.hhx]; exact hD) (fun h' tk' eb' nb' es' ns' F' N' BX' => ?_)
    dsimp only [GrPost]
    refine gr_end ((eb', nb'), (es', ns')) F' N' ?hn ?ho ?hoff ?hk ?hr BX'
    · exact for_sub
    · exact for_own
    · exact for_off hoff
    · intro p hp; simp only [psM, psL, List.mem_cons, List.not_mem_nil, or_false] at hp; rcases hp with rfl | rfl | rfl | rfl | rfl | rfl | rfl | rfl | rfl | rfl | rfl | rfl <;> exact rfl
    · intro z hz h1 h2
      exact (if_neg hz).trans ((kstB_off h1).trans ((if_neg hz).trans (kst_same h2 h1)))
  · rintro ⟨⟨eb1, nb1⟩, ⟨es1, ns1⟩⟩ u9 h9 tk9 hP F9 N9
    dsimp only at hP F9 N9
    exact next _ h9 tk9 eb1 nb1 es1 ns1 (fr_kst (psM fr hh du (psL ro ar mo b.bu no sl wo cx hx cu hu)) F9 (by intro p hp; simp only [psM, psL, List.mem_cons, List.not_mem_nil, or_false] at hp; rcases hp with rfl | rfl | rfl | rfl | rfl | rfl | rfl | rfl | rfl | rfl | rfl | rfl <;> exact rfl)) N9 hP
end
section
variable {w : World} {mean : ExcName → Option Value} {mg mb : Str → Option Value} {h₀ : Heap} {L fa : Addr} {cd : Value} {s : Shared} {Q : Flow → Shared → Prop} {E : Value → Shared → Prop}
variable {ro ar mo no sl wo du : Addr} {u : Str → Option Value} {fixed : List (Addr × Obj)} {b : BA} {A : TA} {D : TD} {eb es : List DictEntry} {nb ns mn : Nat} {ys mvs : List Value} {cx hx : Int} {cu hu : Tok} {ca : Str × Str} {fr hh : Bool}
theorem mid_if (B : Below callerA h₀ [] h₀) (F : Fr h₀ L s.heap (kstB u (psM fr hh du (psL ro ar mo b.bu no sl wo cx hx cu hu)))) (X : (hd.heap_39 w.params).In h₀)
    (N : News h₀ L s.heap ((b.db, dictOf eb nb) :: (b.dst, dictOf es ns) :: fixed)) (T : Top hd.view_39 (looseW hd.view_39 [Str.ofString "Tree"]) mean mg mb h₀)
    (FX : Fx fixed b A D no mo ys mvs mn) (BX : Bx eb es b D (cOf fr ca) (vOf fr cx) (vOf hh hx))
    (next : ∀ h' tk', Fr h₀ L h' (kstB u (psM fr hh du (psL ro ar mo b.bu no sl wo cx hx cu hu))) → News h₀ L h' ((b.db, dictOf eb nb) :: (b.dst, dictOf es ns) :: fixed) → Q .next { s with heap := h', toks := tk' }) :
    wpAny (model PySem.Challenge.rw_nt0607_01.row.prog w) (lawA L fa cd) (execs (midBody.drop 4) (lawEnv L fa cd)) Q E s := by
  revert X; k_fill; intro X
  k_with_none
  w_top off
  obtain ⟨sc, hsc⟩ : ∃ x, x = lawScope := ⟨_, rfl⟩
  unfold lawA lawEnv
  rw [← hsc]
  obtain ⟨bd, hbd⟩ : ∃ x, x = midBody.drop 4 := ⟨_, rfl⟩
  rw [← hbd]
  conv at hsc => rhs; whnf
  conv at hbd => rhs; whnf
  subst hbd
  subst hsc
  obtain ⟨hbu, hst, her, ht, hdt, hS, hN, hno, hmo, sdb, sdst, sne⟩ := id FX
  obtain ⟨bo, so, ⟨⟨tc, hctx⟩, _, _⟩, ⟨th, hhd⟩⟩ := id BX
  cases fr <;> cases hh <;> simp only [vOf, if_true, if_false, Bool.false_eq_true] at hctx hhd
  all_goals k_steps
  all_goals first
    | exact next _ _ (by assumption) (by assumption)
    | (exfalso; exact absurd rfl (by assumption))
end
section
variable {prog : Program} {w : World} {A : Around} {E : Value → Shared → Prop} {s : Shared} {env : Env} {h₀ : Heap} {x : Str} {body : List Stmt} {Q : Flow → Shared → Prop} {I : Addr} {lp : Addr × Obj}
theorem list_ind (Inv : (Str → Option Value) → List (Addr × Obj) → Prop) {vs0 : List Value}
    (done : ∀ m news h tk, Inv m news → Fr h₀ env.locals h m → News h₀ env.locals h news → Q .next { s with heap := h, toks := tk })
    (turn : ∀ v ∈ vs0, ∀ m news (it : Obj) h tk, Inv m news → lp ∈ news → it.cls = .type "list_iterator" → Fr h₀ env.locals h (fun y => if y = x then some v else m y) → News h₀ env.locals h ((I, it) :: news) →
      wpAny (model prog w) A (execs body env) (UnrPost h₀ env.locals { s with heap := h, toks := tk } I it (fun m' n' => lp ∈ n' ∧ Inv m' n') Q) E { s with heap := h, toks := tk }) :
    ∀ vs, (∀ v ∈ vs, v ∈ vs0) → ∀ m news, Inv m news → lp ∈ news → ListRest prog w A E h₀ env x body Q s I lp vs m news
  | [], _, m, news, hI, _ => ListRest.zero fun h tk F N => done m news h tk hI F N
  | v :: r, hv, m, news, hI, hl => ListRest.succ fun it h tk hc F N => by
    refine wpAny_mono (turn v (hv v (List.mem_cons_self ..)) m news it h tk hI hl hc F N) (fun f s' hp => ?_) fun _ _ e => e
    have fin : UnrEnd h₀ env.locals { s with heap := h, toks := tk } I it (fun m' n' => lp ∈ n' ∧ Inv m' n') s' → UnrEnd h₀ env.locals { s with heap := h, toks := tk } I it (fun m' n' => lp ∈ n' ∧ ListRest prog w A E h₀ env x body Q s I lp r m' n') s' := by
      rintro ⟨h', tk', m', n', e, F', N', ho, hl', hI'⟩
      exact ⟨h', tk', m', n', e, F', N', ho, hl', list_ind Inv done turn r (fun v hv' => hv v (List.mem_cons_of_mem _ hv')) m' n' hI' hl'⟩
    cases f with
    | ret v => exact hp
    | brk => exact hp
    | next => exact fin hp
    | cont => exact fin hp
end
theorem turn_sub {x y z : Addr × Obj} {r : List (Addr × Obj)} : ∀ p ∈ x :: y :: z :: r, p ∈ z :: x :: y :: r := fun p hp => by
  simp only [List.mem_cons] at hp ⊢
  rcases hp with h | h | h | h
  · exact Or.inr (Or.inl h)
  · exact Or.inr (Or.inr (Or.inl h))
  · exact Or.inl h
  · exact Or.inr (Or.inr (Or.inr h))
theorem turn_sub2 {x y z : Addr × Obj} {r : List (Addr × Obj)} : ∀ p ∈ x :: y :: r, p ∈ x :: y :: z :: r := fun p hp => by
  simp only [List.mem_cons] at hp ⊢
  rcases hp with h | h | h
  · exact Or.inl h
  · exact Or.inr (Or.inl h)
  · exact Or.inr (Or.inr (Or.inr h))
/-- a body that keeps the frame's named values and the two turning dicts -/
def Turn (w : World) (L fa : Addr) (cd : Value) (h₀ : Heap) (E : Value → Shared → Prop) (b : BA) (fixed : List (Addr × Obj)) (body : List Stmt) (ps : List (Str × Value)) : Prop :=
  ∀ (Q : Flow → Shared → Prop) (s : Shared) u fixed' eb nb es ns, Fr h₀ L s.heap (kstB u ps) → News h₀ L s.heap ((b.db, dictOf eb nb) :: (b.dst, dictOf es ns) :: fixed') → (∀ p ∈ fixed, p ∈ fixed') → (∀ p ∈ fixed', p.1 ≠ b.db ∧ p.1 ≠ b.dst) → BO eb b.t b.st b.er → SO es →
    (∀ u h' tk' eb' nb' es' ns', Fr h₀ L h' (kstB u ps) → News h₀ L h' ((b.db, dictOf eb' nb') :: (b.dst, dictOf es' ns') :: fixed') → BO eb' b.t b.st b.er → SO es' → Q .next { s with heap := h', toks := tk' }) →
    wpAny (model PySem.Challenge.rw_nt0607_01.row.prog w) (lawA L fa cd) (execs body (lawEnv L fa cd)) Q E s
section
variable {w : World} {mean : ExcName → Option Value} {mg mb : Str → Option Value} {h₀ : Heap} {L fa : Addr} {cd : Value} {E : Value → Shared → Prop}
variable {ro ar mo no sl wo : Addr} {fixed : List (Addr × Obj)} {b : BA} {A : TA} {D : TD} {mn rn : Nat} {R : List (Str × Str)} {ys mvs rvs : List Value} {top : Str} {cx hx : Int} {cu hu t1 t2 : Tok} {ca : Str × Str}
theorem mid_turn (B : Below callerA h₀ [] h₀) (X : (hd.heap_39 w.params).In h₀) (T : Top hd.view_39 (looseW hd.view_39 [Str.ofString "Tree"]) mean mg mb h₀)
    (hE : PassesOwn (model PySem.Challenge.rw_nt0607_01.row.prog w) (lawA L fa cd) (lawEnv L fa cd) E)
    (FX : Fx fixed b A D no mo ys mvs mn) (LX : Lx w b A D R ys mvs top cx hx ca) (hro : (ro, listOf rvs.toArray rn) ∈ fixed) (hR : RowsIs fixed rvs R) (har : (ar, tupOf [.str ca.1 t1, .str ca.2 t2]) ∈ fixed) (fr hh : Bool) :
    Turn w L fa cd h₀ E b fixed midBody ((Str.ofString "has_head", .bool hh) :: (Str.ofString "is_fragment", .bool fr) :: psL ro ar mo b.bu no sl wo cx hx cu hu) := by
  intro Q s u fixed' eb nb es ns F N sub off bo so next
  have FX' : Fx fixed' b A D no mo ys mvs mn := by
    obtain ⟨hbu, hst, her, ht, hdt, hS, hN, hno, hmo, sdb, sdst, sne⟩ := FX
    exact ⟨sub _ hbu, sub _ hst, sub _ her, sub _ ht, sub _ hdt, sub _ hS, sub _ hN, sub _ hno, sub _ hmo, fun p hp => (off p hp).1, fun p hp => (off p hp).2, sne⟩
  have F1 := fr_kst ((Str.ofString "is_fragment", Value.bool fr) :: (Str.ofString "has_head", Value.bool hh) :: psL ro ar mo b.bu no sl wo cx hx cu hu) F (by intro p hp; simp only [psL, List.mem_cons, List.not_mem_nil, or_false] at hp; rcases hp with rfl | rfl | rfl | rfl | rfl | rfl | rfl | rfl | rfl | rfl | rfl <;> exact rfl)
  refine mid_dues (t1 := t1) (t2 := t2) B F1 X N T FX' LX (sub _ hro) (hR.mono sub) (sub _ har) (fun u2 h2 tk2 du dvs dn F2 N2 hD hlt => ?_)
  have d1 : du ≠ b.db := Nat.ne_of_gt (hlt _ (List.mem_cons_self ..))
  have d2 : du ≠ b.dst := Nat.ne_of_gt (hlt _ (List.mem_cons_of_mem _ (List.mem_cons_self ..)))
  have FX2 : Fx ((du, listOf dvs.toArray dn) :: fixed') b A D no mo ys mvs mn := FX'.cons d1 d2
  refine mid_sets B F2 X (cb_drop N2 turn_sub) T FX2 LX bo so (fun h3 tk3 eb3 nb3 F3 N3 BX3 => ?_)
  refine mid_for B F3 X N3 T hE FX2 (List.mem_cons_self ..) (List.mem_cons_of_mem _ (sub _ hro)) ((hR.mono sub).mono fun p hp => List.mem_cons_of_mem _ hp) BX3 LX hD (fun u4 h4 tk4 eb4 nb4 es4 ns4 F4 N4 BX4 => ?_)
  refine mid_if B F4 X N4 T FX2 BX4 (fun h5 tk5 F5 N5 => ?_)
  exact next _ h5 tk5 eb4 nb4 es4 ns4 (fr_kst _ F5 (by intro p hp; simp only [psL, List.mem_cons, List.not_mem_nil, or_false] at hp; rcases hp with rfl | rfl | rfl | rfl | rfl | rfl | rfl | rfl | rfl | rfl | rfl <;> exact rfl)) (cb_drop N5 turn_sub2) BX4.bo BX4.so
end
theorem bools_sub {i l x y : Addr × Obj} {r : List (Addr × Obj)} : ∀ p ∈ x :: y :: i :: l :: r, p ∈ i :: l :: x :: y :: r := fun p hp => by
  simp only [List.mem_cons] at hp ⊢
  rcases hp with h | h | h | h | h
  · exact Or.inr (Or.inr (Or.inl h))
  · exact Or.inr (Or.inr (Or.inr (Or.inl h)))
  · exact Or.inl h
  · exact Or.inr (Or.inl h)
  · exact Or.inr (Or.inr (Or.inr (Or.inr h)))
theorem bools_sub2 {i l x y : Addr × Obj} {r : List (Addr × Obj)} : ∀ p ∈ i :: l :: x :: y :: r, p ∈ x :: y :: i :: l :: r := fun p hp => by
  simp only [List.mem_cons] at hp ⊢
  rcases hp with h | h | h | h | h
  · exact Or.inr (Or.inr (Or.inl h))
  · exact Or.inr (Or.inr (Or.inr (Or.inl h)))
  · exact Or.inl h
  · exact Or.inr (Or.inl h)
  · exact Or.inr (Or.inr (Or.inr (Or.inr h)))
section
variable {w : World} {mean : ExcName → Option Value} {mg mb : Str → Option Value} {h₀ : Heap} {L fa : Addr} {cd : Value} {E : Value → Shared → Prop}
variable {fixed : List (Addr × Obj)} {b : BA} {x : Str} {body : List Stmt} {ps : List (Str × Value)} {px pl pos p1 p2 : Pos} {k1 k2}
theorem for_tail {Q : Flow → Shared → Prop} {s : Shared} {u : Str → Option Value} {fixed' : List (Addr × Obj)} {eb es : List DictEntry} {nb ns : Nat} {tl : List Stmt} (B : Below callerA h₀ [] h₀) (X : (hd.heap_39 w.params).In h₀) (T : Top hd.view_39 (looseW hd.view_39 [Str.ofString "Tree"]) mean mg mb h₀)
    (hE : PassesOwn (model PySem.Challenge.rw_nt0607_01.row.prog w) (lawA L fa cd) (lawEnv L fa cd) E) (sne : @Ne Nat b.db b.dst)
    (hx : (lawEnv L fa cd).kindOf x = some .local) (hxp : ∀ p ∈ ps, p.1 ≠ x) (hk : ∀ u, ∀ p ∈ ps, kstB u ps p.1 = some p.2) (ht : ∀ v : Bool, Turn w L fa cd h₀ E b fixed body ((x, .bool v) :: ps))
    (F : Fr h₀ L s.heap (kstB u ps)) (N : News h₀ L s.heap ((b.db, dictOf eb nb) :: (b.dst, dictOf es ns) :: fixed')) (sub : ∀ p ∈ fixed, p ∈ fixed') (off : ∀ p ∈ fixed', p.1 ≠ b.db ∧ p.1 ≠ b.dst) (bo : BO eb b.t b.st b.er) (so : SO es)
    (next : ∀ u h' tk' eb' nb' es' ns', Fr h₀ L h' (kstB u ps) → News h₀ L h' ((b.db, dictOf eb' nb') :: (b.dst, dictOf es' ns') :: fixed') → BO eb' b.t b.st b.er → SO es' →
      wpAny (model PySem.Challenge.rw_nt0607_01.row.prog w) (lawA L fa cd) (execs tl (lawEnv L fa cd)) Q E { s with heap := h', toks := tk' }) :
    wpAny (model PySem.Challenge.rw_nt0607_01.row.prog w) (lawA L fa cd) (execs (Stmt.For (.Name x px) (.List [.Constant (.bool false) k1 p1, .Constant (.bool true) k2 p2] pl) body [] pos :: tl) (lawEnv L fa cd)) Q E s := by
  revert X; k_fill; intro X
  k_with_none
  w_top off
  obtain ⟨sc, hsc⟩ : ∃ x, x = lawScope := ⟨_, rfl⟩
  have ht9 := ht
  unfold lawA lawEnv at hE next ⊢
  unfold lawEnv at hx
  rw [← hsc] at hE hx next ⊢
  conv at hsc => rhs; whnf
  subst hsc
  iterate 1 walk1
  (with_unfolding_all refine' For_invVF F ?k1 ?k2 ?_ ?k3 ?k4; (case k1 => exact hx); (case k2 => exact rfl); (case k3 => (intro _; rfl)); (case k4 => exact hE))
  k_fold
  iterate 7 walk1
  rename_i lA h1 F1 N1 l1
  (try k_unfold)
  (try dsimp only)
  have la1 : @LT.lt Nat _ b.db lA := l1.1
  have la2 : @LT.lt Nat _ b.dst lA := l1.2.1
  refine iter_listUnr (vs := [.bool false, .bool true]) rfl F1 N1 (List.mem_cons_self ..) rfl rfl (fun I lI => ?_)
  have i0 : @LT.lt Nat _ lA I := lI _ (List.mem_cons_self ..)
  have i1 : @LT.lt Nat _ b.db I := lI _ (List.mem_cons_of_mem _ (List.mem_cons_self ..))
  have i2 : @LT.lt Nat _ b.dst I := lI _ (List.mem_cons_of_mem _ (List.mem_cons_of_mem _ (List.mem_cons_self ..)))
  have i3 : ∀ p ∈ fixed', @LT.lt Nat _ p.1 I := fun p hp => lI _ (List.mem_cons_of_mem _ (List.mem_cons_of_mem _ (List.mem_cons_of_mem _ hp)))
  obtain ⟨lo, hlo⟩ : ∃ lo, lo = listOf ([.bool false, .bool true] : List Value).toArray 0 := ⟨_, rfl⟩
  have N1 : News h₀ L h1 ((lA, lo) :: (b.db, dictOf eb nb) :: (b.dst, dictOf es ns) :: fixed') := by rw [hlo]; exact N1
  show ListRest _ _ _ _ _ _ _ _ _ _ _ (lA, listOf ([.bool false, .bool true] : List Value).toArray 0) _ _ ((lA, listOf ([.bool false, .bool true] : List Value).toArray 0) :: _)
  rw [← hlo]
  refine list_ind (fun m news => ∃ eb nb es ns, news = (lA, lo) :: (b.db, dictOf eb nb) :: (b.dst, dictOf es ns) :: fixed' ∧ BO eb b.t b.st b.er ∧ SO es ∧ (∀ p ∈ ps, m p.1 = some p.2)) (vs0 := [.bool false, .bool true]) ?_ ?_ _ (fun _ h => h) _ _ ⟨eb, nb, es, ns, rfl, bo, so, hk u⟩ (List.mem_cons_self ..)
  · rintro m news h2 tk2 ⟨eb2, nb2, es2, ns2, rfl, bo2, so2, hm2⟩ F2 N2
    exact next m h2 tk2 eb2 nb2 es2 ns2 (fr_kst ps F2 hm2) (cb_drop N2 fun p hp => List.mem_cons_of_mem _ hp) bo2 so2
  · rintro v hv m news it h2 tk2 ⟨eb2, nb2, es2, ns2, rfl, bo2, so2, hm2⟩ hl hc F2 N2
    obtain ⟨vb, rfl⟩ : ∃ vb, v = .bool vb := by
      rcases List.mem_cons.mp hv with rfl | hv
      · exact ⟨_, rfl⟩
      · rw [List.mem_singleton.mp hv]; exact ⟨_, rfl⟩
    refine ht9 vb _ _ _ ((I, it) :: (lA, lo) :: fixed') eb2 nb2 es2 ns2 (fr_kst ((x, .bool vb) :: ps) F2 ?_) (cb_drop N2 bools_sub) (fun p hp => List.mem_cons_of_mem _ (List.mem_cons_of_mem _ (sub p hp))) (List.forall_mem_cons.mpr ⟨⟨Nat.ne_of_gt i1, Nat.ne_of_gt i2⟩, List.forall_mem_cons.mpr ⟨⟨Nat.ne_of_gt la1, Nat.ne_of_gt la2⟩, off⟩⟩) bo2 so2 (fun u3 h3 tk3 eb3 nb3 es3 ns3 F3 N3 bo3 so3 => ?_)
    · exact List.forall_mem_cons.mpr ⟨if_pos rfl, fun p hp => (if_neg (hxp p hp)).trans (hm2 p hp)⟩
    · dsimp only [UnrPost]
      exact UnrEnd.intro F3 N3 ((lA, lo) :: (b.db, dictOf eb3 nb3) :: (b.dst, dictOf es3 ns3) :: fixed') bools_sub2 (List.forall_mem_cons.mpr ⟨Nat.ne_of_lt i0, List.forall_mem_cons.mpr ⟨Nat.ne_of_lt i1, List.forall_mem_cons.mpr ⟨Nat.ne_of_lt i2, fun p hp => Nat.ne_of_lt (i3 p hp)⟩⟩⟩)
        ⟨List.mem_cons_self .., eb3, nb3, es3, ns3, rfl, bo3, so3, fun p hp => (if_neg (hxp p hp)).trans (hk u3 p hp)⟩
theorem for_turn (B : Below callerA h₀ [] h₀) (X : (hd.heap_39 w.params).In h₀) (T : Top hd.view_39 (looseW hd.view_39 [Str.ofString "Tree"]) mean mg mb h₀)
    (hE : PassesOwn (model PySem.Challenge.rw_nt0607_01.row.prog w) (lawA L fa cd) (lawEnv L fa cd) E) (sne : @Ne Nat b.db b.dst)
    (hx : (lawEnv L fa cd).kindOf x = some .local) (hxp : ∀ p ∈ ps, p.1 ≠ x) (hk : ∀ u, ∀ p ∈ ps, kstB u ps p.1 = some p.2) (ht : ∀ v : Bool, Turn w L fa cd h₀ E b fixed body ((x, .bool v) :: ps)) :
    Turn w L fa cd h₀ E b fixed [Stmt.For (.Name x px) (.List [.Constant (.bool false) k1 p1, .Constant (.bool true) k2 p2] pl) body [] pos] ps := by
  intro Q s u fixed' eb nb es ns F N sub off bo so next
  exact for_tail B X T hE sne hx hxp hk ht F N sub off bo so fun u h' tk' eb' nb' es' ns' F' N' bo' so' => wpAny_execs_nil (next u h' tk' eb' nb' es' ns' F' N' bo' so')
end
section
variable {w : World} {mean : ExcName → Option Value} {mg mb : Str → Option Value} {h₀ : Heap} {L fa : Addr} {cd : Value} {s : Shared} {Q : Flow → Shared → Prop} {E : Value → Shared → Prop}
variable {ro ar mo no sl wo : Addr} {u : Str → Option Value} {fixed : List (Addr × Obj)} {b : BA} {A : TA} {D : TD} {eb es : List DictEntry} {nb ns ls lw : Nat} {cx hx : Int} {cu hu : Tok}
theorem seg7 (B : Below callerA h₀ [] h₀) (F : Fr h₀ L s.heap (kstB u (psL ro ar mo b.bu no sl wo cx hx cu hu))) (X : (hd.heap_39 w.params).In h₀)
    (N : News h₀ L s.heap ((b.db, dictOf eb nb) :: (b.dst, dictOf es ns) :: fixed)) (T : Top hd.view_39 (looseW hd.view_39 [Str.ofString "Tree"]) mean mg mb h₀)
    (hcell : (L + 1, b.oc) ∈ fixed) (hoc : b.oc.data = .cell (some (.ref b.t))) (ht : (b.t, instObj 383 b.dt) ∈ fixed) (hdt : (b.dt, dictOf b.et b.nt) ∈ fixed) (hbu : (b.bu, instObj 461 b.db) ∈ fixed)
    (hS : (A.sA, listOf D.svs.toArray D.c2) ∈ fixed) (hN : (A.nA, listOf D.nvs.toArray D.c3) ∈ fixed) (hH : (A.hA, listOf D.cvs.toArray D.c7) ∈ fixed) (hc0 : (b.c0, listOf ([] : List Value).toArray 0) ∈ fixed)
    (hsl : (sl, listOf D.svs.toArray ls) ∈ fixed) (hwo : (wo, listOf D.nvs.toArray lw) ∈ fixed)
    (gs : getL (Str.ofString "spaces") b.et = some (some (.ref A.sA))) (gn : getL (Str.ofString "names") b.et = some (some (.ref A.nA))) (gh : getL (Str.ofString "children") b.et = some (some (.ref A.hA)))
    (bo : BO eb b.t b.st b.er) (as : AllStr D.svs) (an : AllStr D.nvs) (ch : D.cvs[0]? = some (.ref b.c0))
    (ret : ∀ h' tk', Fr h₀ L h' (kstB u (psL ro ar mo b.bu no sl wo cx hx cu hu)) → Q (.ret (.bool true)) { s with heap := h', toks := tk' }) :
    wpAny (model PySem.Challenge.rw_nt0607_01.row.prog w) (lawA L fa cd) (execs (lawBody.drop 14) (lawEnv L fa cd)) Q E s := by
  revert X; k_fill; intro X
  k_with_none
  w_top off
  obtain ⟨sc, hsc⟩ : ∃ x, x = lawScope := ⟨_, rfl⟩
  unfold lawA lawEnv
  rw [← hsc]
  obtain ⟨bd, hbd⟩ : ∃ x, x = lawBody.drop 14 := ⟨_, rfl⟩
  rw [← hbd]
  conv at hsc => rhs; whnf
  conv at hbd => rhs; whnf
  subst hbd
  subst hsc
  obtain ⟨ko, horig⟩ := bo.borig
  iterate 8 (first | walk1 | (dsimp only; walk1))
  have mx : ∀ {p : Addr × Obj}, p ∈ fixed → p ∈ (b.db, dictOf eb nb) :: (b.dst, dictOf es ns) :: fixed := fun h => List.mem_cons_of_mem _ (List.mem_cons_of_mem _ h)
  refine eq_atoms (vs := D.svs) (News.isList N (mx hS)) (News.isList N (mx hsl)) as.atoms (Nat.le_of_ble_eq_true rfl) ?_
  iterate 8 (first | walk1 | (dsimp only; walk1))
  refine eq_atoms (vs := D.nvs) (News.isList N (mx hN)) (News.isList N (mx hwo)) an.atoms (Nat.le_of_ble_eq_true rfl) ?_
  iterate 9 (first | walk1 | (dsimp only; walk1))
  refine my_item N (mx hH) (Int.le_refl 0) (by decide) ch ?_ (by with_unfolding_all rfl)
  iterate 3 (first | walk1 | (dsimp only; walk1))
  rename_i lE h1 F1 N1 l1
  have N1 : News h₀ L h1 ((lE, listOf ([] : List Value).toArray 0) :: (b.db, dictOf eb nb) :: (b.dst, dictOf es ns) :: fixed) := N1
  refine eq_atoms (vs := []) (News.isList N1 (List.mem_cons_of_mem _ (mx hc0))) (News.isList N1 (List.mem_cons_self ..)) (fun _ h => nomatch h) (Nat.le_of_ble_eq_true rfl) ?_
  k_steps
  rw [beq_self_eq_true (Str.ofString "")]
  exact ret _ _ F1
end
theorem led_all {D : TD} {A : TA} {q : Addr × Obj} (h : q ∈ D.led A) : q.1 ∈ A.all := by
  have e : A.all = (D.led A).map (·.1) := rfl
  rw [e]; exact List.mem_map_of_mem h
section
variable {w : World} {mean : ExcName → Option Value} {mg mb : Str → Option Value} {h₀ : Heap} {L fa : Addr} {cd : Value} {s : Shared} {Q : Flow → Shared → Prop} {E : Value → Shared → Prop}
variable {l ro ar mo no sl wo : Addr} {u : Str → Option Value} {rest : List (Addr × Obj)} {b : BA} {A : TA} {D D0 : TD} {eb es : List DictEntry} {nb ns mn rn ls lw : Nat} {R : List (Str × Str)} {ys mvs rvs : List Value} {top : Str} {cx hx : Int} {cu hu t1 t2 : Tok} {sp nm : Str}
theorem seg6 (B : Below callerA h₀ [] h₀) (F : Fr h₀ L s.heap (kstB u [(Str.ofString "script", .ref l), (Str.ofString "rows", .ref ro), (Str.ofString "around", .ref ar), (Str.ofString "modes", .ref mo), (Str.ofString "builder", .ref b.bu), (Str.ofString "nodes", .ref no), (Str.ofString "context", .int cx cu), (Str.ofString "head", .int hx hu), (Str.ofString "spaces", .ref sl), (Str.ofString "words", .ref wo)])) (X : (hd.heap_39 w.params).In h₀)
    (N : News h₀ L s.heap ((wo, listOf D.nvs.toArray lw) :: (sl, listOf D.svs.toArray ls) :: (D.led A ++ ((no, LCg.lst ys) :: (b.db, dictOf eb nb) :: (b.dst, dictOf es ns) :: b.fix L rest)))) (T : Top hd.view_39 (looseW hd.view_39 [Str.ofString "Tree"]) mean mg mb h₀)
    (hE : PassesOwn (model PySem.Challenge.rw_nt0607_01.row.prog w) (lawA L fa cd) (lawEnv L fa cd) E) (H : S3 w L b A D0 eb nb es ns rest)
    (hlt : ∀ p ∈ D.led A ++ ((no, LCg.lst ys) :: (b.db, dictOf eb nb) :: (b.dst, dictOf es ns) :: b.fix L rest), @LT.lt Nat _ p.1 sl ∧ @LT.lt Nat _ p.1 wo) (hn1 : @Ne Nat b.db no) (hn2 : @Ne Nat b.dst no)
    (nd : Nd2 w b.c0 R ys D cx hx (sp, nm)) (rl : R.length ≤ 8) (r1 : 1 ≤ R.length) (r0 : rowD R 0 = (Str.ofString "html", Str.ofString "html"))
    (hro : (ro, listOf rvs.toArray rn) ∈ rest) (hR : RowsIs rest rvs R) (har : (ar, tupOf [.str sp t1, .str nm t2]) ∈ rest) (hmo : (mo, listOf mvs.toArray mn) ∈ rest) (am : AllStr mvs) (m1 : 1 ≤ mvs.length) (m3 : mvs.length ≤ 3)
    (ret : ∀ u h' tk', Fr h₀ L h' u → Q (.ret (.bool true)) { s with heap := h', toks := tk' }) :
    wpAny (model PySem.Challenge.rw_nt0607_01.row.prog w) (lawA L fa cd) (execs (lawBody.drop 13) (lawEnv L fa cd)) Q E s := by
  obtain ⟨ht, hdt, gk, gs, gn, ga, gx, gp, gh, go, gadd, apart, off, low⟩ := id H.tat
  obtain ⟨sdb, sdst, sne⟩ := id H.sep
  obtain ⟨top, hlast⟩ : ∃ top, ∃ t, mvs[((-1 : Int) + (mvs.length : Int)).toNat]? = some (.str top t) := by
    have hlen : ((-1 : Int) + (mvs.length : Int)).toNat < mvs.length := by omega
    obtain ⟨x, t, e, _⟩ := am _ (List.getElem_mem hlen)
    exact ⟨x, t, by rw [List.getElem?_eq_getElem hlen, e]⟩
  obtain ⟨fixed, hfixed⟩ : ∃ f, f = (wo, listOf D.nvs.toArray lw) :: (sl, listOf D.svs.toArray ls) :: (D.led A ++ ((no, LCg.lst ys) :: b.fix L rest)) := ⟨_, rfl⟩
  have mfix : ∀ {p : Addr × Obj}, p ∈ b.fix L rest → p ∈ fixed := fun h => by
    rw [hfixed]; exact List.mem_cons_of_mem _ (List.mem_cons_of_mem _ (List.mem_append.mpr (Or.inr (List.mem_cons_of_mem _ h))))
  have mled : ∀ {p : Addr × Obj}, p ∈ D.led A → p ∈ fixed := fun h => by
    rw [hfixed]; exact List.mem_cons_of_mem _ (List.mem_cons_of_mem _ (List.mem_append.mpr (Or.inl h)))
  have mrest : ∀ {p : Addr × Obj}, p ∈ rest → p ∈ fixed := fun h => mfix (List.mem_cons_of_mem _ (List.mem_cons_of_mem _ (List.mem_cons_of_mem _ (List.mem_cons_of_mem _ (List.mem_cons_of_mem _ (List.mem_cons_of_mem _ (List.mem_cons_of_mem _ h)))))))
  have ldb := hlt (b.db, dictOf eb nb) (List.mem_append.mpr (Or.inr (List.mem_cons_of_mem _ (List.mem_cons_self ..))))
  have ldst := hlt (b.dst, dictOf es ns) (List.mem_append.mpr (Or.inr (List.mem_cons_of_mem _ (List.mem_cons_of_mem _ (List.mem_cons_self ..)))))
  have offs : ∀ p ∈ fixed, p.1 ≠ b.db ∧ p.1 ≠ b.dst := by
    rw [hfixed]
    refine List.forall_mem_cons.mpr ⟨⟨Nat.ne_of_gt ldb.2, Nat.ne_of_gt ldst.2⟩, List.forall_mem_cons.mpr ⟨⟨Nat.ne_of_gt ldb.1, Nat.ne_of_gt ldst.1⟩, fun p hp => ?_⟩⟩
    rcases List.mem_append.mp hp with hp | hp
    · exact ⟨Ne.symm (off _ (led_all hp) _ (List.mem_cons_self ..)), Ne.symm (off _ (led_all hp) _ (List.mem_cons_of_mem _ (List.mem_cons_self ..)))⟩
    · rcases List.mem_cons.mp hp with rfl | hp
      · exact ⟨Ne.symm hn1, Ne.symm hn2⟩
      · exact ⟨sdb p hp, sdst p hp⟩
  have hbu : (b.bu, instObj 461 b.db) ∈ b.fix L rest := List.mem_cons_self ..
  have hst : (b.st, instObj 266 b.dst) ∈ b.fix L rest := List.mem_cons_of_mem _ (List.mem_cons_self ..)
  have her : (b.er, listOf ([] : List Value).toArray 0) ∈ b.fix L rest := List.mem_cons_of_mem _ (List.mem_cons_of_mem _ (List.mem_cons_self ..))
  have hc0 : (b.c0, listOf ([] : List Value).toArray 0) ∈ b.fix L rest := List.mem_cons_of_mem _ (List.mem_cons_of_mem _ (List.mem_cons_of_mem _ (List.mem_cons_self ..)))
  have ht' : (b.t, instObj 383 b.dt) ∈ b.fix L rest := List.mem_cons_of_mem _ (List.mem_cons_of_mem _ (List.mem_cons_of_mem _ (List.mem_cons_of_mem _ (List.mem_cons_self ..))))
  have hdt' : (b.dt, dictOf b.et b.nt) ∈ b.fix L rest := List.mem_cons_of_mem _ (List.mem_cons_of_mem _ (List.mem_cons_of_mem _ (List.mem_cons_of_mem _ (List.mem_cons_of_mem _ (List.mem_cons_self ..)))))
  have hcell : (L + 1, b.oc) ∈ b.fix L rest := List.mem_cons_of_mem _ (List.mem_cons_of_mem _ (List.mem_cons_of_mem _ (List.mem_cons_of_mem _ (List.mem_cons_of_mem _ (List.mem_cons_of_mem _ (List.mem_cons_self ..))))))
  have hS : (A.sA, listOf D.svs.toArray D.c2) ∈ D.led A := List.mem_cons_of_mem _ (List.mem_cons_self ..)
  have hN : (A.nA, listOf D.nvs.toArray D.c3) ∈ D.led A := List.mem_cons_of_mem _ (List.mem_cons_of_mem _ (List.mem_cons_self ..))
  have hH : (A.hA, listOf D.cvs.toArray D.c7) ∈ D.led A := List.mem_cons_of_mem _ (List.mem_cons_of_mem _ (List.mem_cons_of_mem _ (List.mem_cons_of_mem _ (List.mem_cons_of_mem _ (List.mem_cons_of_mem _ (List.mem_cons_self ..))))))
  have hno : (no, LCg.lst ys) ∈ fixed := by
    rw [hfixed]; exact List.mem_cons_of_mem _ (List.mem_cons_of_mem _ (List.mem_append.mpr (Or.inr (List.mem_cons_self ..))))
  have FX : Fx fixed b A D no mo ys mvs mn := ⟨mfix hbu, mfix hst, mfix her, mfix ht', mfix hdt', mled hS, mled hN, hno, mrest hmo, fun p hp => (offs p hp).1, fun p hp => (offs p hp).2, sne⟩
  have LX : Lx w b A D R ys mvs top cx hx (sp, nm) := ⟨nd, rl, r1, r0, H.tt, gs, gn, am, m1, m3, hlast⟩
  have F1 := fr_kst (psL ro ar mo b.bu no sl wo cx hx cu hu) F (by intro p hp; simp only [psL, List.mem_cons, List.not_mem_nil, or_false] at hp; rcases hp with rfl | rfl | rfl | rfl | rfl | rfl | rfl | rfl | rfl <;> exact rfl)
  have N1 : News h₀ L s.heap ((b.db, dictOf eb nb) :: (b.dst, dictOf es ns) :: fixed) := cb_drop N (by
    rw [hfixed]
    intro p hp
    simp only [List.mem_cons, List.mem_append] at hp ⊢
    rcases hp with h | h | h | h | h | h | h
    · exact Or.inr (Or.inr (Or.inr (Or.inr (Or.inl h))))
    · exact Or.inr (Or.inr (Or.inr (Or.inr (Or.inr (Or.inl h)))))
    · exact Or.inl h
    · exact Or.inr (Or.inl h)
    · exact Or.inr (Or.inr (Or.inl h))
    · exact Or.inr (Or.inr (Or.inr (Or.inl h)))
    · exact Or.inr (Or.inr (Or.inr (Or.inr (Or.inr (Or.inr h))))))
  have hx1 : (lawEnv L fa cd).kindOf (Str.ofString "is_fragment") = some .local := rfl
  have hx2 : (lawEnv L fa cd).kindOf (Str.ofString "has_head") = some .local := rfl
  have inner : ∀ fr : Bool, Turn w L fa cd h₀ E b fixed (forBody (lawBody.drop 13)) ((Str.ofString "is_fragment", .bool fr) :: psL ro ar mo b.bu no sl wo cx hx cu hu) := fun fr =>
    for_turn (x := Str.ofString "has_head") (body := midBody) B X T hE sne hx2 (by intro p hp; simp only [psL, List.mem_cons, List.not_mem_nil, or_false] at hp; rcases hp with rfl | rfl | rfl | rfl | rfl | rfl | rfl | rfl | rfl | rfl <;> (dsimp only; decide +kernel)) (by intro u p hp; simp only [psL, List.mem_cons, List.not_mem_nil, or_false] at hp; rcases hp with rfl | rfl | rfl | rfl | rfl | rfl | rfl | rfl | rfl | rfl <;> exact rfl)
      (fun hh => mid_turn (t1 := t1) (t2 := t2) (rn := rn) (mn := mn) B X T hE FX LX (mrest hro) (hR.mono fun p hp => mrest hp) (mrest har) fr hh)
  refine for_tail (x := Str.ofString "is_fragment") (body := forBody (lawBody.drop 13)) (tl := lawBody.drop 14) (fixed := fixed) B X T hE sne hx1 (by intro p hp; simp only [psL, List.mem_cons, List.not_mem_nil, or_false] at hp; rcases hp with rfl | rfl | rfl | rfl | rfl | rfl | rfl | rfl | rfl <;> (dsimp only; decide +kernel)) (by intro u p hp; simp only [psL, List.mem_cons, List.not_mem_nil, or_false] at hp; rcases hp with rfl | rfl | rfl | rfl | rfl | rfl | rfl | rfl | rfl <;> exact rfl) inner F1 N1 (fun _ h => h) offs H.bo H.so (fun u2 h2 tk2 eb2 nb2 es2 ns2 F2 N2 bo2 so2 => ?_)
  refine seg7 (D := D) (A := A) (ls := ls) (lw := lw) B F2 X N2 T (mfix hcell) H.oc (mfix ht') (mfix hdt') (mfix hbu) (mled hS) (mled hN) (mled hH) (mfix hc0) ?_ ?_ gs gn gh bo2 nd.as nd.an nd.ch (fun h3 tk3 F3 => ret _ h3 tk3 F3)
  · rw [hfixed]; exact List.mem_cons_of_mem _ (List.mem_cons_self ..)
  · rw [hfixed]; exact List.mem_cons_self ..
end
section
variable {w : World} {mean : ExcName → Option Value} {mg mb : Str → Option Value} {h₀ : Heap} {L fa : Addr} {cd : Value} {s : Shared} {Q : Flow → Shared → Prop} {E : Value → Shared → Prop}
variable {l : Addr} {vs : List Value} {ns : List Int} {u : Str → Option Value} {oc : Obj}
theorem law_all (B : Below callerA h₀ [] h₀) (F : Fr h₀ L s.heap (kstB u [(Str.ofString "script", .ref l)])) (X : (hd.heap_39 w.params).In h₀) (N : News h₀ L s.heap [(L + 1, oc)]) (T : Top hd.view_39 (looseW hd.view_39 [Str.ofString "Tree"]) mean mg mb h₀)
    (hE : PassesOwn (model PySem.Challenge.rw_nt0607_01.row.prog w) (lawA L fa cd) (lawEnv L fa cd) E) (hl : h₀.IsList l vs.toArray) (hi : IntsAre vs ns) (hfit : ns.length < 2 ^ 62) (hoc : oc.data = .cell none)
    (ret : ∀ u h' tk', Fr h₀ L h' u → Q (.ret (.bool true)) { s with heap := h', toks := tk' }) :
    wpAny (model PySem.Challenge.rw_nt0607_01.row.prog w) (lawA L fa cd) (execs lawBody (lawEnv L fa cd)) Q E s := by
  refine seg1 B F X N T hE hl hi hfit (fun u1 h1 tk1 ro rvs rn R tups F1 hR hok r1 r8 r0 lro ltup N1 => ?_)
  have hc := List.mem_singleton.mpr (rfl : (L + 1, oc) = (L + 1, oc))
  refine seg2 B F1 X N1 T hE hl hi hfit (fun u2 h2 tk2 ar sp nm t1 t2 mo mvs mn F2 am m1 m3 o1 o2 lar lam N2 => ?_)
  have hcr : (L + 1, oc) ∈ (ro, listOf rvs.toArray rn) :: (tups ++ [(L + 1, oc)]) := List.mem_cons_of_mem _ (List.mem_append.mpr (Or.inr hc))
  obtain ⟨rest, hrest⟩ : ∃ r, r = (mo, listOf mvs.toArray mn) :: (ar, tupOf [.str sp t1, .str nm t2]) :: (ro, listOf rvs.toArray rn) :: tups := ⟨_, rfl⟩
  have hoff : ∀ p ∈ rest, p.1 ≠ L + 1 := by
    rw [hrest]
    refine List.forall_mem_cons.mpr ⟨Nat.ne_of_gt (lar _ hcr).2, List.forall_mem_cons.mpr ⟨Nat.ne_of_gt (lar _ hcr).1, List.forall_mem_cons.mpr ⟨Nat.ne_of_gt (lro _ hc), fun p hp => Nat.ne_of_gt (ltup p hp _ hc)⟩⟩⟩
  have N3 : News h₀ L h2 ((L + 1, oc) :: rest) := cb_drop N2 (by
    rw [hrest]
    intro p hp
    simp only [List.mem_cons, List.mem_append, List.not_mem_nil, or_false] at hp ⊢
    rcases hp with h | h | h | h | h
    · exact Or.inr (Or.inr (Or.inr (Or.inr h)))
    · exact Or.inl h
    · exact Or.inr (Or.inl h)
    · exact Or.inr (Or.inr (Or.inl h))
    · exact Or.inr (Or.inr (Or.inr (Or.inl h))))
  have hmo : (mo, listOf mvs.toArray mn) ∈ rest := by rw [hrest]; exact List.mem_cons_self ..
  have har : (ar, tupOf [.str sp t1, .str nm t2]) ∈ rest := by rw [hrest]; exact List.mem_cons_of_mem _ (List.mem_cons_self ..)
  have hro : (ro, listOf rvs.toArray rn) ∈ rest := by rw [hrest]; exact List.mem_cons_of_mem _ (List.mem_cons_of_mem _ (List.mem_cons_self ..))
  have hR' : RowsIs rest rvs R := hR.mono fun p hp => by rw [hrest]; exact List.mem_cons_of_mem _ (List.mem_cons_of_mem _ (List.mem_cons_of_mem _ hp))
  refine seg3 (rest := rest) (oc := oc) B F2 X N3 T hE hoc hoff (fun u3 h3 tk3 b A D eb nb es ns3 F3 N4 H3 => ?_)
  refine seg4 (rest := rest) (rn := rn) B F3 X N4 T hE H3 hro hR' hok r8 (fun u4 h4 tk4 D4 n4 no ys F4 N5 hno hN4 => ?_)
  refine seg5 (rest := rest) B F4 X N5 T hE H3 har hno hN4 o1 o2 r8 (fun u5 h5 tk5 D5 cx hx cu hu sl wo ls lw F5 N6 hlt nd => ?_)
  refine seg6 (rest := rest) (rn := rn) (mn := mn) B F5 X N6 T hE H3 hlt (hno _ (List.mem_append.mpr (Or.inr (List.mem_cons_self ..)))) (hno _ (List.mem_append.mpr (Or.inr (List.mem_cons_of_mem _ (List.mem_cons_self ..))))) nd r8 r1 r0 hro hR' har hmo am m1 m3 (fun u6 h6 tk6 F6 => ?_)
  exact ret u6 h6 tk6 F6
end
end Mine
set_option maxRecDepth 100000 in
set_option maxHeartbeats 8000000 in
theorem PySem.Challenge.cw_nt0607_01_holds : PySem.Challenge.rw_nt0607_01.Holds := by
  w_on
  o_law
  refine holds_open (q := Mine.hd.view_39) (loose := [Str.ofString "Tree"]) (Xt := Mine.Xl) (XP := XL Mine.hd.view_39 []) (Yf := Hook.obs (kHook Mine.hd.heap_39 Mine.Kas Mine.Ke)) (Ya := Hook.val (kHook Mine.hd.heap_39 Mine.Kas Mine.Ke)) (YP := Hook.says (kHook Mine.hd.heap_39 Mine.Kas Mine.Ke)) (N := 3128) ?hl (Hook.of (kHook Mine.hd.heap_39 Mine.Kas Mine.Ke)) (Hook.keeps (kHook Mine.hd.heap_39 Mine.Kas Mine.Ke)) (fun s e => xl_of s (Bool.and_eq_true_iff.mp e).1) XL.keeps (by rfl) (by rfl) (by rfl) (fun s e => recFacts_of (Bool.and_eq_true_iff.mp e).2) (by rfl) (by first | assumption | decide +kernel) (by decide +kernel) ⟨rfl, rfl, rfl, rfl, rfl, by decide +kernel⟩ ?hw ?hc
  case hl => exact Mine.left_h
  case hw => w_witness2
  case hc =>
    k_go0
    rename_i W s0 s1 mg mb G Y fa o pm doc ho hg KX X V GL T Bt TE TW w10 w9 M w8 w7 hcd w6 hs hlay0 hL1 hr1 hl2 w5 w4 w3 w2 w1 hL ra w1b r0 hI hr hcond1 hcond0 K0 hD h1 tk1 F w0 right N0 X0
    refine Mine.law_all (l := w3) (vs := w2) (ns := w6) (oc := w0) (fa := fa) (cd := .ref w8) K0 (Mine.fr_kst [(Str.ofString "script", Value.ref w3)] F (by intro p hp; rw [List.mem_singleton.mp hp]; rfl)) KX N0 T ?hE hL hI (by omega) right (fun u h' tk' F' => ?ret)
    case hE => first | passes_own | with_unfolding_all passes_own
    case ret => k_steps
