import PyProof.Rows.All
import Wide.All
import OpenK.AllK
import Wide.FinOn
import PySem.Challenge.RW_xm0318_01
set_option Elab.async false
set_option maxRecDepth 100000
set_option linter.all false
section
set_option maxHeartbeats 8000000
namespace Mine.Hd
open PySem PySem.W PySem.Calls PyProof.Rows
def looseNames : List Str := [Str.ofString "_wall", Str.ofString "FIRST_ADDRESS", Str.ofString "HEAD_WORDS", Str.ofString "LEAST_SIZE", Str.ofString "TOP_GEN", Str.ofString "words_for", Str.ofString "Thing", Str.ofString "Heap", Str.ofString "heap_alloc", Str.ofString "used_words", Str.ofString "note_collected", Str.ofString "find_thing", Str.ofString "slot_word", Str.ofString "card_number", Str.ofString "W_EMPTY", Str.ofString "RuneError", Str.ofString "BadKind", Str.ofString "VOID", Str.ofString "BOOL", Str.ofString "CHAR", Str.ofString "I1", Str.ofString "U1", Str.ofString "I2", Str.ofString "U2", Str.ofString "I4", Str.ofString "U4", Str.ofString "I8", Str.ofString "U8", Str.ofString "NINT", Str.ofString "OBJECT", Str.ofString "STRING", Str.ofString "NULLK", Str.ofString "PRIM_END", Str.ofString "R_PRIM", Str.ofString "R_CLASS", Str.ofString "R_VALUE", Str.ofString "R_ARRAY", Str.ofString "R_BYREF", Str.ofString "R_VAR", Str.ofString "R_MVAR", Str.ofString "R_BOXED", Str.ofString "R_ROREF", Str.ofString "R_FTN", Str.ofString "R_RAW", Str.ofString "DEEPEST_KIND", Str.ofString "HEAVIEST_KIND", Str.ofString "TID_PRIM", Str.ofString "KindTable", Str.ofString "inner_kinds", Str.ofString "row_level", Str.ofString "row_length", Str.ofString "check_kind_row", Str.ofString "check_named", Str.ofString "check_args", Str.ofString "may_stand", Str.ofString "class_kind", Str.ofString "value_kind", Str.ofString "prim_kind", Str.ofString "kind_sort", Str.ofString "elem_of", Str.ofString "is_value", Str.ofString "is_var", Str.ofString "V_I4", Str.ofString "V_I8", Str.ofString "V_NINT", Str.ofString "V_REF", Str.ofString "V_STRUCT", Str.ofString "V_PLACE", Str.ofString "V_FTN", Str.ofString "V_TEXT", Str.ofString "NULLV", Str.ofString "PL_LOCAL", Str.ofString "PL_HEAP", Str.ofString "plain_default", Str.ofString "refs_in", Str.ofString "move_value", Str.ofString "move_plain", Str.ofString "move_struct", Str.ofString "words_of", Str.ofString "push_word", Str.ofString "push_value", Str.ofString "drain", Str.ofString "old_slots", Str.ofString "mark", Str.ofString "reach_more", Str.ofString "mark_card", Str.ofString "refers_younger", Str.ofString "younger_slots", Str.ofString "renew_cards", Str.ofString "H_SHORT", Str.ofString "H_LONG", Str.ofString "H_STRONG", Str.ofString "ROW_SORT", Str.ofString "ROW_ADDR", Str.ofString "ROW_ALIVE", Str.ofString "Handles", Str.ofString "strong_values", Str.ofString "found_dead", Str.ofString "clear_handles", Str.ofString "move_handles", Str.ofString "pick_finals", Str.ofString "end_of_older", Str.ofString "plan_moves", Str.ofString "Words", Str.ofString "moved_word", Str.ofString "stays", Str.ofString "moved_values", Str.ofString "new_lists", Str.ofString "put_lists", Str.ofString "moved_addrs", Str.ofString "settle_thing", Str.ofString "settle_things", Str.ofString "move_all", Str.ofString "root_lists", Str.ofString "find_living", Str.ofString "collect", Str.ofString "roots", Str.ofString "collect_for", Str.ofString "PlaceHost", Str.ofString "JP_STAY", Str.ofString "ST_RUN", Str.ofString "ST_WRONG", Str.ofString "FR_CALL", Str.ofString "FR_FILTER", Str.ofString "FR_CCTOR", Str.ofString "FR_NEW", Str.ofString "FR_MULTI", Str.ofString "LOST", Str.ofString "Frame", Str.ofString "Starter", Str.ofString "Sweeper", Str.ofString "KindCloser", Str.ofString "Tray", Str.ofString "Shelf", Str.ofString "told_row", Str.ofString "told_default", Str.ofString "tell_wrong", Str.ofString "pop_value", Str.ofString "first_slots", Str.ofString "alloc_thing", Str.ofString "made_text", Str.ofString "interned_text", Str.ofString "Chase", Str.ofString "Store", Str.ofString "_law_WORDS", Str.ofString "_law_ALL", Str.ofString "_law_PLAIN", Str.ofString "_law_number", Str.ofString "_law_value", Str.ofString "_law_noted", Str.ofString "_law_fresh", Str.ofString "_law_put", Str.ofString "_law_fill", Str.ofString "_law_drop", Str.ofString "_law_newest", Str.ofString "_law_fly", Str.ofString "_law_stand", Str.ofString "_law_fail", Str.ofString "_law_hold", Str.ofString "_law_text", Str.ofString "_law_named", Str.ofString "_law_reached", Str.ofString "_law_same", Str.ofString "_law_gone", Str.ofString "_law_deed"]
def lawStmt : Stmt := (PySem.Challenge.pw_xm0318_01.main.body.getLast?).getD (.Pass ⟨0, 0, 0, 0⟩)
def lawView : Program := { PySem.Challenge.pw_xm0318_01 with main := { PySem.Challenge.pw_xm0318_01.main with body := [lawStmt] } }
def lawRec : DefRec := match lawStmt with
 | .FunctionDef name args body _ _ _ scope _ _ pos => { name := name, params := args, body := body, scope := scope, pos := pos }
 | _ => { name := "", params := ⟨[], [], none, [], [], none, []⟩, body := [], scope := ⟨.function, [], false, false, []⟩, pos := ⟨0, 0, 0, 0⟩ }
def XL' (mg : Str → Option Value) (h : Heap) : Prop := XL lawView [] mg h ∧ (h.get? sysModules).isSome = true
theorem XL'.keeps (mg : Str → Option Value) (h h' : Heap) (x : XL' mg h) (k : ∀ b o, h.get? b = some o → h'.get? b = some o) : XL' mg h' := by
 refine ⟨XL.keeps _ _ _ x.1 k, ?_⟩
 obtain ⟨o, e⟩ := Option.isSome_iff_exists.mp x.2
 rw [k _ _ e]; rfl
theorem PySem.W.holds_open {q : Program} {loose : List Str} {Xt : Shared → Bool} {XP : (Str → Option Value) → Heap → Prop} {α : Type} {Yf : Shared → α} {Ya : World → α} {YP : World → Heap → Prop} {N : Nat}
  (left : LeftO PySem.Challenge.rw_xm0318_01.row.prog lawView looseNames (fun s => xlAt lawView [] s && recOk [] s && (s.heap.get? sysModules).isSome) Yf Ya N) (hY : ∀ w s, Yf s = Ya w → YP w s.heap) (hYk : ∀ w h h', YP w h → (∀ b o, h.get? b = some o → h'.get? b = some o) → YP w h')
  (_ : ∀ s, Xt s = true → XP (s.heap.nsMap mainGlobals) s.heap) (_ : ∀ mg h h', XP mg h → (∀ b o, h.get? b = some o → h'.get? b = some o) → XP mg h')
  (_ : q = q) (_ : q = q) (_ : q = q) (_ : ∀ s, Xt s = true → RecFacts PySem.Challenge.rw_xm0318_01.row.records s.heap) (_ : loose = loose)
  (k1 : PySem.Challenge.rw_xm0318_01.row.wellSaid = true) (_ : true = true) (hb : PySem.Challenge.rw_xm0318_01.row.prog.bare) (hw : PySem.Challenge.rw_xm0318_01.row.toRowW.promised)
  (call : WalkO lawView looseNames XL' YP PySem.Challenge.rw_xm0318_01.row.toRowW lawRec [] fun f vs => PySem.call f vs) : PySem.Challenge.rw_xm0318_01.row.Holds :=
 _root_.PySem.W.holds_open (r := PySem.Challenge.rw_xm0318_01.row) (q := lawView) (loose := looseNames) (Xt := fun s => xlAt lawView [] s && recOk [] s && (s.heap.get? sysModules).isSome) (XP := XL') (d := lawRec) (kwd := []) left hY hYk
  (fun s e => ⟨xl_of s (Bool.and_eq_true_iff.mp (Bool.and_eq_true_iff.mp e).1).1, (Bool.and_eq_true_iff.mp e).2⟩) XL'.keeps (by kernel_rfl) (by kernel_rfl) (by kernel_rfl) (fun s e => recFacts_of (Bool.and_eq_true_iff.mp (Bool.and_eq_true_iff.mp e).1).2) (by rfl) k1 (by decide +kernel) hb hw call
open_top hd for PySem.Challenge.rw_xm0318_01
end Mine.Hd
end
namespace Mine
open PySem
open _root_.List renaming length_map → lM, append_nil → aN, append_assoc → aA, map_append → mP, mem_of_getElem? → mG, length_append → lA, getElem?_eq_some_iff → gS, getElem?_map → gM, mem_append → mA, mem_map → mM, map_cons → mC, cons_append → cA, mem_singleton → mS, mem_cons → mK, nil_append → nA, getElem?_eq_getElem → gE, mem_append_left → mL, length_cons → lC, mem_map_of_mem → mO, not_mem_nil → nM, getElem?_of_mem → gO, zip_cons_cons → zC, lookup_cons → kC, take_add_one → tO, mem_append_right → mR, take_length → tL, nodup_append → nD, map_map → mQ, filter_append → fA, length_nil → lN, take_sublist → tS, getElem?_append_left → gL, getElem?_append_right → gR, nodup_cons → nC, length_take → lT, length_singleton → lS, flatMap_cons → fC, map_congr_left → mJ, perm_append_singleton → pS, getElem?_cons_zero → gZ
abbrev sO:=Str.ofString
inductive V where
 | none
 | bool (b:Bool)
 | int (i:Int)
 | str (s:Str)
 | tup (l:List V)
 | obj (i:Nat)
 | frz (l:List Int)
abbrev NKey:=Int×Int×Bool
def NKey.toV:NKey→V
 | (a,b,false)=>.tup [.int a,.int b]
 | (a,b,true)=>.tup [.int a,.int b,.tup []]
def NKey.ofV:V→Option NKey
 | .tup [.int a,.int b]=>some (a,b,false)
 | .tup [.int a,.int b,.tup []]=>some (a,b,true)
 | _=>none
inductive O where
 | list (l:List V)
 | di (l:List (Int×V))
 | ds (l:List (Str×V))
 | dt (l:List (NKey×V))
 | wd (l:List V)
 | inst (c:Nat) (fs:List V)
inductive Bop where
 | add|sub|mul|fdiv|mod|shr
inductive Cop where
 | eq|ne|lt|le|gt|ge|isNone|isNot|mem|nmem
inductive E where
 | lit (v:V)
 | glob (x:Nat)
 | loc (i:Nat)
 | bin (op:Bop) (a b:E)
 | neg (a:E)
 | not (a:E)
 | and (a b:E)
 | or (a b:E)
 | cmp (op:Cop) (a b:E)
 | tup (l:List E)
 | list (l:List E)
 | di
 | ds
 | dt
 | wd (l:List E)
 | idx (a b:E)
 | wk (a:E) (k:Nat)
 | cut (a:E) (k:Nat)
 | attr (a:E) (c i:Nat)
 | call (f:Nat) (args:List E)
 | new (c:Nat) (f:Nat) (args:List E)
 | new0 (c:Nat)
 | meth (o:E) (c f:Nat) (args:List E)
 | append (o x:E)
 | pop (o:E)
 | popAt (o i:E)
 | get1 (o k:E)
 | get2 (o k d:E)
 | len (a:E)
 | sorted (a:E)
 | tupleOf (a:E)
 | strOf (a:E)
 | comp (elt:E) (cap:List Nat) (nt:Nat) (it:E) (cond:List E)
 | comp2 (elt:E) (cap:List Nat) (nt1:Nat) (it1:E) (nt2:Nat) (it_2:E)
 | inTid (a:E)
inductive T where
 | loc (i:Nat)
 | locs (l:List Nat)
 | attr (a:E) (c i:Nat)
 | idx (a b:E)
 | wk (a:E) (k:Nat)
inductive S where
 | assign (t:T) (e:E)
 | aug (t:T) (op:Bop) (e:E)
 | expr (e:E)
 | ret (e:E)
 | pass
 | ite (c:E) (a b:List S)
 | while (c:E) (b:List S)
 | forI (t:List Nat) (e:E) (b:List S)
 | forR (t:Nat) (n:E) (b:List S)
 | stuck
structure Fn where
 np:Nat
 nl:Nat
 body:List S
abbrev Hp:=List O
abbrev Rho:=List (Option V)
inductive Fl where
 | next
 | ret (v:V)
def limit:Nat:=100000
def dataV:Nat→Hp→V→Option PyData
 | _,_,.none=>some .none
 | _,_,.bool b=>some (.bool b)
 | _,_,.int i=>some (.int i)
 | _,_,.str s=>if PyData.strOk s then some (.str s) else none
 | n+1,H,.tup l=>(l.mapM (dataV n H)).map .tuple
 | n+1,H,.obj i=>match H[i]? with
  | some (.list l)=>(l.mapM (dataV n H)).map .list
  | _=>none
 | _,_,_=>none
def deep:Nat:=8
def intOp:Bop→Int→Int→Option Int
 | .add,a,b=>some (a+b)
 | .sub,a,b=>some (a-b)
 | .mul,a,b=>if a.natAbs<2 ^ 60 then some (a*b) else none
 | .fdiv,a,b=>if b > 0∧b<1000000000 then some (Int.fdiv a b) else none
 | .mod,a,b=>if b > 0 then some (Int.fmod a b) else none
 | .shr,a,b=>if 0≤b∧b<64 then some (Int.fdiv a (2 ^ b.toNat)) else none
def augOp:Bop→Int→Int→Option Int
 | .add,a,b=>some (a+b)
 | .sub,a,b=>some (a-b)
 | _,_,_=>none
def binV (op:Bop):V→V→Option V
 | .int a,.int b=>(intOp op a b).map .int
 | .str a,.str b=>match op with
  | .add=>if a.length+b.length≤1000 then some (.str (a++b)) else none
  | _=>none
 | _,_=>none
def dget {K:Type} [DecidableEq K] (l:List (K×V)) (k:K):Option V:=match l with
 | []=>none
 | p::r=>if p.1=k then some p.2 else dget r k
def dput {K:Type} [DecidableEq K] (l:List (K×V)) (k:K) (v:V):List (K×V):=match l with
 | []=>[(k,v)]
 | p::r=>if p.1=k then (p.1,v)::r else p::dput r k v
def at? (l:List V) (i:Int):Option V :=
 if 0≤i then (if i<1000000 then l[i.toNat]? else none) else if -(l.length:Int)≤i∧-1000000≤i then l[(i+l.length).toNat]? else none
def idxV (H:Hp):V→V→Option V
 | .tup l,.int i=>at? l i
 | .obj o,.int i=>match H[o]? with
  | some (.list l)=>at? l i
  | some (.di l)=>dget l i
  | _=>none
 | _,_=>none
def eqV (H:Hp) (a b:V):Option Bool:=match a,b with
 | .int a,.int b=>some (a==b)
 | .str a,.str b=>some (a==b)
 | a,b=>(dataV deep H a).bind fun x=>(dataV deep H b).bind fun y=>some (PyData.eqv x y)
def memV (H:Hp) (a b:V):Option Bool:=match b with
 | .obj o=>match H[o]?,a with
  | some (.di l),.int k=>some (dget l k).isSome
  | some (.list l),a=>(dataV deep H a).bind fun x=>(dataV deep H (.obj o)).bind fun y=>match y with
   | .list ys=>some (ys.any fun y=>PyData.eqv y x)
   | _=>none
  | _,_=>none
 | _=>none
def cmpV (H:Hp) (op:Cop) (a b:V):Option Bool:=match op with
 | .eq=>eqV H a b
 | .ne=>(eqV H a b).map (!·)
 | .lt=>match a,b with|.int x,.int y=>some (decide (x<y))|_,_=>none
 | .le=>match a,b with|.int x,.int y=>some (decide (x≤y))|_,_=>none
 | .gt=>match a,b with|.int x,.int y=>some (decide (x > y))|_,_=>none
 | .ge=>match a,b with|.int x,.int y=>some (decide (x≥y))|_,_=>none
 | .isNone=>match a with|.none=>some true|.obj _=>some false|.int _=>some false|_=>none
 | .isNot=>match a with|.none=>some false|.obj _=>some true|.int _=>some true|_=>none
 | .mem=>memV H a b
 | .nmem=>(memV H a b).map (!·)
def lenV (H:Hp):V→Option Nat
 | .tup l=>if l.length≤limit then some l.length else none
 | .obj o=>match H[o]? with
  | some (.list l)=>if l.length≤limit then some l.length else none
  | some (.di l)=>if l.length≤limit then some l.length else none
  | _=>none
 | _=>none
def bnd {α β:Type} (x:Option (α×Hp)) (f:α→Hp→Option β):Option β:=match x with
 | some (a,H)=>f a H
 | none=>none
def asObj {β:Type} (v:V) (f:Nat→Option β):Option β:=match v with
 | .obj o=>f o
 | _=>none
def asInt {β:Type} (v:V) (f:Int→Option β):Option β:=match v with
 | .int o=>f o
 | _=>none
def asBool {β:Type} (v:V) (f:Bool→Option β):Option β:=match v with
 | .bool o=>f o
 | _=>none
def asTup {β:Type} (v:V) (f:List V→Option β):Option β:=match v with
 | .tup o=>f o
 | _=>none
def asFrz {β:Type} (v:V) (f:List Int→Option β):Option β:=match v with
 | .frz o=>f o
 | _=>none
def asNone {β:Type} (v:V) (f:Option β):Option β:=match v with
 | .none=>f
 | _=>none
def asList {β:Type} (H:Hp) (o:Nat) (f:List V→Option β):Option β:=match H[o]? with
 | some (.list l)=>f l
 | _=>none
def asDi {β:Type} (H:Hp) (o:Nat) (f:List (Int×V)→Option β):Option β:=match H[o]? with
 | some (.di l)=>f l
 | _=>none
def asWd {β:Type} (H:Hp) (o:Nat) (f:List V→Option β):Option β:=match H[o]? with
 | some (.wd l)=>f l
 | _=>none
def asDict {β:Type} (H:Hp) (o:Nat) (f:Option β):Option β:=match H[o]? with
 | some (.di _)=>f
 | some (.ds _)=>f
 | some (.dt _)=>f
 | _=>none
def asInst {β:Type} (H:Hp) (o c:Nat) (f:List V→Option β):Option β:=match H[o]? with
 | some (.inst c' fs)=>if c'=c then f fs else none
 | _=>none
def asSome {α β:Type} (x:Option α) (f:α→Option β):Option β:=match x with
 | some a=>f a
 | none=>none
def guardB {β:Type} (b:Bool) (f:Option β):Option β:=match b with
 | true=>f
 | false=>none
abbrev Turn (α:Type):=V→α→Hp→Option ((Option V×α)×Hp)
def goes {α:Type} (x:Option ((Option V×α)×Hp)) (f:α→Hp→Option ((Option V×α)×Hp)):Option ((Option V×α)×Hp) :=
 bnd x fun r H=>match r.1 with
  | none=>f r.2 H
  | some v=>some ((some v,r.2),H)
def liveItems {α:Type} (f:Turn α) (o:Nat):Nat→Nat→α→Hp→Option ((Option V×α)×Hp)
 | 0,j,a,H=>asList H o fun l=>guardB (l.length==j) (some ((none,a),H))
 | k+1,j,a,H=>asList H o fun l=>asSome l[j]? fun x=>goes (f x a H) fun a H=>liveItems f o k (j+1) a H
def rangeItems {α:Type} (f:Turn α):Nat→Nat→α→Hp→Option ((Option V×α)×Hp)
 | 0,_,a,H=>some ((none,a),H)
 | k+1,j,a,H=>goes (f (.int j) a H) fun a H=>rangeItems f k (j+1) a H
def items {α:Type} (f:Turn α) (x:V) (a:α) (H:Hp):Option ((Option V×α)×Hp):=match x with
 | .tup []=>some ((none,a),H)
 | .obj o=>asList H o fun l=>liveItems f o l.length 0 a H
 | _=>none
def setLocs (ρ:Rho):List Nat→List V→Option Rho
 | [],[]=>some ρ
 | i::is,v::vs=>guardB (decide (i<ρ.length)) (setLocs (ρ.set i (some v)) is vs)
 | _,_=>none
def setTarget (ρ:Rho) (t:List Nat) (v:V):Option Rho:=match t with
 | [i]=>guardB (decide (i<ρ.length)) (some (ρ.set i (some v)))
 | t=>asTup v fun vs=>setLocs ρ t vs
def pushL (H:Hp) (o:Nat) (v:V):Option Hp:=asList H o fun l=>guardB (decide (l.length<limit)) (some (H.set o (.list (l++[v]))))
section
variable (gtab:List V) (C:Nat→List V→Hp→Option (V×Hp))
mutual
def evalE (ρ:Rho):E→Hp→Option (V×Hp)
 | .lit v,H=>some (v,H)
 | .glob x,H=>asSome gtab[x]? fun v=>some (v,H)
 | .loc i,H=>asSome (ρ[i]?).join fun v=>some (v,H)
 | .bin op a b,H=>bnd (evalE ρ a H) fun x H=>bnd (evalE ρ b H) fun y H=>asSome (binV op x y) fun v=>some (v,H)
 | .neg a,H=>bnd (evalE ρ a H) fun x H=>asInt x fun i=>some (.int (-i),H)
 | .not a,H=>bnd (evalE ρ a H) fun x H=>asBool x fun b=>some (.bool (!b),H)
 | .and a b,H=>bnd (evalE ρ a H) fun x H=>asBool x fun c=>match c with
  | true=>bnd (evalE ρ b H) fun y H=>asBool y fun d=>some (.bool d,H)
  | false=>some (.bool false,H)
 | .or a b,H=>bnd (evalE ρ a H) fun x H=>asBool x fun c=>match c with
  | false=>bnd (evalE ρ b H) fun y H=>asBool y fun d=>some (.bool d,H)
  | true=>some (.bool true,H)
 | .cmp op a b,H=>bnd (evalE ρ a H) fun x H=>bnd (evalE ρ b H) fun y H=>asSome (cmpV H op x y) fun v=>some (.bool v,H)
 | .tup l,H=>bnd (evalEs ρ l H) fun vs H=>some (.tup vs,H)
 | .list l,H=>bnd (evalEs ρ l H) fun vs H=>some (.obj H.length,H++[.list vs])
 | .di,H=>some (.obj H.length,H++[.di []])
 | .ds,H=>some (.obj H.length,H++[.ds []])
 | .dt,H=>some (.obj H.length,H++[.dt []])
 | .wd l,H=>bnd (evalEs ρ l (H++[.wd []])) fun vs H'=>asWd H' H.length fun w=>guardB w.isEmpty (some (.obj H.length,H'.set H.length (.wd vs)))
 | .idx a b,H=>bnd (evalE ρ a H) fun x H=>bnd (evalE ρ b H) fun y H=>asSome (idxV H x y) fun v=>some (v,H)
 | .wk a k,H=>bnd (evalE ρ a H) fun x H=>asObj x fun o=>asWd H o fun l=>asSome l[k]? fun v=>some (v,H)
 | .cut a k,H=>bnd (evalE ρ a H) fun x H=>asFrz x fun l=>guardB (decide (l.length≤limit)) (some (.obj H.length,H++[.list ((l.take k).map .int)]))
 | .attr a c i,H=>bnd (evalE ρ a H) fun x H=>asObj x fun o=>asInst H o c fun fs=>asSome fs[i]? fun v=>some (v,H)
 | .call f args,H=>bnd (evalEs ρ args H) fun vs H=>C f vs H
 | .new c f args,H=>bnd (evalEs ρ args H) fun vs H=>bnd (C f (.obj H.length::vs) (H++[.inst c []])) fun r H'=>asNone r (some (.obj H.length,H'))
 | .new0 c,H=>some (.obj H.length,H++[.inst c []])
 | .meth o c f args,H=>bnd (evalE ρ o H) fun x H=>asObj x fun o=>asInst H o c fun _=>bnd (evalEs ρ args H) fun vs H=>C f (.obj o::vs) H
 | .append o x,H=>bnd (evalE ρ o H) fun y H=>asObj y fun o=>asList H o fun _=>bnd (evalE ρ x H) fun v H=>asSome (pushL H o v) fun H=>some (.none,H)
 | .pop o,H=>bnd (evalE ρ o H) fun y H=>asObj y fun o=>asList H o fun l=>guardB (decide (l.length≤limit)) (asSome l[l.length-1]? fun v=>some (v,H.set o (.list (l.eraseIdx (l.length-1)))))
 | .popAt o i,H=>bnd (evalE ρ o H) fun y H=>asObj y fun o=>asList H o fun _=>bnd (evalE ρ i H) fun j H=>asInt j fun i=>asList H o fun l =>
   guardB (decide (0≤i∧i<1000000∧l.length≤limit)) (asSome l[i.toNat]? fun v=>some (v,H.set o (.list (l.eraseIdx i.toNat))))
 | .get1 o k,H=>bnd (evalE ρ o H) fun y H=>asObj y fun o=>asDi H o fun _=>bnd (evalE ρ k H) fun j H=>asInt j fun k=>asDi H o fun l=>some ((dget l k).getD .none,H)
 | .get2 o k d,H=>bnd (evalE ρ o H) fun y H=>asObj y fun o=>asDict H o (bnd (evalE ρ k H) fun k H=>bnd (evalE ρ d H) fun d H=>match H[o]?,k with
   | some (.di l),.int k=>some ((dget l k).getD d,H)
   | some (.ds l),.str k=>some ((dget l k).getD d,H)
   | some (.dt l),k=>asSome (NKey.ofV k) fun k=>some ((dget l k).getD d,H)
   | _,_=>none)
 | .len a,H=>bnd (evalE ρ a H) fun x H=>asSome (lenV H x) fun n=>some (.int n,H)
 | .sorted a,H=>bnd (evalE ρ a H) fun x H=>asObj x fun o=>asDi H o fun l=>guardB (decide (l.length≤limit∧(l.length<64∨(l.map (·.1)).Pairwise (·≤·)))) (some (.obj H.length,H++[.list (((l.map (·.1)).mergeSort (fun a b=>decide (a≤b))).map .int)]))
 | .tupleOf a,H=>bnd (evalE ρ a H) fun x H=>asObj x fun o=>asList H o fun l=>guardB (decide (l.length≤limit)) (some (.tup l,H))
 | .strOf a,H=>bnd (evalE ρ a H) fun x H=>asInt x fun i=>guardB (decide (0≤i∧i<1000000000)) (some (.str (sO (toString i)),H))
 | .comp elt cap nt it cond,H=>bnd (evalE ρ it H) fun x H=>asObj x fun o=>guardB (cap.all fun i=>(ρ[i]?).join.isSome) (asList H o fun l=>bnd (liveItems (fun v (_:Unit) H' =>
    asSome (setTarget (cap.map (fun i=>(ρ[i]?).join)++List.replicate nt none) ((List.range nt).map (cap.length+·)) v) fun ρ' =>
     match cond with
     | []=>bnd (evalE ρ' elt H') fun y H'=>asSome (pushL H' H.length y) fun H'=>some ((none,()),H')
     | c::_=>bnd (evalE ρ' c H') fun b H'=>asBool b fun b=>match b with
      | true=>bnd (evalE ρ' elt H') fun y H'=>asSome (pushL H' H.length y) fun H'=>some ((none,()),H')
      | false=>some ((none,()),H')) o l.length 0 () (H++[.list []])) fun r H'=>match r.1 with
    | none=>some (.obj H.length,H')
    | some _=>none)
 | .comp2 elt cap nt1 it1 nt2 it_2,H=>bnd (evalE ρ it1 H) fun x H=>asObj x fun o=>guardB (cap.all fun i=>(ρ[i]?).join.isSome) (asList H o fun l=>bnd (liveItems (fun v (_:Unit) H' =>
    asSome (setTarget (cap.map (fun i=>(ρ[i]?).join)++List.replicate (nt1+nt2) none) ((List.range nt1).map (cap.length+·)) v) fun ρ' =>
     bnd (evalE ρ' it_2 H') fun y H'=>asObj y fun o2=>asList H' o2 fun l_2=>liveItems (fun v (_:Unit) H' =>
      asSome (setTarget ρ' ((List.range nt2).map (cap.length+nt1+·)) v) fun ρ'' =>
       bnd (evalE ρ'' elt H') fun y H'=>asSome (pushL H' H.length y) fun H'=>some ((none,()),H')) o2 l_2.length 0 () H') o l.length 0 () (H++[.list []])) fun r H'=>match r.1 with
    | none=>some (.obj H.length,H')
    | some _=>none)
 | .inTid a,H=>bnd (evalE ρ a H) fun x H=>asInt x fun i=>some (.bool ([20,9,10,11,12,13,14,15,16,17,18,19,1,4].contains i),H)
def evalEs (ρ:Rho):List E→Hp→Option (List V×Hp)
 | [],H=>some ([],H)
 | e::r,H=>bnd (evalE ρ e H) fun v H=>bnd (evalEs ρ r H) fun vs H=>some (v::vs,H)
end
def putAttr (H:Hp) (o c i:Nat) (v:V):Option Hp:=asInst H o c fun fs =>
 if i<fs.length then some (H.set o (.inst c (fs.set i v))) else if i=fs.length then some (H.set o (.inst c (fs++[v]))) else none
def putIdx (H:Hp) (o:Nat) (k v:V):Option Hp:=match H[o]?,k with
 | some (.list l),.int i=>guardB (decide (0≤i∧i<l.length∧i<1000000)) (some (H.set o (.list (l.set i.toNat v))))
 | some (.di l),.int i=>guardB (decide (l.length<limit)) (some (H.set o (.di (dput l i v))))
 | some (.ds l),.str k=>guardB (decide (l.length<limit)) (some (H.set o (.ds (dput l k v))))
 | some (.dt l),k=>asSome (NKey.ofV k) fun k=>guardB (decide (l.length<limit)) (some (H.set o (.dt (dput l k v))))
 | _,_=>none
def putWk (H:Hp) (o k:Nat) (v:V):Option Hp:=asWd H o fun l =>
 if k<l.length then some (H.set o (.wd (l.set k v))) else if k=l.length then some (H.set o (.wd (l++[v]))) else none
def assignT (ρ:Rho) (t:T) (v:V) (H:Hp):Option (Rho×Hp):=match t with
 | .loc i=>guardB (decide (i<ρ.length)) (some (ρ.set i (some v),H))
 | .locs l=>asTup v fun vs=>asSome (setLocs ρ l vs) fun ρ=>some (ρ,H)
 | .attr a c i=>bnd (evalE gtab C ρ a H) fun x H=>asObj x fun o=>asSome (putAttr H o c i v) fun H=>some (ρ,H)
 | .idx a b=>bnd (evalE gtab C ρ a H) fun x H=>asObj x fun o=>bnd (evalE gtab C ρ b H) fun k H=>asSome (putIdx H o k v) fun H=>some (ρ,H)
 | .wk a k=>bnd (evalE gtab C ρ a H) fun x H=>asObj x fun o=>asSome (putWk H o k v) fun H=>some (ρ,H)
abbrev Res:=Option ((Option V×Rho)×Hp)
def whileN (test:Rho→Hp→Option (V×Hp)) (body:Rho→Hp→Res):Nat→Rho→Hp→Res
 | 0,_,_=>none
 | n+1,ρ,H=>bnd (test ρ H) fun b H=>asBool b fun b=>match b with
  | true=>goes (body ρ H) fun ρ H=>whileN test body n ρ H
  | false=>some ((none,ρ),H)
mutual
def execS (ρ:Rho):S→Hp→Res
 | .assign t e,H=>bnd (evalE gtab C ρ e H) fun v H=>bnd (assignT gtab C ρ t v H) fun ρ H=>some ((none,ρ),H)
 | .aug t op e,H=>match t with
  | .loc i=>asSome (ρ[i]?).join fun x=>bnd (evalE gtab C ρ e H) fun y H=>asInt x fun x=>asInt y fun y=>asSome (augOp op x y) fun v=>some ((none,ρ.set i (some (.int v))),H)
  | .attr a c i=>bnd (evalE gtab C ρ a H) fun x H=>asObj x fun o=>asInst H o c fun fs=>asSome fs[i]? fun x=>bnd (evalE gtab C ρ e H) fun y H =>
    asInt x fun x=>asInt y fun y=>asSome (augOp op x y) fun v=>asSome (putAttr H o c i (.int v)) fun H=>some ((none,ρ),H)
  | _=>none
 | .expr e,H=>bnd (evalE gtab C ρ e H) fun _ H=>some ((none,ρ),H)
 | .ret e,H=>bnd (evalE gtab C ρ e H) fun v H=>some ((some v,ρ),H)
 | .pass,H=>some ((none,ρ),H)
 | .ite c a b,H=>bnd (evalE gtab C ρ c H) fun x H=>asBool x fun d=>match d with
  | true=>execs ρ a H
  | false=>execs ρ b H
 | .while c b,H=>whileN (fun ρ H=>evalE gtab C ρ c H) (fun ρ H=>execs ρ b H) limit ρ H
 | .forI t e b,H=>bnd (evalE gtab C ρ e H) fun x H=>items (fun v ρ H=>asSome (setTarget ρ t v) fun ρ=>execs ρ b H) x ρ H
 | .forR t n b,H=>bnd (evalE gtab C ρ n H) fun x H=>asInt x fun n=>guardB (decide (0≤n∧n≤limit)) (rangeItems (fun v ρ H=>asSome (setTarget ρ [t] v) fun ρ=>execs ρ b H) n.toNat 0 ρ H)
 | .stuck,_=>none
def execs (ρ:Rho):List S→Hp→Res
 | [],H=>some ((none,ρ),H)
 | s::r,H=>goes (execS ρ s H) fun ρ H=>execs ρ r H
end
end
def callN (gtab:List V) (fns:List Fn):Nat→Nat→List V→Hp→Option (V×Hp)
 | 0,_,_,_=>none
 | n+1,f,args,H=>asSome fns[f]? fun fd=>guardB (args.length==fd.np) (
   bnd (execs gtab (callN gtab fns n) (args.map some++List.replicate (fd.nl-fd.np) none) fd.body H) fun r H=>some (r.1.getD .none,H))
structure Tab where
 gnames:List Str
 gfns:List (Str×Nat)
 cnames:List Str
 attrs:List (List Str)
 meths:List (Nat×Str×Nat)
 inits:List (Nat×Nat)
 new0s:List Nat
 wks:List Str
def kindIn (sc:Scope) (x:Str) (k:NameKind):Bool:=sc.names.lookup x==some k
def plainName (x:Str):Bool:=x != ("__debug__":Str)&&x != ("__classdict__":Str)
def readsAs (names:List Str) (sc:Scope) (i:Nat) (x:Str):Bool:=names[i]?==some x&&plainName x&&(kindIn sc x .local||kindIn sc x .cell||kindIn sc x .free)
def globalAs (sc:Scope) (x:Str):Bool:=plainName x&&kindIn sc x .globalImplicit
def plainBase:Expr→Bool
 | .Name ..=>true
 | .Attribute ..=>true
 | .Subscript ..=>true
 | _=>false
def isName:Expr→Bool
 | .Name ..=>true
 | _=>false
def constIs:V→Const→Bool
 | .none,.none=>true
 | .bool a,.bool b=>a==b
 | .int a,.int b=>a==b
 | .str a,.str b=>a==b
 | _,_=>false
def bopIs:Bop→Operator→Bool
 | .add,.Add=>true
 | .sub,.Sub=>true
 | .mul,.Mult=>true
 | .fdiv,.FloorDiv=>true
 | .mod,.Mod=>true
 | .shr,.RShift=>true
 | _,_=>false
def copIs:Cop→CmpOp→Bool
 | .eq,.Eq=>true
 | .ne,.NotEq=>true
 | .lt,.Lt=>true
 | .le,.LtE=>true
 | .gt,.Gt=>true
 | .ge,.GtE=>true
 | .isNone,.Is=>true
 | .isNot,.IsNot=>true
 | .mem,.In=>true
 | .nmem,.NotIn=>true
 | _,_=>false
def litNone:E→Bool
 | .lit .none=>true
 | _=>false
def noneArg (op:Cop) (b:E):Bool:=match op with
 | .isNone=>litNone b
 | .isNot=>litNone b
 | _=>true
def notSet:Expr→Bool
 | .Set ..=>false
 | _=>true
def isSlice:Expr→Bool
 | .Slice ..=>true
 | _=>false
def notStar:Expr→Bool
 | .Starred ..=>false
 | _=>true
def isComp:Expr→Bool
 | .ListComp ..=>true
 | .SetComp ..=>true
 | .DictComp ..=>true
 | _=>false
def compScope (sc isc:Scope) (caps targets:List Str):Bool :=
 isc.kind==.function&&isc.names.all (fun p=>(p.2 != .local||isc.names.lookup p.1==some .local)&&p.2 != .cell&&(p.2 != .free||(isc.names.lookup p.1==some .free&&caps.contains p.1))) &&
 caps.all (fun x=>kindIn sc x .cell&&kindIn isc x .free&&plainName x)&&targets.all (fun x=>kindIn isc x .local&&plainName x)&&!isc.isGenerator&&!isc.isCoroutine
def targetIs (xs:List Str):Expr→Bool
 | .Name x _=>xs==[x]
 | .Tuple es _ _=>2≤xs.length&&xs.map some==es.map fun e=>match e with|.Name x _=>some x|_=>none
 | _=>false
section
variable (tb:Tab)
mutual
def matchE (names:List Str) (sc:Scope):E→Expr→Bool
 | .lit v,.Constant c _ _=>constIs v c
 | .glob x,.Name id _=>tb.gnames[x]?==some id&&globalAs sc id
 | .loc i,.Name id _=>readsAs names sc i id
 | .bin op a b,.BinOp l o r _=>bopIs op o&&matchE names sc a l&&matchE names sc b r
 | .neg a,.UnaryOp .USub x _=>matchE names sc a x
 | .not a,.UnaryOp .Not x _=>matchE names sc a x
 | .and a b,.BoolOp .And (x::y::r) _=>matchE names sc a x&&(match r with
  | []=>matchE names sc b y
  | _=>matchAnd names sc b (y::r))
 | .or a b,.BoolOp .Or (x::y::r) _=>matchE names sc a x&&(match r with
  | []=>matchE names sc b y
  | _=>matchOr names sc b (y::r))
 | .cmp op a b,.Compare l [o] [r] _=>copIs op o&&noneArg op b&&notSet r&&matchE names sc a l&&matchE names sc b r
 | .tup l,.Tuple es _ _=>matchEs names sc l es&&decide (l.length≤100)
 | .list l,.List es _=>matchEs names sc l es&&decide (l.length≤100)
 | .di,.Dict [] [] _=>true
 | .ds,.Dict [] [] _=>true
 | .dt,.Dict [] [] _=>true
 | .wd l,.Dict ks vs _=>matchEs names sc l vs&&(ks.length==l.length)&&decide (l.length≤15)&&decide (l.length≤tb.wks.length)&&decide (1≤l.length)&&(ks.zip tb.wks).all fun p=>match p.1 with
   | some (.Constant (.str x) _ _)=>x==p.2
   | _=>false
 | .idx a b,.Subscript v i _=>plainV v&&!isSlice i&&matchE names sc a v&&matchE names sc b i
 | .wk a k,.Subscript v (.Constant (.str x) _ _) _=>plainV v&&matchE names sc a v&&tb.wks[k]?==some x
 | .cut a k,.Subscript v (.Slice none (some (.Constant (.int n) _ _)) none _) _=>isName v&&matchE names sc a v&&n==k&&decide (k≤1000)
 | .attr a c i,.Attribute v x _=>plainBase v&&matchE names sc a v&&(tb.attrs.getD c [])[i]?==some x
 | .call f args,.Call (.Name x _) es [] _=>tb.gfns.contains (x,f)&&globalAs sc x&&matchEs names sc args es&&decide (args.length<14)
 | .new c f args,.Call (.Name x _) es [] _=>tb.cnames[c]?==some x&&globalAs sc x&&tb.inits.contains (c,f)&&matchEs names sc args es&&decide (args.length<14)
 | .new0 c,.Call (.Name x _) [] [] _=>tb.cnames[c]?==some x&&globalAs sc x&&tb.new0s.contains c
 | .meth o c f args,.Call (.Attribute v x apos) es [] pos=>plainBase v&&apos.endLine==pos.line&&matchE names sc o v&&tb.meths.contains (c,x,f)&&matchEs names sc args es&&decide (args.length<14)
 | .append o x,.Call (.Attribute v n apos) [e] [] pos=>n==("append":Str)&&plainBase v&&apos.endLine==pos.line&&matchE names sc o v&&matchE names sc x e&&notStar e
 | .pop o,.Call (.Attribute v n apos) [] [] pos=>n==("pop":Str)&&plainBase v&&apos.endLine==pos.line&&matchE names sc o v
 | .popAt o i,.Call (.Attribute v n apos) [e] [] pos=>n==("pop":Str)&&plainBase v&&apos.endLine==pos.line&&matchE names sc o v&&matchE names sc i e&&notStar e
 | .get1 o k,.Call (.Attribute v n apos) [e] [] pos=>n==("get":Str)&&plainBase v&&apos.endLine==pos.line&&matchE names sc o v&&matchE names sc k e&&notStar e
 | .get2 o k d,.Call (.Attribute v n apos) [e,e'] [] pos=>n==("get":Str)&&plainBase v&&apos.endLine==pos.line&&matchE names sc o v&&matchE names sc k e&&matchE names sc d e'&&notStar e&&notStar e'
 | .len a,.Call (.Name x _) [e] [] _=>x==("len":Str)&&globalAs sc x&&matchE names sc a e&&notStar e
 | .sorted a,.Call (.Name x _) [e] [] _=>x==("sorted":Str)&&globalAs sc x&&matchE names sc a e&&notStar e
 | .tupleOf a,.Call (.Name x _) [e] [] _=>x==("tuple":Str)&&globalAs sc x&&matchE names sc a e&&notStar e
 | .strOf a,.Call (.Name x _) [e] [] _=>x==("str":Str)&&globalAs sc x&&matchE names sc a e&&notStar e
 | .comp elt cap nt it cond,.ListComp e [⟨t,i,fs,0⟩] isc _ =>
  (match cap.mapM (names[·]?) with
  | some caps=>matchE names sc it i&&notSet i&&(match targetNames t with
   | some ts=>nt==1&&ts.length==nt&&targetIs ts t&&compScope sc isc caps ts&&decide ((caps++ts).Nodup)&&matchE (caps++ts) isc elt e&&(match cond,fs with
    | [],[]=>true
    | [c],[g]=>matchE (caps++ts) isc c g
    | _,_=>false)
   | none=>false)
  | none=>false)
 | .comp2 elt cap nt1 it1 nt2 it_2,.ListComp e [⟨t_1,i_1,[],0⟩,⟨t_2,i_2,[],0⟩] isc _ =>
  (match cap.mapM (names[·]?) with
  | some caps=>matchE names sc it1 i_1&&notSet i_1&&notSet i_2&&(match targetNames t_1,targetNames t_2 with
   | some ts1,some ts2=>nt1==1&&nt2==1&&ts1.length==nt1&&ts2.length==nt2&&targetIs ts1 t_1&&targetIs ts2 t_2&&compScope sc isc caps (ts1++ts2)&&decide ((caps++(ts1++ts2)).Nodup) &&
     matchE (caps++(ts1++ts2)) isc elt e&&matchE (caps++(ts1++ts2)) isc it_2 i_2
   | _,_=>false)
  | none=>false)
 | .inTid a,.Compare l [.In] [.Name x _] _=>matchE names sc a l&&x==("TID_PRIM":Str)&&globalAs sc x
 | _,_=>false
where
 plainV:Expr→Bool:=fun _=>true
 targetNames:Expr→Option (List Str)
  | .Name x _=>some [x]
  | .Tuple es _ _=>es.mapM fun e=>match e with|.Name x _=>some x|_=>none
  | _=>none
def matchAnd (names:List Str) (sc:Scope):E→List Expr→Bool
 | .and a b,x::y::r=>matchE names sc a x&&(match r with
  | []=>matchE names sc b y
  | _=>matchAnd names sc b (y::r))
 | _,_=>false
def matchOr (names:List Str) (sc:Scope):E→List Expr→Bool
 | .or a b,x::y::r=>matchE names sc a x&&(match r with
  | []=>matchE names sc b y
  | _=>matchOr names sc b (y::r))
 | _,_=>false
def matchEs (names:List Str) (sc:Scope):List E→List Expr→Bool
 | [],[]=>true
 | a::r,e::s=>notStar e&&matchE names sc a e&&matchEs names sc r s
 | _,_=>false
end
def bindsAs (names:List Str) (sc:Scope) (i:Nat) (x:Str):Bool:=names[i]?==some x&&kindIn sc x .local
def locsIs (names:List Str) (sc:Scope) (l:List Nat) (es:List Expr):Bool:=match l,es with
 | [],[]=>true
 | i::r,.Name x _::s=>bindsAs names sc i x&&locsIs names sc r s
 | _,_=>false
def matchT (names:List Str) (sc:Scope):T→Expr→Bool
 | .loc i,.Name x _=>bindsAs names sc i x
 | .locs l,.Tuple es _ _=>locsIs names sc l es&&decide (2≤l.length)
 | .attr a c i,.Attribute v x _=>matchE tb names sc a v&&(tb.attrs.getD c [])[i]?==some x
 | .idx a b,.Subscript v i _=>!isSlice i&&matchE tb names sc a v&&matchE tb names sc b i
 | .wk a k,.Subscript v (.Constant (.str x) _ _) _=>matchE tb names sc a v&&tb.wks[k]?==some x
 | _,_=>false
def forTarget (names:List Str) (sc:Scope) (l:List Nat):Expr→Bool
 | .Name x _=>match l with
  | [i]=>bindsAs names sc i x
  | _=>false
 | .Tuple es _ _=>locsIs names sc l es&&decide (2≤l.length)
 | _=>false
def assignOk:T→Expr→Expr→Bool
 | .loc _,.Name x p,.ListComp _ _ sc p'=>p.line==p'.line&&!(sc.names.any fun q=>q.1==x&&(q.2==.local||q.2==.cell))
 | .locs _,_,.Tuple ..=>false
 | _,_,_=>true
mutual
def matchS (names:List Str) (sc:Scope):S→Stmt→Bool
 | .assign t e,.Assign [t'] v _=>matchT tb names sc t t'&&matchE tb names sc e v&&assignOk t t' v
 | .aug (.loc i) op e,.AugAssign (.Name x _) o v _=>bindsAs names sc i x&&plainName x&&bopIs op o&&matchE tb names sc e v
 | .aug (.attr a c i) op e,.AugAssign (.Attribute b x _) o v _=>bopIs op o&&matchE tb names sc a b&&(tb.attrs.getD c [])[i]?==some x&&matchE tb names sc e v
 | .expr e,.Expr v _=>matchE tb names sc e v&&!isComp v
 | .ret e,.Return (some v) _=>matchE tb names sc e v
 | .ret e,.Return none _=>litNone e
 | .pass,.Pass _=>true
 | .ite c a b,.If t x y _=>matchE tb names sc c t&&matchSs names sc a x&&matchSs names sc b y
 | .while c b,.While t x [] _=>matchE tb names sc c t&&matchSs names sc b x
 | .forI t e b,.For t' i x [] _=>forTarget names sc t t'&&matchE tb names sc e i&&notSet i&&matchSs names sc b x
 | .forR t n b,.For t' (.Call (.Name r _) [m] [] _) x [] _=>forTarget names sc [t] t'&&r==("range":Str)&&globalAs sc r&&notStar m&&matchE tb names sc n m&&matchSs names sc b x
 | .stuck,_=>true
 | _,_=>false
def matchSs (names:List Str) (sc:Scope):List S→List Stmt→Bool
 | [],[]=>true
 | a::r,e::s=>matchS names sc a e&&matchSs names sc r s
 | _,_=>false
end
end
def fd_words_for:Fn:=⟨1,1,[.ite (.cmp .lt (.bin .add (.glob 1) (.loc 0)) (.glob 2)) [.ret (.glob 2)] [],.ret (.bin .add (.glob 1) (.loc 0))]⟩
def fd_Thing_init:Fn:=⟨4,4,[.assign (.attr (.loc 0) 0 0) (.loc 1),.assign (.attr (.loc 0) 0 1) (.loc 2),.assign (.attr (.loc 0) 0 2) (.loc 3),.assign (.attr (.loc 0) 0 3) (.lit (.int 0)),.assign (.attr (.loc 0) 0 4) (.call 0 [(.len (.loc 3))]),.assign (.attr (.loc 0) 0 5) (.lit (.int 0))]⟩
def fd_Heap_init:Fn:=⟨3,3,[.assign (.attr (.loc 0) 1 0) (.list []),.assign (.attr (.loc 0) 1 1) .di,.assign (.attr (.loc 0) 1 2) (.glob 0),.assign (.attr (.loc 0) 1 3) (.loc 1),.assign (.attr (.loc 0) 1 4) .di,.assign (.attr (.loc 0) 1 5) (.loc 2),.assign (.attr (.loc 0) 1 6) (.lit (.int 0)),.assign (.attr (.loc 0) 1 7) (.bin .add (.bin .fdiv (.loc 1) (.lit (.int 4))) (.lit (.int 1))),.assign (.attr (.loc 0) 1 8) (.list []),.assign (.attr (.loc 0) 1 9) (.list []),.assign (.attr (.loc 0) 1 10) (.lit (.int 0)),.assign (.attr (.loc 0) 1 11) (.lit (.int 0))]⟩
def fd_heap_alloc:Fn:=⟨3,4,[.assign (.loc 3) (.new 0 1 [(.attr (.loc 0) 1 2),(.loc 1),(.loc 2)]),.aug (.attr (.loc 0) 1 11) .add (.lit (.int 1)),.assign (.attr (.loc 3) 0 5) (.attr (.loc 0) 1 11),.expr (.append (.attr (.loc 0) 1 0) (.loc 3)),.assign (.idx (.attr (.loc 0) 1 1) (.attr (.loc 3) 0 0)) (.loc 3),.aug (.attr (.loc 0) 1 2) .add (.attr (.loc 3) 0 4),.aug (.attr (.loc 0) 1 6) .add (.attr (.loc 3) 0 4),.ret (.loc 3)]⟩
def fd_used_words:Fn:=⟨1,1,[.ret (.bin .sub (.attr (.loc 0) 1 2) (.glob 0))]⟩
def fd_note_collected:Fn:=⟨2,2,[.assign (.attr (.loc 0) 1 6) (.lit (.int 0)),.ite (.and (.cmp .ge (.loc 1) (.glob 3)) (.cmp .gt (.bin .mul (.lit (.int 2)) (.call 4 [(.loc 0)])) (.attr (.loc 0) 1 3))) [.assign (.attr (.loc 0) 1 3) (.bin .mul (.lit (.int 2)) (.call 4 [(.loc 0)]))] []]⟩
def fd_find_thing:Fn:=⟨2,7,[.assign (.loc 2) (.get1 (.attr (.loc 0) 1 1) (.loc 1)),.ite (.cmp .isNot (.loc 2) (.lit .none)) [.ret (.loc 2)] [],.assign (.loc 3) (.lit (.int 0)),.assign (.loc 4) (.len (.attr (.loc 0) 1 0)),.while (.cmp .lt (.loc 3) (.loc 4)) [.assign (.loc 5) (.bin .fdiv (.bin .add (.loc 3) (.loc 4)) (.lit (.int 2))),.ite (.cmp .le (.attr (.idx (.attr (.loc 0) 1 0) (.loc 5)) 0 0) (.loc 1)) [.assign (.loc 3) (.bin .add (.loc 5) (.lit (.int 1)))] [.assign (.loc 4) (.loc 5)]],.ite (.cmp .eq (.loc 3) (.lit (.int 0))) [.ret (.lit .none)] [],.assign (.loc 6) (.idx (.attr (.loc 0) 1 0) (.bin .sub (.loc 3) (.lit (.int 1)))),.ite (.cmp .lt (.loc 1) (.bin .add (.attr (.loc 6) 0 0) (.attr (.loc 6) 0 4))) [.ret (.loc 6)] [],.ret (.lit .none)]⟩
def fd_slot_word:Fn:=⟨2,2,[.ret (.bin .add (.bin .add (.attr (.loc 0) 0 0) (.glob 1)) (.loc 1))]⟩
def fd_card_number:Fn:=⟨2,2,[.ret (.bin .shr (.loc 1) (.attr (.loc 0) 1 5))]⟩
def fd_KindTable_init:Fn:=⟨1,3,[.assign (.attr (.loc 0) 2 0) (.list []),.assign (.attr (.loc 0) 2 1) .dt,.assign (.attr (.loc 0) 2 2) (.list []),.assign (.attr (.loc 0) 2 3) (.list []),.assign (.attr (.loc 0) 2 4) (.list []),.forR 1 (.glob 20) [.assign (.loc 2) (.tup [(.glob 21),(.loc 1)]),.expr (.append (.attr (.loc 0) 2 0) (.loc 2)),.assign (.idx (.attr (.loc 0) 2 1) (.loc 2)) (.loc 1),.expr (.append (.attr (.loc 0) 2 2) (.lit (.int 1))),.expr (.append (.attr (.loc 0) 2 3) (.lit (.int 1))),.expr (.append (.attr (.loc 0) 2 4) (.lit (.int 0)))]]⟩
def fd_KindTable_put:Fn:=⟨2,9,[.assign (.loc 2) (.get2 (.attr (.loc 0) 2 1) (.loc 1) (.neg (.lit (.int 1)))),.ite (.cmp .ge (.loc 2) (.lit (.int 0))) [.ret (.loc 2)] [],.expr (.call 14 [(.loc 0),(.loc 1)]),.assign (.loc 3) (.lit (.int 1)),.assign (.loc 4) (.lit (.int 1)),.assign (.loc 5) (.lit (.int 0)),.ite (.or (.cmp .eq (.idx (.loc 1) (.lit (.int 0))) (.glob 26)) (.cmp .eq (.idx (.loc 1) (.lit (.int 0))) (.glob 27))) [.assign (.loc 5) (.lit (.int 1))] [],.assign (.loc 6) (.call 12 [(.idx (.loc 1) (.lit (.int 0)))]),.forI [7] (.call 11 [(.loc 1)]) [.ite (.cmp .gt (.bin .add (.idx (.attr (.loc 0) 2 2) (.loc 7)) (.loc 6)) (.loc 3)) [.assign (.loc 3) (.bin .add (.idx (.attr (.loc 0) 2 2) (.loc 7)) (.loc 6))] [],.aug (.loc 4) .add (.idx (.attr (.loc 0) 2 3) (.loc 7)),.ite (.cmp .eq (.idx (.attr (.loc 0) 2 4) (.loc 7)) (.lit (.int 1))) [.assign (.loc 5) (.lit (.int 1))] []],.ite (.cmp .gt (.loc 3) (.glob 32)) [.stuck] [],.ite (.cmp .gt (.loc 4) (.glob 33)) [.stuck] [],.assign (.loc 8) (.len (.attr (.loc 0) 2 0)),.expr (.append (.attr (.loc 0) 2 0) (.loc 1)),.assign (.idx (.attr (.loc 0) 2 1) (.loc 1)) (.loc 8),.expr (.append (.attr (.loc 0) 2 2) (.loc 3)),.expr (.append (.attr (.loc 0) 2 3) (.loc 4)),.expr (.append (.attr (.loc 0) 2 4) (.loc 5)),.ret (.loc 8)]⟩
def fd_inner_kinds:Fn:=⟨1,2,[.assign (.loc 1) (.idx (.loc 0) (.lit (.int 0))),.ite (.or (.cmp .eq (.loc 1) (.glob 22)) (.cmp .eq (.loc 1) (.glob 23))) [.ret (.idx (.loc 0) (.lit (.int 2)))] [],.ite (.or (.cmp .eq (.loc 1) (.glob 24)) (.or (.cmp .eq (.loc 1) (.glob 25)) (.or (.cmp .eq (.loc 1) (.glob 28)) (.or (.cmp .eq (.loc 1) (.glob 29)) (.cmp .eq (.loc 1) (.glob 31)))))) [.ret (.tup [(.idx (.loc 0) (.lit (.int 1)))])] [],.ite (.cmp .eq (.loc 1) (.glob 30)) [.ret (.bin .add (.tup [(.idx (.loc 0) (.lit (.int 1)))]) (.idx (.loc 0) (.lit (.int 3))))] [],.ret (.tup [])]⟩
def fd_row_level:Fn:=⟨1,1,[.ite (.or (.cmp .eq (.loc 0) (.glob 22)) (.or (.cmp .eq (.loc 0) (.glob 23)) (.cmp .eq (.loc 0) (.glob 24)))) [.ret (.lit (.int 1))] [],.ret (.lit (.int 0))]⟩
def fd_row_length:Fn:=⟨1,1,[.ite (.or (.cmp .eq (.loc 0) (.glob 22)) (.cmp .eq (.loc 0) (.glob 23))) [.ret (.lit (.int 3))] [],.ite (.cmp .eq (.loc 0) (.glob 30)) [.ret (.lit (.int 4))] [],.ret (.lit (.int 2))]⟩
def fd_check_kind_row:Fn:=⟨2,4,[.ite (.or (.cmp .eq (.len (.loc 1)) (.lit (.int 0))) (.or (.cmp .le (.idx (.loc 1) (.lit (.int 0))) (.glob 21)) (.cmp .gt (.idx (.loc 1) (.lit (.int 0))) (.glob 31)))) [.stuck] [],.assign (.loc 2) (.idx (.loc 1) (.lit (.int 0))),.ite (.cmp .ne (.len (.loc 1)) (.call 13 [(.loc 2)])) [.stuck] [],.forI [3] (.call 11 [(.loc 1)]) [.stuck],.ite (.or (.cmp .eq (.loc 2) (.glob 22)) (.cmp .eq (.loc 2) (.glob 23))) [.expr (.call 15 [(.loc 0),(.loc 1)])] [.ite (.or (.cmp .eq (.loc 2) (.glob 26)) (.cmp .eq (.loc 2) (.glob 27))) [.ite (.cmp .lt (.idx (.loc 1) (.lit (.int 1))) (.lit (.int 0))) [.stuck] []] [.ite (.cmp .eq (.loc 2) (.glob 30)) [.stuck,.expr (.call 16 [(.loc 0),(.idx (.loc 1) (.lit (.int 3)))])] [.ite (.cmp .eq (.loc 2) (.glob 28)) [.stuck] [.stuck]]]]]⟩
def fd_check_named:Fn:=⟨2,2,[.ite (.or (.cmp .le (.idx (.loc 1) (.lit (.int 1))) (.lit (.int 0))) (.inTid (.idx (.loc 1) (.lit (.int 1))))) [.stuck] [],.expr (.call 16 [(.loc 0),(.idx (.loc 1) (.lit (.int 2)))])]⟩
def fd_check_args:Fn:=⟨2,3,[.forI [2] (.loc 1) [.stuck]]⟩
def fd_class_kind:Fn:=⟨3,3,[.ite (.inTid (.loc 1)) [.stuck] [],.ret (.meth (.loc 0) 2 10 [(.tup [(.glob 22),(.loc 1),(.loc 2)])])]⟩
def fd_value_kind:Fn:=⟨3,3,[.ite (.inTid (.loc 1)) [.stuck] [],.ret (.meth (.loc 0) 2 10 [(.tup [(.glob 23),(.loc 1),(.loc 2)])])]⟩
def fd_refs_in:Fn:=⟨1,5,[.ite (.cmp .eq (.idx (.loc 0) (.lit (.int 0))) (.glob 37)) [.ite (.cmp .eq (.idx (.loc 0) (.lit (.int 1))) (.lit (.int 0))) [.ret (.list [])] [],.ret (.list [(.idx (.loc 0) (.lit (.int 1)))])] [],.ite (.cmp .ne (.idx (.loc 0) (.lit (.int 0))) (.glob 38)) [.ret (.list [])] [],.assign (.loc 1) (.list []),.assign (.loc 2) (.list [(.loc 0)]),.while (.cmp .gt (.len (.loc 2)) (.lit (.int 0))) [.assign (.loc 3) (.pop (.loc 2)),.ite (.cmp .eq (.idx (.loc 3) (.lit (.int 0))) (.glob 38)) [.assign (.loc 4) (.bin .sub (.len (.idx (.loc 3) (.lit (.int 2)))) (.lit (.int 1))),.while (.cmp .ge (.loc 4) (.lit (.int 0))) [.expr (.append (.loc 2) (.idx (.idx (.loc 3) (.lit (.int 2))) (.loc 4))),.aug (.loc 4) .sub (.lit (.int 1))]] [.ite (.and (.cmp .eq (.idx (.loc 3) (.lit (.int 0))) (.glob 37)) (.cmp .ne (.idx (.loc 3) (.lit (.int 1))) (.lit (.int 0)))) [.expr (.append (.loc 1) (.idx (.loc 3) (.lit (.int 1))))] []]],.ret (.loc 1)]⟩
def fd_move_value:Fn:=⟨3,3,[.ite (.cmp .eq (.idx (.loc 0) (.lit (.int 0))) (.glob 38)) [.ret (.call 22 [(.loc 0),(.loc 1),(.loc 2)])] [],.ret (.call 21 [(.loc 0),(.loc 1),(.loc 2)])]⟩
def fd_move_plain:Fn:=⟨3,4,[.ite (.cmp .eq (.idx (.loc 0) (.lit (.int 0))) (.glob 37)) [.ret (.tup [(.glob 37),(.get2 (.loc 1) (.idx (.loc 0) (.lit (.int 1))) (.idx (.loc 0) (.lit (.int 1))))])] [],.ite (.and (.cmp .eq (.idx (.loc 0) (.lit (.int 0))) (.glob 39)) (.cmp .eq (.idx (.idx (.loc 0) (.lit (.int 1))) (.lit (.int 0))) (.glob 44))) [.assign (.loc 3) (.idx (.loc 0) (.lit (.int 1))),.ret (.tup [(.glob 39),(.tup [(.glob 44),(.meth (.loc 2) 3 41 [(.idx (.loc 3) (.lit (.int 1)))]),(.idx (.loc 3) (.lit (.int 2)))])])] [],.ret (.loc 0)]⟩
def fd_move_struct:Fn:=⟨3,8,[.assign (.loc 3) (.list [(.tup [(.loc 0),(.list [])])]),.assign (.loc 4) (.loc 0),.while (.cmp .gt (.len (.loc 3)) (.lit (.int 0))) [.assign (.locs [5,6]) (.idx (.loc 3) (.bin .sub (.len (.loc 3)) (.lit (.int 1)))),.ite (.cmp .eq (.len (.loc 6)) (.len (.idx (.loc 5) (.lit (.int 2))))) [.assign (.loc 4) (.tup [(.glob 38),(.idx (.loc 5) (.lit (.int 1))),(.tupleOf (.loc 6))]),.expr (.pop (.loc 3)),.ite (.cmp .gt (.len (.loc 3)) (.lit (.int 0))) [.expr (.append (.idx (.idx (.loc 3) (.bin .sub (.len (.loc 3)) (.lit (.int 1)))) (.lit (.int 1))) (.loc 4))] []] [.assign (.loc 7) (.idx (.idx (.loc 5) (.lit (.int 2))) (.len (.loc 6))),.ite (.cmp .eq (.idx (.loc 7) (.lit (.int 0))) (.glob 38)) [.expr (.append (.loc 3) (.tup [(.loc 7),(.list [])]))] [.expr (.append (.loc 6) (.call 21 [(.loc 7),(.loc 1),(.loc 2)]))]]],.ret (.loc 4)]⟩
def fd_words_of:Fn:=⟨1,2,[.ite (.cmp .eq (.idx (.loc 0) (.lit (.int 0))) (.glob 37)) [.ret (.list [(.idx (.loc 0) (.lit (.int 1)))])] [],.ite (.cmp .eq (.idx (.loc 0) (.lit (.int 0))) (.glob 39)) [.assign (.loc 1) (.idx (.loc 0) (.lit (.int 1))),.ite (.cmp .eq (.idx (.loc 1) (.lit (.int 0))) (.glob 44)) [.ret (.list [(.idx (.loc 1) (.lit (.int 1)))])] [],.ret (.list [])] [],.ret (.call 19 [(.loc 0)])]⟩
def fd_push_word:Fn:=⟨5,6,[.ite (.cmp .eq (.loc 1) (.lit (.int 0))) [.ret (.lit .none)] [],.assign (.loc 5) (.call 6 [(.loc 0),(.loc 1)]),.ite (.or (.cmp .isNone (.loc 5) (.lit .none)) (.or (.cmp .gt (.attr (.loc 5) 0 3) (.loc 2)) (.cmp .mem (.attr (.loc 5) 0 0) (.loc 3)))) [.ret (.lit .none)] [],.assign (.idx (.loc 3) (.attr (.loc 5) 0 0)) (.lit (.int 1)),.expr (.append (.loc 4) (.loc 5))]⟩
def fd_push_value:Fn:=⟨5,6,[.forI [5] (.call 23 [(.loc 1)]) [.expr (.call 24 [(.loc 0),(.loc 5),(.loc 2),(.loc 3),(.loc 4)])]]⟩
def fd_drain:Fn:=⟨4,6,[.while (.cmp .gt (.len (.loc 1)) (.lit (.int 0))) [.assign (.loc 4) (.pop (.loc 1)),.forI [5] (.attr (.loc 4) 0 2) [.expr (.call 25 [(.loc 0),(.loc 5),(.loc 2),(.loc 3),(.loc 1)])]]]⟩
def fd_old_slots:Fn:=⟨2,5,[.assign (.loc 2) (.list []),.forI [3] (.attr (.loc 0) 1 0) [.ite (.cmp .gt (.attr (.loc 3) 0 3) (.loc 1)) [.forR 4 (.len (.attr (.loc 3) 0 2)) [.ite (.cmp .mem (.call 8 [(.loc 0),(.call 7 [(.loc 3),(.loc 4)])]) (.attr (.loc 0) 1 4)) [.expr (.append (.loc 2) (.tup [(.loc 3),(.loc 4)]))] []]] []],.ret (.loc 2)]⟩
def fd_mark:Fn:=⟨3,9,[.assign (.loc 3) .di,.assign (.loc 4) (.list []),.forI [5] (.loc 1) [.forI [6] (.loc 5) [.expr (.call 25 [(.loc 0),(.loc 6),(.loc 2),(.loc 3),(.loc 4)])]],.ite (.cmp .lt (.loc 2) (.glob 3)) [.forI [7,8] (.call 27 [(.loc 0),(.loc 2)]) [.expr (.call 25 [(.loc 0),(.idx (.attr (.loc 7) 0 2) (.loc 8)),(.loc 2),(.loc 3),(.loc 4)])]] [],.expr (.call 26 [(.loc 0),(.loc 4),(.loc 2),(.loc 3)]),.ret (.loc 3)]⟩
def fd_reach_more:Fn:=⟨4,6,[.assign (.loc 4) (.list []),.forI [5] (.loc 2) [.expr (.call 24 [(.loc 0),(.loc 5),(.loc 3),(.loc 1),(.loc 4)])],.expr (.call 26 [(.loc 0),(.loc 4),(.loc 3),(.loc 1)])]⟩
def fd_refers_younger:Fn:=⟨3,5,[.forI [3] (.call 19 [(.loc 2)]) [.assign (.loc 4) (.get1 (.attr (.loc 0) 1 1) (.loc 3)),.ite (.and (.cmp .isNot (.loc 4) (.lit .none)) (.cmp .lt (.attr (.loc 4) 0 3) (.attr (.loc 1) 0 3))) [.ret (.lit (.bool true))] []],.ret (.lit (.bool false))]⟩
def fd_younger_slots:Fn:=⟨1,4,[.assign (.loc 1) (.list []),.forI [2] (.attr (.loc 0) 1 0) [.ite (.cmp .gt (.attr (.loc 2) 0 3) (.lit (.int 0))) [.forR 3 (.len (.attr (.loc 2) 0 2)) [.ite (.call 30 [(.loc 0),(.loc 2),(.idx (.attr (.loc 2) 0 2) (.loc 3))]) [.expr (.append (.loc 1) (.tup [(.loc 2),(.loc 3)]))] []]] []],.ret (.loc 1)]⟩
def fd_renew_cards:Fn:=⟨1,3,[.assign (.attr (.loc 0) 1 4) .di,.forI [1,2] (.call 31 [(.loc 0)]) [.stuck]]⟩
def fd_Handles_init:Fn:=⟨1,1,[.assign (.attr (.loc 0) 4 0) (.list [])]⟩
def fd_strong_values:Fn:=⟨1,3,[.assign (.loc 1) (.list []),.forI [2] (.attr (.loc 0) 4 0) [.ite (.and (.cmp .eq (.idx (.loc 2) (.glob 48)) (.glob 47)) (.and (.cmp .eq (.idx (.loc 2) (.glob 50)) (.lit (.int 1))) (.cmp .ne (.idx (.loc 2) (.glob 49)) (.lit (.int 0))))) [.expr (.append (.loc 1) (.tup [(.glob 37),(.idx (.loc 2) (.glob 49))]))] []],.ret (.loc 1)]⟩
def fd_clear_handles:Fn:=⟨5,7,[.assign (.loc 5) (.lit (.int 0)),.forI [6] (.attr (.loc 0) 4 0) [.stuck],.ret (.loc 5)]⟩
def fd_move_handles:Fn:=⟨2,3,[.forI [2] (.attr (.loc 0) 4 0) [.ite (.cmp .mem (.idx (.loc 2) (.glob 49)) (.loc 1)) [.assign (.idx (.loc 2) (.glob 49)) (.idx (.loc 1) (.idx (.loc 2) (.glob 49)))] []]]⟩
def fd_pick_finals:Fn:=⟨3,6,[.assign (.loc 3) (.list []),.assign (.loc 4) (.list []),.forI [5] (.attr (.loc 0) 1 8) [.stuck],.assign (.attr (.loc 0) 1 8) (.loc 3),.ret (.loc 4)]⟩
def fd_end_of_older:Fn:=⟨2,4,[.assign (.loc 2) (.glob 0),.forI [3] (.attr (.loc 0) 1 0) [.ite (.and (.cmp .gt (.attr (.loc 3) 0 3) (.loc 1)) (.cmp .gt (.bin .add (.attr (.loc 3) 0 0) (.attr (.loc 3) 0 4)) (.loc 2))) [.assign (.loc 2) (.bin .add (.attr (.loc 3) 0 0) (.attr (.loc 3) 0 4))] []],.ret (.loc 2)]⟩
def fd_plan_moves:Fn:=⟨3,6,[.assign (.loc 3) .di,.assign (.loc 4) (.call 38 [(.loc 0),(.loc 2)]),.forI [5] (.attr (.loc 0) 1 0) [.ite (.and (.cmp .le (.attr (.loc 5) 0 3) (.loc 2)) (.cmp .mem (.attr (.loc 5) 0 0) (.loc 1))) [.assign (.idx (.loc 3) (.attr (.loc 5) 0 0)) (.loc 4),.aug (.loc 4) .add (.attr (.loc 5) 0 4)] []],.ret (.loc 3)]⟩
def fd_Words_init:Fn:=⟨3,3,[.assign (.attr (.loc 0) 3 0) (.loc 1),.assign (.attr (.loc 0) 3 1) (.loc 2)]⟩
def fd_Words_new_word:Fn:=⟨2,2,[.ret (.call 42 [(.attr (.loc 0) 3 0),(.attr (.loc 0) 3 1),(.loc 1)])]⟩
def fd_moved_word:Fn:=⟨3,4,[.assign (.loc 3) (.call 6 [(.loc 0),(.loc 2)]),.ite (.or (.cmp .isNone (.loc 3) (.lit .none)) (.cmp .nmem (.attr (.loc 3) 0 0) (.loc 1))) [.ret (.loc 2)] [],.ret (.bin .add (.bin .sub (.loc 2) (.attr (.loc 3) 0 0)) (.idx (.loc 1) (.attr (.loc 3) 0 0)))]⟩
def fd_stays:Fn:=⟨3,3,[.ret (.or (.cmp .gt (.attr (.loc 0) 0 3) (.loc 2)) (.cmp .mem (.attr (.loc 0) 0 0) (.loc 1)))]⟩
def fd_moved_values:Fn:=⟨3,5,[.assign (.loc 3) (.list []),.forI [4] (.loc 0) [.expr (.append (.loc 3) (.call 20 [(.loc 4),(.loc 1),(.loc 2)]))],.ret (.loc 3)]⟩
def fd_new_lists:Fn:=⟨3,5,[.assign (.loc 3) (.list []),.forI [4] (.loc 0) [.expr (.append (.loc 3) (.call 44 [(.loc 4),(.loc 1),(.loc 2)]))],.ret (.loc 3)]⟩
def fd_put_lists:Fn:=⟨2,5,[.forR 2 (.len (.loc 0)) [.assign (.loc 3) (.idx (.loc 0) (.loc 2)),.forR 4 (.len (.loc 3)) [.assign (.idx (.loc 3) (.loc 4)) (.idx (.idx (.loc 1) (.loc 2)) (.loc 4))]]]⟩
def fd_moved_addrs:Fn:=⟨2,4,[.assign (.loc 2) (.list []),.forI [3] (.loc 0) [.expr (.append (.loc 2) (.get2 (.loc 1) (.loc 3) (.loc 3)))],.ret (.loc 2)]⟩
def fd_settle_thing:Fn:=⟨4,5,[.ite (.cmp .gt (.attr (.loc 1) 0 3) (.loc 3)) [.ret (.lit .none)] [],.assign (.loc 4) (.idx (.loc 2) (.attr (.loc 1) 0 0)),.ite (.cmp .ne (.loc 4) (.attr (.loc 1) 0 0)) [.aug (.attr (.loc 0) 1 10) .add (.lit (.int 1))] [],.assign (.attr (.loc 1) 0 0) (.loc 4),.ite (.cmp .lt (.attr (.loc 1) 0 3) (.glob 3)) [.aug (.attr (.loc 1) 0 3) .add (.lit (.int 1))] []]⟩
def fd_settle_things:Fn:=⟨3,5,[.assign (.loc 3) (.list []),.forI [4] (.attr (.loc 0) 1 0) [.ite (.call 43 [(.loc 4),(.loc 1),(.loc 2)]) [.expr (.append (.loc 3) (.loc 4))] []],.assign (.attr (.loc 0) 1 0) (.loc 3),.assign (.attr (.loc 0) 1 1) .di,.assign (.attr (.loc 0) 1 2) (.glob 0),.forI [4] (.loc 3) [.expr (.call 48 [(.loc 0),(.loc 4),(.loc 1),(.loc 2)]),.assign (.idx (.attr (.loc 0) 1 1) (.attr (.loc 4) 0 0)) (.loc 4),.assign (.attr (.loc 0) 1 2) (.bin .add (.attr (.loc 4) 0 0) (.attr (.loc 4) 0 4))]]⟩
def fd_move_all:Fn:=⟨4,8,[.assign (.loc 4) (.new 3 40 [(.loc 0),(.loc 2)]),.assign (.loc 5) (.list []),.forI [6] (.loc 1) [.expr (.append (.loc 5) (.loc 6))],.expr (.append (.loc 5) (.attr (.loc 0) 1 9)),.forI [7] (.attr (.loc 0) 1 0) [.ite (.call 43 [(.loc 7),(.loc 2),(.loc 3)]) [.expr (.append (.loc 5) (.attr (.loc 7) 0 2))] []],.expr (.call 46 [(.loc 5),(.call 45 [(.loc 5),(.loc 2),(.loc 4)])]),.assign (.attr (.loc 0) 1 8) (.call 47 [(.attr (.loc 0) 1 8),(.loc 2)]),.expr (.call 49 [(.loc 0),(.loc 2),(.loc 3)])]⟩
def fd_root_lists:Fn:=⟨3,5,[.assign (.loc 3) (.list []),.forI [4] (.loc 1) [.expr (.append (.loc 3) (.loc 4))],.expr (.append (.loc 3) (.attr (.loc 0) 1 9)),.ite (.cmp .isNot (.loc 2) (.lit .none)) [.expr (.append (.loc 3) (.call 34 [(.loc 2)]))] [],.ret (.loc 3)]⟩
def fd_find_living:Fn:=⟨4,6,[.assign (.loc 4) (.call 28 [(.loc 0),(.call 51 [(.loc 0),(.loc 1),(.loc 2)]),(.loc 3)]),.ite (.cmp .isNot (.loc 2) (.lit .none)) [.expr (.call 35 [(.loc 2),(.glob 45),(.loc 4),(.loc 0),(.loc 3)])] [],.assign (.loc 5) (.call 37 [(.loc 0),(.loc 4),(.loc 3)]),.expr (.call 29 [(.loc 0),(.loc 4),(.loc 5),(.loc 3)]),.ite (.cmp .isNot (.loc 2) (.lit .none)) [.expr (.call 35 [(.loc 2),(.glob 46),(.loc 4),(.loc 0),(.loc 3)])] [],.ret (.loc 4)]⟩
def fd_collect:Fn:=⟨4,7,[.assign (.loc 4) (.len (.attr (.loc 0) 1 0)),.assign (.loc 5) (.call 52 [(.loc 0),(.loc 1),(.loc 2),(.loc 3)]),.assign (.loc 6) (.call 39 [(.loc 0),(.loc 5),(.loc 3)]),.expr (.call 50 [(.loc 0),(.loc 1),(.loc 6),(.loc 3)]),.ite (.cmp .isNot (.loc 2) (.lit .none)) [.expr (.call 36 [(.loc 2),(.loc 6)])] [],.expr (.call 32 [(.loc 0)]),.expr (.call 5 [(.loc 0),(.loc 3)]),.ret (.bin .sub (.loc 4) (.len (.attr (.loc 0) 1 0)))]⟩
def fd_roots:Fn:=⟨1,6,[.assign (.loc 1) (.list []),.forI [2] (.attr (.loc 0) 10 9) [.ite (.cmp .eq (.attr (.loc 2) 6 12) (.attr (.loc 2) 6 0)) [.expr (.append (.loc 1) (.attr (.loc 2) 6 4)),.expr (.append (.loc 1) (.attr (.loc 2) 6 5))] [],.expr (.append (.loc 1) (.attr (.loc 2) 6 6)),.expr (.append (.loc 1) (.attr (.loc 2) 6 10)),.expr (.append (.loc 1) (.attr (.loc 2) 6 9))],.forI [3] (.sorted (.attr (.loc 0) 10 11)) [.expr (.append (.loc 1) (.idx (.attr (.loc 0) 10 11) (.loc 3)))],.forI [4] (.attr (.loc 0) 10 21) [.expr (.append (.loc 1) (.attr (.loc 4) 11 1))],.expr (.append (.loc 1) (.attr (.loc 0) 10 23)),.forI [5] (.attr (.loc 0) 10 24) [.expr (.append (.loc 1) (.loc 5))],.forI [3] (.sorted (.attr (.loc 0) 10 13)) [.expr (.append (.loc 1) (.idx (.attr (.loc 0) 10 13) (.loc 3)))],.expr (.append (.loc 1) (.attr (.loc 0) 10 27)),.ret (.loc 1)]⟩
def fd_collect_for:Fn:=⟨2,2,[.ite (.cmp .isNone (.attr (.loc 0) 10 28) (.lit .none)) [.assign (.attr (.loc 0) 10 28) (.new 4 33 [])] [],.ret (.call 53 [(.attr (.loc 0) 10 2),(.call 54 [(.loc 0)]),(.attr (.loc 0) 10 28),(.loc 1)])]⟩
def fd_PlaceHost_init:Fn:=⟨4,4,[.assign (.attr (.loc 0) 5 0) (.loc 1),.assign (.attr (.loc 0) 5 1) (.loc 2),.assign (.attr (.loc 0) 5 2) (.loc 3)]⟩
def fd_Frame_init:Fn:=⟨6,6,[.assign (.attr (.loc 0) 6 0) (.loc 1),.assign (.attr (.loc 0) 6 1) (.loc 2),.assign (.attr (.loc 0) 6 2) (.loc 3),.assign (.attr (.loc 0) 6 3) (.lit (.int 0)),.assign (.attr (.loc 0) 6 4) (.loc 4),.assign (.attr (.loc 0) 6 5) (.list []),.assign (.attr (.loc 0) 6 6) (.list []),.assign (.attr (.loc 0) 6 7) (.list []),.assign (.attr (.loc 0) 6 8) (.list []),.assign (.attr (.loc 0) 6 9) (.list []),.assign (.attr (.loc 0) 6 10) (.list []),.assign (.attr (.loc 0) 6 11) (.loc 5),.assign (.attr (.loc 0) 6 12) (.loc 1),.assign (.attr (.loc 0) 6 13) (.lit (.int 0)),.assign (.attr (.loc 0) 6 14) (.neg (.lit (.int 1)))]⟩
def fd_Sweeper_before:Fn:=⟨2,2,[.ret (.lit .none)]⟩
def fd_Shelf_init:Fn:=⟨3,3,[.assign (.attr (.loc 0) 10 0) (.loc 1),.assign (.attr (.loc 0) 10 1) (.attr (.loc 1) 12 0),.assign (.attr (.loc 0) 10 2) (.loc 2),.assign (.attr (.loc 0) 10 3) .dt,.assign (.attr (.loc 0) 10 4) .di,.assign (.attr (.loc 0) 10 5) .di,.assign (.attr (.loc 0) 10 6) .di,.assign (.attr (.loc 0) 10 7) .di,.assign (.attr (.loc 0) 10 8) .di,.assign (.attr (.loc 0) 10 9) (.list []),.assign (.attr (.loc 0) 10 10) .di,.assign (.attr (.loc 0) 10 11) .di,.assign (.attr (.loc 0) 10 12) .di,.assign (.attr (.loc 0) 10 13) .di,.assign (.attr (.loc 0) 10 14) .di,.assign (.attr (.loc 0) 10 15) .di,.assign (.attr (.loc 0) 10 16) (.glob 52),.assign (.attr (.loc 0) 10 17) (.list []),.assign (.attr (.loc 0) 10 18) (.list []),.assign (.attr (.loc 0) 10 19) (.list []),.assign (.attr (.loc 0) 10 20) (.list []),.assign (.attr (.loc 0) 10 21) (.list []),.assign (.attr (.loc 0) 10 22) .ds,.assign (.attr (.loc 0) 10 23) (.list []),.assign (.attr (.loc 0) 10 24) (.list []),.assign (.attr (.loc 0) 10 25) (.lit .none),.assign (.attr (.loc 0) 10 26) (.lit .none),.assign (.attr (.loc 0) 10 27) (.list []),.assign (.attr (.loc 0) 10 28) (.lit .none),.assign (.attr (.loc 0) 10 29) (.new 5 56 [(.loc 2),(.attr (.loc 0) 10 10),(.attr (.loc 0) 10 11)]),.assign (.attr (.loc 0) 10 30) (.new0 7),.assign (.attr (.loc 0) 10 31) (.new0 9),.assign (.attr (.loc 0) 10 32) (.new0 8)]⟩
def fd_Shelf_alloc:Fn:=⟨3,3,[.ret (.call 64 [(.loc 0),(.loc 1),(.loc 2)])]⟩
def fd_Shelf_text_ref:Fn:=⟨2,2,[.ret (.call 66 [(.loc 0),(.loc 1)])]⟩
def fd_Shelf_new_text:Fn:=⟨2,2,[.ret (.call 65 [(.loc 0),(.loc 1)])]⟩
def fd_first_slots:Fn:=⟨3,6,[.ite (.cmp .eq (.loc 1) (.glob 18)) [.ret (.list [(.tup [(.glob 41),(.lit (.str (sO "")))])])] [],.stuck,.stuck,.ite (.cmp .eq (.loc 3) (.glob 24)) [.stuck] [],.assign (.loc 4) (.list []),.ite (.cmp .eq (.loc 3) (.glob 22)) [.stuck] [],.while (.cmp .lt (.len (.loc 4)) (.loc 2)) [.expr (.append (.loc 4) (.glob 42))],.ret (.loc 4)]⟩
def fd_alloc_thing:Fn:=⟨3,3,[.expr (.meth (.attr (.loc 0) 10 32) 8 58 [(.loc 0)]),.ret (.call 3 [(.attr (.loc 0) 10 2),(.loc 1),(.call 63 [(.loc 0),(.loc 1),(.loc 2)])])]⟩
def fd_made_text:Fn:=⟨2,3,[.assign (.loc 2) (.meth (.loc 0) 10 60 [(.glob 18),(.lit (.int 1))]),.assign (.idx (.attr (.loc 2) 0 2) (.lit (.int 0))) (.tup [(.glob 41),(.loc 1)]),.ret (.tup [(.glob 37),(.attr (.loc 2) 0 0)])]⟩
def fd_interned_text:Fn:=⟨2,4,[.assign (.loc 2) (.get2 (.attr (.loc 0) 10 22) (.loc 1) (.neg (.lit (.int 1)))),.ite (.cmp .ge (.loc 2) (.lit (.int 0))) [.ret (.idx (.attr (.loc 0) 10 23) (.loc 2))] [],.assign (.loc 3) (.meth (.loc 0) 10 62 [(.loc 1)]),.assign (.idx (.attr (.loc 0) 10 22) (.loc 1)) (.len (.attr (.loc 0) 10 23)),.expr (.append (.attr (.loc 0) 10 23) (.loc 3)),.ret (.loc 3)]⟩
def fd_Chase_init:Fn:=⟨5,5,[.assign (.attr (.loc 0) 11 0) (.loc 1),.assign (.attr (.loc 0) 11 1) (.list [(.loc 2)]),.assign (.attr (.loc 0) 11 2) (.loc 3),.assign (.attr (.loc 0) 11 3) (.lit (.int 1)),.assign (.attr (.loc 0) 11 4) (.loc 4),.assign (.attr (.loc 0) 11 5) (.lit (.int 0)),.assign (.attr (.loc 0) 11 6) (.lit .none),.assign (.attr (.loc 0) 11 7) (.lit (.int 0)),.assign (.attr (.loc 0) 11 8) (.neg (.lit (.int 1)))]⟩
def fd_Store_init:Fn:=⟨1,1,[.assign (.attr (.loc 0) 12 0) (.new 2 9 []),.assign (.attr (.loc 0) 12 1) (.list [(.lit .none)]),.assign (.attr (.loc 0) 12 2) (.list [(.lit .none)]),.assign (.attr (.loc 0) 12 3) (.list [(.lit .none)]),.assign (.attr (.loc 0) 12 4) .di,.assign (.attr (.loc 0) 12 5) (.list []),.assign (.attr (.loc 0) 12 6) (.lit (.int 0))]⟩
def fd_law_number:Fn:=⟨1,1,[.assign (.wk (.loc 0) 1) (.bin .add (.wk (.loc 0) 1) (.lit (.int 1))),.ite (.cmp .gt (.wk (.loc 0) 1) (.len (.wk (.loc 0) 0))) [.ret (.bin .mod (.bin .mul (.lit (.int 6007)) (.wk (.loc 0) 1)) (.lit (.int 99991)))] [],.ret (.bin .mod (.idx (.wk (.loc 0) 0) (.bin .sub (.wk (.loc 0) 1) (.lit (.int 1)))) (.lit (.int 99991)))]⟩
def fd_law_value:Fn:=⟨2,7,[.assign (.locs [2,3,4]) (.loc 1),.assign (.loc 5) (.lit (.int 0)),.ite (.cmp .gt (.loc 3) (.lit (.int 0))) [.assign (.loc 5) (.idx (.wk (.loc 0) 6) (.loc 3))] [],.ite (.cmp .eq (.loc 2) (.lit (.int 0))) [.ret (.tup [(.glob 37),(.loc 5)])] [],.ite (.cmp .eq (.loc 2) (.lit (.int 1))) [.ret (.tup [(.glob 39),(.tup [(.glob 44),(.bin .add (.bin .add (.loc 5) (.lit (.int 2))) (.loc 4)),(.tup [(.loc 4)])])])] [],.assign (.loc 6) (.tup [(.glob 38),(.wk (.loc 0) 13),(.tup [(.tup [(.glob 34),(.loc 4)]),(.tup [(.glob 37),(.loc 5)])])]),.ite (.cmp .eq (.loc 2) (.lit (.int 2))) [.ret (.loc 6)] [],.ite (.cmp .eq (.loc 2) (.lit (.int 3))) [.ret (.tup [(.glob 38),(.wk (.loc 0) 14),(.tup [(.loc 6),(.tup [(.glob 34),(.lit (.int 16))])])])] [],.ite (.cmp .eq (.loc 2) (.lit (.int 4))) [.ret (.tup [(.glob 34),(.bin .add (.lit (.int 16)) (.loc 4))])] [],.ite (.cmp .eq (.loc 2) (.lit (.int 5))) [.ret (.tup [(.glob 39),(.tup [(.glob 43),(.lit (.int 1)),(.loc 4),(.tup [])])])] [],.ite (.cmp .eq (.loc 2) (.lit (.int 6))) [.ret (.tup [(.glob 40),(.tup [(.idx (.wk (.loc 0) 12) (.lit (.int 0))),(.bin .add (.lit (.int 1)) (.loc 4)),(.tup [])])])] [],.ret (.tup [(.glob 41),(.idx (.glob 60) (.loc 4))])]⟩
def fd_law_noted:Fn:=⟨3,3,[.assign (.wk (.loc 0) 3) (.bin .add (.wk (.loc 0) 3) (.lit (.int 1))),.assign (.idx (.wk (.loc 0) 4) (.wk (.loc 0) 3)) (.tup [(.loc 1),(.loc 2)]),.assign (.idx (.wk (.loc 0) 5) (.wk (.loc 0) 3)) (.lit (.int 0)),.assign (.idx (.wk (.loc 0) 6) (.wk (.loc 0) 3)) (.wk (.loc 0) 7),.assign (.wk (.loc 0) 7) (.bin .add (.bin .add (.wk (.loc 0) 7) (.lit (.int 2))) (.len (.loc 2))),.ret (.wk (.loc 0) 3)]⟩
def fd_law_fresh:Fn:=⟨2,6,[.assign (.loc 2) (.lit (.int 0)),.forR 3 (.bin .add (.lit (.int 1)) (.bin .mod (.loc 1) (.lit (.int 2)))) [.assign (.loc 4) (.list [(.tup [(.lit (.int 4)),(.lit (.int 0)),(.loc 3)]),(.tup [(.idx (.tup [(.lit (.int 0)),(.lit (.int 2)),(.lit (.int 3))]) (.bin .mod (.bin .add (.bin .fdiv (.loc 1) (.lit (.int 2))) (.loc 3)) (.lit (.int 3)))),(.loc 2),(.loc 3)])]),.assign (.loc 5) (.idx (.wk (.loc 0) 12) (.bin .mod (.bin .add (.loc 1) (.loc 3)) (.lit (.int 2)))),.expr (.call 3 [(.attr (.wk (.loc 0) 2) 10 2),(.loc 5),(.comp (.call 70 [(.loc 0),(.loc 1)]) [0] 1 (.loc 4) [])]),.assign (.loc 2) (.call 71 [(.loc 0),(.loc 5),(.loc 4)])],.ret (.loc 2)]⟩
def fd_law_put:Fn:=⟨4,5,[.forI [4] (.loc 3) [.expr (.append (.loc 2) (.call 70 [(.loc 0),(.loc 4)]))],.expr (.append (.wk (.loc 0) 11) (.tup [(.loc 1),(.loc 2),(.loc 3)]))]⟩
def fd_law_fill:Fn:=⟨5,9,[.assign (.loc 5) (.list []),.forR 6 (.idx (.tup [(.lit (.int 1)),(.lit (.int 1)),(.lit (.int 2)),(.lit (.int 0))]) (.bin .mod (.loc 3) (.lit (.int 4)))) [.assign (.loc 7) (.idx (.loc 4) (.bin .mod (.bin .add (.bin .fdiv (.loc 3) (.lit (.int 4))) (.loc 6)) (.len (.loc 4)))),.assign (.loc 8) (.lit (.int 0)),.ite (.cmp .lt (.loc 7) (.lit (.int 4))) [.assign (.loc 8) (.call 72 [(.loc 0),(.bin .add (.bin .fdiv (.loc 3) (.lit (.int 28))) (.loc 6))])] [],.expr (.append (.loc 5) (.tup [(.loc 7),(.loc 8),(.bin .mod (.bin .add (.loc 3) (.loc 6)) (.lit (.int 2)))]))],.expr (.call 73 [(.loc 0),(.loc 1),(.loc 2),(.loc 5)])]⟩
def fd_law_drop:Fn:=⟨2,2,[.assign (.wk (.loc 0) 11) (.comp (.loc 1) [1] 1 (.wk (.loc 0) 11) [(.cmp .ne (.idx (.loc 1) (.lit (.int 0))) (.loc 0))])]⟩
def fd_law_newest:Fn:=⟨1,4,[.forI [1,2,3] (.wk (.loc 0) 11) [.ite (.and (.cmp .gt (.len (.wk (.loc 0) 9)) (.lit (.int 0))) (.cmp .eq (.loc 1) (.idx (.wk (.loc 0) 9) (.neg (.lit (.int 1)))))) [.ret (.idx (.loc 3) (.lit (.int 0)))] []],.ret (.tup [(.lit (.int 0)),(.call 72 [(.loc 0),(.lit (.int 0))]),(.lit (.int 0))])]⟩
def fd_law_fly:Fn:=⟨2,5,[.assign (.wk (.loc 0) 8) (.bin .add (.wk (.loc 0) 8) (.lit (.int 1))),.assign (.loc 2) (.bin .add (.lit (.str (sO "chase "))) (.strOf (.wk (.loc 0) 8))),.assign (.loc 3) (.tup [(.lit (.int 0)),(.call 72 [(.loc 0),(.loc 1)]),(.lit (.int 0))]),.assign (.loc 4) (.new 11 67 [(.wk (.loc 0) 8),(.call 70 [(.loc 0),(.loc 3)]),(.lit (.int 1)),(.lit (.int 0))]),.expr (.append (.attr (.wk (.loc 0) 2) 10 21) (.loc 4)),.expr (.append (.wk (.loc 0) 9) (.loc 2)),.expr (.append (.wk (.loc 0) 11) (.tup [(.loc 2),(.attr (.loc 4) 11 1),(.list [(.loc 3)])]))]⟩
def fd_law_stand:Fn:=⟨2,9,[.assign (.loc 2) (.wk (.loc 0) 2),.assign (.wk (.loc 0) 8) (.bin .add (.wk (.loc 0) 8) (.lit (.int 1))),.assign (.loc 3) (.bin .add (.lit (.str (sO "frame "))) (.strOf (.wk (.loc 0) 8))),.assign (.loc 4) (.tup [(.idx (.wk (.loc 0) 12) (.lit (.int 0))),(.lit (.int 1)),(.tup [])]),.assign (.loc 5) (.len (.attr (.loc 2) 10 9)),.assign (.loc 6) (.bin .fdiv (.loc 1) (.lit (.int 12))),.ite (.and (.cmp .eq (.bin .mod (.loc 1) (.lit (.int 3))) (.lit (.int 2))) (.cmp .gt (.loc 5) (.lit (.int 0)))) [.assign (.loc 7) (.idx (.attr (.loc 2) 10 9) (.bin .mod (.bin .fdiv (.loc 1) (.lit (.int 3))) (.loc 5))),.assign (.loc 8) (.new 6 57 [(.wk (.loc 0) 8),(.loc 4),(.lit .none),(.attr (.loc 7) 6 4),(.glob 55)]),.assign (.attr (.loc 8) 6 5) (.attr (.loc 7) 6 5),.assign (.attr (.loc 8) 6 12) (.attr (.loc 7) 6 12),.ite (.cmp .eq (.bin .mod (.loc 6) (.lit (.int 2))) (.lit (.int 0))) [.expr (.call 73 [(.loc 0),(.loc 3),(.attr (.loc 8) 6 6),(.list [(.call 76 [(.loc 0)])])])] [.expr (.call 74 [(.loc 0),(.loc 3),(.attr (.loc 8) 6 6),(.loc 6),(.glob 61)])]] [.assign (.loc 8) (.new 6 57 [(.wk (.loc 0) 8),(.loc 4),(.lit .none),(.list []),(.idx (.tup [(.glob 54),(.glob 56),(.glob 57),(.glob 58)]) (.bin .mod (.bin .fdiv (.loc 1) (.lit (.int 3))) (.lit (.int 4))))]),.expr (.call 74 [(.loc 0),(.loc 3),(.attr (.loc 8) 6 4),(.loc 6),(.glob 61)]),.expr (.call 74 [(.loc 0),(.loc 3),(.attr (.loc 8) 6 5),(.bin .add (.loc 6) (.lit (.int 9))),(.glob 61)]),.expr (.call 74 [(.loc 0),(.loc 3),(.attr (.loc 8) 6 6),(.bin .add (.loc 6) (.lit (.int 18))),(.glob 61)])],.expr (.call 74 [(.loc 0),(.loc 3),(.attr (.loc 8) 6 10),(.bin .add (.loc 6) (.lit (.int 5))),(.glob 61)]),.expr (.call 74 [(.loc 0),(.loc 3),(.attr (.loc 8) 6 9),(.bin .fdiv (.loc 6) (.lit (.int 2))),(.tup [(.lit (.int 0))])]),.expr (.append (.attr (.loc 2) 10 9) (.loc 8))]⟩
def fd_law_fail:Fn:=⟨2,4,[.assign (.loc 2) (.wk (.loc 0) 2),.assign (.loc 3) (.call 17 [(.attr (.loc 2) 10 1),(.bin .add (.lit (.int 70)) (.len (.attr (.loc 2) 10 13))),(.tup [])]),.assign (.idx (.attr (.loc 2) 10 13) (.loc 3)) (.list []),.expr (.call 73 [(.loc 0),(.lit (.str (sO "fail"))),(.idx (.attr (.loc 2) 10 13) (.loc 3)),(.list [(.tup [(.lit (.int 0)),(.call 72 [(.loc 0),(.loc 1)]),(.lit (.int 0))])])])]⟩
def fd_law_hold:Fn:=⟨2,2,[.expr (.append (.attr (.wk (.loc 0) 2) 10 24) (.list [])),.expr (.call 74 [(.loc 0),(.bin .add (.lit (.str (sO "held "))) (.strOf (.len (.attr (.wk (.loc 0) 2) 10 24)))),(.idx (.attr (.wk (.loc 0) 2) 10 24) (.neg (.lit (.int 1)))),(.loc 1),(.glob 61)])]⟩
def fd_law_text:Fn:=⟨2,6,[.assign (.locs [2,3,4]) (.idx (.wk (.loc 0) 11) (.lit (.int 0))),.assign (.loc 5) (.meth (.wk (.loc 0) 2) 10 61 [(.idx (.glob 60) (.loc 1))]),.ite (.cmp .nmem (.loc 1) (.wk (.loc 0) 10)) [.assign (.idx (.wk (.loc 0) 10) (.loc 1)) (.len (.loc 4)),.expr (.append (.loc 4) (.tup [(.lit (.int 0)),(.call 71 [(.loc 0),(.glob 18),(.list [(.tup [(.lit (.int 7)),(.lit (.int 0)),(.loc 1)])])]),(.lit (.int 0))]))] [],.ret (.cmp .eq (.loc 5) (.call 70 [(.loc 0),(.idx (.loc 4) (.idx (.wk (.loc 0) 10) (.loc 1)))]))]⟩
def fd_law_named:Fn:=⟨1,4,[.assign (.loc 1) (.comp (.loc 0) [] 1 (.call 54 [(.wk (.loc 0) 2)]) [(.cmp .gt (.len (.loc 0)) (.lit (.int 0)))]),.assign (.loc 2) (.comp (.idx (.loc 0) (.lit (.int 1))) [] 1 (.wk (.loc 0) 11) [(.cmp .gt (.len (.idx (.loc 0) (.lit (.int 1)))) (.lit (.int 0)))]),.forI [3] (.loc 2) [.ite (.cmp .nmem (.loc 3) (.loc 1)) [.ret (.lit (.bool false))] []],.ret (.cmp .eq (.len (.loc 1)) (.len (.loc 2)))]⟩
def fd_law_reached:Fn:=⟨1,5,[.assign (.loc 1) (.comp2 (.idx (.loc 1) (.lit (.int 1))) [] 1 (.wk (.loc 0) 11) 1 (.idx (.loc 0) (.lit (.int 2)))),.assign (.loc 2) .di,.while (.cmp .gt (.len (.loc 1)) (.lit (.int 0))) [.assign (.loc 3) (.pop (.loc 1)),.ite (.and (.cmp .gt (.loc 3) (.lit (.int 0))) (.cmp .nmem (.loc 3) (.loc 2))) [.assign (.idx (.loc 2) (.loc 3)) (.lit (.int 1)),.forI [4] (.idx (.idx (.wk (.loc 0) 4) (.loc 3)) (.lit (.int 1))) [.expr (.append (.loc 1) (.idx (.loc 4) (.lit (.int 1))))]] []],.ret (.loc 2)]⟩
def fd_law_same:Fn:=⟨1,7,[.assign (.loc 1) (.attr (.wk (.loc 0) 2) 10 2),.ite (.or (.cmp .ne (.comp (.attr (.loc 0) 0 5) [] 1 (.attr (.loc 1) 1 0) []) (.sorted (.wk (.loc 0) 5))) (.cmp .ne (.attr (.loc 1) 1 2) (.wk (.loc 0) 7))) [.ret (.lit (.bool false))] [],.forI [2] (.attr (.loc 1) 1 0) [.assign (.locs [3,4]) (.idx (.wk (.loc 0) 4) (.attr (.loc 2) 0 5)),.ite (.or (.cmp .ne (.attr (.loc 2) 0 0) (.idx (.wk (.loc 0) 6) (.attr (.loc 2) 0 5))) (.or (.cmp .ne (.attr (.loc 2) 0 3) (.idx (.wk (.loc 0) 5) (.attr (.loc 2) 0 5))) (.cmp .ne (.attr (.loc 2) 0 1) (.loc 3)))) [.ret (.lit (.bool false))] [],.ite (.cmp .ne (.attr (.loc 2) 0 2) (.comp (.call 70 [(.loc 0),(.loc 1)]) [0] 1 (.loc 4) [])) [.ret (.lit (.bool false))] []],.forI [5,6,4] (.wk (.loc 0) 11) [.ite (.cmp .ne (.loc 6) (.comp (.call 70 [(.loc 0),(.loc 1)]) [0] 1 (.loc 4) [])) [.ret (.lit (.bool false))] []],.ret (.lit (.bool true))]⟩
def fd_law_gone:Fn:=⟨2,7,[.ite (.not (.call 82 [(.loc 0)])) [.ret (.lit (.bool false))] [],.assign (.loc 2) (.call 83 [(.loc 0)]),.assign (.loc 3) (.len (.wk (.loc 0) 5)),.assign (.loc 4) .di,.assign (.wk (.loc 0) 6) .di,.assign (.wk (.loc 0) 7) (.lit (.int 16)),.forI [5] (.sorted (.wk (.loc 0) 5)) [.assign (.loc 6) (.idx (.wk (.loc 0) 5) (.loc 5)),.ite (.or (.cmp .gt (.loc 6) (.loc 1)) (.cmp .mem (.loc 5) (.loc 2))) [.ite (.and (.cmp .le (.loc 6) (.loc 1)) (.cmp .lt (.loc 6) (.lit (.int 2)))) [.assign (.loc 6) (.bin .add (.loc 6) (.lit (.int 1)))] [],.assign (.idx (.loc 4) (.loc 5)) (.loc 6),.assign (.idx (.wk (.loc 0) 6) (.loc 5)) (.wk (.loc 0) 7),.assign (.wk (.loc 0) 7) (.bin .add (.bin .add (.wk (.loc 0) 7) (.lit (.int 2))) (.len (.idx (.idx (.wk (.loc 0) 4) (.loc 5)) (.lit (.int 1)))))] []],.assign (.wk (.loc 0) 5) (.loc 4),.ret (.and (.cmp .eq (.call 55 [(.wk (.loc 0) 2),(.loc 1)]) (.bin .sub (.loc 3) (.len (.loc 4)))) (.call 84 [(.loc 0)]))]⟩
def fd_law_deed:Fn:=⟨2,10,[.assign (.loc 2) (.wk (.loc 0) 2),.assign (.loc 3) (.bin .mod (.loc 1) (.lit (.int 8))),.assign (.loc 4) (.bin .fdiv (.loc 1) (.lit (.int 8))),.ite (.cmp .lt (.loc 3) (.lit (.int 2))) [.ite (.cmp .gt (.len (.attr (.loc 2) 10 21)) (.lit (.int 0))) [.assign (.loc 5) (.bin .mul (.bin .sub (.len (.attr (.loc 2) 10 21)) (.lit (.int 1))) (.bin .sub (.lit (.int 1)) (.loc 3))),.expr (.popAt (.attr (.loc 2) 10 21) (.loc 5)),.expr (.call 75 [(.loc 0),(.popAt (.wk (.loc 0) 9) (.loc 5))])] []] [.ite (.cmp .eq (.loc 3) (.lit (.int 2))) [.expr (.call 77 [(.loc 0),(.loc 4)])] [.ite (.cmp .eq (.loc 3) (.lit (.int 3))) [.ite (.cmp .gt (.len (.attr (.loc 2) 10 9)) (.lit (.int 1))) [.assign (.loc 6) (.pop (.attr (.loc 2) 10 9)),.expr (.call 75 [(.loc 0),(.bin .add (.lit (.str (sO "frame "))) (.strOf (.attr (.loc 6) 6 0)))])] []] [.ite (.cmp .eq (.loc 3) (.lit (.int 4))) [.expr (.call 78 [(.loc 0),(.loc 4)])] [.ite (.cmp .lt (.loc 3) (.lit (.int 7))) [.assign (.locs [7,8,9]) (.idx (.wk (.loc 0) 11) (.bin .add (.lit (.int 1)) (.bin .mod (.loc 4) (.bin .sub (.len (.wk (.loc 0) 11)) (.lit (.int 1)))))),.ite (.cmp .gt (.len (.loc 9)) (.lit (.int 0))) [.assign (.idx (.loc 9) (.lit (.int 0))) (.tup [(.lit (.int 0)),(.lit (.int 0)),(.lit (.int 0))]),.ite (.cmp .eq (.loc 3) (.lit (.int 5))) [.assign (.idx (.loc 9) (.lit (.int 0))) (.tup [(.lit (.int 0)),(.call 72 [(.loc 0),(.loc 4)]),(.lit (.int 0))])] [],.assign (.idx (.loc 8) (.lit (.int 0))) (.call 70 [(.loc 0),(.idx (.loc 9) (.lit (.int 0)))])] []] [.ite (.cmp .eq (.bin .mod (.loc 4) (.lit (.int 3))) (.lit (.int 0))) [.ret (.call 81 [(.loc 0),(.bin .mod (.bin .fdiv (.loc 4) (.lit (.int 3))) (.lit (.int 3)))])] [.ite (.cmp .eq (.bin .mod (.loc 4) (.lit (.int 3))) (.lit (.int 1))) [.expr (.call 79 [(.loc 0),(.loc 4)])] [.ite (.cmp .gt (.len (.attr (.loc 2) 10 24)) (.lit (.int 0))) [.expr (.call 75 [(.loc 0),(.bin .add (.lit (.str (sO "held "))) (.strOf (.len (.attr (.loc 2) 10 24))))]),.expr (.pop (.attr (.loc 2) 10 24))] []]]]]]]],.ret (.lit (.bool true))]⟩
def fd_law:Fn:=⟨1,7,[.assign (.loc 0) (.cut (.loc 0) 16),.assign (.loc 1) (.new 12 68 []),.assign (.loc 2) (.new 10 59 [(.loc 1),(.new 1 2 [(.lit (.int 100000)),(.lit (.int 3))])]),.assign (.loc 3) (.wd [(.loc 0),(.lit (.int 0)),(.loc 2),(.lit (.int 0)),.di,.di,.di,(.lit (.int 16)),(.lit (.int 0)),(.list []),.di,(.list [(.tup [(.lit (.str (sO "texts"))),(.attr (.loc 2) 10 23),(.list [])])])]),.assign (.wk (.loc 3) 12) (.tup [(.call 17 [(.attr (.loc 1) 12 0),(.lit (.int 64)),(.tup [])]),(.call 17 [(.attr (.loc 1) 12 0),(.lit (.int 65)),(.tup [])])]),.assign (.wk (.loc 3) 13) (.call 18 [(.attr (.loc 1) 12 0),(.lit (.int 66)),(.tup [])]),.assign (.wk (.loc 3) 14) (.call 18 [(.attr (.loc 1) 12 0),(.lit (.int 67)),(.tup [])]),.expr (.call 72 [(.loc 3),(.lit (.int 0))]),.assign (.loc 4) (.call 69 [(.loc 3)]),.forR 5 (.bin .add (.lit (.int 1)) (.bin .mod (.loc 4) (.lit (.int 6)))) [.expr (.call 77 [(.loc 3),(.bin .add (.bin .fdiv (.loc 4) (.lit (.int 6))) (.loc 5))])],.forR 5 (.bin .add (.lit (.int 2)) (.bin .mod (.call 69 [(.loc 3)]) (.lit (.int 3)))) [.expr (.call 78 [(.loc 3),(.call 69 [(.loc 3)])])],.assign (.loc 4) (.call 69 [(.loc 3)]),.forR 5 (.lit (.int 2)) [.assign (.idx (.attr (.loc 2) 10 11) (.idx (.wk (.loc 3) 12) (.bin .sub (.lit (.int 1)) (.loc 5)))) (.list []),.expr (.call 74 [(.loc 3),(.lit (.str (sO "statics"))),(.idx (.attr (.loc 2) 10 11) (.idx (.wk (.loc 3) 12) (.bin .sub (.lit (.int 1)) (.loc 5)))),(.bin .add (.loc 4) (.bin .mul (.lit (.int 5)) (.loc 5))),(.glob 62)])],.forR 5 (.bin .add (.lit (.int 1)) (.bin .mod (.loc 4) (.lit (.int 2)))) [.expr (.call 79 [(.loc 3),(.bin .add (.bin .fdiv (.loc 4) (.lit (.int 2))) (.loc 5))]),.expr (.call 80 [(.loc 3),(.bin .add (.bin .fdiv (.loc 4) (.lit (.int 4))) (.bin .mul (.lit (.int 3)) (.loc 5)))])],.ite (.cmp .gt (.bin .mod (.loc 4) (.lit (.int 3))) (.lit (.int 0))) [.expr (.call 73 [(.loc 3),(.lit (.str (sO "unhandled"))),(.attr (.loc 2) 10 27),(.list [(.call 76 [(.loc 3)])])])] [],.forR 6 (.bin .add (.lit (.int 1)) (.bin .mod (.bin .fdiv (.loc 4) (.lit (.int 3))) (.lit (.int 3)))) [.ite (.not (.call 81 [(.loc 3),(.loc 6)])) [.ret (.lit (.bool false))] []],.forR 5 (.bin .add (.lit (.int 2)) (.bin .fdiv (.len (.loc 0)) (.lit (.int 6)))) [.assign (.loc 4) (.call 69 [(.loc 3)]),.ite (.not (.call 85 [(.loc 3),(.bin .mod (.loc 4) (.lit (.int 3)))])) [.ret (.lit (.bool false))] [],.expr (.call 72 [(.loc 3),(.loc 4)]),.ite (.not (.call 86 [(.loc 3),(.bin .fdiv (.loc 4) (.lit (.int 3)))])) [.ret (.lit (.bool false))] []],.ret (.call 85 [(.loc 3),(.lit (.int 2))])]⟩
def fns:List Fn:=[fd_words_for,fd_Thing_init,fd_Heap_init,fd_heap_alloc,fd_used_words,fd_note_collected,fd_find_thing,fd_slot_word,fd_card_number,fd_KindTable_init,fd_KindTable_put,fd_inner_kinds,fd_row_level,fd_row_length,fd_check_kind_row,fd_check_named,fd_check_args,fd_class_kind,fd_value_kind,fd_refs_in,fd_move_value,fd_move_plain,fd_move_struct,fd_words_of,fd_push_word,fd_push_value,fd_drain,fd_old_slots,fd_mark,fd_reach_more,fd_refers_younger,fd_younger_slots,fd_renew_cards,fd_Handles_init,fd_strong_values,fd_clear_handles,fd_move_handles,fd_pick_finals,fd_end_of_older,fd_plan_moves,fd_Words_init,fd_Words_new_word,fd_moved_word,fd_stays,fd_moved_values,fd_new_lists,fd_put_lists,fd_moved_addrs,fd_settle_thing,fd_settle_things,fd_move_all,fd_root_lists,fd_find_living,fd_collect,fd_roots,fd_collect_for,fd_PlaceHost_init,fd_Frame_init,fd_Sweeper_before,fd_Shelf_init,fd_Shelf_alloc,fd_Shelf_text_ref,fd_Shelf_new_text,fd_first_slots,fd_alloc_thing,fd_made_text,fd_interned_text,fd_Chase_init,fd_Store_init,fd_law_number,fd_law_value,fd_law_noted,fd_law_fresh,fd_law_put,fd_law_fill,fd_law_drop,fd_law_newest,fd_law_fly,fd_law_stand,fd_law_fail,fd_law_hold,fd_law_text,fd_law_named,fd_law_reached,fd_law_same,fd_law_gone,fd_law_deed,fd_law]
def gtab:List V:=[.int 16,.int 2,.int 3,.int 2,.int 2,.int 0,.int 1,.int 2,.int 3,.int 4,.int 5,.int 6,.int 7,.int 8,.int 9,.int 10,.int 11,.int 12,.int 13,.int 14,.int 16,.int 1,.int 2,.int 3,.int 4,.int 5,.int 6,.int 7,.int 8,.int 9,.int 10,.int 11,.int 24,.int 4096,.int 1,.int 2,.int 3,.int 4,.int 5,.int 6,.int 7,.int 8,.tup [.int 4,.int 0],.int 1,.int 3,.int 1,.int 2,.int 3,.int 0,.int 1,.int 2,.int (-2),.int 0,.int 3,.int 0,.int 1,.int 2,.int 3,.int 4,.tup [.int 0,.int 0],.tup [.str (sO ""),.str (sO "a"),.str (sO "ab")],.tup [.int 0,.int 1,.int 2,.int 3,.int 4,.int 5,.int 6],.tup [.int 0,.int 2,.int 3,.int 4]]
def tab:Tab where
 gnames:=[sO "FIRST_ADDRESS",sO "HEAD_WORDS",sO "LEAST_SIZE",sO "TOP_GEN",sO "W_EMPTY",sO "VOID",sO "BOOL",sO "CHAR",sO "I1",sO "U1",sO "I2",sO "U2",sO "I4",sO "U4",sO "I8",sO "U8",sO "NINT",sO "OBJECT",sO "STRING",sO "NULLK",sO "PRIM_END",sO "R_PRIM",sO "R_CLASS",sO "R_VALUE",sO "R_ARRAY",sO "R_BYREF",sO "R_VAR",sO "R_MVAR",sO "R_BOXED",sO "R_ROREF",sO "R_FTN",sO "R_RAW",sO "DEEPEST_KIND",sO "HEAVIEST_KIND",sO "V_I4",sO "V_I8",sO "V_NINT",sO "V_REF",sO "V_STRUCT",sO "V_PLACE",sO "V_FTN",sO "V_TEXT",sO "NULLV",sO "PL_LOCAL",sO "PL_HEAP",sO "H_SHORT",sO "H_LONG",sO "H_STRONG",sO "ROW_SORT",sO "ROW_ADDR",sO "ROW_ALIVE",sO "JP_STAY",sO "ST_RUN",sO "ST_WRONG",sO "FR_CALL",sO "FR_FILTER",sO "FR_CCTOR",sO "FR_NEW",sO "FR_MULTI",sO "LOST",sO "_law_WORDS",sO "_law_ALL",sO "_law_PLAIN"]
 gfns:=[(sO "words_for",0),(sO "heap_alloc",3),(sO "used_words",4),(sO "note_collected",5),(sO "find_thing",6),(sO "slot_word",7),(sO "card_number",8),(sO "inner_kinds",11),(sO "row_level",12),(sO "row_length",13),(sO "check_kind_row",14),(sO "check_named",15),(sO "check_args",16),(sO "class_kind",17),(sO "value_kind",18),(sO "refs_in",19),(sO "move_value",20),(sO "move_plain",21),(sO "move_struct",22),(sO "words_of",23),(sO "push_word",24),(sO "push_value",25),(sO "drain",26),(sO "old_slots",27),(sO "mark",28),(sO "reach_more",29),(sO "refers_younger",30),(sO "younger_slots",31),(sO "renew_cards",32),(sO "strong_values",34),(sO "clear_handles",35),(sO "move_handles",36),(sO "pick_finals",37),(sO "end_of_older",38),(sO "plan_moves",39),(sO "moved_word",42),(sO "stays",43),(sO "moved_values",44),(sO "new_lists",45),(sO "put_lists",46),(sO "moved_addrs",47),(sO "settle_thing",48),(sO "settle_things",49),(sO "move_all",50),(sO "root_lists",51),(sO "find_living",52),(sO "collect",53),(sO "roots",54),(sO "collect_for",55),(sO "first_slots",63),(sO "alloc_thing",64),(sO "made_text",65),(sO "interned_text",66),(sO "_law_number",69),(sO "_law_value",70),(sO "_law_noted",71),(sO "_law_fresh",72),(sO "_law_put",73),(sO "_law_fill",74),(sO "_law_drop",75),(sO "_law_newest",76),(sO "_law_fly",77),(sO "_law_stand",78),(sO "_law_fail",79),(sO "_law_hold",80),(sO "_law_text",81),(sO "_law_named",82),(sO "_law_reached",83),(sO "_law_same",84),(sO "_law_gone",85),(sO "_law_deed",86),(sO "law",87)]
 cnames:=[sO "Thing",sO "Heap",sO "KindTable",sO "Words",sO "Handles",sO "PlaceHost",sO "Frame",sO "Starter",sO "Sweeper",sO "KindCloser",sO "Shelf",sO "Chase",sO "Store"]
 attrs:=[[sO "addr",sO "kind",sO "slots",sO "gen",sO "size",sO "serial"],[sO "things",sO "at",sO "top",sO "limit",sO "cards",sO "card_bits",sO "fresh",sO "young_limit",sO "finals",sO "ready",sO "moved",sO "made"],[sO "rows",sO "index",sO "depths",sO "weights",sO "opens"],[sO "heap",sO "moves"],[sO "rows"],[sO "heap",sO "frames",sO "statics"],[sO "number",sO "mref",sO "body",sO "ip",sO "args",sO "locals_",sO "stack",sO "conts",sO "caught",sO "caughtv",sO "keep",sO "sort",sO "home",sO "extra",sO "prefix"],[],[],[],[sO "store",sO "kt",sO "heap",sO "kin",sO "rows",sO "targets",sO "defaults",sO "unders",sO "finals",sO "frames",sO "by_number",sO "statics",sO "inits",sO "fails",sO "ops",sO "natives",sO "state",sO "told",sO "thrown",sO "calls",sO "pushed",sO "chases",sO "interned",sO "internv",sO "held",sO "result",sO "last",sO "unhandled",sO "handles",sO "places",sO "starter",sO "closer",sO "sweeper"],[sO "number",sO "cell",sO "throw_number",sO "pass_",sO "at",sO "clause",sO "goal",sO "filter_number",sO "ip"],[sO "kt",sO "types",sO "fields_",sO "methods",sO "names",sO "asms",sO "entry"]]
 meths:=[(2,sO "put",10),(3,sO "new_word",41),(8,sO "before",58),(10,sO "alloc",60),(10,sO "text_ref",61),(10,sO "new_text",62)]
 inits:=[(0,1),(1,2),(2,9),(4,33),(3,40),(5,56),(6,57),(10,59),(11,67),(12,68)]
 new0s:=[7,8,9]
 wks:=[sO "script",sO "at",sO "m",sO "made",sO "things",sO "ages",sO "where",sO "top",sO "count",sO "flying",sO "texts",sO "cells",sO "kinds",sO "pair",sO "outer"]
def places:List (Option Str×Str×List Str):=[(none,sO "words_for",[sO "count"]),(some (sO "Thing"),sO "__init__",[sO "self",sO "addr",sO "kind",sO "slots"]),(some (sO "Heap"),sO "__init__",[sO "self",sO "limit",sO "card_bits"]),(none,sO "heap_alloc",[sO "heap",sO "kind",sO "slots",sO "thing"]),(none,sO "used_words",[sO "heap"]),(none,sO "note_collected",[sO "heap",sO "gen"]),(none,sO "find_thing",[sO "heap",sO "word",sO "exact",sO "low",sO "high",sO "middle",sO "thing"]),(none,sO "slot_word",[sO "thing",sO "slot"]),(none,sO "card_number",[sO "heap",sO "word"]),(some (sO "KindTable"),sO "__init__",[sO "self",sO "number",sO "row"]),(some (sO "KindTable"),sO "put",[sO "self",sO "row",sO "found",sO "depth",sO "weight",sO "opened",sO "level",sO "inner",sO "k"]),(none,sO "inner_kinds",[sO "row",sO "sort"]),(none,sO "row_level",[sO "sort"]),(none,sO "row_length",[sO "sort"]),(none,sO "check_kind_row",[sO "kt",sO "row",sO "sort",sO "inner"]),(none,sO "check_named",[sO "kt",sO "row"]),(none,sO "check_args",[sO "kt",sO "args",sO "arg"]),(none,sO "class_kind",[sO "kt",sO "tid",sO "args"]),(none,sO "value_kind",[sO "kt",sO "tid",sO "args"]),(none,sO "refs_in",[sO "value",sO "found",sO "todo",sO "top",sO "place"]),(none,sO "move_value",[sO "value",sO "forward",sO "words"]),(none,sO "move_plain",[sO "value",sO "forward",sO "words",sO "place"]),(none,sO "move_struct",[sO "value",sO "forward",sO "words",sO "todo",sO "rebuilt",sO "struct_value",sO "items",sO "item"]),(none,sO "words_of",[sO "value",sO "place"]),(none,sO "push_word",[sO "heap",sO "word",sO "gen",sO "marks",sO "work",sO "thing"]),(none,sO "push_value",[sO "heap",sO "value",sO "gen",sO "marks",sO "work",sO "word"]),(none,sO "drain",[sO "heap",sO "work",sO "gen",sO "marks",sO "thing",sO "value"]),(none,sO "old_slots",[sO "heap",sO "gen",sO "out",sO "thing",sO "slot"]),(none,sO "mark",[sO "heap",sO "lists",sO "gen",sO "marks",sO "work",sO "values",sO "value",sO "thing",sO "slot"]),(none,sO "reach_more",[sO "heap",sO "marks",sO "addrs",sO "gen",sO "work",sO "addr"]),(none,sO "refers_younger",[sO "heap",sO "thing",sO "value",sO "addr",sO "other"]),(none,sO "younger_slots",[sO "heap",sO "out",sO "thing",sO "slot"]),(none,sO "renew_cards",[sO "heap",sO "thing",sO "slot"]),(some (sO "Handles"),sO "__init__",[sO "self"]),(none,sO "strong_values",[sO "h",sO "out",sO "row"]),(none,sO "clear_handles",[sO "h",sO "sort",sO "marks",sO "heap",sO "gen",sO "count",sO "row"]),(none,sO "move_handles",[sO "h",sO "moves",sO "row"]),(none,sO "pick_finals",[sO "heap",sO "marks",sO "gen",sO "kept",sO "picked",sO "addr"]),(none,sO "end_of_older",[sO "heap",sO "gen",sO "end",sO "thing"]),(none,sO "plan_moves",[sO "heap",sO "marks",sO "gen",sO "moves",sO "goal",sO "thing"]),(some (sO "Words"),sO "__init__",[sO "self",sO "heap",sO "moves"]),(some (sO "Words"),sO "new_word",[sO "self",sO "word"]),(none,sO "moved_word",[sO "heap",sO "moves",sO "word",sO "thing"]),(none,sO "stays",[sO "thing",sO "moves",sO "gen"]),(none,sO "moved_values",[sO "values",sO "moves",sO "words",sO "out",sO "value"]),(none,sO "new_lists",[sO "lists",sO "moves",sO "words",sO "out",sO "values"]),(none,sO "put_lists",[sO "lists",sO "fresh",sO "place",sO "values",sO "i"]),(none,sO "moved_addrs",[sO "addrs",sO "moves",sO "out",sO "addr"]),(none,sO "settle_thing",[sO "heap",sO "thing",sO "moves",sO "gen",sO "goal"]),(none,sO "settle_things",[sO "heap",sO "moves",sO "gen",sO "living",sO "thing"]),(none,sO "move_all",[sO "heap",sO "lists",sO "moves",sO "gen",sO "words",sO "every",sO "values",sO "thing"]),(none,sO "root_lists",[sO "heap",sO "lists",sO "handles",sO "out",sO "values"]),(none,sO "find_living",[sO "heap",sO "lists",sO "handles",sO "gen",sO "marks",sO "picked"]),(none,sO "collect",[sO "heap",sO "lists",sO "handles",sO "gen",sO "before",sO "marks",sO "moves"]),(none,sO "roots",[sO "m",sO "out",sO "f",sO "kind",sO "chase",sO "values"]),(none,sO "collect_for",[sO "m",sO "gen"]),(some (sO "PlaceHost"),sO "__init__",[sO "self",sO "heap",sO "frames",sO "statics"]),(some (sO "Frame"),sO "__init__",[sO "self",sO "number",sO "mref",sO "body",sO "args",sO "sort"]),(some (sO "Sweeper"),sO "before",[sO "self",sO "m"]),(some (sO "Shelf"),sO "__init__",[sO "self",sO "store",sO "heap"]),(some (sO "Shelf"),sO "alloc",[sO "self",sO "kind",sO "count"]),(some (sO "Shelf"),sO "text_ref",[sO "self",sO "text"]),(some (sO "Shelf"),sO "new_text",[sO "self",sO "text"]),(none,sO "first_slots",[sO "m",sO "kind",sO "count",sO "sort",sO "out",sO "k"]),(none,sO "alloc_thing",[sO "m",sO "kind",sO "count"]),(none,sO "made_text",[sO "m",sO "text",sO "thing"]),(none,sO "interned_text",[sO "m",sO "text",sO "place",sO "value"]),(some (sO "Chase"),sO "__init__",[sO "self",sO "number",sO "value",sO "throw_number",sO "at"]),(some (sO "Store"),sO "__init__",[sO "self"]),(none,sO "_law_number",[sO "w"]),(none,sO "_law_value",[sO "w",sO "spec",sO "form",sO "one",sO "n",sO "addr",sO "pair"]),(none,sO "_law_noted",[sO "w",sO "kind",sO "specs"]),(none,sO "_law_fresh",[sO "w",sO "z",sO "one",sO "i",sO "specs",sO "kind"]),(none,sO "_law_put",[sO "w",sO "tag",sO "real",sO "specs",sO "spec"]),(none,sO "_law_fill",[sO "w",sO "tag",sO "real",sO "z",sO "forms",sO "specs",sO "i",sO "form",sO "one"]),(none,sO "_law_drop",[sO "w",sO "tag"]),(none,sO "_law_newest",[sO "w",sO "tag",sO "real",sO "specs"]),(none,sO "_law_fly",[sO "w",sO "z",sO "tag",sO "spec",sO "chase"]),(none,sO "_law_stand",[sO "w",sO "z",sO "m",sO "tag",sO "mref",sO "below",sO "y",sO "lower",sO "f"]),(none,sO "_law_fail",[sO "w",sO "z",sO "m",sO "kind"]),(none,sO "_law_hold",[sO "w",sO "z"]),(none,sO "_law_text",[sO "w",sO "n",sO "tag",sO "real",sO "specs",sO "value"]),(none,sO "_law_named",[sO "w",sO "given",sO "wanted",sO "real"]),(none,sO "_law_reached",[sO "w",sO "todo",sO "seen",sO "one",sO "spec"]),(none,sO "_law_same",[sO "w",sO "heap",sO "thing",sO "kind",sO "specs",sO "tag",sO "real"]),(none,sO "_law_gone",[sO "w",sO "gen",sO "seen",sO "many",sO "ages",sO "one",sO "age"]),(none,sO "_law_deed",[sO "w",sO "z",sO "m",sO "act",sO "y",sO "place",sO "f",sO "tag",sO "real",sO "specs"]),(none,sO "law",[sO "script",sO "store",sO "m",sO "w",sO "z",sO "i",sO "n"])]
end Mine
namespace Mine
open PySem
open Sem (wp)
open _root_.List renaming length_map → lM, append_nil → aN, append_assoc → aA, map_append → mP, mem_of_getElem? → mG, length_append → lA, getElem?_eq_some_iff → gS, getElem?_map → gM, mem_append → mA, mem_map → mM, map_cons → mC, cons_append → cA, mem_singleton → mS, mem_cons → mK, nil_append → nA, getElem?_eq_getElem → gE, mem_append_left → mL, length_cons → lC, mem_map_of_mem → mO, not_mem_nil → nM, getElem?_of_mem → gO, zip_cons_cons → zC, lookup_cons → kC, take_add_one → tO, mem_append_right → mR, take_length → tL, nodup_append → nD, map_map → mQ, filter_append → fA, length_nil → lN, take_sublist → tS, getElem?_append_left → gL, getElem?_append_right → gR, nodup_cons → nC, length_take → lT, length_singleton → lS, flatMap_cons → fC, map_congr_left → mJ, perm_append_singleton → pS, getElem?_cons_zero → gZ
def NKey.items:NKey→List (Option Int)
 | (a,b,false)=>[some a,some b]
 | (a,b,true)=>[some a,some b,none]
section
variable (h:Heap)
def NItem:Option Int→Value→Prop
 | some i,v=>∃ t,v=.int i t
 | none,v=>∃ a o n,v=.ref a∧h.get? a=some o∧o.cls=.type "tuple"∧o.data=.seq #[] n
inductive NItems:List (Option Int)→List Value→Prop
 | nil:NItems [] []
 | cons {k v ks vs}:NItem h k v→NItems ks vs→NItems (k::ks) (v::vs)
def IsNKey (k:NKey) (a:Addr):Prop:=∃ o items n,h.get? a=some o∧o.cls=.type "tuple"∧o.data=.seq items n∧NItems h k.items items.toList
end
theorem NItem.inj {h:Heap} {x y:Option Int} {v:Value} (hx:NItem h x v) (hy:NItem h y v):x=y:=by
 cases x<;>cases y<;>simp only [NItem] at hx hy
 ·rfl
 ·obtain⟨a,o,n,rfl,_⟩:=hx;obtain⟨t,e⟩:=hy;cases e
 ·obtain⟨t,rfl⟩:=hx;obtain⟨a,o,n,e,_⟩:=hy;cases e
 ·obtain⟨t,rfl⟩:=hx;obtain⟨t',e⟩:=hy;cases e;rfl
theorem NItems.inj {h:Heap} {x y:List (Option Int)} {vs:List Value} (hx:NItems h x vs) (hy:NItems h y vs):x=y:=by
 induction hx generalizing y with
 | nil=>cases hy;rfl
 | cons h1 _ ih =>
  cases hy with
  | cons h2 t2=>rw [h1.inj h2,ih t2]
theorem NKey.items_inj {x y:NKey} (e:x.items=y.items):x=y:=by
 obtain⟨a,b,c⟩:=x
 obtain⟨a',b',c'⟩:=y
 cases c<;>cases c'<;>simp [NKey.items] at e<;>simp [e]
theorem IsNKey.inj {h:Heap} {a:Addr} {x y:NKey} (hx:IsNKey h x a) (hy:IsNKey h y a):x=y:=by
 obtain⟨o,items,n,ho,_,hd,hi⟩:=hx
 obtain⟨o',items',n',ho',_,hd',hi'⟩:=hy
 rw [ho] at ho';cases ho'
 rw [hd] at hd';cases hd'
 exact NKey.items_inj (hi.inj hi')
theorem NItem.mono {h h':Heap} {k:Option Int} {v:Value} (m:∀ b o,h.get? b=some o→(∃ vs n,o.data=.seq vs n)→h'.get? b=some o) (x:NItem h k v):NItem h' k v:=by
 cases k with
 | some i=>exact x
 | none=>obtain⟨a,o,n,e,ho,hc,hd⟩:=x;exact⟨a,o,n,e,m _ _ ho ⟨_,_,hd⟩,hc,hd⟩
theorem NItems.mono {h h':Heap} {ks:List (Option Int)} {vs:List Value} (m:∀ b o,h.get? b=some o→(∃ vs n,o.data=.seq vs n)→h'.get? b=some o) (x:NItems h ks vs):NItems h' ks vs:=by
 induction x with
 | nil=>exact .nil
 | cons a _ ih=>exact .cons (a.mono m) ih
theorem IsNKey.keeps {h h':Heap} {k:NKey} {a d:Addr} {o:Obj} {es ep} (x:IsNKey h k a) (ho:h.get? d=some o) (hd:o.data=.dict es ep) (hs:Heap.SameBut d h h'):IsNKey h' k a:=by
 have m:∀ b o',h.get? b=some o'→(∃ vs n,o'.data=.seq vs n)→h'.get? b=some o':=fun b o' e ⟨vs,n,q⟩=>by
  refine (hs.2 b fun (r:b=d)=>?_).trans e
  rw [r,ho] at e;cases e;rw [hd] at q;cases q
 obtain⟨o',items,n,ho',hc,hd',hi⟩:=x
 exact⟨o',items,n,m _ _ ho' ⟨_,_,hd'⟩,hc,hd',hi.mono m⟩
theorem IsNKey.typeIs {s:Shared} {k:NKey} {a:Addr} (x:IsNKey s.heap k a):s.TypeIs (.ref a) "tuple":=let ⟨o,_,_,ho,hc,_⟩:=x;⟨o,ho,hc⟩
section
variable {prog:Program} {w:World} {A:Around} {E:Value→Shared→Prop} {s:Shared}
def nItemHash (prog:Program) (w:World):Option Int→Int
 | some i=>(intKind prog w).hash i
 | none=>tupleKeyHash (intKind prog w) []
def nHash (prog:Program) (w:World) (k:NKey):Int:=reduceHash (Builtin.Tuple.tupleHashOf (k.items.map (nItemHash prog w)))
theorem nItem_hash {k:Option Int} {v:Value} {Q:Int→Shared→Prop} (hu:A.units<cLine) (hk:NItem s.heap k v) (h:Q (nItemHash prog w k) {s with toks:=s.toks+1}):wpAny (model prog w) A (pyHash v) Q E s:=by
 cases k with
 | some i =>
  obtain⟨t,rfl⟩:=hk
  exact (intKind prog w).pyHash (intKind_is _ _ _ _) h
 | none =>
  obtain⟨a,o,n,rfl,ho,hc,hd⟩:=hk
  exact wpAny_pyHash_tuple (knd:=intKind prog w) (ks:=[]) hu ⟨o,_,n,ho,hc,hd,.nil⟩ h
theorem nHash_snd {k:NKey} {a:Addr} {Q:Int→Shared→Prop} (hu:A.units+10<cLine) (hk:IsNKey s.heap k a) (h:Q (nHash prog w k) {s with toks:=s.toks+(k.items.length+1)}) :
  wpAny (model prog w) A (pyHash (.ref a)) Q E s:=by
 have hT:=hk.typeIs
 obtain⟨o,items,n,ho,_,hd,hi⟩:=hk
 unfold pyHash
 first|unfold pyHashByItsType|skip
 first|refine wpAny_bind (wpAny_cRoomFor_or (.inr (by omega)) ?_)|skip
 refine wpAny_bind (wpAny_specialOf hT F.slot_tuple_hash.lookup ?_)
 show wpAny _ _ (if (some (Value.builtin "tuple.__hash__")==some Value.none)=true then _ else _) Q E s
 rw [if_neg (by rw [beq_builtin_none];exact Bool.false_ne_true)]
 refine wpAny_bind (wpAny_specialOf hT F.slot_tuple_hash.lookup ?_)
 show wpAny _ _ (callSpecialIfBoundUnlessNone? (.ref a) "__hash__" _ >>= _) Q E s
 refine wpAny_bind (wpAny_callSpecialIfBoundUnlessNone?_slot hT F.slot_tuple_hash (wpAny_call_entry F.slot_tuple_hash hT F.entry_tuple_hash ?_ (F.args_tuple_hash_1 _)))
 show wpAny _ _ (Builtin.Tuple.tupleItemsOf (.ref a) >>= _) _ _ s
 refine wpAny_bind (wpAny_tupleItemsOf ho hd ?_)
 refine wpAny_bind ?_
 rw [←Array.forIn_toList]
 refine wpAny_forIn_list _
  (fun rest (b:Array Int) s'=>∃ done left,k.items=done++left∧NItems s.heap left rest∧b.toList=done.map (nItemHash prog w)∧s'={s with toks:=s.toks+done.length})
  _ ?_ ?_ _ _ ⟨[],k.items,rfl,hi,rfl,rfl⟩
 ·rintro x rest b s' ⟨done,left,hk,hl,hb,rfl⟩
  cases hl with
  | @cons k0 _ ks' _ h1 hl' =>
   refine wpAny_bind (nItem_hash (by show A.units+1<cLine;omega) (s:={s with toks:=s.toks+done.length}) h1 ?_)
   first
    | exact wpAny_pure ⟨done++[k0],ks',by simp [hk],hl',by simp [hb],by simp [Nat.add_assoc]⟩
    | exact wpAny_bind (wpAny_pure (wpAny_pure ⟨done++[k0],ks',by simp [hk],hl',by simp [hb],by simp [Nat.add_assoc]⟩))
 ·rintro b s' ⟨done,left,hk,hl,hb,rfl⟩
  cases hl
  rw [aN] at hk
  show wpAny _ _ (retInt (Builtin.Tuple.tupleHashOf b.toList)) _ _ _
  rw [hb]
  refine wpAny_ret_mkInt ?_
  show wpAny _ _ (if (decide (-(2:Int) ^ 63≤Builtin.Tuple.tupleHashOf (done.map (nItemHash prog w)))&&decide (Builtin.Tuple.tupleHashOf (done.map (nItemHash prog w))<2 ^ 63))=true then _ else _) Q E _
  unfold nHash reduceHash at h
  rw [hk] at h
  by_cases hr:(decide (-(2:Int) ^ 63≤Builtin.Tuple.tupleHashOf (done.map (nItemHash prog w)))&&decide (Builtin.Tuple.tupleHashOf (done.map (nItemHash prog w))<2 ^ 63))=true
  ·rw [if_pos hr]
   rw [if_pos hr] at h
   exact wpAny_pure (by simpa [Nat.add_assoc] using h)
  ·rw [if_neg hr]
   rw [if_neg hr] at h
   exact wpAny_bind (wpAny_rule (wpAny_pure (by simpa [Nat.add_assoc] using h)))
def Al (x y:List (Option Int)):Prop:=∀ (j:Nat) u v,x[j]?=some u→y[j]?=some v→u.isSome=v.isSome
theorem Al.head {u v:Option Int} {x y} (h:Al (u::x) (v::y)):u.isSome=v.isSome:=h 0 u v rfl rfl
theorem Al.tail {u v:Option Int} {x y} (h:Al (u::x) (v::y)):Al x y:=fun j p q hp hq=>h (j+1) p q (by simpa using hp) (by simpa using hq)
theorem NKey.al (x y:NKey):Al x.items y.items:=by
 obtain⟨a,b,c⟩:=x
 obtain⟨a',b',c'⟩:=y
 intro j u v hu hv
 cases c<;>cases c'<;>rcases j with _|_|_|j<;>simp [NKey.items] at hu hv<;>subst hu<;>subst hv<;>rfl
theorem nItem_eq {x y:Option Int} {u v:Value} {Q:Bool→Shared→Prop} (hu:A.units<cLine) (hx:NItem s.heap x u) (hy:NItem s.heap y v) (ha:x.isSome=y.isSome) (h:Q (decide (x=y)) s):wpAny (model prog w) A (eqBool u v) Q E s:=by
 cases x<;>cases y<;>simp at ha
 ·obtain⟨a,o,n,rfl,ho,hc,hd⟩:=hx
  obtain⟨a',o',n',rfl,ho',hc',hd'⟩:=hy
  exact wpAny_eqBool_tuple (knd:=intKind prog w) (x:=[]) (y:=[]) hu ⟨o,_,n,ho,hc,hd,.nil⟩ ⟨o',_,n',ho',hc',hd',.nil⟩ h
 ·rename_i i j
  obtain⟨t,rfl⟩:=hx
  obtain⟨t',rfl⟩:=hy
  refine (intKind prog w).eqBool (a:=i) (b:=j) (intKind_is _ _ _ _) (intKind_is _ _ _ _) ?_
  have:decide (some i=some j)=decide (i=j):=by simp
  rw [this] at h;exact h
theorem n_eq_tree {x y:NKey} {a b:Addr} {P:Fin→Shared→Prop} (hu:A.units<cLine) (hx:IsNKey s.heap x a) (hy:IsNKey s.heap y b) (h:P (.done (.ret (.bool (decide (x=y))))) s) :
  wpAny (model prog w) A (Builtin.«tuple.__eq__» ⟨[.ref a,.ref b],[]⟩) P E s:=by
 have hTb:=hy.typeIs
 obtain⟨oa,xs,na,hoa,_,hda,hia⟩:=hx
 obtain⟨ob,ys,nb,hob,_,hdb,hib⟩:=hy
 have hxy:decide (x.items=y.items)=decide (x=y):=by
  by_cases e:x=y
  ·subst e;simp
  ·have:¬ x.items=y.items:=fun q=>e (NKey.items_inj q)
   simp [e,this]
 show wpAny _ _ (isInstance (.ref b) (.type "tuple") >>= _) _ _ s
 refine wpAny_bind (wpAny_isInstance hTb isSubtype_tuple_tuple ?_)
 simp only [Bool.not_true,Bool.false_eq_true,if_false]
 refine wpAny_bind (wpAny_tupleItemsOf hoa hda ?_)
 refine wpAny_bind (wpAny_tupleItemsOf hob hdb ?_)
 refine wpAny_bind ?_
 refine wpAny_forIn_list _
  (fun rest r s'=>r.1=none∧s'=s∧∃ x' y' xs' ys',rest=List.zip xs' ys'∧NItems s.heap x' xs'∧NItems s.heap y' ys'∧Al x' y'∧decide (x'=y')=decide (x=y)∧(xs'.length==ys'.length)=(xs.size==ys.size))
  _ ?_ ?_ _ _ ⟨rfl,rfl,x.items,y.items,xs.toList,ys.toList,rfl,hia,hib,NKey.al x y,hxy,by simp⟩
 ·rintro⟨u,v⟩ rest r s' ⟨hr,rfl,x',y',xs',ys',hz,hx',hy',hal,hdec,hlen⟩
  cases hx' with
  | nil=>simp at hz
  | @cons k1 u' x'' xs'' h1 hx'' =>
   cases hy' with
   | nil=>simp at hz
   | @cons k2 v' y'' ys'' h2 hy'' =>
    simp only [zC,List.cons.injEq,Prod.mk.injEq] at hz
    obtain⟨⟨rfl,rfl⟩,rfl⟩:=hz
    refine wpAny_bind (nItem_eq hu h1 h2 hal.head ?_)
    by_cases hk:k1=k2
    ·subst hk
     rw [decide_eq_true rfl]
     simp only [Bool.not_true,Bool.false_eq_true,if_false]
     refine wpAny_pure ⟨rfl,rfl,x'',y'',xs'',ys'',rfl,hx'',hy'',hal.tail,?_,by simpa using hlen⟩
     rw [←hdec]
     by_cases hxy:x''=y''
     ·simp [hxy]
     ·simp [hxy]
    ·rw [decide_eq_false hk]
     simp only [Bool.not_false,if_true]
     have hf:decide (x=y)=false:=by rw [←hdec];simp [hk]
     rw [hf] at h
     exact wpAny_bind (wpAny_pure (wpAny_pure (wpAny_pure h)))
 ·rintro⟨r1,r2⟩ s' ⟨hr,rfl,x',y',xs',ys',hz,hx',hy',hal,hdec,hlen⟩
  simp only at hr
  subst hr
  refine wpAny_pure ?_
  have hfin:(xs.size==ys.size)=decide (x=y):=by
   rw [←hdec,←hlen]
   cases hx' with
   | nil =>
    cases hy' with
    | nil=>simp
    | cons _ _=>simp
   | cons _ _ =>
    cases hy' with
    | nil=>simp
    | cons _ _=>simp at hz
  show P (.done (.ret (.bool (xs.size==ys.size)))) s'
  rw [hfin];exact h
theorem nEq_snd {x y:NKey} {a b:Addr} {Q:Bool→Shared→Prop} (hu:A.units+10<cLine) (hx:IsNKey s.heap x a) (hy:IsNKey s.heap y b) (h:Q (decide (x=y)) s) :
  wpAny (model prog w) A (eqBool (.ref a) (.ref b)) Q E s:=by
 unfold eqBool
 try with_reducible refine wpAny_holding ?_
 show wpAny _ _ (if (Value.ref a==Value.ref b)=true then _ else _) Q E s
 by_cases hab:(Value.ref a==Value.ref b)=true
 ·rw [if_pos hab]
  have e:a=b:=by have:=eq_of_beq hab;injection this
  subst e
  obtain rfl:=hx.inj hy
  exact wpAny_bind (wpAny_rule (wpAny_pure (by simpa using h)))
 ·rw [if_neg hab]
  exact wpAny_bind (wpAny_richCompare_same_room (op:=.Eq) hx.typeIs hy.typeIs F.slot_tuple_eq
   (wpAny_call_entry F.slot_tuple_eq hx.typeIs F.entry_tuple_eq (n_eq_tree (by show A.units+1<cLine;omega) hx hy ⟨_,rfl,(fun e=>nomatch e),wpAny_truthy_bool h⟩) (F.args_tuple_eq_2 _ _)) (by omega))
theorem nItem_quiet {k:Option Int} {v:Value} {Q:Bool→Shared→Prop} (hk:NItem s.heap k v) (m:Nat) (h:Q true s):wpAny (model prog w) A (eqIsQuiet (m+1) v) Q E s:=by
 cases k with
 | some i=>obtain⟨t,rfl⟩:=hk;rw [eqIsQuiet_byValue _ rfl];exact wpAny_pure h
 | none =>
  obtain⟨a,o,n,rfl,ho,hc,hd⟩:=hk
  have hT:s.TypeIs (.ref a) "tuple":=⟨o,ho,hc⟩
  unfold eqIsQuiet
  refine wpAny_bind (wpAny_specialOf hT F.slot_tuple_eq.lookup ?_)
  show wpAny _ _ (isInstance (.ref a) (.type "tuple") >>= _) _ _ s
  refine wpAny_bind (wpAny_isInstance hT isSubtype_tuple_tuple ?_)
  simp only [Bool.not_true,Bool.false_eq_true,if_false]
  refine wpAny_bind (wpAny_seqItems ho hd ?_)
  exact wpAny_bind (wpAny_pure (wpAny_pure h))
theorem n_quiet {k:NKey} {a:Addr} {Q:Bool→Shared→Prop} (hk:IsNKey s.heap k a) (h:Q true s):wpAny (model prog w) A (eqIsQuiet 8 (.ref a)) Q E s:=by
 have hT:=hk.typeIs
 obtain⟨o,items,n,ho,_,hd,hi⟩:=hk
 unfold eqIsQuiet
 refine wpAny_bind (wpAny_specialOf hT F.slot_tuple_eq.lookup ?_)
 show wpAny _ _ (isInstance (.ref a) (.type "tuple") >>= _) _ _ s
 refine wpAny_bind (wpAny_isInstance hT isSubtype_tuple_tuple ?_)
 simp only [Bool.not_true,Bool.false_eq_true,if_false]
 refine wpAny_bind (wpAny_seqItems ho hd ?_)
 refine wpAny_bind ?_
 show wpAny _ _ (forIn items _ _) _ _ s
 rw [←Array.forIn_toList]
 refine wpAny_forIn_list _ (fun rest r s'=>r.1=none∧s'=s∧∃ ks,NItems s.heap ks rest) _ ?_ ?_ _ _ ⟨rfl,rfl,_,hi⟩
 ·rintro v rest r s' ⟨hr,rfl,ks,hall⟩
  cases hall with
  | cons h1 h2 =>
   refine wpAny_bind (nItem_quiet h1 _ ?_)
   simp only [Bool.not_true,Bool.false_eq_true,if_false]
   exact wpAny_pure ⟨rfl,rfl,_,h2⟩
 ·rintro⟨r1,r2⟩ s' ⟨hr,rfl,_⟩
  simp only at hr
  subst hr
  exact wpAny_pure h
end
def nestKind (prog:Program) (w:World):HeapKind prog w NKey where
 is:=IsNKey
 hash:=nHash prog w
 draws:=fun k=>k.items.length+1
 room:=fun A=>A.units+10<cLine
 inj:=fun hx hy=>hx.inj hy
 keeps:=fun x ho hd hs=>x.keeps ho hd hs
 pyHash:=fun hu hk h=>nHash_snd hu hk h
 eqBool:=fun hu hx hy h=>nEq_snd hu hx hy h
 quiet:=fun hk h=>n_quiet hk h
end Mine
namespace Mine
open PySem PySem.W PySem.Calls PyProof.Rows PySem.Spec
open _root_.List renaming length_map → lM, append_nil → aN, append_assoc → aA, map_append → mP, mem_of_getElem? → mG, length_append → lA, getElem?_eq_some_iff → gS, getElem?_map → gM, mem_append → mA, mem_map → mM, map_cons → mC, cons_append → cA, mem_singleton → mS, mem_cons → mK, nil_append → nA, getElem?_eq_getElem → gE, mem_append_left → mL, length_cons → lC, mem_map_of_mem → mO, not_mem_nil → nM, getElem?_of_mem → gO, zip_cons_cons → zC, lookup_cons → kC, take_add_one → tO, mem_append_right → mR, take_length → tL, nodup_append → nD, map_map → mQ, filter_append → fA, length_nil → lN, take_sublist → tS, getElem?_append_left → gL, getElem?_append_right → gR, nodup_cons → nC, length_take → lT, length_singleton → lS, flatMap_cons → fC, map_congr_left → mJ, perm_append_singleton → pS, getElem?_cons_zero → gZ
abbrev Ads:=List (Addr×Addr)
def foot (ads:Ads) (b:Addr):Prop:=∃ p∈ads,p.1=b∨p.2=b
theorem foot_append {a b:Ads} {x:Addr}:foot (a++b) x ↔ foot a x∨foot b x:=by
 simp only [foot,mA]
 constructor
 ·rintro⟨p,hp|hp,h⟩
  ·exact .inl ⟨p,hp,h⟩
  ·exact .inr ⟨p,hp,h⟩
 ·rintro (⟨p,hp,h⟩|⟨p,hp,h⟩)
  ·exact⟨p,.inl hp,h⟩
  ·exact⟨p,.inr hp,h⟩
theorem foot_nil {x:Addr}:¬ foot [] x:=fun ⟨_,hp,_⟩=>nomatch hp
theorem foot_one {p:Addr×Addr} {x:Addr}:foot [p] x ↔ (p.1=x∨p.2=x):=by simp [foot]
mutual
inductive VR (ads:Ads) (h:Heap):V→Value→Prop
 | none:VR ads h .none .none
 | bool (b):VR ads h (.bool b) (.bool b)
 | int (i t):VR ads h (.int i) (.int i t)
 | str (x t):VR ads h (.str x) (.str x t)
 | tup {a o vs n l}:h.get? a=some o→o.cls=.type "tuple"→o.data=.seq vs n→VRs ads h l vs.toList→VR ads h (.tup l) (.ref a)
 | obj {i p}:ads[i]?=some p→VR ads h (.obj i) (.ref p.1)
 | frz {a o vs n l}:h.get? a=some o→o.cls=.type "list"→o.data=.seq vs n→IntsAre vs.toList l→¬ foot ads a→VR ads h (.frz l) (.ref a)
inductive VRs (ads:Ads) (h:Heap):List V→List Value→Prop
 | nil:VRs ads h [] []
 | cons {v x vs xs}:VR ads h v x→VRs ads h vs xs→VRs ads h (v::vs) (x::xs)
end
theorem VRs.length {ads:Ads} {h:Heap}:∀ {l:List V} {xs:List Value},VRs ads h l xs→l.length=xs.length
 | _,_,.nil=>rfl
 | _,_,.cons _ r=>congrArg (·+1) r.length
theorem VRs.get {ads:Ads} {h:Heap}:∀ {l:List V} {xs:List Value},VRs ads h l xs→∀ {i:Nat} {v:V},l[i]?=some v→∃ x,xs[i]?=some x∧VR ads h v x
 | _,_,.cons a r,0,v,e=>by
  simp only [gZ,Option.some.injEq] at e ⊢
  exact⟨_,rfl,e▸a⟩
 | _,_,.cons a r,i+1,v,e=>by
  simp only [List.getElem?_cons_succ] at e ⊢
  exact r.get e
theorem VRs.append {ads:Ads} {h:Heap}:∀ {l l':List V} {xs xs':List Value},VRs ads h l xs→VRs ads h l' xs'→VRs ads h (l++l') (xs++xs')
 | _,_,_,_,.nil,r=>r
 | _,_,_,_,.cons a r,s=>.cons a (r.append s)
theorem VRs.set {ads:Ads} {h:Heap}:∀ {l:List V} {xs:List Value},VRs ads h l xs→∀ (i:Nat) {v:V} {x:Value},VR ads h v x→VRs ads h (l.set i v) (xs.set i x)
 | _,_,.nil,_,_,_,_=>.nil
 | _,_,.cons _ r,0,_,_,q=>.cons q r
 | _,_,.cons a r,i+1,_,_,q=>.cons a (r.set i q)
theorem VRs.eraseIdx {ads:Ads} {h:Heap}:∀ {l:List V} {xs:List Value},VRs ads h l xs→∀ (i:Nat),VRs ads h (l.eraseIdx i) (xs.eraseIdx i)
 | _,_,.nil,_=>.nil
 | _,_,.cons _ r,0=>r
 | _,_,.cons a r,i+1=>.cons a (r.eraseIdx i)
theorem VRs.dropLast {ads:Ads} {h:Heap}:∀ {l:List V} {xs:List Value},VRs ads h l xs→VRs ads h l.dropLast xs.dropLast
 | _,_,.nil=>.nil
 | _,_,.cons _ .nil=>.nil
 | _,_,.cons a (.cons b r)=>.cons a (VRs.dropLast (.cons b r))
structure Ext (X:Addr→Prop) (ads:Ads) (s s':Shared) (ads':Ads):Prop where
 keep:∀ b o,s.heap.get? b=some o→¬ foot ads b→¬ X b→s'.heap.get? b=some o
 stay:∀ b o,s.heap.get? b=some o→∃ o',s'.heap.get? b=some o'
 new:∀ b,foot ads' b→s.heap.get? b=none
 gens:s'.gens=s.gens
 os:s'.os=s.os
abbrev none':Addr→Prop:=fun _=>False
theorem absurd_get {h:Heap} {b:Addr} {o:Obj} {p:Prop} (e:h.get? b=some o) (n:h.get? b=none):p:=by rw [e] at n;cases n
theorem Ext.refl {X:Addr→Prop} (ads:Ads) (s:Shared):Ext X ads s s []:=⟨fun _ _ e _ _=>e,fun _ o e=>⟨o,e⟩,fun _ h=>(foot_nil h).elim,rfl,rfl⟩
theorem Ext.trans {X Y:Addr→Prop} {ads a b:Ads} {s1 s2 s3:Shared} (x:Ext X ads s1 s2 a) (y:Ext Y (ads++a) s2 s3 b) (hXY:∀ c o,s1.heap.get? c=some o→¬ X c→¬ Y c):Ext X ads s1 s3 (a++b) :=
 ⟨fun c o e n nx=>y.keep c o (x.keep c o e n nx) (fun f=>by
   rcases foot_append.mp f with f|f
   ·exact n f
   ·exact absurd_get e (x.new c f)) (hXY c o e nx),
  fun c o e=>by obtain⟨o',e'⟩:=x.stay c o e;exact y.stay c o' e',fun c f=>by
   rcases foot_append.mp f with f|f
   ·exact x.new c f
   ·cases q:s1.heap.get? c with
    | none=>rfl
    | some o=>obtain⟨o',e'⟩:=x.stay c o q;exact absurd_get e' (y.new c f),y.gens.trans x.gens,y.os.trans x.os⟩
theorem Ext.tr {X:Addr→Prop} {ads a b:Ads} {s1 s2 s3:Shared} (x:Ext X ads s1 s2 a) (y:Ext X (ads++a) s2 s3 b):Ext X ads s1 s3 (a++b):=x.trans y fun _ _ _ h=>h
theorem Ext.weaken {X Y:Addr→Prop} {ads a:Ads} {s1 s2:Shared} (x:Ext X ads s1 s2 a) (h:∀ c,X c→Y c):Ext Y ads s1 s2 a :=
 ⟨fun c o e n ny=>x.keep c o e n fun q=>ny (h c q),x.stay,x.new,x.gens,x.os⟩
theorem Ext.toks {X:Addr→Prop} {ads:Ads} {s:Shared} (t:Nat):Ext X ads s {s with toks:=t} []:=⟨fun _ _ e _ _=>e,fun _ o e=>⟨o,e⟩,fun _ h=>(foot_nil h).elim,rfl,rfl⟩
theorem ads_more {ads a:Ads} {i:Nat} {p:Addr×Addr} (e:ads[i]?=some p):(ads++a)[i]?=some p:=by
 rw [gL (gS.mp e).1];exact e
structure Setup where
 prog:Program
 w:World
 g:Heap
 K:Frag
 cls:Nat→Addr
 fn:Nat→Addr
 attrs:Nat→List Str
 wks:List Str
def attrOk (K:Frag) (C:Addr) (name:Str):Bool:=findIn K (.ref C) name==some none
def clsOk (K:Frag) (C:Addr) (names:List Str):Bool :=
 plainGet K C ""&&hasDictIn K C&&findIn K (.ref C) "__setattr__"==some (some (.builtin "object.__setattr__"))&&plainOver K C&&makesIn K C&&names.all (attrOk K C)
structure ClsOk (K:Frag) (C:Addr) (names:List Str):Prop where
 ga:findIn K (.ref C) "__getattribute__"=some (some (.builtin "object.__getattribute__"))
 gk:findIn K (.ref C) "__getattr__"=some none
 hd:hasDictIn K C=true
 sa:findIn K (.ref C) "__setattr__"=some (some (.builtin "object.__setattr__"))
 po:plainOver K C=true
 made:makesIn K C=true
 at_:∀ n∈names,findIn K (.ref C) n=some none
theorem ClsOk.of {K:Frag} {C:Addr} {names:List Str} (e:clsOk K C names=true):ClsOk K C names:=by
 simp only [clsOk,Bool.and_eq_true,beq_iff_eq,List.all_eq_true,attrOk] at e
 obtain⟨⟨⟨⟨⟨a,b⟩,c⟩,d⟩,f⟩,g⟩:=e
 exact⟨(plainGet_of a).1,(plainGet_of a).2,b,c,d,f,g⟩
theorem look_of_ns {h:Heap} {dx:Addr} {m:Str→Option Value} (N:h.Ns dx m):∃ od,h.get? dx=some od∧∀ name,lookIn name od=some (m name):=by
 obtain⟨o,es,ep,ho,hd,hk,hf⟩:=N
 refine⟨o,ho,fun name=>?_⟩
 unfold lookIn
 rw [hd]
 dsimp only
 rw [←hf name]
 unfold nsFind findBy
 rw [←Array.find?_toList]
 have e:(fun e:DictEntry=>e.key.isStr name)=fun e=>e.key.isStr name:=rfl
 cases q:es.toList.find? (fun e=>e.key.isStr name) with
 | some e=>rfl
 | none =>
  dsimp only
  have:es.toList.any (·.refKey)=false:=by
   rw [List.any_eq_false]
   intro e he
   obtain⟨n,t,q⟩:=hk e (Array.mem_toList_iff.mp he)
   unfold DictEntry.refKey
   rw [q];simp
  rw [this];rfl
section
variable {prog:Program} {w:World} {A:Around} {E:Value→Shared→Prop} {s:Shared} {K:Frag} {C x dx:Addr} {m:Str→Option Value} {names:List Str} {name:Str} {v:Value}
theorem inst_at {h:Heap} (hx:h.get? x=some (instObj C dx)) (N:h.Ns dx m):∃ od,InstAt h x (instObj C dx) C (some od)∧∀ name,lookIn name od=some (m name):=by
 obtain⟨od,ho,hl⟩:=look_of_ns N
 exact⟨od,⟨hx,rfl,rfl,ho⟩,hl⟩
theorem get_attr {expr:Bool} {Q:Value→Shared→Prop} (X:K.In s.heap) (c:ClsOk K C names) (hx:s.heap.get? x=some (instObj C dx)) (N:s.heap.Ns dx m) (hn:name∈names) (hv:m name=some v) (hh:handedIn v=true)
  (h:Q v {s with toks:=s.toks+1}):wpAny (model prog w) A (getAttr (.ref x) name expr) Q E s:=by
 obtain⟨od,I,hl⟩:=inst_at hx N
 exact get_value X I c.ga (findObj_own c.hd (c.at_ name hn) rfl (by rw [hl,hv])) hh h
theorem get_meth {pl:Sem Bool} {Q:Value×List Value→Shared→Prop} {f:Addr} (X:K.In s.heap) (c:ClsOk K C names) (hx:s.heap.get? x=some (instObj C dx)) (N:s.heap.Ns dx m) (hf:findIn K (.ref C) name=some (some (.ref f)))
  (ht:isFn K (.ref f)=true) (hm:m name=none) (h:Q (.ref f,[.ref x]) s):wpAny (model prog w) A (getMethod (.ref x) name pl) Q E s:=by
 obtain⟨od,I,hl⟩:=inst_at hx N
 exact method_fn X I c.ga c.gk hf (beq_iff_eq.mp ht) (by show (lookIn name od).map _=_;rw [hl,hm];rfl) h
theorem set_attr {Q:Unit→Shared→Prop} {ns:List Str} (X:K.In s.heap) (c:ClsOk K C names) (hx:s.heap.get? x=some (instObj C dx)) (N:s.heap.Ns1 dx m) (hn:name∈names) (hw:Within m ns) (hl:ns.length≤900)
  (h:∀ h',h'.Ns1 dx (fun y=>if y=name then some v else m y)→Heap.SameBut dx s.heap h'→Q () {s with heap:=h',toks:=s.toks+2}):wpAny (model prog w) A (setAttr (.ref x) name v) Q E s:=by
 obtain⟨od,I,hlk⟩:=inst_at hx N.ns
 have ht:takerIn K C name=some none:=by unfold takerIn;rw [c.at_ name hn];rfl
 refine set_plain X I c.sa (osa_open (s:={s with toks:=s.toks+1}) X I c.po ht fun b=>?_)
 obtain⟨cd,hc,hd'⟩:=any_some c.hd
 dsimp only
 refine wpAny_bind (wpAny_pure (wpAny_bind (wpAny_bind (wpAny_loadPart hx (wpAny_bind (looks_clsIn X hc _ _ _ _ (fun _ _ e=>e) ?_))))))
 rw [hd']
 refine wpAny_pure (a:=some dx) (wpAny_bind (wpAny_pure (wpAny_bind ?_)))
 refine wpAny_nsSet1 N fun h' hn' hs'=>?_
 obtain⟨oD,esD,epD,hoD,hdD,hcD⟩:=hn'.count (hw.cons name v)
 refine wpAny_bind (wpAny_lookBehind hoD (by rw [hdD];exact pastItsLine_dict (Nat.le_trans hcD (by rw [lC,sizeLine_eq];omega))) ?_)
 exact wpAny_pure (h h' hn' hs')
end
abbrev Setup.M (W:Setup):Model:=model W.prog W.w
abbrev Setup.sk (W:Setup):PySem.KeyKind W.prog W.w Str:=PySem.strKind W.prog W.w
abbrev Setup.ik (W:Setup):PySem.KeyKind W.prog W.w Int:=PySem.intKind W.prog W.w
def isTupObj (o:Obj):Prop:=o.cls=.type "tuple"∧∃ vs n,o.data=.seq vs n
inductive OR (W:Setup) (ads:Ads) (h:Heap):O→Addr×Addr→Prop
 | list {a vs n l}:h.get? a=some (listOf vs n)→VRs ads h l vs.toList→OR W ads h (.list l) (a,a)
 | di {a kvs l}:h.DictOf W.ik a kvs→kvs.map (·.1)=l.map (·.1)→VRs ads h (l.map (·.2)) (kvs.map (·.2))→OR W ads h (.di l) (a,a)
 | ds {a kvs l}:h.DictOf W.sk a kvs→kvs.map (·.1)=l.map (·.1)→VRs ads h (l.map (·.2)) (kvs.map (·.2))→OR W ads h (.ds l) (a,a)
 | dt {a:Addr} {o:Obj} {es ep} {xs:List (NKey×Addr×Value)} {l:List (NKey×V)}:h.get? a=some o→o.ExactDict→o.data=.dict es ep→es.toList=xs.map (entryOfKey (nestKind W.prog W.w))→(xs.map (·.1)).Nodup→xs.map (·.1)=l.map (·.1) →
   VRs ads h (l.map fun p=>NKey.toV p.1) (xs.map fun x=>.ref x.2.1)→VRs ads h (l.map (·.2)) (xs.map (·.2.2))→OR W ads h (.dt l) (a,a)
 | wd {a kvs l}:h.DictOf W.sk a kvs→kvs.map (·.1)=W.wks.take l.length→l.length≤W.wks.length→VRs ads h l (kvs.map (·.2))→OR W ads h (.wd l) (a,a)
 | inst {x dx c fs m vals}:h.get? x=some (instObj (W.cls c) dx)→h.Ns1 dx m→(∀ n,m n=((W.attrs c).zip vals).lookup n)→VRs ads h fs vals→fs.length≤(W.attrs c).length→x≠dx→OR W ads h (.inst c fs) (x,dx)
theorem VR.mono {ads a:Ads} {h h':Heap} (fk:∀ b o,foot ads b→h.get? b=some o→¬ isTupObj o) (k:∀ b o,h.get? b=some o→(∃ vs n,o.data=.seq vs n)→¬ foot ads b→h'.get? b=some o) (hn:∀ b,foot a b→h.get? b=Option.none) :
  ∀ {v:V} {x:Value},VR ads h v x→VR (ads++a) h' v x:=by
 intro v x H
 refine VR.rec (motive_1:=fun v x _=>VR (ads++a) h' v x) (motive_2:=fun l xs _=>VRs (ads++a) h' l xs) .none .bool .int .str ?_ ?_ ?_ .nil (fun _ _ p q=>.cons p q) H
 ·intro a o vs n l ho hc hd _ ih
  exact .tup (k _ _ ho ⟨_,_,hd⟩ fun f=>fk _ _ f ho ⟨hc,vs,n,hd⟩) hc hd ih
 ·intro i p e
  exact .obj (ads_more e)
 ·intro b o vs n l ho hc hd hi hf
  refine .frz (k _ _ ho ⟨_,_,hd⟩ hf) hc hd hi fun f=>?_
  rcases foot_append.mp f with f|f
  ·exact hf f
  ·exact absurd_get ho (hn _ f)
theorem VRs.mono {ads a:Ads} {h h':Heap} (fk:∀ b o,foot ads b→h.get? b=some o→¬ isTupObj o) (k:∀ b o,h.get? b=some o→(∃ vs n,o.data=.seq vs n)→¬ foot ads b→h'.get? b=some o) (hn:∀ b,foot a b→h.get? b=Option.none) :
  ∀ {l:List V} {xs:List Value},VRs ads h l xs→VRs (ads++a) h' l xs
 | _,_,.nil=>.nil
 | _,_,.cons p q=>.cons (p.mono fk k hn) (VRs.mono fk k hn q)
theorem OR.at {W:Setup} {ads ads':Ads} {h h':Heap} {o:O} {p:Addr×Addr} (x:OR W ads h o p) (e1:∀ ob,h.get? p.1=some ob→h'.get? p.1=some ob) (e2:∀ ob,h.get? p.2=some ob→h'.get? p.2=some ob)
  (m:∀ l xs,VRs ads h l xs→VRs ads' h' l xs):OR W ads' h' o p:=by
 cases x with
 | list a b=>exact .list (e1 _ a) (m _ _ b)
 | di a b c=>obtain⟨o,es,ep,ho,r⟩:=a;exact .di ⟨o,es,ep,e1 _ ho,r⟩ b (m _ _ c)
 | ds a b c=>obtain⟨o,es,ep,ho,r⟩:=a;exact .ds ⟨o,es,ep,e1 _ ho,r⟩ b (m _ _ c)
 | dt a a_1 a_2 a_3 a_4 b c d=>exact .dt (e1 _ a) a_1 a_2 a_3 a_4 b (m _ _ c) (m _ _ d)
 | wd a b c d=>obtain⟨o,es,ep,ho,r⟩:=a;exact .wd ⟨o,es,ep,e1 _ ho,r⟩ b c (m _ _ d)
 | inst a b c d e f=>exact .inst (e1 _ a) (b.at e2) c (m _ _ d) e f
theorem OR.foot_obj {W:Setup} {ads:Ads} {h:Heap} {o:O} {p:Addr×Addr} (x:OR W ads h o p) {b:Addr} (hb:p.1=b∨p.2=b):∃ ob,h.get? b=some ob∧¬ isTupObj ob:=by
 have dict {b:Addr} {o:Obj} {es ep} (ho:h.get? b=some o) (hd:o.data=.dict es ep):∃ ob,h.get? b=some ob∧¬ isTupObj ob:=⟨o,ho,fun ⟨_,vs,n,e⟩=>by rw [hd] at e;cases e⟩
 cases x with
 | list a _=>rcases hb with rfl|rfl<;>exact⟨_,a,fun ⟨e,_⟩=>by simp at e⟩
 | di a _ _=>obtain⟨o,es,ep,ho,_,hd,_⟩:=a;rcases hb with rfl|rfl<;>exact dict ho hd
 | ds a _ _=>obtain⟨o,es,ep,ho,_,hd,_⟩:=a;rcases hb with rfl|rfl<;>exact dict ho hd
 | dt a _ hd _ _ _ _ _=>rcases hb with rfl|rfl<;>exact dict a hd
 | wd a _ _ _=>obtain⟨o,es,ep,ho,_,hd,_⟩:=a;rcases hb with rfl|rfl<;>exact dict ho hd
 | inst a b _ _ _ _ =>
  rcases hb with rfl|rfl
  ·exact⟨_,a,fun ⟨e,_⟩=>by simp at e⟩
  ·obtain⟨o,es,ep,ho,hd,_⟩:=b;exact dict ho hd
structure St (W:Setup) (ads:Ads) (H:Hp) (s:Shared):Prop where
 len:ads.length=H.length
 sep:∀ (i j:Nat) (p q:Addr×Addr),ads[i]?=some p→ads[j]?=some q→i≠j→p.1≠q.1∧p.1≠q.2∧p.2≠q.1∧p.2≠q.2
 obj:∀ (i:Nat) (o:O) (p:Addr×Addr),H[i]?=some o→ads[i]?=some p→OR W ads s.heap o p
 base:∀ b o,W.g.get? b=some o→s.heap.get? b=some o
 off:∀ b,foot ads b→W.g.get? b=none
theorem foot_of {ads:Ads} {i:Nat} {p:Addr×Addr} (e:ads[i]?=some p):foot ads p.1∧foot ads p.2:=⟨⟨p,mG e,.inl rfl⟩,⟨p,mG e,.inr rfl⟩⟩
section
variable {W:Setup} {ads:Ads} {H:Hp} {s s':Shared}
theorem St.at (S:St W ads H s) {i:Nat} {o:O} (e:H[i]?=some o):∃ p,ads[i]?=some p∧OR W ads s.heap o p:=by
 have hi:=(gS.mp e).1
 obtain⟨p,hp⟩:∃ p,ads[i]?=some p:=⟨_,gE (by rw [S.len];exact hi)⟩
 exact⟨_,hp,S.obj i o _ e hp⟩
theorem St.has (S:St W ads H s) {i:Nat} {p:Addr×Addr} (e:ads[i]?=some p):∃ o,H[i]?=some o∧OR W ads s.heap o p:=by
 have hi:=(gS.mp e).1
 obtain⟨o,ho⟩:∃ o,H[i]?=some o:=⟨_,gE (by rw [←S.len];exact hi)⟩
 exact⟨_,ho,S.obj i _ p ho e⟩
theorem St.foot_obj (S:St W ads H s) {b:Addr} (f:foot ads b):∃ o,s.heap.get? b=some o∧¬ isTupObj o:=by
 obtain⟨p,hp,hb⟩:=f
 obtain⟨i,hi⟩:=gO hp
 obtain⟨o,_,x⟩:=S.has hi
 exact x.foot_obj hb
theorem St.fk (S:St W ads H s):∀ b o,foot ads b→s.heap.get? b=some o→¬ isTupObj o:=fun b o f e=>by
 obtain⟨o',ho',h⟩:=S.foot_obj f
 rw [e] at ho';cases ho';exact h
def Dicts (X:Addr→Prop) (h:Heap):Prop:=∀ b o,X b→h.get? b=some o→∀ vs n,o.data≠.seq vs n
theorem Dicts.none {h:Heap}:Dicts none' h:=fun _ _ f=>f.elim
theorem St.mono (S:St W ads H s) {a:Ads} {X:Addr→Prop} (x:Ext X ads s s' a) (hX:Dicts X s.heap) {v:V} {r:Value} (h:VR ads s.heap v r):VR (ads++a) s'.heap v r :=
 h.mono S.fk (fun b o e ⟨vs,n,hd⟩ f=>x.keep b o e f fun q=>hX b o q e vs n hd) x.new
theorem St.monos (S:St W ads H s) {a:Ads} {X:Addr→Prop} (x:Ext X ads s s' a) (hX:Dicts X s.heap) {l:List V} {r:List Value} (h:VRs ads s.heap l r):VRs (ads++a) s'.heap l r :=
 h.mono S.fk (fun b o e ⟨vs,n,hd⟩ f=>x.keep b o e f fun q=>hX b o q e vs n hd) x.new
theorem St.extend (S:St W ads H s) {X:Addr→Prop} (x:Ext X ads s s' []) (hX:Dicts X s.heap) (hF:∀ b o,foot ads b→s.heap.get? b=some o→s'.heap.get? b=some o) (hg:∀ b,X b→W.g.get? b=none):St W ads H s':=by
 refine⟨S.len,S.sep,fun i o p e hp=>?_,fun b o e=>x.keep b o (S.base b o e) (fun f=>absurd_get e (S.off b f)) fun q=>absurd_get e (hg b q),S.off⟩
 have f:=foot_of hp
 exact (S.obj i o p e hp).at (fun ob=>hF _ ob f.1) (fun ob=>hF _ ob f.2) fun l xs h=>by have:=S.monos x hX h;rwa [aN] at this
theorem Ext.of_keep {X:Addr→Prop} (k:∀ b o,s.heap.get? b=some o→¬ X b→s'.heap.get? b=some o) (hz:∀ b o,s.heap.get? b=some o→∃ o',s'.heap.get? b=some o') (hg:s'.gens=s.gens) (ho:s'.os=s.os):Ext X ads s s' [] :=
 ⟨fun b o e _ nx=>k b o e nx,hz,fun _ f=>(foot_nil f).elim,hg,ho⟩
theorem Ext.of_kept (k:∀ b o,s.heap.get? b=some o→s'.heap.get? b=some o) (hg:s'.gens=s.gens) (ho:s'.os=s.os):Ext none' ads s s' []:=.of_keep (fun b o e _=>k b o e) (fun b o e=>⟨o,k b o e⟩) hg ho
theorem St.alloc (S:St W ads H s) {o:O} {p:Addr×Addr} (k:∀ b o,s.heap.get? b=some o→s'.heap.get? b=some o) (h1:s.heap.get? p.1=none) (h2:s.heap.get? p.2=none)
  (hg:s'.gens=s.gens) (hos:s'.os=s.os) (ho:OR W (ads++[p]) s'.heap o p):St W (ads++[p]) (H++[o]) s'∧Ext none' ads s s' [p]:=by
 have x:Ext none' ads s s' [p]:=⟨fun b o e _ _=>k b o e,fun b o e=>⟨o,k b o e⟩,fun b f=>by rcases foot_one.mp f with rfl|rfl<;>assumption,hg,hos⟩
 refine⟨⟨by simp [S.len],fun i j q r hi hj hij=>?_,fun i o' q e hq=>?_,fun b o e=>k b o (S.base b o e),fun b f=>?_⟩,x⟩
 ·have lt {i:Nat} {q:Addr×Addr} (e:ads[i]?=some q):(∃ o,s.heap.get? q.1=some o)∧∃ o,s.heap.get? q.2=some o:=by
   obtain⟨o,h,_⟩:=S.foot_obj (foot_of e).1
   obtain⟨o',h',_⟩:=S.foot_obj (foot_of e).2
   exact⟨⟨o,h⟩,⟨o',h'⟩⟩
  have ne {a b:Addr} (x:∃ o,s.heap.get? a=some o) (y:s.heap.get? b=none):a≠b:=fun e=>by obtain⟨o,x⟩:=x;rw [e] at x;exact absurd_get x y
  have hz0:∀ {i:Nat} {q:Addr×Addr},(ads++[p])[i]?=some q→(i<ads.length∧ads[i]?=some q)∨(i=ads.length∧q=p):=fun {i q} e=>by
   have hl:=(gS.mp e).1
   rw [lA,lS] at hl
   rcases Nat.lt_or_ge i ads.length with h|h
   ·rw [gL h] at e;exact .inl ⟨h,e⟩
   ·have:i=ads.length:=by omega
    subst this
    rw [gR (Nat.le_refl _)] at e
    exact .inr ⟨rfl,by simpa using e.symm⟩
  rcases hz0 hi with ⟨_,hi⟩|⟨hi,hq⟩<;>rcases hz0 hj with ⟨_,hj⟩|⟨hj,hr⟩
  ·exact S.sep i j q r hi hj hij
  ·obtain⟨h3,h4⟩:=lt hi;rw [hr];exact⟨ne h3 h1,ne h3 h2,ne h4 h1,ne h4 h2⟩
  ·obtain⟨h3,h4⟩:=lt hj;rw [hq];exact⟨(ne h3 h1).symm,(ne h4 h1).symm,(ne h3 h2).symm,(ne h4 h2).symm⟩
  ·omega
 ·rcases Nat.lt_or_ge i ads.length with h|h
  ·rw [gL h] at hq
   rw [gL (by rw [←S.len];exact h)] at e
   exact (S.obj i o' q e hq).at (fun ob=>k _ ob) (fun ob=>k _ ob) fun l xs h=>S.monos x .none h
  ·have hi:i=ads.length:=by
    have:=(gS.mp hq).1
    simp at this;omega
   subst hi
   rw [gR (Nat.le_refl _)] at hq
   rw [S.len,gR (Nat.le_refl _)] at e
   simp at hq e
   subst hq;subst e;exact ho
 ·rcases foot_append.mp f with f|f
  ·exact S.off b f
  ·cases q:W.g.get? b with
   | none=>rfl
   | some o=>rcases foot_one.mp f with rfl|rfl<;>exact absurd_get (S.base _ o q) (by assumption)
theorem St.update (S:St W ads H s) {i:Nat} {o:O} {p:Addr×Addr} (hi:ads[i]?=some p) (k:∀ b o,b≠p.1→b≠p.2→s.heap.get? b=some o→s'.heap.get? b=some o)
  (hg:s'.gens=s.gens) (hos:s'.os=s.os) (ho:(∀ l xs,VRs ads s.heap l xs→VRs ads s'.heap l xs)→OR W ads s'.heap o p):St W ads (H.set i o) s'∧Ext none' ads s s' []:=by
 have f:=foot_of hi
 have mon0:∀ l xs,VRs ads s.heap l xs→VRs ads s'.heap l xs:=fun l xs h=>by
  have:=h.mono (a:=[]) S.fk (fun b o' e _ n=>k b o' (fun q=>n (q▸f.1)) (fun q=>n (q▸f.2)) e) fun _ f=>(foot_nil f).elim
  rwa [aN] at this
 have hz:∀ b o,s.heap.get? b=some o→∃ o',s'.heap.get? b=some o':=fun b o' e=>by
  by_cases h1:b=p.1
  ·subst h1;obtain⟨ob,h,_⟩:=(ho mon0).foot_obj (.inl rfl);exact⟨ob,h⟩
  ·by_cases h2:b=p.2
   ·subst h2;obtain⟨ob,h,_⟩:=(ho mon0).foot_obj (.inr rfl);exact⟨ob,h⟩
   ·exact⟨o',k b o' h1 h2 e⟩
 have x:Ext none' ads s s' []:=⟨fun b o e n _=>k b o (fun q=>n (q▸f.1)) (fun q=>n (q▸f.2)) e,hz,fun _ f=>(foot_nil f).elim,hg,hos⟩
 have mon:∀ l xs,VRs ads s.heap l xs→VRs ads s'.heap l xs:=fun l xs h=>by have:=S.monos x .none h;rwa [aN] at this
 refine⟨⟨by rw [S.len,List.length_set],S.sep,fun j o' q e hq=>?_,fun b o e=>?_,S.off⟩,x⟩
 ·by_cases hij:i=j
  ·subst hij
   rw [hi] at hq;cases hq
   rw [List.getElem?_set_self (by rw [←S.len];exact (gS.mp hi).1)] at e
   cases e;exact ho mon
  ·rw [List.getElem?_set_ne hij] at e
   have sp:=S.sep i j p q hi hq hij
   exact (S.obj j o' q e hq).at (fun ob=>k _ ob (Ne.symm sp.1) (Ne.symm sp.2.2.1)) (fun ob=>k _ ob (Ne.symm sp.2.1) (Ne.symm sp.2.2.2)) mon
 ·exact k b o (fun q=>absurd_get e (q▸S.off _ f.1)) (fun q=>absurd_get e (q▸S.off _ f.2)) (S.base b o e)
end
abbrev no':Value→Shared→Prop:=fun _ _=>False
structure AOK (n:Nat) (A:Around):Prop where
 hh:A.handled=none
 depth:A.depth+3*n+5<recursionLimit
 units:A.units+10*n+100<cLine
theorem AOK.u {n:Nat} {A:Around} (h:AOK n A):A.units<cLine:=by have:=h.units;omega
theorem AOK.in1 {n:Nat} {A:Around} (h:AOK n A):A.in1.units<cLine:=by have:=h.units;show A.units+1<cLine;omega
structure EnvOK (env:Env):Prop where
 fn:env.scope.kind=.function
 gl:env.globals=mainGlobals
 bl:env.builtins=builtinsNs
structure ScopeR (sc:Scope) (env:Env):Prop where
 loc:∀ x,sc.names.lookup x=some .local→env.kindOf x=some .local
 glob:∀ x,sc.names.lookup x=some .globalImplicit→env.kindOf x=some .globalImplicit
 cell:∀ x,sc.names.lookup x=some .cell→env.kindOf x=some .cell
inductive LoadsTo (env:Env) (x:Str) (w:Value) (ads:Ads) (h:Heap):Prop
 | loc {m}:env.kindOf x=some .local→h.Ns env.locals m→m x=some w→¬ foot ads env.locals→LoadsTo env x w ads h
 | cell {c}:env.kindOf x=some .cell→env.cells.lookup x=some c→h.IsCell c (some w)→¬ foot ads c→LoadsTo env x w ads h
 | free {c}:env.kindOf x=some .free→env.cells.lookup x=some c→h.IsCell c (some w)→¬ foot ads c→LoadsTo env x w ads h
def EnvR (names:List Str) (env:Env) (ρ:Rho) (ads:Ads) (h:Heap):Prop :=
 ∀ (i:Nat) (v:V),(ρ[i]?).join=some v→∃ x w,names[i]?=some x∧VR ads h v w∧LoadsTo env x w ads h
section
variable {W:Setup} {ads a:Ads} {H:Hp} {s s':Shared} {env:Env} {names:List Str} {ρ:Rho} {x:Str} {w:Value}
theorem not_foot_ext {X:Addr→Prop} (e:Ext X ads s s' a) {b:Addr} {o:Obj} (hb:s.heap.get? b=some o) (h:¬ foot ads b):¬ foot (ads++a) b:=fun f=>by
 rcases foot_append.mp f with f|f
 ·exact h f
 ·exact absurd_get hb (e.new b f)
theorem LoadsTo.ext (e:Ext none' ads s s' a) (l:LoadsTo env x w ads s.heap):LoadsTo env x w (ads++a) s'.heap:=by
 cases l with
 | loc hk hn hm hf =>
  obtain⟨o,es,ep,ho,r⟩:=hn
  exact .loc hk ⟨o,es,ep,e.keep _ _ ho hf id,r⟩ hm (not_foot_ext e ho hf)
 | cell hk hc hv hf =>
  obtain⟨o,ho,r⟩:=hv
  exact .cell hk hc ⟨o,e.keep _ _ ho hf id,r⟩ (not_foot_ext e ho hf)
 | free hk hc hv hf =>
  obtain⟨o,ho,r⟩:=hv
  exact .free hk hc ⟨o,e.keep _ _ ho hf id,r⟩ (not_foot_ext e ho hf)
theorem EnvR.ext (S:St W ads H s) (e:Ext none' ads s s' a) (R:EnvR names env ρ ads s.heap):EnvR names env ρ (ads++a) s'.heap:=fun i v hv=>by
 obtain⟨x,w,hx,hw,hl⟩:=R i v hv
 exact⟨x,w,hx,S.mono e .none hw,hl.ext e⟩
end
def PE (W:Setup) (ads:Ads) (s:Shared) (v:V) (H':Hp) (x:Value) (s':Shared):Prop :=
 ∃ a,St W (ads++a) H' s'∧VR (ads++a) s'.heap v x∧Ext none' ads s s' a
def PEs (W:Setup) (ads:Ads) (s:Shared) (vs:List V) (H':Hp) (xs:List Value) (s':Shared):Prop :=
 ∃ a,St W (ads++a) H' s'∧VRs (ads++a) s'.heap vs xs∧Ext none' ads s s' a
abbrev CallF:=Nat→List V→Hp→Option (V×Hp)
structure Here (W:Setup) (n:Nat) (names:List Str) (sc:Scope) (ρ:Rho) (A:Around) (env:Env) (ads:Ads) (H:Hp) (s:Shared):Prop where
 a:AOK n A
 e:EnvOK env
 sc:ScopeR sc env
 r:EnvR names env ρ ads s.heap
 st:St W ads H s
theorem Here.ext {W:Setup} {n:Nat} {names:List Str} {sc:Scope} {ρ:Rho} {A:Around} {env:Env} {ads a:Ads} {H H':Hp} {s s':Shared} (h:Here W n names sc ρ A env ads H s) (S:St W (ads++a) H' s') (e:Ext none' ads s s' a) :
  Here W n names sc ρ A env (ads++a) H' s':=⟨h.a,h.e,h.sc,h.r.ext h.st e,S⟩
def ESnd (W:Setup) (gt:List V) (n:Nat) (C:CallF) (names:List Str) (sc:Scope) (a:E) (r:Expr):Prop :=
 ∀ ρ H v H',evalE gt C ρ a H=some (v,H')→∀ A env ads s,Here W n names sc ρ A env ads H s→wpAny W.M A (eval r env) (PE W ads s v H') no' s
def EsSnd (W:Setup) (gt:List V) (n:Nat) (C:CallF) (names:List Str) (sc:Scope) (l:List E) (rs:List Expr):Prop :=
 ∀ ρ H vs H',evalEs gt C ρ l H=some (vs,H')→∀ A env ads s pos,Here W n names sc ρ A env ads H s→wpAny W.M A (spliced (backTo pos (starEach rs env))) (PEs W ads s vs H') no' s
theorem bnd_eq {α β:Type} {x:Option (α×Hp)} {f:α→Hp→Option β} {r:β} (h:bnd x f=some r):∃ a H,x=some (a,H)∧f a H=some r:=by
 cases x with
 | none=>cases h
 | some p=>exact⟨p.1,p.2,rfl,h⟩
theorem asSome_eq {α β:Type} {x:Option α} {f:α→Option β} {r:β} (h:asSome x f=some r):∃ a,x=some a∧f a=some r:=by
 cases x with
 | none=>cases h
 | some p=>exact⟨p,rfl,h⟩
theorem guardB_eq {β:Type} {b:Bool} {f:Option β} {r:β} (h:guardB b f=some r):b=true∧f=some r:=by
 cases b with
 | true=>exact⟨rfl,h⟩
 | false=>cases h
theorem asObj_eq {β:Type} {v:V} {f:Nat→Option β} {r:β} (h:asObj v f=some r):∃ o,v=.obj o∧f o=some r:=by
 cases v<;>first|exact⟨_,rfl,h⟩|cases h
theorem asInt_eq {β:Type} {v:V} {f:Int→Option β} {r:β} (h:asInt v f=some r):∃ o,v=.int o∧f o=some r:=by
 cases v<;>first|exact⟨_,rfl,h⟩|cases h
theorem asBool_eq {β:Type} {v:V} {f:Bool→Option β} {r:β} (h:asBool v f=some r):∃ o,v=.bool o∧f o=some r:=by
 cases v<;>first|exact⟨_,rfl,h⟩|cases h
theorem asTup_eq {β:Type} {v:V} {f:List V→Option β} {r:β} (h:asTup v f=some r):∃ o,v=.tup o∧f o=some r:=by
 cases v<;>first|exact⟨_,rfl,h⟩|cases h
theorem asFrz_eq {β:Type} {v:V} {f:List Int→Option β} {r:β} (h:asFrz v f=some r):∃ o,v=.frz o∧f o=some r:=by
 cases v<;>first|exact⟨_,rfl,h⟩|cases h
theorem asNone_eq {β:Type} {v:V} {f:Option β} {r:β} (h:asNone v f=some r):v=.none∧f=some r:=by
 cases v<;>first|exact⟨rfl,h⟩|cases h
theorem asList_eq {β:Type} {H:Hp} {o:Nat} {f:List V→Option β} {r:β} (h:asList H o f=some r):∃ l,H[o]?=some (.list l)∧f l=some r:=by
 unfold asList at h
 split at h
 ·exact⟨_,by assumption,h⟩
 ·cases h
theorem asDi_eq {β:Type} {H:Hp} {o:Nat} {f:List (Int×V)→Option β} {r:β} (h:asDi H o f=some r):∃ l,H[o]?=some (.di l)∧f l=some r:=by
 unfold asDi at h
 split at h
 ·exact⟨_,by assumption,h⟩
 ·cases h
theorem asWd_eq {β:Type} {H:Hp} {o:Nat} {f:List V→Option β} {r:β} (h:asWd H o f=some r):∃ l,H[o]?=some (.wd l)∧f l=some r:=by
 unfold asWd at h
 split at h
 ·exact⟨_,by assumption,h⟩
 ·cases h
theorem asInst_eq {β:Type} {H:Hp} {o c:Nat} {f:List V→Option β} {r:β} (h:asInst H o c f=some r):∃ l,H[o]?=some (.inst c l)∧f l=some r:=by
 unfold asInst at h
 split at h
 ·split at h
  ·rename_i c' fs e q;subst q;exact⟨_,e,h⟩
  ·cases h
 ·cases h
section
variable {W:Setup} {gt:List V} {n:Nat} {C:CallF} {names:List Str} {sc:Scope} {A:Around} {env:Env} {ads a:Ads} {H:Hp} {s s':Shared} {ρ:Rho}
theorem PE.here {v:V} {x:Value} {s':Shared} (S:St W ads H s) (hv:VR ads s.heap v x) (hh:s'.heap=s.heap) (hg:s'.gens=s.gens) (ho:s'.os=s.os):PE W ads s v H x s':=by
 have e:Ext none' ads s s' []:=Ext.of_kept (fun b o e=>by rw [hh];exact e) hg ho
 refine⟨[],?_,?_,e⟩
 ·rw [aN];exact S.extend e .none (fun b o _ h=>by rw [hh];exact h) fun _ f=>f.elim
 ·rw [aN,hh];exact hv
theorem PE.after {ads a:Ads} {s s1 s2:Shared} {v:V} {H':Hp} {x:Value} (e:Ext none' ads s s1 a) (p:PE W (ads++a) s1 v H' x s2):PE W ads s v H' x s2:=by
 obtain⟨b,S,hv,e'⟩:=p
 exact⟨a++b,by rw [←aA];exact S,by rw [←aA];exact hv,e.tr e'⟩
theorem PEs.after {ads a:Ads} {s s1 s2:Shared} {v:List V} {H':Hp} {x:List Value} (e:Ext none' ads s s1 a) (p:PEs W (ads++a) s1 v H' x s2):PEs W ads s v H' x s2:=by
 obtain⟨b,S,hv,e'⟩:=p
 exact⟨a++b,by rw [←aA];exact S,by rw [←aA];exact hv,e.tr e'⟩
theorem snd_lit {v:V} {c:Const} {k:Nat} {pos:Pos} (h:constIs v c=true):ESnd W gt n C names sc (.lit v) (.Constant c k pos):=by
 intro ρ H v' H' he A env ads s hr
 cases he
 cases v<;>cases c<;>simp only [constIs,Bool.false_eq_true] at h
 ·exact wpAny_Constant_none (.here hr.st .none rfl rfl rfl)
 ·rw [eq_of_beq h];exact wpAny_Constant_bool (.here hr.st (.bool _) rfl rfl rfl)
 ·rw [eq_of_beq h];exact wpAny_Constant_int (.here hr.st (.int _ _) rfl rfl rfl)
 ·rw [eq_of_beq h];exact wpAny_Constant_str (.here hr.st (.str _ _) rfl rfl rfl)
theorem load_to {x:Str} {w:Value} {Q:Value→Shared→Prop} (e:EnvOK env) (l:LoadsTo env x w ads s.heap) (hp:plainName x=true) (h:Q w s):wpAny W.M A (loadName env x) Q no' s:=by
 simp only [plainName,Bool.and_eq_true,bne_iff_ne,ne_eq] at hp
 cases l with
 | loc hk hn hm hf=>exact wpAny_loadName_local e.fn hk hn hm h
 | cell hk hc hv hf=>exact wpAny_loadName_cell e.fn hk hc hv h
 | free hk hc hv hf=>exact wpAny_loadName_free e.fn hk hc hv h (by simpa using hp.2)
theorem snd_loc {i:Nat} {x:Str} {pos:Pos} (h:readsAs names sc i x=true):ESnd W gt n C names sc (.loc i) (.Name x pos):=by
 intro ρ H v H' he A env ads s hr
 obtain⟨v',hv,he⟩:=asSome_eq he
 cases he
 simp only [readsAs,Bool.and_eq_true,beq_iff_eq] at h
 obtain⟨y,w,hy,hw,hl⟩:=hr.r i _ hv
 rw [h.1.1] at hy;cases hy
 refine wpAny_Name (load_to hr.e hl h.1.2 (.here hr.st hw rfl rfl rfl)) ?_
 have:=h.1.2
 simp only [plainName,Bool.and_eq_true,bne_iff_ne,ne_eq] at this
 simpa using this.1
theorem bits_small {a:Int} (h:a.natAbs<2 ^ 60):Builtin.Int.intBits a≤64:=by
 have e:(2:Nat) ^ 60=1152921504606846976:=by decide
 rw [e] at h
 refine PySem.intBits_le_64 ?_ ?_<;>omega
theorem bin_int {op:Bop} {o:Operator} {i j k:Int} {t u:Tok} {Q:Value→Shared→Prop} (ho:bopIs op o=true) (hi:intOp op i j=some k) (h:∀ t tk,Q (.int k t) {s with toks:=tk}) :
  wpAny W.M A (binaryOp o (.int i t) (.int j u)) Q no' s:=by
 cases op<;>cases o<;>simp only [bopIs,Bool.false_eq_true] at ho<;>simp only [intOp] at hi
 ·cases hi;exact add_int (h _ _)
 ·cases hi;exact sub_int (h _ _)
 ·split at hi
  ·rename_i hb;cases hi;exact mul_int (h _ _) (IntMulOk.of_left (bits_small hb))
  ·cases hi
 ·split at hi
  ·rename_i hb;cases hi;exact floordiv_int (by omega) (h _ _) (.inl (PyProof.noPylong_small (by omega)))
  ·cases hi
 ·split at hi
  ·rename_i hb;cases hi;exact mod_int' (by omega) (h _ _)
  ·cases hi
 ·split at hi
  ·rename_i hb;cases hi;exact rshift_int hb.1 (h _ _)
  ·cases hi
theorem snd_bin {op:Bop} {o:Operator} {p q:E} {l r:Expr} {pos:Pos} (ho:bopIs op o=true) (hp:ESnd W gt n C names sc p l) (hq:ESnd W gt n C names sc q r):ESnd W gt n C names sc (.bin op p q) (.BinOp l o r pos):=by
 intro ρ H v H' he A env ads s hr
 obtain⟨x,H1,e1,he⟩:=bnd_eq he
 obtain⟨y,H2,e2,he⟩:=bnd_eq he
 obtain⟨z,e3,he⟩:=asSome_eq he
 obtain⟨rfl,rfl⟩:z=v∧H2=H':=by cases he;exact⟨rfl,rfl⟩
 refine wpAny_BinOp (wpAny_mono (hp _ _ _ _ e1 A env ads s hr) (fun xv s1 h_1=>?_) fun _ _ f=>f.elim)
 obtain⟨a_1,S1,r_1,x1⟩:=h_1
 refine wpAny_mono (hq _ _ _ _ e2 A env _ s1 (hr.ext S1 x1)) (fun yv s2 h_2=>?_) fun _ _ f=>f.elim
 obtain⟨a_2,S2,r_2,x2⟩:=h_2
 have r1':=S1.mono x2 .none r_1
 have fin:∀ {z:V} {x:Value} {s':Shared},VR (ads++a_1++a_2) s2.heap z x→s'.heap=s2.heap→s'.gens=s2.gens→s'.os=s2.os→PE W ads s z H2 x s':=fun hz h1 h2 h3=>(PE.here S2 hz h1 h2 h3).after x2 |>.after x1
 cases r1' with
 | int i t =>
  cases r_2 with
  | int j u =>
   cases hi:intOp op i j with
   | none=>simp [binV,hi] at e3
   | some k =>
    have ez:z=.int k:=by simpa [binV,hi] using e3.symm
    subst ez
    exact bin_int ho hi fun _ _=>fin (.int _ _) rfl rfl rfl
  | _=>simp [binV] at e3
 | str i t =>
  cases r_2 with
  | str j u =>
   cases op<;>simp only [binV,reduceCtorEq] at e3
   split at e3
   ·rename_i hl
    cases e3
    cases o<;>simp only [bopIs,Bool.false_eq_true] at ho
    exact PyProof.Rows.add_str (fun _ _=>fin (.str _ _) rfl rfl rfl) (by rw [sizeLine_eq];omega)
   ·cases e3
  | _=>simp [binV] at e3
 | _=>simp [binV] at e3
end
section
variable {W:Setup} {gt:List V} {n:Nat} {C:CallF} {names:List Str} {sc:Scope} {A:Around} {env:Env} {ads a:Ads} {H H1 H2:Hp} {s s':Shared} {ρ:Rho} {v x:V} {p q:E} {l r:Expr}
theorem ESnd.go (hp:ESnd W gt n C names sc p l) (e1:evalE gt C ρ p H=some (x,H1)) (hr:Here W n names sc ρ A env ads H s) {Q:Value→Shared→Prop}
  (k:∀ xv s1 a_1,Here W n names sc ρ A env (ads++a_1) H1 s1→VR (ads++a_1) s1.heap x xv→Ext none' ads s s1 a_1→Q xv s1):wpAny W.M A (eval l env) Q no' s :=
 wpAny_mono (hp _ _ _ _ e1 A env ads s hr) (fun xv s1 ⟨a_1,S1,r_1,x1⟩=>k xv s1 a_1 (hr.ext S1 x1) r_1 x1) fun _ _ f=>f.elim
theorem EsSnd.go {ps:List E} {rs:List Expr} {xs:List V} {pos:Pos} (hp:EsSnd W gt n C names sc ps rs) (e1:evalEs gt C ρ ps H=some (xs,H1)) (hr:Here W n names sc ρ A env ads H s) {Q:List Value→Shared→Prop}
  (k:∀ xv s1 a_1,Here W n names sc ρ A env (ads++a_1) H1 s1→VRs (ads++a_1) s1.heap xs xv→Ext none' ads s s1 a_1→Q xv s1):wpAny W.M A (spliced (backTo pos (starEach rs env))) Q no' s :=
 wpAny_mono (hp _ _ _ _ e1 A env ads s pos hr) (fun xv s1 ⟨a_1,S1,r_1,x1⟩=>k xv s1 a_1 (hr.ext S1 x1) r_1 x1) fun _ _ f=>f.elim
theorem Here.pe (hr:Here W n names sc ρ A env ads H s) {z:Value} (hz:VR ads s.heap v z) {s':Shared} (h1:s'.heap=s.heap) (h2:s'.gens=s.gens) (h3:s'.os=s.os):PE W ads s v H z s':=.here hr.st hz h1 h2 h3
theorem snd_neg {pos:Pos} (hp:ESnd W gt n C names sc p l):ESnd W gt n C names sc (.neg p) (.UnaryOp .USub l pos):=by
 intro ρ H v H' he A env ads s hr
 obtain⟨x,H1,e1,he⟩:=bnd_eq he
 obtain⟨i,rfl,he⟩:=asInt_eq he
 cases he
 refine wpAny_UnaryOp (hp.go e1 hr fun xv s1 a_1 h_1 r_1 x1=>?_)
 cases r_1
 exact PyProof.Rows.neg_int (PE.after x1 (by refine h_1.pe (VR.int _ _) ?_ ?_ ?_<;>rfl))
theorem snd_not {pos:Pos} (hp:ESnd W gt n C names sc p l):ESnd W gt n C names sc (.not p) (.UnaryOp .Not l pos):=by
 intro ρ H v H' he A env ads s hr
 obtain⟨x,H1,e1,he⟩:=bnd_eq he
 obtain⟨i,rfl,he⟩:=asBool_eq he
 cases he
 refine wpAny_UnaryOp (hp.go e1 hr fun xv s1 a_1 h_1 r_1 x1=>?_)
 cases r_1
 exact PyProof.Rows.not_of (wpAny_truthy_bool ((h_1.pe (.bool _) rfl rfl rfl).after x1))
theorem truthy_bool {b:Bool} {Q:Bool→Shared→Prop} (h:Q b s):wpAny W.M A (truthy (.bool b)) Q no' s:=wpAny_truthy_bool h
theorem snd_boolop_cons {op:BoolOp} {pos:Pos} {y:Expr} {rest:List Expr} {b:Bool} (ho:op=(if b then .And else .Or)) (hp:ESnd W gt n C names sc p l) (hq:ESnd W gt n C names sc q (.BoolOp op (y::rest) pos)∨(rest=[]∧ESnd W gt n C names sc q y)) :
  ∀ ρ H v H',(∃ x H1,evalE gt C ρ p H=some (.bool x,H1)∧((x=b∧∃ d,evalE gt C ρ q H1=some (.bool d,H')∧v=.bool d)∨(x=!b∧v=.bool x∧H'=H1)))→∀ A env ads s,Here W n names sc ρ A env ads H s →
   wpAny W.M A (eval (.BoolOp op (l::y::rest) pos) env) (PE W ads s v H') no' s:=by
 rintro ρ H v H' ⟨x,H1,e1,he⟩ A env ads s hr
 show wpAny _ _ (do
  let v ←eval l env
  standAt pos
  let t ←holding [v] (PySem.truthy v)
  match op,t with
  | .And,false|.Or,true=>pure v
  | _,_=>boolOp pos op (evalEach (y::rest) env)) _ _ _
 refine wpAny_bind (hp.go e1 hr fun xv s1 a_1 h_1 r_1 x1=>?_)
 cases r_1
 refine wpAny_bind (wpAny_standAt (wpAny_bind (wpAny_holding (truthy_bool ?_))))
 rcases he with ⟨rfl,d,e2,rfl⟩|⟨rfl,rfl,rfl⟩
 ·have go:wpAny W.M A (boolOp pos op (evalEach (y::rest) env)) (PE W ads s (.bool d) H') no' s1:=by
   rcases hq with hq|⟨rfl,hq⟩
   ·exact hq.go e2 h_1 fun yv s2 a_2 h_2 r_2 x2=>(((h_2.pe r_2 rfl rfl rfl)).after x2).after x1
   ·show wpAny W.M A (eval y env) _ _ _
    exact hq.go e2 h_1 fun yv s2 a_2 h_2 r_2 x2=>(((h_2.pe r_2 rfl rfl rfl)).after x2).after x1
  cases x<;>subst ho<;>exact go
 ·cases b<;>subst ho<;>exact wpAny_pure ((h_1.pe (.bool _) rfl rfl rfl).after x1)
theorem and_parts {v:V} {H':Hp} (he:evalE gt C ρ (.and p q) H=some (v,H')):∃ x H1,evalE gt C ρ p H=some (.bool x,H1)∧((x=true∧∃ d,evalE gt C ρ q H1=some (.bool d,H')∧v=.bool d)∨(x=!true∧v=.bool x∧H'=H1)):=by
 obtain⟨x,H1,e1,he⟩:=bnd_eq he
 obtain⟨b,rfl,he⟩:=asBool_eq he
 refine⟨b,H1,e1,?_⟩
 cases b with
 | true =>
  obtain⟨y,H2,e2,he⟩:=bnd_eq he
  obtain⟨d,rfl,he⟩:=asBool_eq he
  cases he
  exact .inl ⟨rfl,d,e2,rfl⟩
 | false=>cases he;exact .inr ⟨rfl,rfl,rfl⟩
theorem or_parts {v:V} {H':Hp} (he:evalE gt C ρ (.or p q) H=some (v,H')):∃ x H1,evalE gt C ρ p H=some (.bool x,H1)∧((x=false∧∃ d,evalE gt C ρ q H1=some (.bool d,H')∧v=.bool d)∨(x=!false∧v=.bool x∧H'=H1)):=by
 obtain⟨x,H1,e1,he⟩:=bnd_eq he
 obtain⟨b,rfl,he⟩:=asBool_eq he
 refine⟨b,H1,e1,?_⟩
 cases b with
 | false =>
  obtain⟨y,H2,e2,he⟩:=bnd_eq he
  obtain⟨d,rfl,he⟩:=asBool_eq he
  cases he
  exact .inl ⟨rfl,d,e2,rfl⟩
 | true=>cases he;exact .inr ⟨rfl,rfl,rfl⟩
theorem snd_and {pos:Pos} {y:Expr} {rest:List Expr} (hp:ESnd W gt n C names sc p l) (hq:ESnd W gt n C names sc q (.BoolOp .And (y::rest) pos)∨(rest=[]∧ESnd W gt n C names sc q y)):ESnd W gt n C names sc (.and p q) (.BoolOp .And (l::y::rest) pos) :=
 fun ρ H v H' he=>snd_boolop_cons (b:=true) rfl hp hq ρ H v H' (and_parts he)
theorem snd_or {pos:Pos} {y:Expr} {rest:List Expr} (hp:ESnd W gt n C names sc p l) (hq:ESnd W gt n C names sc q (.BoolOp .Or (y::rest) pos)∨(rest=[]∧ESnd W gt n C names sc q y)):ESnd W gt n C names sc (.or p q) (.BoolOp .Or (l::y::rest) pos) :=
 fun ρ H v H' he=>snd_boolop_cons (b:=false) rfl hp hq ρ H v H' (or_parts he)
theorem mapM_some {α β:Type} {f:α→Option β}:∀ {l:List α} {r:List β},l.mapM f=some r→(l=[]∧r=[])∨∃ x l' y r',l=x::l'∧r=y::r'∧f x=some y∧l'.mapM f=some r'
 | [],r,h=>by simp at h;exact .inl ⟨rfl,h⟩
 | x::l',r,h=>by
  rw [List.mapM_cons] at h
  cases hx:f x with
  | none=>rw [hx] at h;cases h
  | some y =>
   cases hl:l'.mapM f with
   | none=>rw [hx,hl] at h;cases h
   | some r'=>rw [hx,hl] at h;cases h;exact .inr ⟨x,l',y,r',rfl,rfl,hx,hl⟩
theorem reads_all {f:V→Option PyData} {k:Nat} (ih:∀ v d x,f v=some d→VR ads s.heap v x→∃ as,Reads s.heap x d as∧d.canLay0=true∧d.depth≤k) :
  ∀ (l:List V) (ds:List PyData) (xs:List Value),l.mapM f=some ds→VRs ads s.heap l xs→∃ as,ReadsAll s.heap xs ds as∧PyData.canLayAll0 ds=true∧PyData.depthAll ds≤k
 | l,ds,xs,e,h=>by
  induction l generalizing ds xs with
  | nil=>simp at e;subst e;cases h;exact⟨_,.nil,rfl,Nat.zero_le _⟩
  | cons v l ih' =>
   rcases mapM_some e with ⟨q,_⟩|⟨_,_,y,r',q,rfl,e1,e2⟩
   ·cases q
   ·cases q
    cases h with
    | cons h1 h2 =>
     obtain⟨as,a1,a2,a3⟩:=ih _ _ _ e1 h1
     obtain⟨bs,b1,b2,b3⟩:=ih' _ _ e2 h2
     refine⟨_,.cons a1 b1,by simp [PyData.canLayAll0,a2,b2],?_⟩
     show max _ _≤k
     omega
theorem reads_of (S:St W ads H s):∀ (k:Nat) (v:V) (d:PyData) (x:Value),dataV k H v=some d→VR ads s.heap v x→∃ as,Reads s.heap x d as∧d.canLay0=true∧d.depth≤k:=by
 intro k
 induction k with
 | zero =>
  intro v d x e h
  cases v<;>simp only [dataV,reduceCtorEq,Option.some.injEq] at e
  ·subst e;cases h;exact⟨_,.none,rfl,Nat.le_refl _⟩
  ·subst e;cases h;exact⟨_,.bool _,rfl,Nat.le_refl _⟩
  ·subst e;cases h;exact⟨_,.int _ _,rfl,Nat.le_refl _⟩
  ·split at e
   ·cases e;cases h;rename_i hs _;exact⟨_,.str _ _,hs,Nat.le_refl _⟩
   ·cases e
 | succ k ih =>
  intro v d x e h
  cases v<;>simp only [dataV,reduceCtorEq,Option.some.injEq] at e
  ·subst e;cases h;exact⟨_,.none,rfl,Nat.zero_le _⟩
  ·subst e;cases h;exact⟨_,.bool _,rfl,Nat.zero_le _⟩
  ·subst e;cases h;exact⟨_,.int _ _,rfl,Nat.zero_le _⟩
  ·split at e
   ·cases e;cases h;rename_i hs _;exact⟨_,.str _ _,hs,Nat.zero_le _⟩
   ·cases e
  ·obtain⟨ds,e1,rfl⟩:=Option.map_eq_some_iff.mp e
   cases h with
   | tup ho hc hd hr =>
    obtain⟨as,a1,a2,a3⟩:=reads_all ih _ _ _ e1 hr
    exact⟨_,.tuple ho hc hd a1,a2,Nat.succ_le_succ a3⟩
  ·split at e
   ·rename_i l hl
    obtain⟨ds,e1,rfl⟩:=Option.map_eq_some_iff.mp e
    cases h with
    | obj hi =>
     cases S.obj _ _ _ hl hi with
     | list ha hr =>
      obtain⟨as,a1,a2,a3⟩:=reads_all ih _ _ _ e1 hr
      exact⟨_,.list ha rfl rfl a1,a2,Nat.succ_le_succ a3⟩
   ·cases e
theorem eq_snd {x y:V} {xv yv:Value} {b:Bool} {Q:Value→Shared→Prop} (hA:AOK n A) (S:St W ads H s) (e:eqV H x y=some b) (hx:VR ads s.heap x xv) (hy:VR ads s.heap y yv) (h:∀ c,c=b→Q (.bool c) s) :
  wpAny W.M A (compareOp .Eq xv yv) Q no' s:=by
 unfold eqV at e
 split at e
 ·cases e;cases hx;cases hy;exact PySem.P.eq_int (h _ rfl)
 ·cases e;cases hx;cases hy;exact PyProof.Rows.eq_str (h _ rfl)
 ·obtain⟨d,e1,e⟩:=Option.bind_eq_some_iff.mp e
  obtain⟨d',e2,e⟩:=Option.bind_eq_some_iff.mp e
  cases e
  obtain⟨as,a1,a2,a3⟩:=reads_of S _ _ _ _ e1 hx
  obtain⟨bs,b1,b2,b3⟩:=reads_of S _ _ _ _ e2 hy
  refine PySem.SeqAt.compareEq_reads a1 b1 a2 b2 ?_ (h _ rfl)
  have:=hA.units;unfold deep at a3;omega
theorem ne_snd {x y:V} {xv yv:Value} {b:Bool} {Q:Value→Shared→Prop} (hA:AOK n A) (S:St W ads H s) (e:eqV H x y=some b) (hx:VR ads s.heap x xv) (hy:VR ads s.heap y yv) (h:∀ c,c=!b→Q (.bool c) s) :
  wpAny W.M A (compareOp .NotEq xv yv) Q no' s:=by
 unfold eqV at e
 split at e
 ·cases e;cases hx;cases hy;exact PySem.P.ne_int (h _ rfl)
 ·cases e;cases hx;cases hy;exact PyProof.Rows.ne_str (h _ rfl)
 ·obtain⟨d,e1,e⟩:=Option.bind_eq_some_iff.mp e
  obtain⟨d',e2,e⟩:=Option.bind_eq_some_iff.mp e
  cases e
  obtain⟨as,a1,a2,a3⟩:=reads_of S _ _ _ _ e1 hx
  obtain⟨bs,b1,b2,b3⟩:=reads_of S _ _ _ _ e2 hy
  refine PySem.SeqAt.compareNe_reads a1 b1 a2 b2 ?_ (h _ rfl)
  have:=hA.units;unfold deep at a3;omega
structure Setup.Low (W:Setup):Prop where
 low:∃ o,W.g.get? sysModules=some o
theorem St.not_mods (L:W.Low) (S:St W ads H s) {i:Nat} {p:Addr×Addr} (e:ads[i]?=some p):(p.1==sysModules)=false:=by
 obtain⟨o,ho⟩:=L.low
 exact beq_eq_false_iff_ne.mpr fun q=>absurd_get ho (q▸S.off _ (foot_of e).1)
theorem pairs_get {K:Type} [DecidableEq K] {l:List (K×V)} {kvs:List (K×Value)} (hk:kvs.map (·.1)=l.map (·.1)) (hv:VRs ads s.heap (l.map (·.2)) (kvs.map (·.2))) (k:K) :
  (dget l k=none∧valueAt kvs k=none)∨∃ v x,dget l k=some v∧valueAt kvs k=some x∧VR ads s.heap v x:=by
 induction l generalizing kvs with
 | nil =>
  cases kvs with
  | nil=>exact .inl ⟨rfl,rfl⟩
  | cons _ _=>cases hk
 | cons p l ih =>
  cases kvs with
  | nil=>cases hk
  | cons kv kvs =>
   simp only [mC,List.cons.injEq] at hk hv
   cases hv with
   | cons h1 h2 =>
    by_cases e:p.1=k
    ·refine .inr ⟨p.2,kv.2,by simp [dget,e],?_,h1⟩
     unfold valueAt
     rw [List.find?_cons,decide_eq_true (hk.1.trans e)];rfl
    ·have e':¬ kv.1=k:=fun q=>e (hk.1.symm.trans q)
     have q:valueAt (kv::kvs) k=valueAt kvs k:=by
      unfold valueAt
      rw [List.find?_cons,decide_eq_false e']
     have q2:dget (p::l) k=dget l k:=by simp [dget,e]
     rw [q,q2]
     exact ih hk.2 h2
theorem mem_snd (L:W.Low) {x y:V} {xv yv:Value} {b:Bool} {Q:Value→Shared→Prop} (hA:AOK n A) (S:St W ads H s) (e:memV H x y=some b) (hx:VR ads s.heap x xv) (hy:VR ads s.heap y yv) (h:∀ c tk,c=b→Q (.bool c) {s with toks:=tk}) :
  wpAny W.M A (compareOp .In xv yv) Q no' s:=by
 unfold memV at e
 split at e
 ·rename_i o
  cases hy with
  | obj hi =>
   split at e
   ·rename_i l k hl
    cases e
    cases hx
    have nm:=S.not_mods L hi
    cases S.obj _ _ _ hl hi with
    | di ha hk hv =>
     refine wpAny_in_of (intKind_is _ _ _ _) nm ha.mapOf (h _ _ ?_)
     rcases pairs_get hk hv k with ⟨q1,q2⟩|⟨_,_,q1,q2,_⟩<;>rw [q1,q2]<;>rfl
   ·rename_i l hl
    obtain⟨d,e1,e⟩:=Option.bind_eq_some_iff.mp e
    obtain⟨d',e2,e⟩:=Option.bind_eq_some_iff.mp e
    split at e
    ·rename_i ys
     cases e
     obtain⟨as,a1,a2,a3⟩:=reads_of S _ _ _ _ e1 hx
     obtain⟨bs,b1,b2,b3⟩:=reads_of S _ _ _ _ e2 (.obj hi)
     refine PySem.SeqAt.in_list_reads b1 a1 (by simpa [PyData.canLay0] using b2) a2 ?_ (h _ s.toks rfl)
     have:=hA.units
     have b3':PyData.depthAll ys+1≤deep:=b3
     unfold deep at b3'
     omega
    ·cases e
   ·cases e
 ·cases e
theorem nmem_snd (L:W.Low) {x y:V} {xv yv:Value} {b:Bool} {Q:Value→Shared→Prop} (hA:AOK n A) (S:St W ads H s) (e:memV H x y=some b) (hx:VR ads s.heap x xv) (hy:VR ads s.heap y yv) (h:∀ c tk,c=!b→Q (.bool c) {s with toks:=tk}) :
  wpAny W.M A (compareOp .NotIn xv yv) Q no' s:=by
 unfold memV at e
 split at e
 ·rename_i o
  cases hy with
  | obj hi =>
   split at e
   ·rename_i l k hl
    cases e
    cases hx
    have nm:=S.not_mods L hi
    cases S.obj _ _ _ hl hi with
    | di ha hk hv =>
     refine wpAny_notIn_of (intKind_is _ _ _ _) nm ha.mapOf (h _ _ ?_)
     rcases pairs_get hk hv k with ⟨q1,q2⟩|⟨_,_,q1,q2,_⟩<;>rw [q1,q2]<;>rfl
   ·rename_i l hl
    obtain⟨d,e1,e⟩:=Option.bind_eq_some_iff.mp e
    obtain⟨d',e2,e⟩:=Option.bind_eq_some_iff.mp e
    split at e
    ·rename_i ys
     cases e
     obtain⟨as,a1,a2,a3⟩:=reads_of S _ _ _ _ e1 hx
     obtain⟨bs,b1,b2,b3⟩:=reads_of S _ _ _ _ e2 (.obj hi)
     refine PySem.SeqAt.notIn_list_reads b1 a1 (by simpa [PyData.canLay0] using b2) a2 ?_ (h _ s.toks rfl)
     have:=hA.units
     have b3':PyData.depthAll ys+1≤deep:=b3
     unfold deep at b3'
     omega
    ·cases e
   ·cases e
 ·cases e
theorem cmp_snd (L:W.Low) {op:Cop} {o:CmpOp} {x y:V} {xv yv:Value} {b:Bool} {Q:Value→Shared→Prop} (ho:copIs op o=true) (hn:(op=.isNone∨op=.isNot)→yv=.none) (hA:AOK n A) (S:St W ads H s) (e:cmpV H op x y=some b)
  (hx:VR ads s.heap x xv) (hy:VR ads s.heap y yv) (h:∀ c tk,c=b→Q (.bool c) {s with toks:=tk}):wpAny W.M A (compareOp o xv yv) Q no' s:=by
 have hne:∀ p:Addr,(Value.ref p==Value.none)=false:=fun p=>by simp
 cases op<;>cases o<;>simp only [copIs,Bool.false_eq_true] at ho<;>simp only [cmpV] at e
 ·exact eq_snd hA S e hx hy fun c q=>h c _ q
 ·obtain⟨b',e1,rfl⟩:=Option.map_eq_some_iff.mp e
  exact ne_snd hA S e1 hx hy fun c q=>h c _ q
 ·split at e
  ·cases e;cases hx;cases hy;exact PySem.P.lt_int (h _ _ rfl)
  ·cases e
 ·split at e
  ·cases e;cases hx;cases hy;exact PySem.P.le_int (h _ _ rfl)
  ·cases e
 ·split at e
  ·cases e;cases hx;cases hy;exact PySem.P.gt_int (h _ _ rfl)
  ·cases e
 ·split at e
  ·cases e;cases hx;cases hy;exact PySem.P.ge_int (h _ _ rfl)
  ·cases e
 ·rw [hn (.inl rfl)]
  split at e
  ·cases e;cases hx;exact PySem.is_none (h _ _ rfl)
  ·cases e;cases hx;exact PySem.is_none (h _ _ (hne _))
  ·cases e;cases hx;exact PySem.is_none (h _ _ (by simp))
  ·cases e
 ·rw [hn (.inr rfl)]
  split at e
  ·cases e;cases hx;exact PySem.isNot_none (h _ _ rfl)
  ·cases e;cases hx;exact PySem.isNot_none (h _ _ (by rw [hne];rfl))
  ·cases e;cases hx;exact PySem.isNot_none (h _ _ (by simp))
  ·cases e
 ·exact mem_snd L hA S e hx hy h
 ·obtain⟨b',e1,rfl⟩:=Option.map_eq_some_iff.mp e
  exact nmem_snd L hA S e1 hx hy h
theorem litNone_eq {q:E} (h:litNone q=true):q=.lit .none:=by
 unfold litNone at h
 split at h
 ·rfl
 ·cases h
theorem behind_of {o:CmpOp} {r:Expr} (h:notSet r=true):behindInMarks o r=false:=by
 cases r<;>first|rfl|cases h
theorem snd_cmp (L:W.Low) {op:Cop} {o:CmpOp} {pos:Pos} (ho:copIs op o=true) (hn:noneArg op q=true) (hs:notSet r=true) (hp:ESnd W gt n C names sc p l) (hq:ESnd W gt n C names sc q r):ESnd W gt n C names sc (.cmp op p q) (.Compare l [o] [r] pos):=by
 intro ρ H v H' he A env ads s hr
 obtain⟨x,H1,e1,he⟩:=bnd_eq he
 obtain⟨y,H2,e2,he⟩:=bnd_eq he
 obtain⟨z,e3,he⟩:=asSome_eq he
 cases he
 refine wpAny_Compare1 (hp.go e1 hr fun xv s1 a_1 h_1 r_1 x1=>hq.go e2 h_1 fun yv s2 a_2 h_2 r_2 x2=>?_) (behind_of hs)
 have r1':=h_1.st.mono x2 .none r_1
 refine cmp_snd L ho ?_ hr.a h_2.st e3 r1' r_2 fun c tk hc=>by
  subst hc
  exact PE.after x1 (PE.after x2 (by refine h_2.pe (VR.bool _) ?_ ?_ ?_<;>rfl))
 intro hop
 have:q=.lit .none:=by rcases hop with h|h<;>(rw [h] at hn;exact litNone_eq hn)
 subst this
 cases e2
 cases r_2;rfl
end
section
variable {W:Setup} {gt:List V} {n:Nat} {C:CallF} {names:List Str} {sc:Scope} {A:Around} {env:Env} {ads a:Ads} {H H1 H2:Hp} {s s':Shared} {ρ:Rho} {v x:V} {p q:E} {l r:Expr} {pos:Pos}
theorem evalEs_length:∀ {ps:List E} {H:Hp} {vs:List V} {H':Hp},evalEs gt C ρ ps H=some (vs,H')→vs.length=ps.length
 | [],_,_,_,h=>by cases h;rfl
 | p::ps,_,_,_,h=>by
  obtain⟨x,H1,_,h⟩:=bnd_eq h
  obtain⟨xs,H2,e,h⟩:=bnd_eq h
  cases h
  exact congrArg (·+1) (evalEs_length e)
theorem ess_nil:EsSnd W gt n C names sc [] []:=by
 intro ρ H vs H' he A env ads s pos hr
 cases he
 have e:Ext none' ads s s []:=.refl _ _
 exact spliced_nil ⟨[],by rw [aN];exact hr.st,.nil,e⟩
theorem backTo_plain {e:Expr} {rs:List Expr} (h:notStar e=true):backTo pos (starEach (e::rs) env)=(false,eval e env)::backTo pos (starEach rs env):=by
 cases e<;>first|rfl|cases h
theorem ess_cons {ps:List E} {rs:List Expr} (h:notStar l=true) (hp:ESnd W gt n C names sc p l) (hps:EsSnd W gt n C names sc ps rs):EsSnd W gt n C names sc (p::ps) (l::rs):=by
 intro ρ H vs H' he A env ads s pos hr
 obtain⟨x,H1,e1,he⟩:=bnd_eq he
 obtain⟨xs,H2,e2,he⟩:=bnd_eq he
 cases he
 rw [backTo_plain h]
 refine spliced_cons (hp.go e1 hr fun xv s1 a_1 h_1 r_1 x1=>hps.go e2 h_1 fun yv s2 a_2 h_2 r_2 x2=>?_)
 exact⟨a_1++a_2,by rw [←aA];exact h_2.st,by rw [←aA];exact .cons (h_1.st.mono x2 .none r_1) r_2,x1.tr x2⟩
theorem snd_tup {ps:List E} {rs:List Expr} {k:Nat} (hl:ps.length≤100) (hp:EsSnd W gt n C names sc ps rs):ESnd W gt n C names sc (.tup ps) (.Tuple rs k pos):=by
 intro ρ H v H' he A env ads s hr
 obtain⟨xs,H1,e1,he⟩:=bnd_eq he
 cases he
 refine wpAny_Tuple_spliced (hp.go e1 hr fun xv s1 a_1 h_1 r_1 x1=>?_)
 have hlen:=r_1.length
 rw [evalEs_length e1] at hlen
 refine⟨by rw [sizeLine_eq];omega,PE.after x1 ?_⟩
 have k:∀ b o,s1.heap.get? b=some o→(s1.heap.push {cls:=.type "tuple",data:=.seq xv.toArray}).get? b=some o:=fun b o e=>Heap.get?_push_of_some _ e
 have e:Ext none' (ads++a_1) s1 {s1 with heap:=s1.heap.push {cls:=.type "tuple",data:=.seq xv.toArray}} []:=Ext.of_kept k rfl rfl
 refine⟨[],?_,?_,e⟩
 ·rw [aN];exact h_1.st.extend e .none (fun b o _ q=>k b o q) fun _ f=>f.elim
 ·exact .tup (Heap.get?_push_size _ rfl) rfl rfl (h_1.st.monos e .none r_1)
theorem get_size (h:Heap):h.get? h.objs.size=none:=by
 cases q:h.get? h.objs.size with
 | none=>rfl
 | some o=>exact absurd (Heap.lt_size q) (Nat.lt_irrefl _)
theorem PE.new {o:O} {ob:Obj} (S:St W ads H s) (_:ob.isFreed=false) (ho:OR W (ads++[(s.heap.objs.size,s.heap.objs.size)]) (s.heap.push ob) o (s.heap.objs.size,s.heap.objs.size)) :
  PE W ads s (.obj H.length) (H++[o]) (.ref s.heap.objs.size) {s with heap:=s.heap.push ob}:=by
 have z:=S.alloc (s':={s with heap:=s.heap.push ob}) (p:=(s.heap.objs.size,s.heap.objs.size)) (fun b o e=>Heap.get?_push_of_some _ e) (get_size s.heap) (get_size s.heap) rfl rfl ho
 refine⟨_,z.1,?_,z.2⟩
 have:(ads++[(s.heap.objs.size,s.heap.objs.size)])[H.length]?=some (s.heap.objs.size,s.heap.objs.size):=by rw [←S.len];simp
 exact .obj this
theorem VRs.push {ob:Obj} {p:Addr×Addr} {l:List V} {xs:List Value} (S:St W ads H s) (hp:s.heap.get? p.1=none∧s.heap.get? p.2=none) (h:VRs ads s.heap l xs):VRs (ads++[p]) (s.heap.push ob) l xs :=
 h.mono S.fk (fun b o e _ _=>Heap.get?_push_of_some _ e) fun b f=>by rcases foot_one.mp f with rfl|rfl<;>first|exact hp.1|exact hp.2
theorem snd_list {ps:List E} {rs:List Expr} (hl:ps.length≤100) (hp:EsSnd W gt n C names sc ps rs):ESnd W gt n C names sc (.list ps) (.List rs pos):=by
 intro ρ H v H' he A env ads s hr
 obtain⟨xs,H1,e1,he⟩:=bnd_eq he
 cases he
 refine PySem.wpAny_List_spliced (hp.go e1 hr fun xv s1 a_1 h_1 r_1 x1=>?_)
 have hlen:=r_1.length
 rw [evalEs_length e1] at hlen
 refine⟨by rw [sizeLine_eq];omega,PE.after x1 (PE.new h_1.st rfl (.list (n:=0) (Heap.get?_push_size _ rfl) ?_))⟩
 exact VRs.push h_1.st ⟨get_size _,get_size _⟩ r_1
theorem DictOf.new {K:Type} [DecidableEq K] (knd:PySem.KeyKind W.prog W.w K) (h:Heap):(h.push {cls:=.type "dict",data:=.dict #[]}).DictOf knd h.objs.size [] :=
 ⟨_,#[],0,Heap.get?_push_size _ rfl,⟨rfl,rfl,rfl⟩,rfl,fun _ he=>by simp at he,.nil,List.nodup_nil⟩
theorem snd_di:ESnd W gt n C names sc .di (.Dict [] [] pos):=by
 intro ρ H v H' he A env ads s hr
 cases he
 exact wpAny_Dict_empty (PE.new hr.st rfl (.di (DictOf.new _ _) rfl .nil))
theorem snd_ds:ESnd W gt n C names sc .ds (.Dict [] [] pos):=by
 intro ρ H v H' he A env ads s hr
 cases he
 exact wpAny_Dict_empty (PE.new hr.st rfl (.ds (DictOf.new _ _) rfl .nil))
theorem at_get {xs:List V} {i:Int} {v:V} (h:at? xs i=some v):(0≤i∧i<1000000∧xs[i.toNat]?=some v)∨(i<0∧-(xs.length:Int)≤i∧-1000000≤i∧xs[(i+xs.length).toNat]?=some v):=by
 unfold at? at h
 split at h
 ·split at h
  ·exact .inl ⟨by assumption,by assumption,h⟩
  ·cases h
 ·split at h
  ·rename_i h1 h2;exact .inr ⟨by omega,h2.1,h2.2,h⟩
  ·cases h
theorem sub_plain {r:Expr} {o i:Value} (h:isSlice r=false):subscripted r false o i=operate [o,i] (getItem o i):=by
 cases r<;>first|rfl|cases h
theorem idx_snd {x y z:V} {xv yv:Value} {slice:Expr} {Q:Value→Shared→Prop} (hs:isSlice slice=false) (S:St W ads H s) (e:idxV H x y=some z) (hx:VR ads s.heap x xv) (hy:VR ads s.heap y yv) (h:∀ zv tk,VR ads s.heap z zv→Q zv {s with toks:=tk}) :
  wpAny W.M A (subscriptTail l slice xv yv) Q no' s:=by
 unfold idxV at e
 split at e
 ·rename_i xs i
  cases hy
  cases hx with
  | @tup t o vs n' _ ho hc hd hr =>
   have hlen:=hr.length
   rcases at_get e with ⟨h0,h1,hg⟩|⟨h0,h1,h2,hg⟩
   ·obtain⟨zv,hz,hzr⟩:=hr.get hg
    have hlt:=(gS.mp hz).1
    refine item_tupleT (l:=vs.toList) ⟨o,by simpa using ho,hc,n',by simpa using hd⟩ (by omega) (by omega) (j:=i.toNat) ?_ hz (h _ _ hzr) (sub_plain hs)
    unfold seqIndex?
    simp only [show ¬ i<0 by omega,if_false]
    rw [if_pos (by rw [Bool.and_eq_true];exact⟨decide_eq_true (by omega),decide_eq_true (by omega)⟩)]
   ·obtain⟨zv,hz,hzr⟩:=hr.get hg
    have hlt:=(gS.mp hz).1
    refine item_tupleT (l:=vs.toList) ⟨o,by simpa using ho,hc,n',by simpa using hd⟩ (by omega) (by omega) (j:=(i+xs.length).toNat) ?_ hz (h _ _ hzr) (sub_plain hs)
    unfold seqIndex?
    simp only [h0,if_true]
    rw [hlen]
    rw [if_pos (by rw [Bool.and_eq_true];exact⟨decide_eq_true (by omega),decide_eq_true (by omega)⟩)]
 ·rename_i o i
  cases hy
  cases hx with
  | obj hi =>
   split at e
   ·rename_i xs hl
    cases S.obj _ _ _ hl hi with
    | @list a vs n' _ ha hr =>
     have hL:s.heap.IsList a vs:=⟨_,ha,rfl,_,rfl⟩
     have hlen:=hr.length
     rcases at_get e with ⟨h0,h1,hg⟩|⟨h0,h1,h2,hg⟩
     ·obtain⟨zv,hz,hzr⟩:=hr.get hg
      exact tail_any hL.typeIs slot_list_getitem.lookup (wpAny_getItem_list hL h0 (by omega) (by simpa using hz) (h _ _ hzr)) (sub_plain hs)
     ·obtain⟨zv,hz,hzr⟩:=hr.get hg
      rw [hlen] at hz h1
      exact tail_any hL.typeIs slot_list_getitem.lookup (wpAny_getItem_list_neg hL h0 (by simpa using h1) (by omega) (by simpa using hz) (h _ _ hzr)) (sub_plain hs)
   ·rename_i d hl
    cases S.obj _ _ _ hl hi with
    | di ha hk hv =>
     rcases pairs_get hk hv i with ⟨q1,q2⟩|⟨v',x',q1,q2,q3⟩
     ·rw [q1] at e;cases e
     ·rw [q1] at e;cases e
      exact tail_any ha.mapOf.typeIs slot_dict_getitem.lookup (wpAny_getItem_of (intKind_is _ _ _ _) ha.mapOf q2 (h _ _ q3)) (sub_plain hs)
   ·cases e
 ·cases e
theorem snd_idx (hs:isSlice r=false) (hp:ESnd W gt n C names sc p l) (hq:ESnd W gt n C names sc q r):ESnd W gt n C names sc (.idx p q) (.Subscript l r pos):=by
 intro ρ H v H' he A env ads s hr
 obtain⟨x,H1,e1,he⟩:=bnd_eq he
 obtain⟨y,H2,e2,he⟩:=bnd_eq he
 obtain⟨z,e3,he⟩:=asSome_eq he
 cases he
 refine Subscript_ (hp.go e1 hr fun xv s1 a_1 h_1 r_1 x1=>hq.go e2 h_1 fun yv s2 a_2 h_2 r_2 x2=>?_)
 exact idx_snd hs h_2.st e3 (h_1.st.mono x2 .none r_1) r_2 fun zv tk hz=>PE.after x1 (PE.after x2 (by refine h_2.pe hz ?_ ?_ ?_<;>rfl))
theorem take_get {α:Type} {l:List α} {m:Nat} {k:Nat} {x:α} (h:k<m) (e:l[k]?=some x):(l.take m)[k]?=some x:=by rw [List.getElem?_take_of_lt h];exact e
theorem wd_get {l:List V} {kvs:List (Str×Value)} {k:Nat} {v:V} {nm:Str} (hk:kvs.map (·.1)=W.wks.take l.length) (hv:VRs ads s.heap l (kvs.map (·.2))) (hl:l[k]?=some v) (hn:W.wks[k]?=some nm) :
  ∃ x,kvs[k]?=some (nm,x)∧VR ads s.heap v x:=by
 obtain⟨x,hx,hr⟩:=hv.get hl
 rw [gM] at hx
 obtain⟨kv,hkv,rfl⟩:=Option.map_eq_some_iff.mp hx
 have h1:(kvs.map (·.1))[k]?=some kv.1:=by rw [gM,hkv];rfl
 rw [hk,take_get (gS.mp hl).1 hn] at h1
 cases h1
 exact⟨_,hkv,hr⟩
theorem snd_wk {k kk:Nat} {nm:Str} {cp:Pos} (hn:W.wks[k]?=some nm) (hp:ESnd W gt n C names sc p l):ESnd W gt n C names sc (.wk p k) (.Subscript l (.Constant (.str nm) kk cp) pos):=by
 intro ρ H v H' he A env ads s hr
 obtain⟨x,H1,e1,he⟩:=bnd_eq he
 obtain⟨o,rfl,he⟩:=asObj_eq he
 obtain⟨xs,hl,he⟩:=asWd_eq he
 obtain⟨z,e3,he⟩:=asSome_eq he
 cases he
 refine Subscript_ (hp.go e1 hr fun xv s1 a_1 h_1 r_1 x1=>wpAny_Constant_str ?_)
 cases r_1 with
 | obj hi =>
  cases h_1.st.obj _ _ _ hl hi with
  | wd ha hk hlen hv =>
   obtain⟨x,hx,hxr⟩:=wd_get hk hv e3 hn
   have hnd:(_:List Str).Nodup:=ha.choose_spec.choose_spec.choose_spec.2.2.2.2.2
   refine tail_any (s:={s1 with toks:=s1.toks+1}) ha.mapOf.typeIs slot_dict_getitem.lookup (wpAny_getItem_of (strKind_is _ _ _ _) ha.mapOf (valueAt_of_get hnd hx) ?_) (sub_plain rfl)
   exact PE.after x1 (by refine h_1.pe hxr ?_ ?_ ?_<;>rfl)
end
structure Setup.Ok (W:Setup) (tb:Tab) (gt:List V) (mg mb:Str→Option Value):Prop where
 low:W.Low
 inK:W.K.In W.g
 gns:W.g.Ns mainGlobals mg
 bns:W.g.Ns builtinsNs mb
 nol:W.g.NoLimit
 nod:W.g.NoDigits
 attrs:∀ c,W.attrs c=tb.attrs.getD c []
 wks:W.wks=tb.wks
 wnd:tb.wks.Nodup
 and_:∀ c,(W.attrs c).Nodup
 alen:∀ c,(W.attrs c).length≤800
 cok:∀ c,c<tb.cnames.length→ClsOk W.K (W.cls c) (W.attrs c)
 clen:∀ c,W.attrs c≠[]→c<tb.cnames.length
 gval:∀ (x:Nat) v nm,gt[x]?=some v→tb.gnames[x]?=some nm→∃ r,mg nm=some r∧VR [] W.g v r
 blt:∀ nm v,(nm,v)∈[(sO "len",Value.builtin "len"),(sO "sorted",.builtin "sorted"),(sO "range",.type "range"),(sO "tuple",.type "tuple"),(sO "str",.type "str")]→mg nm=none∧mb nm=some v
section
variable {W:Setup} {tb:Tab} {gt:List V} {mg mb:Str→Option Value} {n:Nat} {C:CallF} {names:List Str} {sc:Scope} {A:Around} {env:Env} {ads a:Ads} {H H1 H2:Hp} {s s':Shared} {ρ:Rho} {v x:V} {p q:E} {l r:Expr} {pos:Pos}
theorem St.inK (S:St W ads H s) (O:W.Ok tb gt mg mb):W.K.In s.heap:=O.inK.keeps S.base
theorem VR.ground (S:St W ads H s) {v:V} {x:Value} (h:VR [] W.g v x):VR ads s.heap v x:=by
 have:=h.mono (a:=ads) (h':=s.heap) (fun _ _ f=>(foot_nil f).elim) (fun b o e _ _=>S.base b o e) S.off
 simpa using this
theorem plain_not_debug {x:Str} (h:plainName x=true):(x==("__debug__":Str))=false:=by
 simp only [plainName,Bool.and_eq_true,bne_iff_ne,ne_eq] at h
 simpa using h.1
theorem Here.glob (hr:Here W n names sc ρ A env ads H s) (O:W.Ok tb gt mg mb) {x:Str} {r:Value} {Q:Value→Shared→Prop} {pos:Pos} (hg:globalAs sc x=true) (hm:mg x=some r) (h:Q r s):wpAny W.M A (eval (.Name x pos) env) Q no' s:=by
 simp only [globalAs,Bool.and_eq_true,kindIn,beq_iff_eq] at hg
 refine wpAny_Name ?_ (plain_not_debug hg.1)
 rw [loadName_read hr.e.fn (hr.sc.glob _ hg.2)]
 exact loadGlobal_global (by rw [hr.e.gl];exact O.gns.keeps hr.st.base) hm h
theorem Here.blt (hr:Here W n names sc ρ A env ads H s) (O:W.Ok tb gt mg mb) {x:Str} {r:Value} {Q:Value→Shared→Prop} {pos:Pos} (hg:globalAs sc x=true) (hm:mg x=none∧mb x=some r) (h:Q r s):wpAny W.M A (eval (.Name x pos) env) Q no' s:=by
 simp only [globalAs,Bool.and_eq_true,kindIn,beq_iff_eq] at hg
 refine wpAny_Name ?_ (plain_not_debug hg.1)
 rw [loadName_read hr.e.fn (hr.sc.glob _ hg.2)]
 exact loadGlobal_builtin (by rw [hr.e.gl];exact O.gns.keeps hr.st.base) hm.1 (by rw [hr.e.bl];exact O.bns.keeps hr.st.base) hm.2 h
theorem snd_glob (O:W.Ok tb gt mg mb) {i:Nat} {x:Str} (hx:tb.gnames[i]?=some x) (hg:globalAs sc x=true):ESnd W gt n C names sc (.glob i) (.Name x pos):=by
 intro ρ H v H' he A env ads s hr
 obtain⟨v',hv,he⟩:=asSome_eq he
 cases he
 obtain⟨r,hm,hvr⟩:=O.gval _ _ _ hv hx
 exact hr.glob O hg hm (hr.pe (VR.ground hr.st hvr) rfl rfl rfl)
theorem handed {ads:Ads} {h:Heap} {v:V} {x:Value} (r:VR ads h v x):handedIn x=true:=by cases r<;>rfl
theorem lookup_zip {l:List Str} {vals:List Value} {i:Nat} {nm:Str} {x:Value} (hn:l.Nodup) (h1:l[i]?=some nm) (h2:vals[i]?=some x):(l.zip vals).lookup nm=some x:=by
 induction l generalizing vals i with
 | nil=>cases h1
 | cons a l ih =>
  cases vals with
  | nil=>cases h2
  | cons b vals =>
   cases i with
   | zero =>
    simp only [gZ,Option.some.injEq] at h1 h2
    subst h1;subst h2
    simp [zC]
   | succ i =>
    simp only [List.getElem?_cons_succ] at h1 h2
    have hm:nm∈l:=mG h1
    have hne:(nm==a)=false:=by
     rw [beq_eq_false_iff_ne]
     rintro rfl
     exact (nC.mp hn).1 hm
    rw [zC,kC,hne]
    exact ih (nC.mp hn).2 h1 h2
theorem lookup_zip_none {l:List Str} {vals:List Value} {nm:Str} (h:nm∉l):(l.zip vals).lookup nm=none:=by
 induction l generalizing vals with
 | nil=>simp
 | cons a l ih =>
  cases vals with
  | nil=>simp
  | cons b vals =>
   rw [mK,not_or] at h
   rw [zC,kC,beq_eq_false_iff_ne.mpr h.1]
   exact ih h.2
theorem snd_attr (O:W.Ok tb gt mg mb) {c i:Nat} {nm:Str} (hn:(tb.attrs.getD c [])[i]?=some nm) (hb:plainBase l=true) (hp:ESnd W gt n C names sc p l):ESnd W gt n C names sc (.attr p c i) (.Attribute l nm pos):=by
 intro ρ H v H' he A env ads s hr
 obtain⟨x,H1,e1,he⟩:=bnd_eq he
 obtain⟨o,rfl,he⟩:=asObj_eq he
 obtain⟨fs,hl,he⟩:=asInst_eq he
 obtain⟨z,e3,he⟩:=asSome_eq he
 cases he
 refine Attribute_any_ (hp.go e1 hr fun xv s1 a_1 h_1 r_1 x1=>?_) (by cases l<;>first|rfl|cases hb)
 rw [←O.attrs] at hn
 cases r_1 with
 | obj hi =>
  cases h_1.st.obj _ _ _ hl hi with
  | inst ha hd hm hv hlen hne =>
   obtain⟨zv,hz,hzr⟩:=hv.get e3
   have hc:c<tb.cnames.length:=O.clen c fun q=>by rw [q] at hn;cases hn
   refine get_attr (h_1.st.inK O) (O.cok c hc) ha hd.ns (mG hn) (by rw [hm];exact lookup_zip (O.and_ c) hn hz) (handed hzr) ?_
   exact PE.after x1 (by refine h_1.pe hzr ?_ ?_ ?_<;>rfl)
theorem name_call1 (hr:Here W n names sc ρ A env ads H s) (O:W.Ok tb gt mg mb) {nm:Str} {r:Value} {np:Pos} {Q:Value→Shared→Prop} (hg:globalAs sc nm=true) (hm:mg nm=none∧mb nm=some r) (hs:notStar l=true)
  (h:wpAny W.M A (callWith pos r [] [(false,eval l env)] []) Q no' s):wpAny W.M A (eval (.Call (.Name nm np) [l] [] pos) env) Q no' s:=by
 refine wpAny_Call_ofName (hr.blt O hg hm ?_)
 have:backTo pos (starEach [l] env)=[(false,eval l env)]:=backTo_plain hs
 rw [this]
 exact h
theorem snd_len (O:W.Ok tb gt mg mb) {np:Pos} (hg:globalAs sc (sO "len")=true) (hs:notStar l=true) (hp:ESnd W gt n C names sc p l):ESnd W gt n C names sc (.len p) (.Call (.Name (sO "len") np) [l] [] pos):=by
 intro ρ H v H' he A env ads s hr
 obtain⟨x,H1,e1,he⟩:=bnd_eq he
 obtain⟨k,e2,he⟩:=asSome_eq he
 cases he
 refine name_call1 hr O hg (O.blt _ _ (.head _)) hs ?_
 refine callWith_builtin rfl (evalArgs_plain (spliced_cons (hp.go e1 hr fun xv s1 a_1 h_1 r_1 x1=>spliced_nil ?_)))
 show wpAny _ _ (call (.builtin "len") [xv]) _ _ _
 have fin:∀ (k':Int) t tk,k'=k→PE W ads s (.int k) H' (.int k' t) {s1 with toks:=tk}:=fun k' t tk hk=>by
  subst hk;exact PE.after x1 (by refine h_1.pe (VR.int _ _) ?_ ?_ ?_<;>rfl)
 unfold lenV at e2
 split at e2
 ·split at e2
  ·rename_i ll hle
   cases e2
   cases r_1 with
   | tup ho hc hd hv =>
    have hlen:=hv.length
    refine len_tuple ⟨_,ho,hc,_,hd⟩ ?_ (fin _ _ _ ?_)
    ·unfold limit at hle;simp at hlen ⊢;omega
    ·simp at hlen ⊢;omega
  ·cases e2
 ·split at e2
  ·rename_i o ll hl
   split at e2
   ·rename_i hle
    cases e2
    cases r_1 with
    | obj hi =>
     cases h_1.st.obj _ _ _ hl hi with
     | list ha hv =>
      have hlen:=hv.length
      refine call_len_list ⟨_,ha,rfl,_,rfl⟩ ?_ (fin _ _ _ ?_)
      ·unfold limit at hle;simp at hlen ⊢;omega
      ·simp at hlen ⊢;omega
   ·cases e2
  ·rename_i o ll hl
   split at e2
   ·rename_i hle
    cases e2
    cases r_1 with
    | obj hi =>
     cases h_1.st.obj _ _ _ hl hi with
     | di ha hk hv =>
      have hlen:=congrArg List.length hk
      refine call_len_dict (h_1.st.not_mods O.low hi) ha ?_ (fin _ _ _ ?_)
      ·unfold limit at hle;simp at hlen ⊢;omega
      ·simp at hlen ⊢;omega
   ·cases e2
  ·cases e2
 ·cases e2
theorem snd_tupleOf (O:W.Ok tb gt mg mb) {np:Pos} (hg:globalAs sc (sO "tuple")=true) (hs:notStar l=true) (hp:ESnd W gt n C names sc p l):ESnd W gt n C names sc (.tupleOf p) (.Call (.Name (sO "tuple") np) [l] [] pos):=by
 intro ρ H v H' he A env ads s hr
 obtain⟨x,H1,e1,he⟩:=bnd_eq he
 obtain⟨o,rfl,he⟩:=asObj_eq he
 obtain⟨ll,hl,he⟩:=asList_eq he
 obtain⟨hle,he⟩:=guardB_eq he
 cases he
 have hle:=of_decide_eq_true hle
 refine name_call1 hr O hg (O.blt _ _ (.tail _ (.tail _ (.tail _ (.head _))))) hs ?_
 refine PySem.callWith_type rfl (evalArgs_plain (spliced_cons (hp.go e1 hr fun xv s1 a_1 h_1 r_1 x1=>spliced_nil ?_)))
 show wpAny _ _ (call (.type "tuple") [xv]) _ _ _
 cases r_1 with
 | obj hi =>
  cases h_1.st.obj _ _ _ hl hi with
  | @list aL vs nL _ ha hv =>
   refine call_tuple_list ⟨_,ha,rfl,_,rfl⟩ (fun h' hk=>?_) ?_
   ·have k:∀ b o,s1.heap.get? b=some o→(h'.push {cls:=.type "tuple",data:=.seq vs}).get? b=some o:=fun b o e=>Heap.get?_push_of_some _ (hk b o e)
    have e:Ext none' (ads++a_1) s1 {s1 with heap:=h'.push {cls:=.type "tuple",data:=.seq vs}} []:=Ext.of_kept k rfl rfl
    refine PE.after x1 ⟨[],?_,?_,e⟩
    ·rw [aN];exact h_1.st.extend e .none (fun b o _ q=>k b o q) fun _ f=>f.elim
    ·exact .tup (Heap.get?_push_size _ rfl) rfl rfl (h_1.st.monos e .none hv)
   ·have hlen:=hv.length
    unfold limit at hle;rw [sizeLine_eq];simp at hlen;omega
theorem snd_strOf (O:W.Ok tb gt mg mb) {np:Pos} (hg:globalAs sc (sO "str")=true) (hs:notStar l=true) (hp:ESnd W gt n C names sc p l):ESnd W gt n C names sc (.strOf p) (.Call (.Name (sO "str") np) [l] [] pos):=by
 intro ρ H v H' he A env ads s hr
 obtain⟨x,H1,e1,he⟩:=bnd_eq he
 obtain⟨o,rfl,he⟩:=asInt_eq he
 obtain⟨hb,he⟩:=guardB_eq he
 cases he
 have hb:=of_decide_eq_true hb
 refine name_call1 hr O hg (O.blt _ _ (.tail _ (.tail _ (.tail _ (.tail _ (.head _)))))) hs ?_
 refine PySem.callWith_type rfl (evalArgs_plain (spliced_cons (hp.go e1 hr fun xv s1 a_1 h_1 r_1 x1=>spliced_nil ?_)))
 show wpAny _ _ (call (.type "str") [xv]) _ _ _
 cases r_1
 refine str_of_int_or hr.a.hh (O.nod.keeps h_1.st.base) (fun _=>?_) fun hh=>?_
 ·exact PE.after x1 (by refine h_1.pe (VR.str _ _) ?_ ?_ ?_<;>rfl)
 ·exfalso
  have:(10:Nat) ^ 4300≥10 ^ 10:=Nat.pow_le_pow_right (by omega) (by omega)
  have e10:(10:Nat) ^ 10=10000000000:=by decide
  omega
end
section
variable {W:Setup} {tb:Tab} {gt:List V} {mg mb:Str→Option Value} {n:Nat} {C:CallF} {names:List Str} {sc:Scope} {A:Around} {env:Env} {ads a:Ads} {H H1 H2:Hp} {s s':Shared} {ρ:Rho} {v x:V} {p q r:E} {l e e_2:Expr} {pos apos:Pos}
theorem base_plain {nm:Str} {env:Env} (h:plainBase l=true):attributeBase l nm env (eval l env)=eval l env:=by cases l<;>first|rfl|cases h
theorem list_dict (h:∃ ob,s.heap.get? x'=some ob∧ob.dict=none):∀ a,Value.ref x'=.ref a→∃ ob,s.heap.get? a=some ob∧ob.dict=none:=fun a e=>by cases e;exact h
theorem trees1 (he:notStar e=true):backTo pos (starEach [e] env)=[(false,eval e env)]:=by cases e<;>first|rfl|cases he
theorem trees2 (he:notStar e=true) (he_2:notStar e_2=true):backTo pos (starEach [e,e_2] env)=[(false,eval e env),(false,eval e_2 env)]:=by
 rw [backTo_plain he,trees1 he_2]
theorem toList_push {xs:Array Value} {x:Value}:(xs.push x).toList=xs.toList++[x]:=by simp
theorem push_snd {H':Hp} {o:Nat} {v:V} {x:Value} {p:Addr×Addr} {Q:Value→Shared→Prop} (S:St W ads H s) (hp:pushL H o v=some H') (hi:ads[o]?=some p) (hv:VR ads s.heap v x)
  (h:∀ s',St W ads H' s'→Ext none' ads s s' []→Q .none s'):wpAny W.M A (call (.builtin "list.append") [.ref p.1,x]) Q no' s:=by
 obtain⟨l,hl,hp⟩:=asList_eq hp
 obtain⟨hb,hp⟩:=guardB_eq hp
 cases hp
 have hb:=of_decide_eq_true hb
 cases S.obj _ _ _ hl hi with
 | @list a vs k _ ha hr =>
  have hlen:=hr.length
  refine wpAny_list_append_plain (items:=vs) ⟨k,ha⟩ (fun h' ⟨k',hk'⟩ hs=>?_) (by unfold limit at hb;rw [sizeLine_eq];simp at hlen;omega)
  have z:=S.update (s':={s with heap:=h'}) (o:=.list (l++[v])) hi (fun b o hb _ e=>(hs.2 b hb).trans e) rfl rfl fun mon=>.list hk' (by rw [toList_push];exact (mon _ _ hr).append (.cons (by
   have:=mon [v] [x] (.cons hv .nil)
   cases this with|cons a _=>exact a) .nil))
  exact h _ z.1 z.2
theorem snd_append {q:E} (hb:plainBase l=true) (hline:(apos.endLine==pos.line)=true) (he:notStar e=true) (hp:ESnd W gt n C names sc p l) (hq:ESnd W gt n C names sc q e) :
  ESnd W gt n C names sc (.append p q) (.Call (.Attribute l (sO "append") apos) [e] [] pos):=by
 intro ρ H v H' hev A env ads s hr
 obtain⟨x,H1,e1,hev⟩:=bnd_eq hev
 obtain⟨o,rfl,hev⟩:=asObj_eq hev
 obtain⟨ll,hl,hev⟩:=asList_eq hev
 obtain⟨y,H2,e2,hev⟩:=bnd_eq hev
 obtain⟨H3,e3,hev⟩:=asSome_eq hev
 cases hev
 refine wpAny_Call_method1_late (base_plain hb) hline (trees1 he) (hp.go e1 hr fun xv s1 a_1 h_1 r_1 x1=>?_)
 cases r_1 with
 | obj hi =>
  cases h_1.st.obj _ _ _ hl hi with
  | @list aL vs k _ ha hv =>
   refine⟨"list","list.append",F.plainAttrs_list,slot_list_append,type_list_append,⟨_,ha,rfl⟩,list_dict ⟨_,ha,rfl⟩,?_⟩
   refine callWith_builtin rfl (evalArgs_plain (spliced_cons (hq.go e2 h_1 fun yv s2 a_2 h_2 r_2 x2=>spliced_nil ?_)))
   have hi':=ads_more (a:=a_2) hi
   exact push_snd h_2.st e3 hi' r_2 fun s3 S3 x3=>by
    have x3':Ext none' (ads++a_1++a_2) s2 s3 []:=x3
    refine PE.after x1 (PE.after x2 ⟨[],by rw [aN];exact S3,.none,x3'⟩)
theorem erase_eq {vs:Array Value} {k:Nat} (h:k<vs.size):(vs.eraseIdxIfInBounds k).toList=vs.toList.eraseIdx k:=by
 simp [Array.eraseIdxIfInBounds,h]
theorem seq_at {h:Heap} {a:Addr} {vs:Array Value} {k:Nat} (ha:h.get? a=some (listOf vs k)) (f:Array Value→Array Value):∃ k',(h.update a (Obj.mapSeq f)).get? a=some (listOf (f vs) k') :=
 ⟨_,get?_update_seq (c:="list") (xs:=vs) (n:=k) ha f⟩
theorem pop_st {o k:Nat} {ll:List V} {p:Addr×Addr} {vs:Array Value} {m:Nat} (S:St W ads H s) (hi:ads[o]?=some p) (hp:p.1=p.2) (ha:s.heap.get? p.1=some (listOf vs m)) (hv:VRs ads s.heap ll vs.toList) (hk:k<vs.size) :
  St W ads (H.set o (.list (ll.eraseIdx k))) {s with heap:=s.heap.update p.1 (Obj.mapSeq fun xs=>xs.eraseIdxIfInBounds k)}∧Ext none' ads s {s with heap:=s.heap.update p.1 (Obj.mapSeq fun xs=>xs.eraseIdxIfInBounds k)} []:=by
 obtain⟨k',hk'⟩:=seq_at ha fun xs=>xs.eraseIdxIfInBounds k
 refine S.update hi (fun b o hb _ e=>(Heap.get?_update_ne _ _ _ _ hb).trans e) rfl rfl fun mon=>?_
 obtain⟨p1,p2⟩:=p
 cases hp
 exact .list hk' (by rw [erase_eq hk];exact (mon _ _ hv).eraseIdx k)
theorem snd_pop (hb:plainBase l=true) (hline:(apos.endLine==pos.line)=true) (hp:ESnd W gt n C names sc p l):ESnd W gt n C names sc (.pop p) (.Call (.Attribute l (sO "pop") apos) [] [] pos):=by
 intro ρ H v H' hev A env ads s hr
 obtain⟨x,H1,e1,hev⟩:=bnd_eq hev
 obtain⟨o,rfl,hev⟩:=asObj_eq hev
 obtain⟨ll,hl,hev⟩:=asList_eq hev
 obtain⟨hle,hev⟩:=guardB_eq hev
 obtain⟨y,e2,hev⟩:=asSome_eq hev
 cases hev
 have hle:=of_decide_eq_true hle
 refine wpAny_Call_method0_late (base_plain hb) hline (hp.go e1 hr fun xv s1 a_1 h_1 r_1 x1=>?_)
 cases r_1 with
 | @obj _ pp hi =>
  cases h_1.st.obj _ _ _ hl hi with
  | @list aL vs k _ ha hv =>
   refine⟨"list","list.pop",F.plainAttrs_list,F.slot_list_pop,F.type_list_pop,⟨_,ha,rfl⟩,list_dict ⟨_,ha,rfl⟩,?_⟩
   have hlen:=hv.length
   obtain⟨yv,hy,hyr⟩:=hv.get e2
   have hlt:=(gS.mp hy).1
   have hsz:ll.length=vs.size:=by simpa using hlen
   rw [hsz] at hy hlt
   refine callWith_builtin rfl (PySem.evalArgs_none (call_meets F.slot_list_pop ⟨_,ha,rfl⟩ F.entry_list_pop (F.args_list_pop_1 _) (PySem.MeetsSeq.list_pop_last aL vs k yv (by simpa using hy) (by unfold limit at hle;rw [sizeLine_eq];omega)) ⟨ha,?_⟩))
   have z:=pop_st (k:=vs.size-1) h_1.st hi rfl ha hv (by simp at hlt;omega)
   rw [←hsz] at z
   have hm:=h_1.st.mono z.2 .none hyr
   exact PE.after x1 ⟨[],by rw [aN];rw [←hsz];exact z.1,by rw [←hsz];exact hm,by rw [←hsz];exact z.2⟩
theorem snd_popAt {q:E} (hb:plainBase l=true) (hline:(apos.endLine==pos.line)=true) (he:notStar e=true) (hp:ESnd W gt n C names sc p l) (hq:ESnd W gt n C names sc q e) :
  ESnd W gt n C names sc (.popAt p q) (.Call (.Attribute l (sO "pop") apos) [e] [] pos):=by
 intro ρ H v H' hev A env ads s hr
 obtain⟨x,H1,e1,hev⟩:=bnd_eq hev
 obtain⟨o,rfl,hev⟩:=asObj_eq hev
 obtain⟨ll0,hl0,hev⟩:=asList_eq hev
 obtain⟨y,H2,e2,hev⟩:=bnd_eq hev
 obtain⟨i,rfl,hev⟩:=asInt_eq hev
 obtain⟨ll,hl,hev⟩:=asList_eq hev
 obtain⟨hle,hev⟩:=guardB_eq hev
 obtain⟨z,e3,hev⟩:=asSome_eq hev
 cases hev
 have hle:=of_decide_eq_true hle
 refine wpAny_Call_method1_late (base_plain hb) hline (trees1 he) (hp.go e1 hr fun xv s1 a_1 h_1 r_1 x1=>?_)
 cases r_1 with
 | @obj _ pp hi =>
  cases h_1.st.obj _ _ _ hl0 hi with
  | @list aL vs0 k_0 _ ha0 hv_0 =>
   refine⟨"list","list.pop",F.plainAttrs_list,F.slot_list_pop,F.type_list_pop,⟨_,ha0,rfl⟩,list_dict ⟨_,ha0,rfl⟩,?_⟩
   refine callWith_builtin rfl (evalArgs_plain (spliced_cons (hq.go e2 h_1 fun yv s2 a_2 h_2 r_2 x2=>spliced_nil ?_)))
   cases r_2
   have hi':=ads_more (a:=a_2) hi
   cases h_2.st.obj _ _ _ hl hi' with
   | @list _ vs k _ ha hv =>
    have hlen:=hv.length
    obtain⟨zv,hz,hzr⟩:=hv.get e3
    have hlt:=(gS.mp hz).1
    have hsz:ll.length=vs.size:=by simpa using hlen
    have hlt':i.toNat<vs.size:=by simpa using hlt
    have hk:seqIndex? i vs.size=some i.toNat:=by
     unfold seqIndex?
     simp only [show ¬ i<0 by omega,if_false]
     rw [if_pos (by rw [Bool.and_eq_true];exact⟨decide_eq_true (by omega),decide_eq_true (by omega)⟩)]
    refine call_meets F.slot_list_pop ⟨_,ha,rfl⟩ F.entry_list_pop (F.args_list_pop_2 _ _) (PySem.MeetsSeq.list_pop_at aL vs k i _ i.toNat zv ?_ hk (by simpa using hz) (by unfold limit at hle;rw [sizeLine_eq];omega)) ⟨ha,?_⟩
    ·unfold Builtin.List.listFitsIndex;simp;omega
    ·have z:=pop_st (k:=i.toNat) h_2.st hi' rfl ha hv hlt'
     exact PE.after x1 (PE.after x2 ⟨[],by rw [aN];exact z.1,h_2.st.mono z.2 .none hzr,z.2⟩)
theorem snd_get1 {q:E} (O:W.Ok tb gt mg mb) (hb:plainBase l=true) (hline:(apos.endLine==pos.line)=true) (he:notStar e=true) (hp:ESnd W gt n C names sc p l) (hq:ESnd W gt n C names sc q e) :
  ESnd W gt n C names sc (.get1 p q) (.Call (.Attribute l (sO "get") apos) [e] [] pos):=by
 intro ρ H v H' hev A env ads s hr
 obtain⟨x,H1,e1,hev⟩:=bnd_eq hev
 obtain⟨o,rfl,hev⟩:=asObj_eq hev
 obtain⟨ll0,hl0,hev⟩:=asDi_eq hev
 obtain⟨y,H2,e2,hev⟩:=bnd_eq hev
 obtain⟨i,rfl,hev⟩:=asInt_eq hev
 obtain⟨ll,hl,hev⟩:=asDi_eq hev
 cases hev
 refine wpAny_Call_method1_late (base_plain hb) hline (trees1 he) (hp.go e1 hr fun xv s1 a_1 h_1 r_1 x1=>?_)
 cases r_1 with
 | @obj _ pp hi =>
  cases h_1.st.obj _ _ _ hl0 hi with
  | di ha0 hk_0 hv_0 =>
   refine⟨"dict","dict.get",F.plainAttrs_dict,F.slot_dict_get,F.type_dict_get,ha0.mapOf.typeIs,ha0.mapOf.noDict,?_⟩
   refine wpAny_dict_get1 (knd:=W.ik) (h_1.st.not_mods O.low hi) (hq.go e2 h_1 fun yv s2 a_2 h_2 r_2 x2=>?_)
   cases r_2
   have hi':=ads_more (a:=a_2) hi
   cases h_2.st.obj _ _ _ hl hi' with
   | di ha hk hv =>
    refine⟨i,_,intKind_is _ _ _ _,ha.mapOf,?_⟩
    rcases pairs_get hk hv i with ⟨q1,q2⟩|⟨v',x',q1,q2,q3⟩
    ·rw [q1,q2];exact PE.after x1 (PE.after x2 (by refine h_2.pe VR.none ?_ ?_ ?_<;>rfl))
    ·rw [q1,q2];exact PE.after x1 (PE.after x2 (by refine h_2.pe q3 ?_ ?_ ?_<;>rfl))
end
def FrR (names:List Str) (env:Env) (ρ:Rho) (ads:Ads) (h:Heap):Prop :=
 ∃ m,h.Ns env.locals m∧¬ foot ads env.locals∧∀ (i:Nat) (v:V),(ρ[i]?).join=some v→∃ x w,names[i]?=some x∧VR ads h v w ∧
  ((env.kindOf x=some .local∧m x=some w)∨((env.kindOf x=some .cell∨env.kindOf x=some .free)∧∃ c,env.cells.lookup x=some c∧h.IsCell c (some w)∧¬ foot ads c))
abbrev own (env:Env):Addr→Prop:=fun b=>b=env.locals
structure HereS (W:Setup) (n:Nat) (names:List Str) (sc:Scope) (ρ:Rho) (A:Around) (env:Env) (ads:Ads) (H:Hp) (s:Shared):Prop where
 a:AOK n A
 e:EnvOK env
 sc:ScopeR sc env
 f:FrR names env ρ ads s.heap
 st:St W ads H s
 low:W.g.get? env.locals=none
 nd:names.Nodup
section
variable {W:Setup} {tb:Tab} {gt:List V} {mg mb:Str→Option Value} {n:Nat} {C:CallF} {names:List Str} {sc:Scope} {A:Around} {env:Env} {ads a b:Ads} {H H1 H2:Hp} {s s' s1 s2:Shared} {ρ ρ1 ρ2:Rho} {v x:V} {p q r:E} {l e e_2:Expr} {pos apos:Pos}
theorem FrR.toEnv (h:FrR names env ρ ads s.heap):EnvR names env ρ ads s.heap:=by
 obtain⟨m,hn,hf,hr⟩:=h
 intro i v hv
 obtain⟨x,w,hx,hw,h⟩:=hr i v hv
 refine⟨x,w,hx,hw,?_⟩
 rcases h with ⟨hk,hm⟩|⟨hk|hk,c,hc,hv,hcf⟩
 ·exact .loc hk hn hm hf
 ·exact .cell hk hc hv hcf
 ·exact .free hk hc hv hcf
theorem HereS.here (h:HereS W n names sc ρ A env ads H s):Here W n names sc ρ A env ads H s:=⟨h.a,h.e,h.sc,h.f.toEnv,h.st⟩
theorem FrR.dict (h:FrR names env ρ ads s.heap):Dicts (own env) s.heap:=by
 obtain⟨m,⟨o,es,ep,ho,hd,_⟩,_⟩:=h
 rintro b o' rfl ho' vs n e
 rw [ho] at ho';cases ho';rw [hd] at e;cases e
theorem FrR.ext (S:St W ads H s) (e:Ext none' ads s s' a) (R:FrR names env ρ ads s.heap):FrR names env ρ (ads++a) s'.heap:=by
 obtain⟨m,⟨o,es,ep,ho,r⟩,hf,hr⟩:=R
 refine⟨m,⟨o,es,ep,e.keep _ _ ho hf id,r⟩,not_foot_ext e ho hf,fun i v hv=>?_⟩
 obtain⟨x,w,hx,hw,h⟩:=hr i v hv
 refine⟨x,w,hx,S.mono e .none hw,?_⟩
 rcases h with h|⟨hk,c,hc,⟨oc,hoc,rc⟩,hcf⟩
 ·exact .inl h
 ·exact .inr ⟨hk,c,hc,⟨oc,e.keep _ _ hoc hcf id,rc⟩,not_foot_ext e hoc hcf⟩
theorem HereS.ext (h:HereS W n names sc ρ A env ads H s) (S:St W (ads++a) H1 s') (e:Ext none' ads s s' a):HereS W n names sc ρ A env (ads++a) H1 s':=⟨h.a,h.e,h.sc,h.f.ext h.st e,S,h.low,h.nd⟩
def flowIs (ads:Ads) (h:Heap):Option V→Flow→Prop
 | none,.next=>True
 | some v,.ret x=>VR ads h v x
 | _,_=>False
def PS (W:Setup) (names:List Str) (env:Env) (ads:Ads) (s:Shared) (r:Option V×Rho) (H':Hp) (f:Flow) (s':Shared):Prop :=
 ∃ a,St W (ads++a) H' s'∧Ext (own env) ads s s' a∧FrR names env r.2 (ads++a) s'.heap∧flowIs (ads++a) s'.heap r.1 f
def SSnd (W:Setup) (gt:List V) (n:Nat) (C:CallF) (names:List Str) (sc:Scope) (a:S) (t:Stmt):Prop :=
 ∀ ρ H r H',execS gt C ρ a H=some (r,H')→∀ A env ads s,HereS W n names sc ρ A env ads H s→wpAny W.M A (exec t env) (PS W names env ads s r H') no' s
def SsSnd (W:Setup) (gt:List V) (n:Nat) (C:CallF) (names:List Str) (sc:Scope) (a:List S) (t:List Stmt):Prop :=
 ∀ ρ H r H',execs gt C ρ a H=some (r,H')→∀ A env ads s,HereS W n names sc ρ A env ads H s→wpAny W.M A (PySem.execs t env) (PS W names env ads s r H') no' s
theorem Ext.own (e:Ext none' ads s s' a):Ext (own env) ads s s' a:=e.weaken fun _ f=>f.elim
theorem PS.after {r:Option V×Rho} {H':Hp} {f:Flow} (e:Ext (own env) ads s s1 a) (p:PS W names env (ads++a) s1 r H' f s2):PS W names env ads s r H' f s2:=by
 obtain⟨b,S,x,fr,fl⟩:=p
 exact⟨a++b,by rw [←aA];exact S,e.tr x,by rw [←aA];exact fr,by rw [←aA];exact fl⟩
theorem HereS.step (h:HereS W n names sc ρ A env ads H s) (S:St W (ads++a) H1 s1) (f:FrR names env ρ1 (ads++a) s1.heap):HereS W n names sc ρ1 A env (ads++a) H1 s1:=⟨h.a,h.e,h.sc,f,S,h.low,h.nd⟩
theorem HereS.ps (h:HereS W n names sc ρ A env ads H s):PS W names env ads s (none,ρ) H .next s :=
 ⟨[],by rw [aN];exact h.st,.refl _ _,by rw [aN];exact h.f,trivial⟩
theorem HereS.psr {xv:Value} (h:HereS W n names sc ρ A env ads H s) (hx:VR ads s.heap v xv):PS W names env ads s (some v,ρ) H (.ret xv) s :=
 ⟨[],by rw [aN];exact h.st,.refl _ _,by rw [aN];exact h.f,by rw [aN];exact hx⟩
theorem ESnd.goS (hp:ESnd W gt n C names sc p l) (e1:evalE gt C ρ p H=some (x,H1)) (hr:HereS W n names sc ρ A env ads H s) {Q:Value→Shared→Prop}
  (k:∀ xv s1 a_1,HereS W n names sc ρ A env (ads++a_1) H1 s1→VR (ads++a_1) s1.heap x xv→Ext none' ads s s1 a_1→Q xv s1):wpAny W.M A (eval l env) Q no' s :=
 wpAny_mono (hp _ _ _ _ e1 A env ads s hr.here) (fun xv s1 ⟨a_1,S1,r_1,x1⟩=>k xv s1 a_1 (hr.ext S1 x1) r_1 x1) fun _ _ f=>f.elim
theorem get_set {ρ:Rho} {i j:Nat} {v w:V} (h:((ρ.set i (some v))[j]?).join=some w):(i=j∧w=v)∨(i≠j∧(ρ[j]?).join=some w):=by
 by_cases e:i=j
 ·subst e
  rcases Nat.lt_or_ge i ρ.length with h'|h'
  ·rw [List.getElem?_set_self h'] at h;simp at h;exact .inl ⟨rfl,h.symm⟩
  ·rw [List.getElem?_eq_none (by rw [List.length_set];exact h')] at h;cases h
 ·rw [List.getElem?_set_ne e] at h;exact .inr ⟨e,h⟩
theorem bindsAs_of {i:Nat} {nm:Str} (h:bindsAs names sc i nm=true):names[i]?=some nm∧sc.names.lookup nm=some .local:=by
 simp only [bindsAs,kindIn,Bool.and_eq_true,beq_iff_eq] at h;exact h
theorem nodup_get {names:List Str} (hn:names.Nodup) {i j:Nat} {nm:Str} (h1:names[i]?=some nm) (h2:names[j]?=some nm):i=j:=by
 obtain⟨p1,q1⟩:=gS.mp h1
 obtain⟨p2,q2⟩:=gS.mp h2
 have hp:=List.pairwise_iff_getElem.mp hn
 rcases Nat.lt_trichotomy i j with h|h|h
 ·exact absurd (q1.trans q2.symm) (hp i j p1 p2 h)
 ·exact h
 ·exact absurd (q2.trans q1.symm) (hp j i p2 p1 h)
theorem store_snd {i:Nat} {nm:Str} {xv:Value} {Q:Unit→Shared→Prop} (hr:HereS W n names sc ρ A env ads H s) (hb:bindsAs names sc i nm=true) (hx:VR ads s.heap v xv)
  (k:∀ s1,HereS W n names sc (ρ.set i (some v)) A env ads H s1→Ext (own env) ads s s1 []→Q () s1):wpAny W.M A (storeName env nm xv) Q no' s:=by
 obtain⟨hi,hl⟩:=bindsAs_of hb
 have hd:=hr.f.dict
 obtain⟨m,hn,hf,hm⟩:=hr.f
 refine wpAny_storeName_local (hr.sc.loc _ hl) hn (fun h' hn' hs=>?_) (by rw [hr.e.fn];rfl)
 have x:Ext (own env) ads s {s with heap:=h',toks:=s.toks+1} []:=Ext.of_keep (fun b o e nb=>(hs.2 b nb).trans e) (fun b o e=>by
  by_cases q:b=env.locals
  ·obtain⟨o',_,_,ho',_⟩:=hn';exact⟨o',q▸ho'⟩
  ·exact⟨o,(hs.2 b q).trans e⟩) rfl rfl
 have S':St W ads H {s with heap:=h',toks:=s.toks+1}:=hr.st.extend x hd (fun b o f e=>(hs.2 b fun (q:b=env.locals)=>hf (by rw [←q];exact f)).trans e) fun b q=>by rw [show b=env.locals from q];exact hr.low
 refine k _ ⟨hr.a,hr.e,hr.sc,⟨_,hn',hf,fun j w hw=>?_⟩,S',hr.low,hr.nd⟩ x
 rcases get_set hw with ⟨rfl,rfl⟩|⟨hij,hw⟩
 ·refine⟨nm,xv,hi,by have:=hr.st.mono x hd hx;rwa [aN] at this,.inl ⟨hr.sc.loc _ hl,by rw [if_pos rfl]⟩⟩
 ·obtain⟨y,z,hy,hz,hh⟩:=hm j w hw
  refine⟨y,z,hy,by have:=hr.st.mono x hd hz;rwa [aN] at this,?_⟩
  rcases hh with ⟨hk,hmy⟩|⟨hk,c,hc,⟨oc,hoc,rc⟩,hcf⟩
  ·refine .inl ⟨hk,?_⟩
   have hne:y≠nm:=fun q=>hij (nodup_get hr.nd hi (q▸hy))
   rw [if_neg hne];exact hmy
  ·refine .inr ⟨hk,c,hc,⟨oc,(hs.2 c fun (q:c=env.locals)=>?_).trans hoc,rc⟩,hcf⟩
   obtain⟨o,es,ep,ho,hd',_⟩:=hn
   rw [q,ho] at hoc;cases hoc;rw [hd'] at rc;cases rc
end
section
variable {K:Type} [DecidableEq K] {ads:Ads} {h:Heap}
theorem stored_miss {p:K×Value} {r:List (K×Value)} {k:K} {v:Value} (e:¬ p.1=k):stored (p::r) k v=p::stored r k v:=by
 unfold stored
 simp only [List.any_cons,e,decide_false,Bool.false_or,mC,if_false,cA]
 split<;>rfl
theorem map_put_id {r:List (K×Value)} {k:K} {v:Value} (hn:k∉r.map (·.1)):r.map (fun kv=>if kv.1=k then (kv.1,v) else kv)=r:=by
 induction r with
 | nil=>rfl
 | cons p r ih =>
  simp only [mC,mK,not_or] at hn ⊢
  rw [if_neg (fun e=>hn.1 e.symm),ih hn.2]
theorem stored_hit {p:K×Value} {r:List (K×Value)} {k:K} {v:Value} (e:p.1=k) (hn:k∉r.map (·.1)):stored (p::r) k v=(p.1,v)::r:=by
 unfold stored
 simp only [List.any_cons,e,decide_true,Bool.true_or,if_true,mC]
 rw [map_put_id hn]
theorem stored_vrs:∀ {l:List (K×V)} {kvs:List (K×Value)} {k:K} {v:V} {x:Value},kvs.map (·.1)=l.map (·.1)→(kvs.map (·.1)).Nodup→VRs ads h (l.map (·.2)) (kvs.map (·.2))→VR ads h v x →
  (stored kvs k x).map (·.1)=(dput l k v).map (·.1)∧VRs ads h ((dput l k v).map (·.2)) ((stored kvs k x).map (·.2))
 | [],[],k,v,x,_,_,_,hx=>⟨rfl,.cons hx .nil⟩
 | p::l,q::kvs,k,v,x,hk,hn,hv,hx=>by
  simp only [mC,List.cons.injEq,nC] at hk hn hv
  cases hv with
  | cons a b =>
   by_cases e:q.1=k
   ·rw [stored_hit e (e▸hn.1),dput,if_pos (hk.1.symm.trans e)]
    exact⟨by simp [hk],.cons hx b⟩
   ·rw [stored_miss e,dput,if_neg fun r=>e (hk.1.trans r)]
    have:=stored_vrs (k:=k) hk.2 hn.2 b hx
    exact⟨by simp [hk.1,this.1],.cons a this.2⟩
theorem wd_stored:∀ {l:List V} {kvs:List (Str×Value)} {ks:List Str} {i:Nat} {nm:Str} {v:V} {x:Value},kvs.map (·.1)=ks.take l.length→ks.Nodup→l.length≤ks.length→ks[i]?=some nm→VRs ads h l (kvs.map (·.2))→VR ads h v x →
  (i<l.length→(stored kvs nm x).map (·.1)=ks.take l.length∧VRs ads h (l.set i v) ((stored kvs nm x).map (·.2))) ∧
  (i=l.length→(stored kvs nm x).map (·.1)=ks.take (l.length+1)∧VRs ads h (l++[v]) ((stored kvs nm x).map (·.2)))
 | [],kvs,ks,i,nm,v,x,hk,hn,hl,hi,hv,hx=>by
  have:kvs=[]:=by simpa using hk
  subst this
  refine⟨fun h=>absurd h (Nat.not_lt_zero _),fun e=>?_⟩
  subst e
  cases ks with
  | nil=>cases hi
  | cons a ks=>simp at hi;subst hi;exact⟨rfl,.cons hx .nil⟩
 | y::l,q::kvs,k0::ks,i,nm,v,x,hk,hn,hl,hi,hv,hx=>by
  simp only [mC,lC,List.take_succ_cons,List.cons.injEq] at hk hv hl
  rw [nC] at hn
  cases hv with
  | cons a b =>
   cases i with
   | zero =>
    simp only [gZ,Option.some.injEq] at hi
    subst hi
    have:k0∉kvs.map (·.1):=by rw [hk.2];exact fun m=>hn.1 (List.mem_of_mem_take m)
    rw [stored_hit hk.1 this]
    exact⟨fun _=>⟨by simp [hk],.cons hx b⟩,fun e=>by simp at e⟩
   | succ i =>
    simp only [List.getElem?_cons_succ] at hi
    have ne:¬ q.1=nm:=fun e=>hn.1 (by rw [←hk.1,e];exact mG hi)
    rw [stored_miss ne]
    have ih:=wd_stored hk.2 hn.2 (Nat.le_of_succ_le_succ hl) hi b hx
    refine⟨fun hlt=>?_,fun e=>?_⟩
    ·have z:=ih.1 (by simpa using hlt)
     exact⟨by simp [hk.1,z.1],.cons a z.2⟩
    ·have z:=ih.2 (by simpa using e)
     refine⟨?_,.cons a z.2⟩
     rw [mC,z.1,hk.1];rfl
 | y::l,[],k0::ks,i,nm,v,x,hk,hn,hl,hi,hv,hx=>by simp at hk
 | y::l,_,[],i,nm,v,x,hk,hn,hl,hi,hv,hx=>by simp at hl
theorem storedH_miss {p:K×Addr×Value} {r:List (K×Addr×Value)} {k:K} {a:Addr} {v:Value} (e:¬ p.1=k):storedH (p::r) k a v=p::storedH r k a v:=by
 unfold storedH atKey
 simp only [List.find?_cons,decide_eq_false e,mC,putAt,if_neg e]
 split<;>rfl
theorem storedH_hit {p:K×Addr×Value} {r:List (K×Addr×Value)} {k:K} {a:Addr} {v:Value} (e:p.1=k) (hn:k∉r.map (·.1)):storedH (p::r) k a v=(p.1,p.2.1,v)::r:=by
 unfold storedH atKey
 simp only [List.find?_cons,decide_eq_true e,Option.map_some,Option.isSome_some,if_true,mC]
 rw [map_putAt_of_not_mem r k v hn,putAt,if_pos e]
theorem storedH_vrs {toV:K→V}:∀ {l:List (K×V)} {xs:List (K×Addr×Value)} {k:K} {a:Addr} {v:V} {x:Value},xs.map (·.1)=l.map (·.1)→(xs.map (·.1)).Nodup →
  VRs ads h (l.map fun p=>toV p.1) (xs.map fun x=>.ref x.2.1)→VRs ads h (l.map (·.2)) (xs.map (·.2.2))→VR ads h (toV k) (.ref a)→VR ads h v x →
  (storedH xs k a x).map (·.1)=(dput l k v).map (·.1)∧VRs ads h ((dput l k v).map fun p=>toV p.1) ((storedH xs k a x).map fun x=>.ref x.2.1)∧VRs ads h ((dput l k v).map (·.2)) ((storedH xs k a x).map (·.2.2))
 | [],[],k,a,v,x,_,_,_,_,ha,hx=>⟨rfl,.cons ha .nil,.cons hx .nil⟩
 | p::l,q::xs,k,a,v,x,hk,hn,hr,hv,ha,hx=>by
  simp only [mC,List.cons.injEq,nC] at hk hn hv hr
  cases hv with
  | cons b1 b2 =>
   cases hr with
   | cons c1 c2 =>
    by_cases e:q.1=k
    ·rw [storedH_hit e (e▸hn.1),dput,if_pos (hk.1.symm.trans e)]
     exact⟨by simp [hk],.cons c1 c2,.cons hx b2⟩
    ·rw [storedH_miss e,dput,if_neg fun r=>e (hk.1.trans r)]
     have:=storedH_vrs (k:=k) hk.2 hn.2 c2 b2 ha hx
     exact⟨by simp [hk.1,this.1],.cons c1 this.2.1,.cons b1 this.2.2⟩
theorem pairsH_get {l:List (K×V)} {xs:List (K×Addr×Value)} (hk:xs.map (·.1)=l.map (·.1)) (hv:VRs ads h (l.map (·.2)) (xs.map (·.2.2))) (k:K) :
  (dget l k=none∧atKey xs k=none)∨∃ v x,dget l k=some v∧(atKey xs k).map (·.2)=some x∧VR ads h v x:=by
 induction l generalizing xs with
 | nil =>
  cases xs with
  | nil=>exact .inl ⟨rfl,rfl⟩
  | cons _ _=>cases hk
 | cons p l ih =>
  cases xs with
  | nil=>cases hk
  | cons kv kvs =>
   simp only [mC,List.cons.injEq] at hk hv
   cases hv with
   | cons h1 h2 =>
    by_cases e:p.1=k
    ·refine .inr ⟨p.2,kv.2.2,by simp [dget,e],?_,h1⟩
     unfold atKey
     rw [List.find?_cons,decide_eq_true (hk.1.trans e)];rfl
    ·have e':¬ kv.1=k:=fun q=>e (hk.1.symm.trans q)
     have q:atKey (kv::kvs) k=atKey kvs k:=by
      unfold atKey
      rw [List.find?_cons,decide_eq_false e']
     have q2:dget (p::l) k=dget l k:=by simp [dget,e]
     rw [q,q2]
     exact ih hk.2 h2
end
section
variable {W:Setup} {ads:Ads} {H:Hp} {s:Shared} {h:Heap}
theorem NItem.of_int {i:Int} {x:Value} (h1:VR ads h (.int i) x):NItem h (some i) x:=by cases h1;exact⟨_,rfl⟩
theorem NItem.of_nil {x:Value} (h1:VR ads h (.tup []) x):NItem h none x:=by
 cases h1 with
 | @tup a o vs n _ ho hc hd hr =>
  obtain⟨L⟩:=vs
  cases hr
  exact⟨_,o,n,rfl,ho,hc,hd⟩
theorem nkey_is {k:NKey} {a:Addr} (x:VR ads h (NKey.toV k) (.ref a)):IsNKey h k a:=by
 obtain⟨i,j,b⟩:=k
 cases b<;>simp only [NKey.toV] at x
 ·cases x with
  | @tup _ o vs n _ ho hc hd hr =>
   refine⟨o,vs,n,ho,hc,hd,?_⟩
   generalize vs.toList=L at hr
   cases hr with|cons h1 hr=>cases hr with|cons h2 hr=>cases hr;exact .cons (.of_int h1) (.cons (.of_int h2) .nil)
 ·cases x with
  | @tup _ o vs n _ ho hc hd hr =>
   refine⟨o,vs,n,ho,hc,hd,?_⟩
   generalize vs.toList=L at hr
   cases hr with|cons h1 hr=>cases hr with|cons h2 hr=>cases hr with|cons h3 hr=>cases hr;exact .cons (.of_int h1) (.cons (.of_int h2) (.cons (.of_nil h3) .nil))
theorem ofV_eq {v:V} {k:NKey} (e:NKey.ofV v=some k):v=NKey.toV k:=by
 unfold NKey.ofV at e
 split at e<;>first|(cases e;rfl)|cases e
theorem toV_ref {k:NKey} {x:Value} (h1:VR ads h (NKey.toV k) x):∃ a,x=.ref a:=by
 obtain⟨i,j,b⟩:=k
 cases b<;>(cases h1;exact⟨_,rfl⟩)
theorem dt_is:∀ {l:List (NKey×V)} {xs:List (NKey×Addr×Value)},xs.map (·.1)=l.map (·.1)→VRs ads h (l.map fun p=>NKey.toV p.1) (xs.map fun x=>.ref x.2.1)→∀ x∈xs,IsNKey h x.1 x.2.1
 | [],[],_,_,_,m=>nomatch m
 | p::l,q::xs,hk,hr,x,m=>by
  simp only [mC,List.cons.injEq] at hk hr
  cases hr with
  | cons a b =>
   rcases mK.mp m with rfl|m
   ·rw [hk.1];exact nkey_is a
   ·exact dt_is hk.2 b x m
theorem dt_of {a:Addr} {o:Obj} {es ep} {xs:List (NKey×Addr×Value)} {l:List (NKey×V)} (h1:h.get? a=some o) (h2:o.ExactDict) (h3:o.data=.dict es ep) (h4:es.toList=xs.map (entryOfKey (nestKind W.prog W.w))) (h5:(xs.map (·.1)).Nodup) (h6:xs.map (·.1)=l.map (·.1))
  (h7:VRs ads h (l.map fun p=>NKey.toV p.1) (xs.map fun x=>.ref x.2.1)):h.DictOfH (nestKind W.prog W.w) a xs:=⟨o,es,ep,h1,h2,h3,h4,dt_is h6 h7,h5⟩
theorem dictOf_nodup {K:Type} [DecidableEq K] {knd:PySem.KeyKind W.prog W.w K} {a:Addr} {kvs:List (K×Value)} (x:h.DictOf knd a kvs):(kvs.map (·.1)).Nodup:=x.choose_spec.choose_spec.choose_spec.2.2.2.2.2
end
section
variable {W:Setup} {tb:Tab} {gt:List V} {mg mb:Str→Option Value} {n:Nat} {C:CallF} {names:List Str} {sc:Scope} {A:Around} {env:Env} {ads a b:Ads} {H H1 H2 H':Hp} {s s' s1 s2:Shared} {ρ ρ1 ρ2 ρ':Rho} {v x:V} {p q r:E} {l e e_2:Expr} {pos apos:Pos}
theorem VRs.one {ads:Ads} {h:Heap} {v:V} {x:Value} (m:VRs ads h [v] [x]):VR ads h v x:=by cases m with|cons a _=>exact a
theorem fit_le {m:Nat} (h:m≤limit):m≤sizeLine:=by unfold limit at h;rw [sizeLine_eq];omega
theorem setItem_exact {l:Addr} {items:Array Value} {m:Nat} {k:Int} {t:Tok} {v:Value} {Q:Unit→Shared→Prop} (ha:s.heap.get? l=some (listOf items m))
  (h0:0≤k) (hfit:k<2 ^ 63) (hn:k<items.size) (hQ:Q () {s with heap:=s.heap.update l (Obj.mapSeq (·.setIfInBounds k.toNat v))}) :
  wpAny W.M A (setItem (.ref l) (.int k t) v) Q no' s:=by
 have hl:s.heap.IsList l items:=⟨_,ha,rfl,m,rfl⟩
 obtain⟨o,ho,hc,ne,hd⟩:=id hl
 unfold setItem
 try with_reducible refine wpAny_holding ?_
 first|refine wpAny_bind (wpAny_pure ?_)|skip
 refine wpAny_bind (wpAny_sequenceKey hl.typeIs (by decide) ?_)
 refine wpAny_bind (wpAny_callSpecial?_slot (name:=sO "__setitem__") hl.typeIs slot_list_setitem
  (wpAny_call_entry slot_list_setitem hl.typeIs entry_list_setitem ?_ (args_list_setitem _ _ _)))
 show wpAny _ _ (Builtin.List.listSubscript? (.int k t) >>= _) _ _ s
 refine wpAny_bind (wpAny_listSubscript_int (fitsIndex_of h0 hfit) ?_)
 clear hfit
 obtain⟨j,rfl⟩:=Int.eq_ofNat_of_zero_le h0
 have hj:j<items.size:=by omega
 have hx':items[j]?=some items[j]:=Array.getElem?_eq_getElem hj
 show wpAny _ _ ((seqItemAt l j >>= fun r=>pure (r.map (j,·))) >>= _) _ _ s
 refine wpAny_bind (wpAny_bind (wpAny_seqItemAt ho hd (wpAny_pure ?_)))
 rw [hx']
 show wpAny _ _ (setSeqItemAt l j v >>= _) _ _ s
 refine wpAny_bind (wpAny_setSeqItemAt ho hd ?_)
 first
  | exact wpAny_bind (wpAny_pure (wpAny_pure ⟨.none,rfl,wpAny_pure hQ⟩))
  | exact wpAny_pure ⟨.none,rfl,wpAny_pure hQ⟩
theorem item_snd {o:Nat} {k v:V} {kx xv:Value} {p:Addr×Addr} {Q:Unit→Shared→Prop} (hA:AOK n A) (S:St W ads H s) (e:putIdx H o k v=some H') (hi:ads[o]?=some p) (hk:VR ads s.heap k kx) (hx:VR ads s.heap v xv)
  (h:∀ s',St W ads H' s'→Ext none' ads s s' []→Q () s'):wpAny W.M A (setItem (.ref p.1) kx xv) Q no' s:=by
 unfold putIdx at e
 split at e
 ·rename_i ll i hl
  obtain⟨hb,e⟩:=guardB_eq e
  cases e
  have hb:=of_decide_eq_true hb
  cases hk
  cases S.obj _ _ _ hl hi with
  | @list aL vs m _ ha hv =>
   have hlen:=hv.length
   refine setItem_exact ha hb.1 (by omega) (by simp at hlen;omega) ?_
   obtain⟨m',hm'⟩:=seq_at ha (·.setIfInBounds i.toNat xv)
   have z:=S.update (s':={s with heap:=s.heap.update aL (Obj.mapSeq (·.setIfInBounds i.toNat xv))}) (o:=.list (ll.set i.toNat v)) hi (fun b o hb _ e=>(Heap.get?_update_ne _ _ _ _ hb).trans e) rfl rfl fun mon =>
    .list hm' (by rw [Array.toList_setIfInBounds];exact (mon _ _ hv).set _ (mon [v] [xv] (.cons hx .nil)).one)
   exact h _ z.1 z.2
 ·rename_i ll i hl
  obtain⟨hb,e⟩:=guardB_eq e
  cases e
  have hb:=of_decide_eq_true hb
  cases hk
  cases S.obj _ _ _ hl hi with
  | @di aL kvs _ ha hk hv =>
   have hlen:=congrArg List.length hk
   refine wpAny_setItem_pairs (knd:=W.ik) (intKind_is _ _ _ _) ha (fun h' hd hs=>?_) (fit_le (by simp at hlen;omega))
   have z:=S.update (s':={s with heap:=h',toks:=s.toks+1}) (o:=.di (dput ll i v)) hi (fun b o hb _ e=>(hs.2 b hb).trans e) rfl rfl fun mon=>by
    have q:=stored_vrs (k:=i) hk (dictOf_nodup ha) (mon _ _ hv) (mon [v] [xv] (.cons hx .nil)).one
    exact .di hd q.1 q.2
   exact h _ z.1 z.2
 ·rename_i ll i hl
  obtain⟨hb,e⟩:=guardB_eq e
  cases e
  have hb:=of_decide_eq_true hb
  cases hk
  cases S.obj _ _ _ hl hi with
  | @ds aL kvs _ ha hk hv =>
   have hlen:=congrArg List.length hk
   refine wpAny_setItem_pairs (knd:=W.sk) (strKind_is _ _ _ _) ha (fun h' hd hs=>?_) (fit_le (by simp at hlen;omega))
   have z:=S.update (s':={s with heap:=h',toks:=s.toks+1}) (o:=.ds (dput ll i v)) hi (fun b o hb _ e=>(hs.2 b hb).trans e) rfl rfl fun mon=>by
    have q:=stored_vrs (k:=i) hk (dictOf_nodup ha) (mon _ _ hv) (mon [v] [xv] (.cons hx .nil)).one
    exact .ds hd q.1 q.2
   exact h _ z.1 z.2
 ·rename_i hl
  obtain⟨i,hi',e⟩:=asSome_eq e
  obtain⟨hb,e⟩:=guardB_eq e
  cases e
  have hb:=of_decide_eq_true hb
  have:=ofV_eq hi';subst this
  obtain⟨ka,rfl⟩:=toV_ref hk
  cases S.obj _ _ _ hl hi with
  | @dt aL oD es ep xs _ h1 h2 h3 h4 h5 h6 h7 h8 =>
   have hlen:=congrArg List.length h6
   refine wpAny_setItem_heap (knd:=nestKind W.prog W.w) (k:=i) (by show A.units+1+10<cLine;have:=hA.units;omega) (nkey_is hk) (dt_of h1 h2 h3 h4 h5 h6 h7) (fun h' hd hs=>?_) (fit_le (by simp at hlen;omega))
   have z:=S.update (s':={s with heap:=h',toks:=s.toks+(nestKind W.prog W.w).draws i}) (o:=.dt (dput _ i v)) hi (fun b o hb _ e=>(hs.2 b hb).trans e) rfl rfl fun mon=>by
    have q:=storedH_vrs (k:=i) h6 h5 (mon _ _ h7) (mon _ _ h8) (mon [_] [_] (.cons hk .nil)).one (mon [v] [xv] (.cons hx .nil)).one
    obtain⟨o',es',ep',g1,g2,g3,g4,_,g6⟩:=hd
    exact .dt g1 g2 g3 g4 g6 q.1 q.2.1 q.2.2
   exact h _ z.1 z.2
 ·cases e
theorem wk_snd {o k:Nat} {nm:Str} {t:Tok} {v:V} {xv:Value} {p:Addr×Addr} {Q:Unit→Shared→Prop} (hwn:W.wks.Nodup) (hw:W.wks.length≤100) (S:St W ads H s) (e:putWk H o k v=some H') (hi:ads[o]?=some p) (hn:W.wks[k]?=some nm) (hx:VR ads s.heap v xv)
  (h:∀ s',St W ads H' s'→Ext none' ads s s' []→Q () s'):wpAny W.M A (setItem (.ref p.1) (.str nm t) xv) Q no' s:=by
 obtain⟨ll,hl,e⟩:=asWd_eq e
 cases S.obj _ _ _ hl hi with
 | @wd aL kvs _ ha hk hlw hv =>
  have hlen:=congrArg List.length hk
  refine wpAny_setItem_pairs (knd:=W.sk) (strKind_is _ _ _ _) ha (fun h' hd hs=>?_) (fit_le (by unfold limit;simp at hlen;omega))
  have q:=fun mon:∀ l xs,VRs ads s.heap l xs→VRs ads h' l xs=>wd_stored hk hwn hlw hn (mon _ _ hv) (mon [v] [xv] (.cons hx .nil)).one
  have hkw:=(gS.mp hn).1
  split at e
  ·rename_i hlt
   cases e
   have z:=S.update (s':={s with heap:=h',toks:=s.toks+1}) (o:=.wd (ll.set k v)) hi (fun b o hb _ e=>(hs.2 b hb).trans e) rfl rfl fun mon=>by
    have q:=(q mon).1 hlt
    exact .wd hd (by rw [List.length_set];exact q.1) (by rw [List.length_set];exact hlw) q.2
   exact h _ z.1 z.2
  ·split at e
   ·rename_i heq
    cases e
    have z:=S.update (s':={s with heap:=h',toks:=s.toks+1}) (o:=.wd (ll++[v])) hi (fun b o hb _ e=>(hs.2 b hb).trans e) rfl rfl fun mon=>by
     have q:=(q mon).2 heq
     exact .wd hd (by rw [lA];exact q.1) (by rw [lA,lS];omega) q.2
    exact h _ z.1 z.2
   ·cases e
end
theorem lookup_none_of_short {l:List Str} {vals:List Value} {i:Nat} {nm:Str} (hn:l.Nodup) (h1:l[i]?=some nm) (h2:vals.length≤i):(l.zip vals).lookup nm=none:=by
 induction l generalizing vals i with
 | nil=>cases h1
 | cons a l ih =>
  cases vals with
  | nil=>simp
  | cons b vals =>
   cases i with
   | zero=>simp at h2
   | succ i =>
    rw [nC] at hn
    simp only [List.getElem?_cons_succ] at h1
    have ne:nm≠a:=fun e=>hn.1 (e▸mG h1)
    rw [zC,kC,beq_eq_false_iff_ne.mpr ne]
    exact ih hn.2 h1 (by simpa using h2)
theorem zip_set {l:List Str} {vals:List Value} {i:Nat} {nm:Str} {x:Value} (hn:l.Nodup) (h1:l[i]?=some nm) (y:Str) :
  (i<vals.length→(l.zip (vals.set i x)).lookup y=if y=nm then some x else (l.zip vals).lookup y)∧(i=vals.length→(l.zip (vals++[x])).lookup y=if y=nm then some x else (l.zip vals).lookup y):=by
 induction l generalizing vals i with
 | nil=>cases h1
 | cons a l ih =>
  rw [nC] at hn
  cases vals with
  | nil =>
   refine⟨fun h=>absurd h (Nat.not_lt_zero _),fun e=>?_⟩
   simp only [lN] at e
   subst e
   simp only [gZ,Option.some.injEq] at h1
   subst h1
   simp only [nA,zC,List.zip_nil_right,kC,List.lookup_nil]
   by_cases e:y=a
   ·simp [e]
   ·rw [if_neg e,beq_eq_false_iff_ne.mpr e]
  | cons b vals =>
   cases i with
   | zero =>
    simp only [gZ,Option.some.injEq] at h1
    subst h1
    refine⟨fun _=>?_,fun e=>by simp at e⟩
    simp only [List.set_cons_zero,zC,kC]
    by_cases e:y=a
    ·simp [e]
    ·rw [if_neg e,beq_eq_false_iff_ne.mpr e]
   | succ i =>
    simp only [List.getElem?_cons_succ] at h1
    have ih:=ih (vals:=vals) hn.2 h1
    have ne:nm≠a:=fun e=>hn.1 (e▸mG h1)
    by_cases e:y=a
    ·subst e
     refine⟨fun _=>?_,fun _=>?_⟩
     ·rw [if_neg (Ne.symm ne)];simp [zC]
     ·rw [if_neg (Ne.symm ne)];simp [zC]
    ·refine⟨fun h=>?_,fun h=>?_⟩
     ·simp only [List.set_cons_succ,zC,kC,beq_eq_false_iff_ne.mpr e]
      exact ih.1 (by simpa using h)
     ·simp only [cA,zC,kC,beq_eq_false_iff_ne.mpr e]
      exact ih.2 (by simpa using h)
theorem zip_mem {l:List Str} {vals:List Value} {nm:Str} (h:(l.zip vals).lookup nm≠none):nm∈l:=Classical.byContradiction fun q=>h (lookup_zip_none q)
section
variable {W:Setup} {tb:Tab} {gt:List V} {mg mb:Str→Option Value} {n:Nat} {C:CallF} {names:List Str} {sc:Scope} {A:Around} {env:Env} {ads a b:Ads} {H H1 H2 H':Hp} {s s' s1 s2:Shared} {ρ ρ1 ρ2 ρ':Rho} {v x:V} {p q r:E} {l e e_2:Expr} {pos apos:Pos}
theorem attr_snd (O:W.Ok tb gt mg mb) {o c i:Nat} {nm:Str} {v:V} {xv:Value} {p:Addr×Addr} {Q:Unit→Shared→Prop} (S:St W ads H s) (e:putAttr H o c i v=some H') (hi:ads[o]?=some p) (hn:(W.attrs c)[i]?=some nm) (hx:VR ads s.heap v xv)
  (h:∀ s',St W ads H' s'→Ext none' ads s s' []→Q () s'):wpAny W.M A (setAttr (.ref p.1) nm xv) Q no' s:=by
 obtain⟨fs,hl,e⟩:=asInst_eq e
 cases S.obj _ _ _ hl hi with
 | @inst x dx _ _ m vals ha hd hm hv hlen hne =>
  have hvl:=hv.length
  have hc:c<tb.cnames.length:=O.clen c fun q=>by rw [q] at hn;cases hn
  have hin:=(gS.mp hn).1
  refine set_attr (ns:=W.attrs c) (S.inK O) (O.cok c hc) ha hd (mG hn) (fun y hy=>zip_mem (by rw [←hm];exact hy)) (Nat.le_trans (O.alen c) (by omega)) fun h' hN hs=>?_
  have hx':h'.get? x=some (instObj (W.cls c) dx):=(hs.2 x hne).trans ha
  split at e
  ·rename_i hlt
   cases e
   have z:=S.update (s':={s with heap:=h',toks:=s.toks+2}) (o:=.inst c (fs.set i v)) hi (fun b o _ hb e=>(hs.2 b hb).trans e) rfl rfl fun mon=>by
    refine .inst hx' hN (vals:=vals.set i xv) (fun y=>?_) ((mon _ _ hv).set _ (mon [v] [xv] (.cons hx .nil)).one) (by rw [List.length_set];exact hlen) hne
    rw [(zip_set (O.and_ c) hn y).1 (by omega)]
    rw [hm]
   exact h _ z.1 z.2
  ·split at e
   ·rename_i heq
    cases e
    have z:=S.update (s':={s with heap:=h',toks:=s.toks+2}) (o:=.inst c (fs++[v])) hi (fun b o _ hb e=>(hs.2 b hb).trans e) rfl rfl fun mon=>by
     refine .inst hx' hN (vals:=vals++[xv]) (fun y=>?_) ((mon _ _ hv).append (.cons (mon [v] [xv] (.cons hx .nil)).one .nil)) (by rw [lA,lS];omega) hne
     rw [(zip_set (O.and_ c) hn y).2 (by omega)]
     rw [hm]
    exact h _ z.1 z.2
   ·cases e
def PT (W:Setup) (n:Nat) (names:List Str) (sc:Scope) (A:Around) (env:Env) (ads:Ads) (s:Shared) (ρ':Rho) (H':Hp) (s':Shared):Prop:=∃ a,HereS W n names sc ρ' A env (ads++a) H' s'∧Ext (own env) ads s s' a
def TSnd (W:Setup) (gt:List V) (n:Nat) (C:CallF) (names:List Str) (sc:Scope) (t:T) (te:Expr):Prop :=
 ∀ ρ H v ρ' H',assignT gt C ρ t v H=some (ρ',H')→∀ A env ads s xv,HereS W n names sc ρ A env ads H s→VR ads s.heap v xv→wpAny W.M A (assign te env xv) (fun _ s'=>PT W n names sc A env ads s ρ' H' s') no' s
theorem HereS.upd (hr:HereS W n names sc ρ A env ads H s) (S:St W ads H' s') (x:Ext none' ads s s' []):HereS W n names sc ρ A env ads H' s':=by
 have:=hr.ext (a:=[]) (by rw [aN];exact S) x
 rwa [aN] at this
theorem PT.of (hr:HereS W n names sc ρ A env (ads++a) H s') (x:Ext (own env) ads s s' a):PT W n names sc A env ads s ρ H s':=⟨a,hr,x⟩
theorem PT.of0 (hr:HereS W n names sc ρ A env ads H s') (x:Ext (own env) ads s s' []):PT W n names sc A env ads s ρ H s':=⟨[],by rw [aN];exact hr,x⟩
theorem tsnd_loc {i:Nat} {nm:Str} (hb:bindsAs names sc i nm=true):TSnd W gt n C names sc (.loc i) (.Name nm pos):=by
 intro ρ H v ρ' H' he A env ads s xv hr hx
 obtain⟨_,he⟩:=guardB_eq he
 cases he
 exact wpAny_assign_Name (store_snd hr hb hx fun s1 h_1 x1=>.of0 h_1 x1)
theorem assignEach_names {is:List Nat} {es:List Expr} (h:locsIs names sc is es=true):∃ nms:List (Str×Pos),es=nms.map (fun p=>Expr.Name p.1 p.2)∧is.length=nms.length∧∀ (j:Nat) i q,is[j]?=some i→nms[j]?=some q→bindsAs names sc i q.1=true:=by
 induction is generalizing es with
 | nil =>
  cases es with
  | nil=>exact⟨[],rfl,rfl,fun j i q h=>by simp at h⟩
  | cons e es=>simp [locsIs] at h
 | cons i is ih =>
  cases es with
  | nil=>simp [locsIs] at h
  | cons e es =>
   cases e with
   | Name nm pp =>
    simp only [locsIs,Bool.and_eq_true] at h
    obtain⟨nms,rfl,hl,hall⟩:=ih h.2
    refine⟨(nm,pp)::nms,rfl,congrArg (·+1) hl,fun j i' q h1 h2=>?_⟩
    cases j with
    | zero=>simp at h1 h2;subst h1;subst h2;exact h.1
    | succ j=>exact hall j i' q (by simpa using h1) (by simpa using h2)
   | _=>simp [locsIs] at h
theorem each_names (nms:List (Str×Pos)):assignEach (nms.map fun p=>Expr.Name p.1 p.2) env=nms.map fun p=>(false,assign (.Name p.1 p.2) env):=by
 induction nms with
 | nil=>rfl
 | cons p nms ih=>show (false,_)::assignEach _ env=_;rw [ih];rfl
theorem in_order:∀ (is:List Nat) (nms:List (Str×Pos)) (ρ:Rho) (vs:List V) (xs:List Value) (ρ':Rho) (s:Shared),is.length=nms.length→(∀ (j:Nat) i q,is[j]?=some i→nms[j]?=some q→bindsAs names sc i q.1=true)→setLocs ρ is vs=some ρ' →
  HereS W n names sc ρ A env ads H s→VRs ads s.heap vs xs→∀ {Q:Unit→Shared→Prop},(∀ s1,HereS W n names sc ρ' A env ads H s1→Ext (own env) ads s s1 []→Q () s1) →
  wpAny W.M A (assignInOrder (nms.map fun p=>assign (.Name p.1 p.2) env) xs) Q no' s
 | [],[],ρ,vs,xs,ρ',s,_,_,e,hr,hx,Q,k=>by
  cases vs with
  | nil=>cases e;cases hx;exact wpAny_assignInOrder_none (k _ hr (.refl _ _))
  | cons _ _=>cases e
 | i::is,nm::nms,ρ,vs,xs,ρ',s,hl,hb,e,hr,hx,Q,k=>by
  cases vs with
  | nil=>cases e
  | cons v vs =>
   obtain⟨_,e⟩:=guardB_eq e
   cases hx with
   | cons h1 h2 =>
    refine wpAny_assignInOrder_more (wpAny_assign_Name (store_snd hr (hb 0 i nm rfl rfl) h1 fun s1 hr1 x1=>?_))
    have h2':=hr.st.monos x1 hr.f.dict h2
    rw [aN] at h2'
    refine in_order is nms _ vs _ ρ' s1 (by simpa using hl) (fun j i' q a b=>hb (j+1) i' q (by simpa using a) (by simpa using b)) e hr1 h2' fun s2 hr2 x2=>k s2 hr2 ?_
    have x2':Ext (own env) (ads++[]) s1 s2 []:=by rw [aN];exact x2
    exact x1.tr x2'
 | [],_::_,_,_,_,_,_,hl,_,_,_,_,_,_=>by cases hl
 | _::_,[],_,_,_,_,_,hl,_,_,_,_,_,_=>by cases hl
theorem setLocs_length:∀ {is:List Nat} {vs:List V} {ρ ρ':Rho},setLocs ρ is vs=some ρ'→is.length=vs.length
 | [],[],_,_,_=>rfl
 | i::is,v::vs,_,_,e=>by obtain⟨_,e⟩:=guardB_eq e;exact congrArg (·+1) (setLocs_length e)
 | [],_::_,_,_,e=>by cases e
 | _::_,[],_,_,e=>by cases e
theorem assign_tuple {is:List Nat} {es:List Expr} {k:Nat} {vs:List V} {xv:Value} {Q:Unit→Shared→Prop} (hl:locsIs names sc is es=true) (e:setLocs ρ is vs=some ρ') (hr:HereS W n names sc ρ A env ads H s) (hx:VR ads s.heap (.tup vs) xv)
  (h:∀ s1,HereS W n names sc ρ' A env ads H s1→Ext (own env) ads s s1 []→Q () s1):wpAny W.M A (assign (.Tuple es k pos) env xv) Q no' s:=by
 obtain⟨nms,rfl,hlen,hall⟩:=assignEach_names hl
 have hlv:=setLocs_length e
 cases hx with
 | @tup t o xs m _ ho hc hd hrs =>
  have hlx:=hrs.length
  refine wpAny_assign_Tuple hr.a.hh (items:=xs) ⟨o,ho,hc,m,hd⟩ ?_ ?_ fun h' hx'=>?_
  ·rw [each_names];simp at hlx ⊢;omega
  ·rw [each_names];simp [List.findIdx?_eq_none_iff]
  ·rw [each_names,mQ]
   have k:∀ b o,s.heap.get? b=some o→h'.get? b=some o:=fun b o e=>hx' b o (Nat.ne_of_lt (Heap.lt_size e)) e
   have x1:Ext none' ads s {s with heap:=h'} []:=Ext.of_kept k rfl rfl
   have S1:St W ads H {s with heap:=h'}:=hr.st.extend x1 .none (fun b o _ q=>k b o q) fun _ f=>f.elim
   have hrs':=hr.st.monos x1 .none hrs
   rw [aN] at hrs'
   refine in_order is nms ρ vs _ ρ' _ hlen hall e (hr.upd S1 x1) hrs' fun s2 hr2 x2=>h s2 hr2 ?_
   have x2':Ext (own env) (ads++[]) {s with heap:=h'} s2 []:=by rw [aN];exact x2
   exact x1.own.tr x2'
theorem tsnd_locs {is:List Nat} {es:List Expr} {k:Nat} (hl:locsIs names sc is es=true):TSnd W gt n C names sc (.locs is) (.Tuple es k pos):=by
 intro ρ H v ρ' H' he A env ads s xv hr hx
 obtain⟨vs,rfl,he⟩:=asTup_eq he
 obtain⟨ρ1,e,he⟩:=asSome_eq he
 cases he
 exact assign_tuple hl e hr hx fun s1 hr1 x1=>.of0 hr1 x1
theorem tsnd_attr (O:W.Ok tb gt mg mb) {c i:Nat} {nm:Str} (hn:(tb.attrs.getD c [])[i]?=some nm) (hp:ESnd W gt n C names sc p l):TSnd W gt n C names sc (.attr p c i) (.Attribute l nm pos):=by
 intro ρ H v ρ' H' he A env ads s xv hr hx
 obtain⟨y,H1,e1,he⟩:=bnd_eq he
 obtain⟨o,rfl,he⟩:=asObj_eq he
 obtain⟨H2,e2,he⟩:=asSome_eq he
 cases he
 rw [←O.attrs] at hn
 rw [arm_assign_Attribute]
 refine wpAny_bind (wpAny_holding (hp.goS e1 hr fun yv s1 a_1 h_1 r_1 x1=>wpAny_bind (wpAny_standAt (wpAny_bind (wpAny_holding ?_)))))
 cases r_1 with
 | obj hi =>
  have hx_1:=hr.st.mono x1 .none hx
  refine attr_snd O h_1.st e2 hi hn hx_1 fun s2 S2 x2=>wpAny_release ?_
  have x2':Ext (own env) (ads++a_1) s1 s2 []:=x2.own
  exact⟨a_1++[],by rw [aN];exact h_1.upd S2 x2,x1.own.tr x2'⟩
theorem tsnd_idx {i:Expr} (hp:ESnd W gt n C names sc p l) (hq:ESnd W gt n C names sc q i):TSnd W gt n C names sc (.idx p q) (.Subscript l i pos):=by
 intro ρ H v ρ' H' he A env ads s xv hr hx
 obtain⟨y,H1,e1,he⟩:=bnd_eq he
 obtain⟨o,rfl,he⟩:=asObj_eq he
 obtain⟨k,H2,e2,he⟩:=bnd_eq he
 obtain⟨H3,e3,he⟩:=asSome_eq he
 cases he
 rw [arm_assign_Subscript]
 refine wpAny_bind (wpAny_holding (hp.goS e1 hr fun yv s1 a_1 h_1 r_1 x1=>wpAny_bind (wpAny_holding (hq.goS e2 h_1 fun kv s2 a_2 h_2 r_2 x2=>wpAny_bind (wpAny_standAt (wpAny_bind (wpAny_holding ?_)))))))
 cases r_1 with
 | obj hi =>
  have hx2:=h_1.st.mono x2 .none (hr.st.mono x1 .none hx)
  refine item_snd hr.a h_2.st e3 (ads_more hi) r_2 hx2 fun s3 S3 x3=>wpAny_release ?_
  have x3':Ext (own env) (ads++a_1++a_2) s2 s3 []:=x3.own
  have x2':Ext (own env) (ads++a_1) s1 s2 a_2:=x2.own
  exact⟨a_1++(a_2++[]),by rw [aN,←aA];exact h_2.upd S3 x3,x1.own.tr (x2'.tr x3')⟩
theorem tsnd_wk (O:W.Ok tb gt mg mb) (hwl:tb.wks.length≤100) {k kk:Nat} {nm:Str} {cp:Pos} (hn:tb.wks[k]?=some nm) (hp:ESnd W gt n C names sc p l):TSnd W gt n C names sc (.wk p k) (.Subscript l (.Constant (.str nm) kk cp) pos):=by
 intro ρ H v ρ' H' he A env ads s xv hr hx
 obtain⟨y,H1,e1,he⟩:=bnd_eq he
 obtain⟨o,rfl,he⟩:=asObj_eq he
 obtain⟨H3,e3,he⟩:=asSome_eq he
 cases he
 rw [arm_assign_Subscript]
 refine wpAny_bind (wpAny_holding (hp.goS e1 hr fun yv s1 a_1 h_1 r_1 x1=>wpAny_bind (wpAny_holding (wpAny_Constant_str (wpAny_bind (wpAny_standAt (wpAny_bind (wpAny_holding ?_))))))))
 cases r_1 with
 | obj hi =>
  have xt:Ext none' (ads++a_1) s1 {s1 with toks:=s1.toks+1} []:=.toks _
  have h1':HereS W n names sc ρ A env (ads++a_1) H1 {s1 with toks:=s1.toks+1}:=h_1.upd (h_1.st.extend xt .none (fun _ _ _ q=>q) fun _ f=>f.elim) xt
  have hx_1:=hr.st.mono x1 .none hx
  refine wk_snd (by rw [O.wks];exact O.wnd) (by rw [O.wks];exact hwl) h1'.st e3 hi (by rw [O.wks];exact hn) hx_1 fun s3 S3 x3=>wpAny_release ?_
  have x3':Ext (own env) (ads++a_1) {s1 with toks:=s1.toks+1} s3 []:=x3.own
  have xt':Ext (own env) (ads++a_1) s1 {s1 with toks:=s1.toks+1} []:=xt.own
  have xx:Ext (own env) (ads++a_1) s1 s3 []:=Ext.tr (a:=[]) (b:=[]) xt' (by rw [aN];exact x3')
  exact⟨a_1++[],by rw [aN];exact h1'.upd S3 x3,x1.own.tr xx⟩
end
def TrSnd (W:Setup) (gt:List V) (n:Nat) (C:CallF) (names:List Str) (sc:Scope) (p:E) (l:Expr):Prop :=
 ∀ ρ H b H',evalE gt C ρ p H=some (.bool b,H')→∀ A env ads s,Here W n names sc ρ A env ads H s→∀ Q:Bool→Shared→Prop,(∀ s1 a_1,Here W n names sc ρ A env (ads++a_1) H' s1→Ext none' ads s s1 a_1→Q b s1) →
  wpAny W.M A (isTrue l env (eval l env)) Q no' s
def AllSnd (W:Setup) (gt:List V) (n:Nat) (C:CallF) (names:List Str) (sc:Scope) (op:BoolOp) (p:E) (l:List Expr):Prop :=
 ∀ ρ H b H',evalE gt C ρ p H=some (.bool b,H')→∀ A env ads s,Here W n names sc ρ A env ads H s→∀ Q:Bool→Shared→Prop,(∀ s1 a_1,Here W n names sc ρ A env (ads++a_1) H' s1→Ext none' ads s s1 a_1→Q b s1) →
  wpAny W.M A (allTrue op l env) Q no' s
section
variable {W:Setup} {tb:Tab} {gt:List V} {mg mb:Str→Option Value} {n:Nat} {C:CallF} {names:List Str} {sc:Scope} {A:Around} {env:Env} {ads a b:Ads} {H H1 H2 H':Hp} {s s' s1 s2:Shared} {ρ ρ1 ρ2 ρ':Rho} {v x:V} {p q r:E} {l e e_2:Expr} {pos apos:Pos}
theorem Here.trans1 {a_1 a_2:Ads} (h:Here W n names sc ρ A env (ads++a_1++a_2) H s):Here W n names sc ρ A env (ads++(a_1++a_2)) H s:=by rw [←aA];exact h
theorem Here.nil (h:Here W n names sc ρ A env ads H s):Here W n names sc ρ A env (ads++[]) H s:=by rw [aN];exact h
theorem tr_value (he:∀ env whole,isTrue l env whole=(do let v ←whole;standAt l.pos;holding [v] (truthy v))) (hp:ESnd W gt n C names sc p l):TrSnd W gt n C names sc p l:=by
 intro ρ H b H' ev A env ads s hr Q k
 refine wpAny_isTrue_value (hp.go ev hr fun xv s1 a_1 h_1 r_1 x1=>?_) (he _ _)
 cases r_1
 exact truthy_bool (k s1 a_1 h_1 x1)
theorem tr_not (hp:TrSnd W gt n C names sc p l):TrSnd W gt n C names sc (.not p) (.UnaryOp .Not l pos):=by
 intro ρ H b H' he A env ads s hr Q k
 obtain⟨x,H1,e1,he⟩:=bnd_eq he
 obtain⟨i,rfl,he⟩:=asBool_eq he
 cases he
 exact wpAny_isTrue_Not (hp _ _ _ _ e1 A env ads s hr _ fun s1 a_1 h_1 x1=>k s1 a_1 h_1 x1)
theorem all_one_and (hp:TrSnd W gt n C names sc p l):AllSnd W gt n C names sc .And p [l]:=by
 intro ρ H b H' he A env ads s hr Q k
 refine wpAny_allTrue_And_cons (hp _ _ _ _ he A env ads s hr _ fun s1 a_1 h_1 x1=>?_)
 cases b
 ·exact k _ _ h_1 x1
 ·exact wpAny_allTrue_And_nil (k _ _ h_1 x1)
theorem all_one_or (hp:TrSnd W gt n C names sc p l):AllSnd W gt n C names sc .Or p [l]:=by
 intro ρ H b H' he A env ads s hr Q k
 refine wpAny_allTrue_Or_cons (hp _ _ _ _ he A env ads s hr _ fun s1 a_1 h_1 x1=>?_)
 cases b
 ·exact wpAny_allTrue_Or_nil (k _ _ h_1 x1)
 ·exact k _ _ h_1 x1
theorem all_and {rest:List Expr} (hp:TrSnd W gt n C names sc p l) (hq:AllSnd W gt n C names sc .And q rest):AllSnd W gt n C names sc .And (.and p q) (l::rest):=by
 intro ρ H b H' he A env ads s hr Q k
 obtain⟨x,H1,e1,he⟩:=and_parts he
 refine wpAny_allTrue_And_cons (hp _ _ _ _ e1 A env ads s hr _ fun s1 a_1 h_1 x1=>?_)
 rcases he with ⟨rfl,d,e2,hd⟩|⟨rfl,hd,rfl⟩
 ·cases hd
  exact hq _ _ _ _ e2 A env _ s1 h_1 _ fun s2 a_2 h_2 x2=>k s2 _ h_2.trans1 (x1.tr x2)
 ·cases hd
  exact k _ _ h_1 x1
theorem all_or {rest:List Expr} (hp:TrSnd W gt n C names sc p l) (hq:AllSnd W gt n C names sc .Or q rest):AllSnd W gt n C names sc .Or (.or p q) (l::rest):=by
 intro ρ H b H' he A env ads s hr Q k
 obtain⟨x,H1,e1,he⟩:=or_parts he
 refine wpAny_allTrue_Or_cons (hp _ _ _ _ e1 A env ads s hr _ fun s1 a_1 h_1 x1=>?_)
 rcases he with ⟨rfl,d,e2,hd⟩|⟨rfl,hd,rfl⟩
 ·cases hd
  exact hq _ _ _ _ e2 A env _ s1 h_1 _ fun s2 a_2 h_2 x2=>k s2 _ h_2.trans1 (x1.tr x2)
 ·cases hd
  exact k _ _ h_1 x1
theorem tr_bool {op:BoolOp} {l:List Expr} (hp:AllSnd W gt n C names sc op p l):TrSnd W gt n C names sc p (.BoolOp op l pos):=by
 intro ρ H b H' he A env ads s hr Q k
 exact wpAny_isTrue_BoolOp (hp _ _ _ _ he A env ads s hr Q k)
theorem Here.toks (h:Here W n names sc ρ A env ads H s) (t:Nat):Here W n names sc ρ A env ads H {s with toks:=t}∧Ext none' ads s {s with toks:=t} []:=by
 have x:Ext none' ads s {s with toks:=t} []:=.toks t
 refine⟨?_,x⟩
 have:=h.ext (a:=[]) (by rw [aN];exact h.st.extend x .none (fun _ _ _ q=>q) fun _ f=>f.elim) x
 rwa [aN] at this
theorem tr_cmp (L:W.Low) {op:Cop} {o:CmpOp} {r:Expr} (ho:copIs op o=true) (hn:noneArg op q=true) (hs:notSet r=true) (hp:ESnd W gt n C names sc p l) (hq:ESnd W gt n C names sc q r):TrSnd W gt n C names sc (.cmp op p q) (.Compare l [o] [r] pos):=by
 intro ρ H v H' he A env ads s hr Q k
 obtain⟨x,H1,e1,he⟩:=bnd_eq he
 obtain⟨y,H2,e2,he⟩:=bnd_eq he
 obtain⟨z,e3,he⟩:=asSome_eq he
 cases he
 refine wpAny_isTrue_Compare1 (hp.go e1 hr fun xv s1 a_1 h_1 r_1 x1=>hq.go e2 h_1 fun yv s2 a_2 h_2 r_2 x2=>?_) (behind_of hs)
 have r1':=h_1.st.mono x2 .none r_1
 refine cmp_snd L ho ?_ hr.a h_2.st e3 r1' r_2 fun c tk hc=>by
  subst hc
  have z:=h_2.toks tk
  have x3:Ext none' (ads++a_1) s1 {s2 with toks:=tk} a_2:=by have:=x2.tr z.2;rwa [aN] at this
  exact truthy_bool (k _ (a_1++a_2) z.1.trans1 (x1.tr x3))
 intro hop
 have:q=.lit .none:=by rcases hop with h|h<;>(rw [h] at hn;exact litNone_eq hn)
 subst this
 cases e2
 cases r_2;rfl
theorem TrSnd.goS (hp:TrSnd W gt n C names sc p l) {b:Bool} (e1:evalE gt C ρ p H=some (.bool b,H1)) (hr:HereS W n names sc ρ A env ads H s) {Q:Bool→Shared→Prop}
  (k:∀ s1 a_1,HereS W n names sc ρ A env (ads++a_1) H1 s1→Ext none' ads s s1 a_1→Q b s1):wpAny W.M A (isTrue l env (eval l env)) Q no' s :=
 hp _ _ _ _ e1 A env ads s hr.here _ fun s1 a_1 h_1 x1=>k s1 a_1 (hr.ext h_1.st x1) x1
theorem PS.of (hr:HereS W n names sc ρ A env ads H s) (x:Ext (own env) ads s1 s []):PS W names env ads s1 (none,ρ) H .next s :=
 ⟨[],by rw [aN];exact hr.st,x,by rw [aN];exact hr.f,trivial⟩
theorem PS.of1 (hr:HereS W n names sc ρ A env (ads++a) H s) (x:Ext (own env) ads s1 s a):PS W names env ads s1 (none,ρ) H .next s:=⟨a,hr.st,x,hr.f,trivial⟩
theorem each_one {te:Expr} (h:notStar te=true):(assignEach [te] env).map (·.2)=[assign te env]:=by cases te<;>first|rfl|cases h
theorem ssnd_assign {t:T} {te:Expr} (hst:notStar te=true) (hs:∀ env,swapsWithSole [te] l pos.line env=pure false) (hw:∀ env,swappedStores [te] l env=pure none) (ht:TSnd W gt n C names sc t te) (hp:ESnd W gt n C names sc p l) :
  SSnd W gt n C names sc (.assign t p) (.Assign [te] l pos):=by
 intro ρ H r H' he A env ads s hr
 obtain⟨v,H1,e1,he⟩:=bnd_eq he
 obtain⟨ρ1,H2,e2,he⟩:=bnd_eq he
 cases he
 refine wpAny_Assign_stores (hp.goS e1 hr fun xv s1 a_1 h_1 r_1 x1=>?_) (hs env) (hw env)
 rw [each_one hst]
 refine wpAny_mono (ht _ _ _ _ _ e2 A env _ s1 xv h_1 r_1) (fun _ s2 h_2=>?_) fun _ _ f=>f.elim
 obtain⟨a_2,h_2,x2⟩:=h_2
 exact PS.after x1.own (PS.of1 h_2 x2)
theorem ssnd_expr (hs:∀ env,swapsWith l none pos.line env=pure false) (hi:∀ env,EnvOK env→interactive env=false) (hp:ESnd W gt n C names sc p l):SSnd W gt n C names sc (.expr p) (.Expr l pos):=by
 intro ρ H r H' he A env ads s hr
 obtain⟨v,H1,e1,he⟩:=bnd_eq he
 cases he
 exact wpAny_Expr_any (hp.goS e1 hr fun xv s1 a_1 h_1 r_1 x1=>PS.after x1.own h_1.ps) (hi _ hr.e) (hs env)
theorem ssnd_ret (hp:ESnd W gt n C names sc p l):SSnd W gt n C names sc (.ret p) (.Return (some l) pos):=by
 intro ρ H r H' he A env ads s hr
 obtain⟨v,H1,e1,he⟩:=bnd_eq he
 cases he
 exact wpAny_Return_some (hp.goS e1 hr fun xv s1 a_1 h_1 r_1 x1=>PS.after x1.own (h_1.psr r_1))
theorem ssnd_ret_none (hp:litNone p=true):SSnd W gt n C names sc (.ret p) (.Return none pos):=by
 intro ρ H r H' he A env ads s hr
 have:=litNone_eq hp;subst this
 cases he
 exact wpAny_Return_none (hr.psr .none)
theorem ssnd_pass:SSnd W gt n C names sc .pass (.Pass pos):=by
 intro ρ H r H' he A env ads s hr
 cases he
 exact wpAny_Pass hr.ps
theorem ssnd_if {x y:List S} {xs ys:List Stmt} (hp:TrSnd W gt n C names sc p l) (hx:SsSnd W gt n C names sc x xs) (hy:SsSnd W gt n C names sc y ys):SSnd W gt n C names sc (.ite p x y) (.If l xs ys pos):=by
 intro ρ H r H' he A env ads s hr
 obtain⟨v,H1,e1,he⟩:=bnd_eq he
 obtain⟨b,rfl,he⟩:=asBool_eq he
 refine wpAny_If (hp.goS e1 hr fun s1 a_1 h_1 x1=>?_)
 cases b with
 | true=>exact wpAny_mono (hx _ _ _ _ he A env _ s1 h_1) (fun _ _ h_2=>PS.after x1.own h_2) fun _ _ f=>f.elim
 | false=>exact wpAny_mono (hy _ _ _ _ he A env _ s1 h_1) (fun _ _ h_2=>PS.after x1.own h_2) fun _ _ f=>f.elim
theorem goes_eq {α:Type} {x:Option ((Option V×α)×Hp)} {f:α→Hp→Option ((Option V×α)×Hp)} {r:(Option V×α)×Hp} (h:goes x f=some r) :
  ∃ o a H,x=some ((o,a),H)∧((o=none∧f a H=some r)∨∃ v,o=some v∧r=((some v,a),H)):=by
 obtain⟨⟨o,a⟩,H,e,h⟩:=bnd_eq h
 refine⟨o,a,H,e,?_⟩
 cases o with
 | none=>exact .inl ⟨rfl,h⟩
 | some v=>cases h;exact .inr ⟨v,rfl,rfl⟩
theorem sssnd_nil:SsSnd W gt n C names sc [] []:=by
 intro ρ H r H' he A env ads s hr
 cases he
 exact wpAny_execs_nil hr.ps
theorem sssnd_cons {x:S} {xs:List S} {y:Stmt} {ys:List Stmt} (h1:SSnd W gt n C names sc x y) (h2:SsSnd W gt n C names sc xs ys):SsSnd W gt n C names sc (x::xs) (y::ys):=by
 intro ρ H r H' he A env ads s hr
 obtain⟨o,ρ1,H1,e1,he⟩:=goes_eq he
 refine wpAny_execs_cons (wpAny_mono (h1 _ _ _ _ e1 A env ads s hr) (fun f s1 hf=>?_) fun _ _ f=>f.elim)
 obtain⟨a_1,S1,x1,f_1,fl⟩:=hf
 rcases he with ⟨rfl,he⟩|⟨v,rfl,he⟩
 ·cases f<;>simp only [flowIs] at fl
  exact wpAny_mono (h2 _ _ _ _ he A env _ s1 (hr.step S1 f_1)) (fun _ _ h_2=>PS.after x1 h_2) fun _ _ f=>f.elim
 ·cases he
  cases f<;>simp only [flowIs] at fl
  exact⟨a_1,S1,x1,f_1,fl⟩
theorem aug_snd {op:Bop} {o:Operator} {i j k:Int} {t u:Tok} {Q:Value→Shared→Prop} (ho:bopIs op o=true) (hi:augOp op i j=some k) (h:∀ t tk,Q (.int k t) {s with toks:=tk}) :
  wpAny W.M A (inplaceOp o (.int i t) (.int j u)) Q no' s:=by
 cases op<;>cases o<;>simp only [bopIs,Bool.false_eq_true] at ho<;>simp only [augOp,reduceCtorEq] at hi
 ·cases hi;exact PyProof.Rows.iadd_int (h _ _)
 ·cases hi;exact PyProof.Rows.isub_int (h _ _)
theorem HereS.toks (h:HereS W n names sc ρ A env ads H s) (t:Nat):HereS W n names sc ρ A env ads H {s with toks:=t}∧Ext none' ads s {s with toks:=t} []:=by
 have x:Ext none' ads s {s with toks:=t} []:=.toks t
 exact⟨h.upd (h.st.extend x .none (fun _ _ _ q=>q) fun _ f=>f.elim) x,x⟩
theorem ssnd_aug_loc {i:Nat} {nm:Str} {op:Bop} {o:Operator} {np:Pos} (hb:bindsAs names sc i nm=true) (hpl:plainName nm=true) (ho:bopIs op o=true) (hp:ESnd W gt n C names sc p l):SSnd W gt n C names sc (.aug (.loc i) op p) (.AugAssign (.Name nm np) o l pos):=by
 intro ρ H r H' he A env ads s hr
 obtain⟨v,e1,he⟩:=asSome_eq he
 obtain⟨w,H1,e2,he⟩:=bnd_eq he
 obtain⟨xi,hz0,he2⟩:=asInt_eq he
 obtain⟨yi,hw0,he3⟩:=asInt_eq he2
 obtain⟨k,e3,he4⟩:=asSome_eq he3
 subst hz0;subst hw0
 cases he4
 obtain⟨y,xw,hy,hw,hl⟩:=hr.here.r i _ e1
 rw [(bindsAs_of hb).1] at hy;cases hy
 refine wpAny_AugAssign_Name (load_to hr.e hl hpl (hp.goS e2 hr fun yv s1 a_1 h_1 r_1 x1=>?_))
 cases r_1
 cases hw
 refine aug_snd ho e3 fun t tk=>?_
 have z:=h_1.toks tk
 refine store_snd z.1 hb (.int _ _) fun s2 h_2 x2=>?_
 exact PS.after x1.own (PS.of h_2 (Ext.tr (a:=[]) (b:=[]) z.2.own (by rw [aN];exact x2)))
theorem ssnd_aug_attr (O:W.Ok tb gt mg mb) {c i:Nat} {nm:Str} {op:Bop} {o:Operator} {np:Pos} (hn:(tb.attrs.getD c [])[i]?=some nm) (ho:bopIs op o=true) (hp:ESnd W gt n C names sc p l) (hq:ESnd W gt n C names sc q e) :
  SSnd W gt n C names sc (.aug (.attr p c i) op q) (.AugAssign (.Attribute l nm np) o e pos):=by
 intro ρ H r H' he A env ads s hr
 obtain⟨x,H1,e1,he⟩:=bnd_eq he
 obtain⟨ob,rfl,he⟩:=asObj_eq he
 obtain⟨fs,hl,he⟩:=asInst_eq he
 obtain⟨z,e3,he⟩:=asSome_eq he
 obtain⟨w,H2,e2,he⟩:=bnd_eq he
 obtain⟨xi,hz0,he2⟩:=asInt_eq he
 obtain⟨yi,hw0,he3⟩:=asInt_eq he2
 obtain⟨k,e4,he4⟩:=asSome_eq he3
 obtain⟨H3,e5,he5⟩:=asSome_eq he4
 subst hz0;subst hw0
 cases he5
 rw [←O.attrs] at hn
 refine wpAny_AugAssign_AttributeAny (hp.goS e1 hr fun xv s1 a_1 h_1 r_1 x1=>?_)
 cases r_1 with
 | obj hi =>
  cases h_1.st.obj _ _ _ hl hi with
  | inst ha hd hm hv hlen hne =>
   obtain⟨zv,hz,hzr⟩:=hv.get e3
   have hc:c<tb.cnames.length:=O.clen c fun q=>by rw [q] at hn;cases hn
   refine get_attr (h_1.st.inK O) (O.cok c hc) ha hd.ns (mG hn) (by rw [hm];exact lookup_zip (O.and_ c) hn hz) (handed hzr) ?_
   have zt:=h_1.toks (s1.toks+1)
   refine hq.goS e2 zt.1 fun yv s2 a_2 h_2 r_2 x2=>?_
   cases r_2
   cases hzr
   refine aug_snd ho e4 fun t tk=>?_
   have z_2:=h_2.toks tk
   refine attr_snd O z_2.1.st e5 (ads_more hi) hn (.int _ _) fun s3 S3 x3=>?_
   have y_1:Ext (own env) (ads++_) s1 _ []:=zt.2.own
   refine PS.after x1.own (PS.after y_1 ?_)
   rw [aN]
   refine PS.after x2.own (PS.after (a:=[]) z_2.2.own ?_)
   rw [aN]
   exact PS.of (z_2.1.upd S3 x3) x3.own
end
section
variable {W:Setup} {tb:Tab} {gt:List V} {mg mb:Str→Option Value} {n:Nat} {C:CallF} {names:List Str} {sc:Scope} {A:Around} {env:Env} {ads a b:Ads} {H H1 H2 H':Hp} {s s' s1 s2:Shared} {ρ ρ1 ρ2 ρ':Rho} {v x:V} {p q r:E} {l e e_2:Expr} {pos apos:Pos} {I:Addr}
theorem St.but (S:St W ads H s) (k:∀ b o,b≠I→s.heap.get? b=some o→s'.heap.get? b=some o) (hf:¬ foot ads I) (hg:W.g.get? I=none) (hI:∀ o,s.heap.get? I=some o→∀ vs n,o.data≠.seq vs n) :
  St W ads H s'∧(∀ v x,VR ads s.heap v x→VR ads s'.heap v x)∧∀ v x,VRs ads s.heap v x→VRs ads s'.heap v x:=by
 have k':∀ b o,s.heap.get? b=some o→(∃ vs n,o.data=.seq vs n)→¬ foot ads b→s'.heap.get? b=some o:=fun b o e ⟨vs,n,hd⟩ _=>k b o (fun q=>by rw [q] at e;exact hI o e vs n hd) e
 have m1:∀ v x,VR ads s.heap v x→VR ads s'.heap v x:=fun v x h=>by
  have:=h.mono (a:=[]) S.fk k' fun _ f=>(foot_nil f).elim
  rwa [aN] at this
 have m2:∀ v x,VRs ads s.heap v x→VRs ads s'.heap v x:=fun v x h=>by
  have:=h.mono (a:=[]) S.fk k' fun _ f=>(foot_nil f).elim
  rwa [aN] at this
 refine⟨⟨S.len,S.sep,fun i o p e hp=>?_,fun b o e=>k b o (fun q=>by rw [q,hg] at e;cases e) (S.base b o e),S.off⟩,m1,m2⟩
 have f:=foot_of hp
 exact (S.obj i o p e hp).at (fun ob=>k _ ob fun q=>hf (q▸f.1)) (fun ob=>k _ ob fun q=>hf (q▸f.2)) m2
theorem HereS.but (hr:HereS W n names sc ρ A env ads H s) {o:Obj} {vs:Array Value} (ho:s.heap.get? I=some o) (hd:o.data=.fields vs) (k:∀ b o,b≠I→s.heap.get? b=some o→s'.heap.get? b=some o) (hf:¬ foot ads I) (hg:W.g.get? I=none) :
  HereS W n names sc ρ A env ads H s'∧∀ v x,VR ads s.heap v x→VR ads s'.heap v x:=by
 obtain⟨S',m1,m2⟩:=hr.st.but k hf hg fun o' e vs' n' q=>by rw [ho] at e;cases e;rw [hd] at q;cases q
 refine⟨⟨hr.a,hr.e,hr.sc,?_,S',hr.low,hr.nd⟩,m1⟩
 obtain⟨m,⟨oL,es,ep,hoL,hdL,r⟩,hfL,hm⟩:=hr.f
 refine⟨m,⟨oL,es,ep,k _ _ (fun q=>by rw [q,ho] at hoL;cases hoL;rw [hd] at hdL;cases hdL) hoL,hdL,r⟩,hfL,fun i v hv=>?_⟩
 obtain⟨y,w,hy,hw,hh⟩:=hm i v hv
 refine⟨y,w,hy,m1 _ _ hw,?_⟩
 rcases hh with hh|⟨hk,c,hc,⟨oc,hoc,rc⟩,hcf⟩
 ·exact .inl hh
 ·exact .inr ⟨hk,c,hc,⟨oc,k _ _ (fun q=>by rw [q,ho] at hoc;cases hoc;rw [hd] at rc;cases rc) hoc,rc⟩,hcf⟩
theorem Ext.behind {X:Addr→Prop} (x:Ext X ads s s1 a) (hI:s.heap.get? I=none) (k:∀ b o,b≠I→s1.heap.get? b=some o→s2.heap.get? b=some o) (hg:s2.gens=s1.gens) (ho:s2.os=s1.os):Ext X ads s s2 a:=by
 have ne:∀ b o,s.heap.get? b=some o→b≠I:=fun b o e q=>by rw [q,hI] at e;cases e
 exact⟨fun b o e f nx=>k b o (ne b o e) (x.keep b o e f nx),fun b o e=>by obtain⟨o',h⟩:=x.stay b o e;exact⟨o',k b o' (ne b o e) h⟩,x.new,hg.trans x.gens,ho.trans x.os⟩
theorem let_iter {M:Model} {target:Expr} {o:Obj} {cn:String} {v:Value} {Q:Unit→Shared→Prop} {E:Value→Shared→Prop} (ho:s.heap.get? I=some o) (hc:o.cls=.type cn)
  (hn:["enumerate","zip","dict_itemiterator","dict_reverseitemiterator","odict_iterator","itertools.zip_longest","itertools.pairwise"].contains cn=false) (h:Q () s):wpAny M A (letOwnedTupleGo target (.ref I) v) Q E s:=by
 have body:wpAny M A (do
   let (.ref r,.ref a):=(Value.ref I,v)|return
   let o ←load r
   match o.cls,o.data with
   | .type n,.fields vs =>
    if ["enumerate","zip","dict_itemiterator","dict_reverseitemiterator","odict_iterator","itertools.zip_longest","itertools.pairwise"].contains n&&vs[0]?==some (rawInt a) then
     rule "for.unpacks-the-owned-tuple"
     updateField r 0 .none
   | _,_=>pure ()) Q E s:=by
  cases v with
  | ref a =>
   refine wpAny_bind (wpAny_load ho ?_)
   rw [hc]
   cases o.data with
   | fields vs =>
    dsimp only
    rw [hn,Bool.false_and]
    exact wpAny_pure h
   | _=>exact wpAny_pure h
  | _=>exact wpAny_pure h
 cases target<;>first|exact body|exact wpAny_pure h
theorem turn_snd {t:List Nat} {te:Expr} {bs:List S} {xs:List Stmt} {o:Option V} {xv:Value} (ht:forTarget names sc t te=true) (hb:SsSnd W gt n C names sc bs xs) (e1:setTarget ρ t v=some ρ1) (e2:Mine.execs gt C ρ1 bs H=some ((o,ρ2),H2))
  (hr:HereS W n names sc ρ A env ads H s) (hx:VR ads s.heap v xv) {E:Value→Shared→Prop} {Q:Flow→Shared→Prop} (h:∀ f s',PS W names env ads s (o,ρ2) H2 f s'→Q f s') :
  wpAny W.M A (assign te env xv) (fun _ s2=>wpAny W.M A (PySem.execs xs env) Q E s2) E s:=by
 have fin:∀ s1,HereS W n names sc ρ1 A env ads H s1→Ext (own env) ads s s1 []→wpAny W.M A (PySem.execs xs env) Q E s1:=fun s1 hr1 x1 =>
  wpAny_mono (hb _ _ _ _ e2 A env ads s1 hr1) (fun f s2 h_2=>h f s2 (PS.after x1 (by rw [aN];exact h_2))) fun _ _ f=>f.elim
 unfold forTarget at ht
 split at ht
 ·split at ht
  ·obtain⟨_,e1⟩:=guardB_eq e1
   cases e1
   exact wpAny_mono (wpAny_assign_Name (store_snd (Q:=fun _ s1=>wpAny W.M A (PySem.execs xs env) Q E s1) hr ht hx fin)) (fun _ _ q=>q) fun _ _ f=>f.elim
  ·cases ht
 ·simp only [Bool.and_eq_true,decide_eq_true_eq] at ht
  obtain⟨vs,hv0,e1'⟩:∃ vs,v=.tup vs∧setLocs ρ t vs=some ρ1:=by
   unfold setTarget at e1
   split at e1
   ·have:=ht.2;simp at this
   ·exact asTup_eq e1
  subst hv0
  exact wpAny_mono (assign_tuple (Q:=fun _ s1=>wpAny W.M A (PySem.execs xs env) Q E s1) ht.1 e1' hr hx fin) (fun _ _ q=>q) fun _ _ f=>f.elim
 ·cases ht
theorem ssnd_while {xs:List Stmt} {bs:List S} (hp:TrSnd W gt n C names sc p l) (hb:SsSnd W gt n C names sc bs xs):SSnd W gt n C names sc (.while p bs) (.While l xs [] pos):=by
 intro ρ H r H' he A env ads s hr
 have he:whileN (fun ρ H=>evalE gt C ρ p H) (fun ρ H=>Mine.execs gt C ρ bs H) limit ρ H=some (r,H'):=he
 refine wpAny_While ?_
 show codeAny W.M A _ _ _
 refine codeAny_whileLoop (fun k s'=>∃ a ρ H,whileN (fun ρ H=>evalE gt C ρ p H) (fun ρ H=>Mine.execs gt C ρ bs H) k ρ H=some (r,H')∧HereS W n names sc ρ A env (ads++a) H s'∧Ext (own env) ads s s' a) ?_ limit
  ⟨[],ρ,H,he,by rw [aN];exact hr,.refl _ _⟩
 rintro k s' ⟨a,ρ1,H1,e,hr1,x1⟩
 cases k with
 | zero=>cases e
 | succ k =>
  obtain⟨v,H2,e1,e⟩:=bnd_eq e
  obtain⟨b,rfl,e⟩:=asBool_eq e
  refine wpAny_mono (hp.goS e1 hr1 (Q:=fun c s2=>c=b∧∃ a_2,HereS W n names sc ρ1 A env (ads++a++a_2) H2 s2∧Ext none' (ads++a) s' s2 a_2) fun s2 a_2 h_2 x2=>⟨rfl,a_2,h_2,x2⟩) (fun c s2 hc=>?_) fun _ _ f=>f.elim
  obtain⟨rfl,a_2,h_2,x2⟩:=hc
  have x12:Ext (own env) ads s s2 (a++a_2):=x1.tr x2.own
  cases c with
  | true =>
   obtain⟨o,ρ2,H3,e2,e⟩:=goes_eq e
   simp only [if_true]
   refine wpAny_mono (hb _ _ _ _ e2 A env _ s2 h_2) (fun f s3 h_3=>?_) fun _ _ f=>f.elim
   obtain⟨a_3,S3,x3,f_3,fl⟩:=h_3
   rcases e with ⟨rfl,e⟩|⟨v,rfl,e⟩
   ·cases f<;>simp only [flowIs] at fl
    refine⟨k,Nat.lt_succ_self k,a++a_2++a_3,ρ2,H3,e,?_,?_⟩
    ·have:=h_2.step S3 f_3
     simpa [aA] using this
    ·exact x12.tr (by simpa [aA] using x3)
   ·cases e
    cases f<;>simp only [flowIs] at fl
    refine⟨a++a_2++a_3,?_,x12.tr (by simpa [aA] using x3),?_,?_⟩
    ·simpa [aA] using S3
    ·simpa [aA] using f_3
    ·simpa [flowIs,aA] using fl
  | false =>
   cases e
   simp only [Bool.false_eq_true,if_false]
   refine wpAny_execs_nil ⟨a++a_2,?_,x12,?_,trivial⟩
   ·simpa [aA] using h_2.st
   ·simpa [aA] using h_2.f
end
section
variable {W:Setup} {tb:Tab} {gt:List V} {mg mb:Str→Option Value} {n:Nat} {C:CallF} {names:List Str} {sc:Scope} {A:Around} {env:Env} {ads a b:Ads} {H H1 H2 H':Hp} {s s' s1 s2:Shared} {ρ ρ1 ρ2 ρ':Rho} {v x:V} {p q r:E} {l e e_2:Expr} {pos apos:Pos} {I:Addr}
abbrev turnF (gt:List V) (C:CallF) (t:List Nat) (bs:List S):Turn Rho:=fun v ρ H=>asSome (setTarget ρ t v) fun ρ=>Mine.execs gt C ρ bs H
theorem PS.assoc {a_1 a_2:Ads} {r:Option V×Rho} {f:Flow} (p:PS W names env (ads++(a_1++a_2)) s r H f s'):PS W names env (ads++a_1++a_2) s r H f s':=by rw [aA];exact p
theorem not_own (hr:HereS W n names sc ρ A env ads H s) (h:s.heap.get? I=none):¬ own env I:=fun q=>by
 obtain⟨m,⟨o,es,ep,ho,_⟩,_⟩:=hr.f
 rw [show I=env.locals from q,ho] at h;cases h
theorem not_foot_none (S:St W ads H s) (h:s.heap.get? I=none):¬ foot ads I:=fun f=>by
 obtain⟨o,ho,_⟩:=S.foot_obj f
 rw [ho] at h;cases h
theorem base_none (S:St W ads H s) (h:s.heap.get? I=none):W.g.get? I=none:=by
 cases q:W.g.get? I with
 | none=>rfl
 | some o=>rw [S.base _ _ q] at h;cases h
theorem loop_list {t:List Nat} {te:Expr} {bs:List S} {xs:List Stmt} {o:Nat} {pp:Addr×Addr} {r:(Option V×Rho)} (ht:forTarget names sc t te=true) (hb:SsSnd W gt n C names sc bs xs)
  (hi:ads[o]?=some pp) (hI:s.heap.get? I=none) (k:Nat) (e:liveItems (turnF gt C t bs) o k 0 ρ H=some (r,H')) (hr:HereS W n names sc ρ A env ads H s)
  (hr1:HereS W n names sc ρ A env ads H s1) (x1:Ext (own env) ads s s1 []) (hit:s1.heap.IsListIter I pp.1 0) :
  codeAny W.M A (.forLoop te (.ref I) xs [] env) (fun z s'=>match z with|.ok f=>PS W names env ads s r H' f s'|.error e=>cameBackBy W.M A env no' e s') s1:=by
 have hnf:=not_foot_none hr.st hI
 have hno:=not_own hr hI
 have hgI:=base_none hr.st hI
 refine codeAny_forLoop_any (fun k' s'=>∃ k j a ρ H,k'=k+1∧liveItems (turnF gt C t bs) o k j ρ H=some (r,H')∧HereS W n names sc ρ A env (ads++a) H s'∧Ext (own env) ads s s' a∧s'.heap.IsListIter I pp.1 j∧¬ foot (ads++a) I) ?_ (k+1)
  ⟨k,0,[],ρ,H,rfl,e,by rw [aN];exact hr1,x1,hit,by rw [aN];exact hnf⟩
 rintro k' s' ⟨k,j,a,ρ,H,rfl,e,hr',x',⟨oI,hoI,hcI,hdI⟩,hfI⟩
 cases k with
 | zero =>
  obtain⟨ll,hl,e⟩:=asList_eq e
  obtain⟨hj,e⟩:=guardB_eq e
  cases e
  have hj:=beq_iff_eq.mp hj
  cases hr'.st.obj _ _ _ hl (ads_more hi) with
  | @list aL vs m _ ha hv =>
   have hlen:=hv.length
   refine wpAny_pyNext_list_end hr.a.hh ⟨oI,hoI,hcI,hdI⟩ ⟨_,ha,rfl,m,rfl⟩ (by rw [Array.getElem?_eq_none];simp at hlen;omega) fun h' hk=>?_
   obtain⟨h_2,_⟩:=hr'.but (s':={s' with heap:=h'}) hoI hdI (fun b o hb e=>hk b o hb e) hfI hgI
   exact wpAny_execs_nil ⟨a,h_2.st,x'.behind hI (fun b o hb e=>hk b o hb e) rfl rfl,h_2.f,trivial⟩
 | succ k =>
  obtain⟨ll,hl,e⟩:=asList_eq e
  obtain⟨v,hv,e⟩:=asSome_eq e
  obtain⟨ov,ρ2,H2,e1,e⟩:=goes_eq e
  obtain⟨ρ1,e0,e1⟩:=asSome_eq e1
  cases hr'.st.obj _ _ _ hl (ads_more hi) with
  | @list aL vs m _ ha hvs =>
   obtain⟨xv,hxv,hxr⟩:=hvs.get hv
   refine wpAny_pyNext_list_item ⟨oI,hoI,hcI,hdI⟩ ⟨_,ha,rfl,m,rfl⟩ (x:=xv) (by simpa using hxv) fun h' hit' hs'=>?_
   obtain⟨h_2,mv⟩:=hr'.but (s':={s' with heap:=h'}) hoI hdI (fun b o hb e=>(hs'.2 b hb).trans e) hfI hgI
   have x2:Ext (own env) ads s {s' with heap:=h'} a:=x'.behind hI (fun b o hb e=>(hs'.2 b hb).trans e) rfl rfl
   obtain⟨oI',hoI',hcI',hdI'⟩:=hit'
   refine let_iter (s:={s' with heap:=h'}) hoI' hcI' (by decide) ?_
   refine turn_snd ht hb e0 e1 h_2 (mv _ _ hxr) fun f s3 h_3=>?_
   obtain⟨a_3,S3,x3,f_3,fl⟩:=h_3
   have x23:Ext (own env) ads s s3 (a++a_3):=x2.tr x3
   rcases e with ⟨rfl,e⟩|⟨v',rfl,e⟩
   ·cases f<;>simp only [flowIs] at fl
    refine⟨k+1,Nat.lt_succ_self _,k,j+1,a++a_3,ρ2,H2,rfl,e,by rw [←aA];exact h_2.step S3 f_3,x23,?_,?_⟩
    ·exact⟨oI',x3.keep _ _ hoI' hfI hno,hcI',hdI'⟩
    ·rw [←aA];exact not_foot_ext x3 hoI' hfI
   ·cases e
    cases f<;>simp only [flowIs] at fl
    exact⟨a++a_3,by rw [←aA];exact S3,x23,by rw [←aA];exact f_3,by rw [←aA];exact fl⟩
theorem loop_range {t:Nat} {te:Expr} {bs:List S} {xs:List Stmt} {r:(Option V×Rho)} (ht:forTarget names sc [t] te=true) (hb:SsSnd W gt n C names sc bs xs)
  (hI:s.heap.get? I=none) (k:Nat) (e:rangeItems (turnF gt C [t] bs) k 0 ρ H=some (r,H')) (hr:HereS W n names sc ρ A env ads H s)
  (hr1:HereS W n names sc ρ A env ads H s1) (x1:Ext (own env) ads s s1 []) (hit:IsRangeIter s1.heap I 0 k 1) :
  codeAny W.M A (.forLoop te (.ref I) xs [] env) (fun z s'=>match z with|.ok f=>PS W names env ads s r H' f s'|.error e=>cameBackBy W.M A env no' e s') s1:=by
 have hnf:=not_foot_none hr.st hI
 have hno:=not_own hr hI
 have hgI:=base_none hr.st hI
 refine codeAny_forLoop_any (fun k' s'=>∃ (k j:Nat) (a:Ads) (ρ:Rho) (H:Hp),k'=k+1∧rangeItems (turnF gt C [t] bs) k j ρ H=some (r,H')∧HereS W n names sc ρ A env (ads++a) H s'∧Ext (own env) ads s s' a∧IsRangeIter s'.heap I j k 1∧¬ foot (ads++a) I) ?_ (k+1)
  ⟨k,0,[],ρ,H,rfl,e,by rw [aN];exact hr1,x1,hit,by rw [aN];exact hnf⟩
 rintro k' s' ⟨k,j,a,ρ,H,rfl,e,hr',x',hoI,hfI⟩
 cases k with
 | zero =>
  cases e
  refine wpAny_pyNext_range_end hr.a.hh hoI (Int.le_refl _) fun h' hk=>?_
  obtain⟨h_2,_⟩:=hr'.but (s':={s' with heap:=h'}) hoI rfl (fun b o hb e=>hk b o hb e) hfI hgI
  exact wpAny_execs_nil ⟨a,h_2.st,x'.behind hI (fun b o hb e=>hk b o hb e) rfl rfl,h_2.f,trivial⟩
 | succ k =>
  obtain⟨ov,ρ2,H2,e1,e⟩:=goes_eq e
  obtain⟨ρ1,e0,e1⟩:=asSome_eq e1
  refine wpAny_pyNext_range_item hoI (by omega) fun h' hit' hs'=>?_
  obtain⟨h_2,mv⟩:=hr'.but (s':={s' with heap:=h',toks:=s'.toks+1}) hoI rfl (fun b o hb e=>(hs'.2 b hb).trans e) hfI hgI
  have x2:Ext (own env) ads s {s' with heap:=h',toks:=s'.toks+1} a:=x'.behind hI (fun b o hb e=>(hs'.2 b hb).trans e) rfl rfl
  have hj:((j:Int)+1)=((j+1:Nat):Int):=by omega
  have hk:((k+1:Nat):Int)-1=(k:Nat):=by omega
  rw [hj,hk] at hit'
  refine let_iter (s:={s' with heap:=h',toks:=s'.toks+1}) hit' rfl (by decide) ?_
  refine turn_snd ht hb e0 e1 h_2 (.int _ _) fun f s3 h_3=>?_
  obtain⟨a_3,S3,x3,f_3,fl⟩:=h_3
  have x23:Ext (own env) ads s s3 (a++a_3):=x2.tr x3
  rcases e with ⟨rfl,e⟩|⟨v',rfl,e⟩
  ·cases f<;>simp only [flowIs] at fl
   refine⟨k+1,Nat.lt_succ_self _,k,j+1,a++a_3,ρ2,H2,rfl,e,by rw [←aA];exact h_2.step S3 f_3,x23,?_,?_⟩
   ·exact x3.keep _ _ hit' hfI hno
   ·rw [←aA];exact not_foot_ext x3 hit' hfI
  ·cases e
   cases f<;>simp only [flowIs] at fl
   exact⟨a++a_3,by rw [←aA];exact S3,x23,by rw [←aA];exact f_3,by rw [←aA];exact fl⟩
theorem folded_of (h:notSet l=true):∀ x,foldedSetIterable l env x=pure x:=by intro x;cases l<;>first|rfl|cases h
theorem HereS.pushed (hr:HereS W n names sc ρ A env ads H s) (ob:Obj) (t:Nat):HereS W n names sc ρ A env ads H {s with heap:=s.heap.push ob,toks:=t}∧Ext none' ads s {s with heap:=s.heap.push ob,toks:=t} []:=by
 have k:∀ b o,s.heap.get? b=some o→(s.heap.push ob).get? b=some o:=fun b o e=>Heap.get?_push_of_some _ e
 have x:Ext none' ads s {s with heap:=s.heap.push ob,toks:=t} []:=Ext.of_kept k rfl rfl
 exact⟨hr.upd (hr.st.extend x .none (fun b o _ q=>k b o q) fun _ f=>f.elim) x,x⟩
theorem ssnd_for {t:List Nat} {te:Expr} {bs:List S} {xs:List Stmt} (ht:forTarget names sc t te=true) (hns:notSet l=true) (hp:ESnd W gt n C names sc p l) (hb:SsSnd W gt n C names sc bs xs):SSnd W gt n C names sc (.forI t p bs) (.For te l xs [] pos):=by
 intro ρ H r H' he A env ads s hr
 obtain⟨x,H1,e1,he⟩:=bnd_eq he
 refine wpAny_For (hp.goS e1 hr fun xv s1 a_1 h_1 r_1 x1=>?_) (folded_of hns)
 unfold items at he
 split at he
 ·cases he
  cases r_1 with
  | @tup T o vs m _ ho hc hd hr' =>
   obtain⟨L⟩:=vs
   cases hr'
   have hlt:T≠s1.heap.objs.size:=Nat.ne_of_lt (Heap.lt_size ho)
   refine wpAny_pyIter_tuple (items:=⟨[]⟩) ⟨o,ho,hc,m,hd⟩ ?_
   show codeAny W.M A _ _ _
   have z:=h_1.pushed {cls:=.type "tuple_iterator",data:=.fields #[.ref T,.int 0 0]} s1.toks
   have hI:=get_size s1.heap
   refine codeAny_forLoop_any (fun k' s'=>s'={s1 with heap:=s1.heap.push {cls:=.type "tuple_iterator",data:=.fields #[.ref T,.int 0 0]},toks:=s1.toks}) ?_ 0 rfl
   rintro k' s' rfl
   refine wpAny_pyNext_tuple_end hr.a.hh (it:=s1.heap.objs.size) (t:=T) (i:=0) (items:=⟨[]⟩) ⟨_,Heap.get?_push_size _ rfl,rfl,rfl⟩ ⟨o,Heap.get?_push_of_some _ ho,hc,m,hd⟩ rfl fun h' hk=>?_
   have hnf:=not_foot_none h_1.st hI
   obtain⟨h_2,_⟩:=z.1.but (s':={s1 with heap:=h',toks:=s1.toks}) (Heap.get?_push_size _ rfl) rfl (fun b o hb e=>hk b o hb e) hnf (base_none h_1.st hI)
   refine wpAny_execs_nil (PS.after x1.own ⟨[],by rw [aN];exact h_2.st,z.2.own.behind hI (fun b o hb e=>hk b o hb e) rfl rfl,by rw [aN];exact h_2.f,trivial⟩)
 ·rename_i o
  obtain⟨ll,hl,he⟩:=asList_eq he
  cases r_1 with
  | @obj _ pp hi =>
   cases h_1.st.obj _ _ _ hl hi with
   | @list aL vs m _ ha hv =>
    refine wpAny_pyIter_list ⟨_,ha,rfl,m,rfl⟩ ?_
    have z:=h_1.pushed {cls:=.type "list_iterator",data:=.fields #[.ref aL,.int 0 0]} s1.toks
    refine codeAny_mono (loop_list (pp:=(aL,aL)) ht hb hi (get_size s1.heap) ll.length he h_1 z.1 z.2.own ⟨_,Heap.get?_push_size _ rfl,rfl,rfl⟩) fun rr s' hq=>?_
    cases rr with
    | ok f=>exact PS.after x1.own hq
    | error e=>exact hq
 ·cases he
theorem ssnd_range (O:W.Ok tb gt mg mb) {t:Nat} {te:Expr} {bs:List S} {xs:List Stmt} {np cp:Pos} (ht:forTarget names sc [t] te=true) (hg:globalAs sc (sO "range")=true) (hs:notStar l=true) (hp:ESnd W gt n C names sc p l) (hb:SsSnd W gt n C names sc bs xs) :
  SSnd W gt n C names sc (.forR t p bs) (.For te (.Call (.Name (sO "range") np) [l] [] cp) xs [] pos):=by
 intro ρ H r H' he A env ads s hr
 obtain⟨x,H1,e1,he⟩:=bnd_eq he
 obtain⟨i,rfl,he⟩:=asInt_eq he
 obtain⟨hb0,he⟩:=guardB_eq he
 have hb0:=of_decide_eq_true hb0
 refine wpAny_For (name_call1 hr.here O hg (O.blt _ _ (.tail _ (.tail _ (.head _)))) hs ?_) fun _=>rfl
 refine PySem.callWith_type rfl (evalArgs_plain (spliced_cons (hp.goS e1 hr fun xv s1 a_1 h_1 r_1 x1=>spliced_nil ?_)))
 show wpAny _ _ (call (.type "range") [xv]) _ _ _
 cases r_1 with
 | int _ tok0 =>
  refine call_range_1 ?_
  have z:=h_1.pushed {cls:=.type "range",data:=.fields #[.int 0 s1.toks,.int i tok0,.int 1 (s1.toks+1)]} (s1.toks+1+1)
  have hsm:Builtin.Range.small 0 i 1=true:=small_one (by decide) (by decide) (by unfold limit at hb0;omega) (by unfold limit at hb0;omega)
  refine wpAny_pyIter_range (s:={s1 with heap:=s1.heap.push {cls:=.type "range",data:=.fields #[.int 0 s1.toks,.int i tok0,.int 1 (s1.toks+1)]},toks:=s1.toks+1+1}) (IsRange.new _ _ _ _ _ _ _) hsm ?_
  have z_2:=z.1.pushed {cls:=.type "range_iterator",data:=.fields #[rawInt 0,rawInt (Builtin.Range.rangeSize 0 i 1),rawInt 1]} (s1.toks+1+1)
  have hsz:Builtin.Range.rangeSize 0 i 1=(i.toNat:Int):=by rw [rangeSize_one];split<;>omega
  refine codeAny_mono (loop_range ht hb (s:={s1 with heap:=s1.heap.push {cls:=.type "range",data:=.fields #[.int 0 s1.toks,.int i tok0,.int 1 (s1.toks+1)]},toks:=s1.toks+1+1}) (get_size _) i.toNat he z.1 z_2.1 z_2.2.own ?_) fun rr s' hq=>?_
  ·rw [←hsz];exact Heap.get?_push_size _ rfl
  ·cases rr with
   | ok f=>exact PS.after x1.own (PS.after (a:=[]) z.2.own (by rw [aN];exact hq))
   | error e=>exact hq
end
theorem zip_some:∀ {names:List Str} {xs:List Value},xs.length=names.length→∀ n∈names,((names.zip xs).lookup n).isSome=true
 | [],_,_,n,m=>nomatch m
 | k::names,[],h,_,_=>by simp at h
 | k::names,x::xs,h,n,m=>by
  rw [zC,kC]
  cases q:n==k with
  | true=>rfl
  | false =>
   rcases mK.mp m with rfl|m
   ·simp at q
   ·exact zip_some (by simpa using h) n m
theorem zip_filterMap:∀ {names:List Str} {xs:List Value} {f:Str→Option Value},xs.length=names.length→(∀ (i:Nat) nm x,names[i]?=some nm→xs[i]?=some x→f nm=some x)→names.filterMap (fun n=>(f n).map (n,·))=names.zip xs
 | [],xs,f,h,hf=>by simp
 | k::names,[],f,h,hf=>by simp at h
 | k::names,x::xs,f,h,hf=>by
  rw [List.filterMap_cons,hf 0 k x rfl rfl]
  simp only [Option.map_some,zC]
  rw [zip_filterMap (by simpa using h) fun i nm y a b=>hf (i+1) nm y (by simpa using a) (by simpa using b)]
theorem bind_plain {fd:FuncData} {xs:List Value} (h1:fd.params.posonlyargs=[]) (h2:fd.params.kwonlyargs=[]) (h3:fd.params.vararg=none) (h4:fd.params.kwarg=none) (hd:fd.defaults=.none)
  (hl:xs.length=fd.params.args.length) (hn:(fd.params.args.map (·.arg)).Nodup):bindArgs fd ⟨xs,[]⟩=pure ((fd.params.args.map (·.arg)).zip xs):=by
 have hl':xs.length=(fd.params.args.map (·.arg)).length:=by rw [lM];exact hl
 have hall:List.filter (fun n=>(((fd.params.args.map (·.arg)).zip xs).lookup n).isNone) (fd.params.args.map (·.arg))=[]:=by
  rw [List.filter_eq_nil_iff]
  intro n hn
  have:=zip_some hl' n hn
  cases q:((fd.params.args.map (·.arg)).zip xs).lookup n with
  | none=>rw [q] at this;cases this
  | some _=>simp
 have hfm:=zip_filterMap (f:=fun n=>((fd.params.args.map (·.arg)).zip xs).lookup n) hl' fun i nm x a b=>lookup_zip hn a b
 have hs:seqItems? fd.defaults=pure none:=by rw [hd];rfl
 have pb:∀ {α β:Type} (a:α) (f:α→Sem β),(pure a >>= f)=f a:=fun _ _=>rfl
 have hlt:decide (xs.length > (fd.params.args.map (·.arg)).length)=false:=decide_eq_false (by omega)
 unfold bindArgs
 simp only [h1,h2,h3,h4,List.map_nil,nA,aN,List.forIn_nil,hs,pb,hlt,Bool.false_and,Bool.false_eq_true,if_false,Option.getD_none,lN,List.drop_nil,Nat.sub_zero,tL,hall,List.isEmpty_nil,Bool.not_true,
  List.zip_nil_right,hfm]
structure AOKc (n:Nat) (A:Around):Prop where
 hh:A.handled=none
 depth:A.depth+3*n+3<recursionLimit
 units:A.units+10*n+95<cLine
theorem AOK.c {n:Nat} {A:Around} (h:AOK n A):AOKc n A:=⟨h.hh,by have:=h.depth;omega,by have:=h.units;omega⟩
theorem AOKc.deeper {n:Nat} {A:Around} (h:AOKc (n+1) A) (env:Env):AOK n (A.deeper env) :=
 ⟨h.hh,by have:=h.depth;show A.depth+1+3*n+5<_;omega,by have:=h.units;show A.units+3+10*n+100<_;omega⟩
structure FnOk (tb:Tab) (h:Heap) (fd:FuncData) (body:List Stmt) (names:List Str) (md:Fn):Prop where
 h1:fd.params.posonlyargs=[]
 h2:fd.params.kwonlyargs=[]
 h3:fd.params.vararg=none
 h4:fd.params.kwarg=none
 dflt:fd.defaults=.none
 clo:fd.closure=[]
 gl:fd.globals=mainGlobals
 bl:fd.builtins=builtinsNs
 isBody:fd.body=.stmts body
 code:h.CodeRec fd.code fd.qualname
 co:fd.scope.isCoroutine=false
 gen:fd.scope.isGenerator=false
 kind:fd.scope.kind=.function
 nd:names.Nodup
 par:fd.params.args.map (·.arg)=names.take md.np
 np:md.np≤names.length
 kinds:∀ x∈names.take md.np,fd.scope.names.lookup x=some .local∨(fd.scope.names.lookup x=some .cell∧∀ k,((cellsFrom k fd.scope.names []).lookup x).isSome=true)
 bodyOk:matchSs tb names fd.scope md.body body=true
def RetIs (P:Value→Shared→Prop) (r:Result) (s':Shared):Prop:=match r with
 | .ok (.ret x)=>P x s'
 | _=>False
def CSnd (W:Setup) (n:Nat) (C:CallF):Prop :=
 ∀ f vs H v H',C f vs H=some (v,H')→∀ A ads s xs,AOKc n A→St W ads H s→VRs ads s.heap vs xs→codeAny W.M A (.call (.ref (W.fn f)) ⟨xs,[]⟩) (RetIs (PE W ads s v H')) s
section
theorem bindL_get:∀ {names:List Str} {xs:List Value} {ko:Str→Option NameKind} {m:Str→Option Value} {i:Nat} {nm:Str} {x:Value},names.Nodup→names[i]?=some nm→xs[i]?=some x→ko nm=some .local→bindL ko (names.zip xs) m nm=some x
 | [],_,_,_,_,_,_,_,h,_,_=>by simp at h
 | _::_,[],_,_,_,_,_,_,_,h,_=>by simp at h
 | k::names,y::xs,ko,m,i,nm,x,hn,h1,h2,hk=>by
  rw [nC] at hn
  have keep:∀ {names:List Str} {xs:List Value} {m:Str→Option Value},nm∉names→bindL ko (names.zip xs) m nm=m nm:=by
   intro names
   induction names with
   | nil=>intro xs m _;rfl
   | cons a names ih =>
    intro xs m ha
    cases xs with
    | nil=>rfl
    | cons b xs =>
     rw [mK,not_or] at ha
     rw [zC,bindL,ih ha.2]
     split
     ·show (if nm=a then some b else m nm)=m nm;rw [if_neg ha.1]
     ·rfl
  cases i with
  | zero =>
   simp only [gZ,Option.some.injEq] at h1 h2
   subst h1;subst h2
   rw [zC,bindL,keep hn.1,if_pos hk,if_pos rfl]
  | succ i =>
   rw [zC,bindL]
   exact bindL_get hn.2 (by simpa using h1) (by simpa using h2) hk
theorem bindC_get:∀ {names:List Str} {xs:List Value} {ko:Str→Option NameKind} {m:Str→Option Value} {i:Nat} {nm:Str} {x:Value},names.Nodup→names[i]?=some nm→xs[i]?=some x→ko nm≠some .local→bindC ko (names.zip xs) m nm=some x
 | [],_,_,_,_,_,_,_,h,_,_=>by simp at h
 | _::_,[],_,_,_,_,_,_,_,h,_=>by simp at h
 | k::names,y::xs,ko,m,i,nm,x,hn,h1,h2,hk=>by
  rw [nC] at hn
  have keep:∀ {names:List Str} {xs:List Value} {m:Str→Option Value},nm∉names→bindC ko (names.zip xs) m nm=m nm:=by
   intro names
   induction names with
   | nil=>intro xs m _;rfl
   | cons a names ih =>
    intro xs m ha
    cases xs with
    | nil=>rfl
    | cons b xs =>
     rw [mK,not_or] at ha
     rw [zC,bindC,ih ha.2]
     split
     ·rfl
     ·show (if nm=a then some b else m nm)=m nm;rw [if_neg ha.1]
  cases i with
  | zero =>
   simp only [gZ,Option.some.injEq] at h1 h2
   subst h1;subst h2
   rw [zC,bindC,keep hn.1,if_neg hk,if_pos rfl]
  | succ i =>
   rw [zC,bindC]
   exact bindC_get hn.2 (by simpa using h1) (by simpa using h2) hk
end
section
variable {W:Setup} {tb:Tab} {gt:List V} {mg mb:Str→Option Value} {n:Nat} {C:CallF} {names:List Str} {sc:Scope} {A:Around} {env:Env} {ads a b:Ads} {H H1 H2 H':Hp} {s s' s1 s2:Shared} {ρ ρ1 ρ2 ρ':Rho} {v x:V} {p q r:E} {l e e_2:Expr} {pos apos:Pos}
theorem enter {fd:FuncData} {body:List Stmt} {md:Fn} {xs:List Value} {vs:List V} {a:Addr} (F:FnOk tb W.g fd body names md) (S:St W ads H s) (hA:AOKc (n+1) A) (hv:VRs ads s.heap vs xs) (hlen:vs.length=md.np)
  (env:Env) (he:env=callEnvC fd s.heap.objs.size a) (X:InCallC s env.locals (bindL env.kindOf ((names.take md.np).zip xs) fun _=>none) env.cells (bindC env.kindOf ((names.take md.np).zip xs) fun _=>none) s1) :
  HereS W n names fd.scope (vs.map some++List.replicate (md.nl-md.np) none) (A.deeper env) env ads H s1∧Ext none' ads s s1 []:=by
 obtain⟨h',tk,rfl,k⟩:=X.done
 have hL:env.locals=s.heap.objs.size:=by rw [he];rfl
 have hcells:env.cells=cellsFrom (s.heap.objs.size+1) fd.scope.names []:=by rw [he];rfl
 have hsc:env.scope=fd.scope:=by rw [he];rfl
 have x:Ext none' ads s {s with heap:=h',toks:=tk} []:=Ext.of_kept k rfl rfl
 have S':St W ads H {s with heap:=h',toks:=tk}:=S.extend x .none (fun b o _ q=>k b o q) fun _ f=>f.elim
 have hnone:∀ c,s.heap.objs.size≤c→s.heap.get? c=none:=fun c hc=>by
  cases q:s.heap.get? c with
  | none=>rfl
  | some o=>exact absurd (Heap.lt_size q) (Nat.not_lt.mpr hc)
 have hLn:s.heap.get? env.locals=none:=hnone _ (by rw [hL];exact Nat.le_refl _)
 have xl:=hv.length
 refine⟨⟨hA.deeper env,⟨by rw [hsc];exact F.kind,by rw [he];exact F.gl,by rw [he];exact F.bl⟩,⟨fun y h=>by unfold Env.kindOf;rw [hsc];exact h,fun y h=>by unfold Env.kindOf;rw [hsc];exact h,fun y h=>by unfold Env.kindOf;rw [hsc];exact h⟩,?_,S',base_none S hLn,F.nd⟩,x⟩
 refine⟨_,X.toInCall.ns,not_foot_none S hLn,fun i v hi=>?_⟩
 have hiv:vs[i]?=some v:=by
  rcases Nat.lt_or_ge i vs.length with h|h
  ·rw [gL (by simpa using h),gM] at hi
   cases q:vs[i]? with
   | none=>rw [q] at hi;cases hi
   | some w=>rw [q] at hi;simp at hi;rw [hi]
  ·rw [gR (by simpa using h)] at hi
   simp only [List.getElem?_replicate] at hi
   split at hi<;>cases hi
 obtain⟨xv,hx,hxr⟩:=hv.get hiv
 have hlt:i<md.np:=by rw [←hlen];exact (gS.mp hiv).1
 obtain⟨nm,hnm⟩:∃ nm,names[i]?=some nm:=⟨_,gE (Nat.lt_of_lt_of_le hlt F.np)⟩
 have hnt:=take_get hlt hnm
 have hnd:(names.take md.np).Nodup:=(tS _ _).nodup F.nd
 have hxr':=S.mono x .none hxr
 rw [aN] at hxr'
 refine⟨nm,xv,hnm,hxr',?_⟩
 rcases F.kinds nm (mG hnt) with hk|⟨hk,hc⟩
 ·have hk':env.kindOf nm=some .local:=by unfold Env.kindOf;rw [hsc];exact hk
  exact .inl ⟨hk',bindL_get hnd hnt hx hk'⟩
 ·have hk':env.kindOf nm=some .cell:=by unfold Env.kindOf;rw [hsc];exact hk
  obtain⟨c,hc⟩:=Option.isSome_iff_exists.mp (hc (s.heap.objs.size+1))
  rw [←hcells] at hc
  refine .inr ⟨.inl hk',c,hc,?_,?_⟩
  ·have:=X.cell nm c hc
   rwa [bindC_get hnd hnt hx (by rw [hk'];decide)] at this
  ·refine not_foot_none S (hnone c ?_)
   have:=X.above nm c (mem_of_lookup hc)
   rw [hL] at this
   exact Nat.le_of_lt this
theorem call_snd (O:W.Ok tb gt mg mb) {f:Nat} {md:Fn} {o:Obj} {fd:FuncData} {body:List Stmt} (ho:W.g.get? (W.fn f)=some o) (hd:o.data=.func fd) (F:FnOk tb W.g fd body names md) (hb:SsSnd W gt n C names fd.scope md.body body)
  {vs:List V} {xs:List Value} (hA:AOKc (n+1) A) (S:St W ads H s) (hv:VRs ads s.heap vs xs) (hlen:vs.length=md.np) {r:Option V×Rho} (e:Mine.execs gt C (vs.map some++List.replicate (md.nl-md.np) none) md.body H=some (r,H')) :
  codeAny W.M A (.call (.ref (W.fn f)) ⟨xs,[]⟩) (RetIs (PE W ads s (r.1.getD .none) H')) s:=by
 have xl:=hv.length
 have hl:xs.length=fd.params.args.length:=by
  have:=congrArg List.length F.par
  rw [lM,lT] at this
  have:=F.np
  omega
 have hbind:=bind_plain (xs:=xs) F.h1 F.h2 F.h3 F.h4 F.dflt hl (by rw [F.par];exact (tS _ _).nodup F.nd)
 rw [F.par] at hbind
 have hmem:∀ x∈(names.take md.np).zip xs,x.1∈names.take md.np:=fun x hx=>(List.of_mem_zip hx).1
 refine codeAny_call_cells (by have:=hA.depth;omega) (S.base _ _ ho) hd (O.nol.keeps S.base) (F.code.keeps S.base) F.isBody hbind F.clo (fun x hx=>?_) (fun s1 X=>?_) F.co F.gen F.kind
 ·rcases F.kinds x.1 (hmem x hx) with h|⟨h,h'⟩
  ·exact .inl h
  ·exact .inr ⟨h,h' _⟩
 ·obtain⟨hr,x1⟩:=enter F S hA hv hlen _ rfl X
  refine wpAny_mono (hb _ _ _ _ e _ _ ads s1 hr) (fun fl s2 h_2=>?_) fun _ _ f=>f.elim
  obtain⟨a_2,S2,x2,f_2,hf⟩:=h_2
  have hLn:s.heap.get? (callEnvC fd s.heap.objs.size (W.fn f)).locals=none:=get_size s.heap
  have x12:Ext none' ads s s2 a_2:=by
   have x2':Ext (fun b=>b=(callEnvC fd s.heap.objs.size (W.fn f)).locals) (ads++[]) s1 s2 a_2:=by rw [aN];exact x2
   exact x1.trans x2' fun c o e _ q=>by
    rw [show c=(callEnvC fd s.heap.objs.size (W.fn f)).locals from q,hLn] at e;cases e
  obtain⟨ov,ρ2⟩:=r
  cases ov with
  | none =>
   cases fl<;>simp only [flowIs] at hf
   exact⟨a_2,S2,.none,x12⟩
  | some v =>
   cases fl<;>simp only [flowIs] at hf
   exact⟨a_2,S2,hf,x12⟩
end
structure Setup.OkC (W:Setup) (tb:Tab) (mg:Str→Option Value):Prop where
 calls:∀ p∈tb.gfns,mg p.1=some (.ref (W.fn p.2))∧keepIn W.K (.ref (W.fn p.2))=true
 cg:∀ (c:Nat) x,tb.cnames[c]?=some x→mg x=some (.ref (W.cls c))∧keepIn W.K (.ref (W.cls c))=true
 inits:∀ p∈tb.inits,findIn W.K (.ref (W.cls p.1)) "__init__"=some (some (.ref (W.fn p.2)))∧typeIn W.K (.ref (W.fn p.2))=some (.type "function")
 new0s:∀ c∈tb.new0s,findIn W.K (.ref (W.cls c)) "__init__"=some (some (.builtin "object.__init__"))
 meths:∀ p∈tb.meths,p.1<tb.cnames.length∧findIn W.K (.ref (W.cls p.1)) p.2.1=some (some (.ref (W.fn p.2.2)))∧isFn W.K (.ref (W.fn p.2.2))=true∧p.2.1∉W.attrs p.1∧keepIn W.K (.ref (W.fn p.2.2))=true
section
variable {W:Setup} {tb:Tab} {gt:List V} {mg mb:Str→Option Value} {n:Nat} {C:CallF} {names:List Str} {sc:Scope} {A:Around} {env:Env} {ads a b:Ads} {H H1 H2 H':Hp} {s s' s1 s2:Shared} {ρ ρ1 ρ2 ρ':Rho} {v x:V} {p q r:E} {l e e_2:Expr} {pos apos:Pos}
theorem plain_es:∀ {es:List Expr},(∀ e∈es,notStar e=true)→((backTo pos (starEach es env)).any (·.1)=false∧∀ x∈backTo pos (starEach es env),x.1=false)
 | [],_=>⟨rfl,fun _ h=>nomatch h⟩
 | e::es,h=>by
  rw [backTo_plain (h e (.head _))]
  have ih:=plain_es fun x hx=>h x (.tail _ hx)
  refine⟨by rw [List.any_cons,ih.1];rfl,fun x hx=>?_⟩
  rcases mK.mp hx with rfl|hx
  ·rfl
  ·exact ih.2 x hx
theorem star_plain {es:List Expr} (he:notStar e=true):starEach (e::es) env=(false,eval e env)::starEach es env:=by cases e<;>first|rfl|cases he
theorem matchEs_plain:∀ {ps:List E} {es:List Expr},matchEs tb names sc ps es=true→∀ e∈es,notStar e=true
 | [],[],_,_,h=>nomatch h
 | p::ps,e::es,h,x,hx=>by
  simp only [matchEs,Bool.and_eq_true] at h
  rcases mK.mp hx with rfl|hx
  ·exact h.1.1
  ·exact matchEs_plain h.2 x hx
 | [],_::_,h,_,_=>by simp [matchEs] at h
 | _::_,[],h,_,_=>by simp [matchEs] at h
theorem evalEs_len:∀ {ps:List E} {es:List Expr},matchEs tb names sc ps es=true→ps.length=es.length
 | [],[],_=>rfl
 | p::ps,e::es,h=>by
  simp only [matchEs,Bool.and_eq_true] at h
  exact congrArg (·+1) (evalEs_len h.2)
 | [],_::_,h=>by simp [matchEs] at h
 | _::_,[],h=>by simp [matchEs] at h
theorem args_snd {K:Frag} {f:Value} {first:List Value} {ps:List E} {es:List Expr} {vs:List V} {Q:Value→Shared→Prop} (hp:EsSnd W gt n C names sc ps es) (hst:∀ e∈es,notStar e=true) (hle:ps.length=es.length) (e1:evalEs gt C ρ ps H=some (vs,H1)) (hr:Here W n names sc ρ A env ads H s)
  (hk:keepIn K f=true) (hK:∀ s':Shared,(∀ b o,W.g.get? b=some o→s'.heap.get? b=some o)→K.In s'.heap)
  (k:∀ xs s1 a_1,Here W n names sc ρ A env (ads++a_1) H1 s1→VRs (ads++a_1) s1.heap vs xs→Ext none' ads s s1 a_1→wpAny W.M A (call f (first++xs)) Q no' s1) :
  wpAny W.M A (callWith pos f first (backTo pos (starEach es env)) []) Q no' s:=by
 cases es with
 | nil =>
  refine callWith_K0 (hK _ hr.st.base) hk ?_
  cases ps with
  | nil =>
   cases e1
   exact k [] s [] hr.nil .nil (.refl _ _)
  | cons p ps=>cases hle
 | cons e rest =>
  refine callWith_K (hK _ hr.st.base) hk (hp.go e1 hr fun xs s1 a_1 h_1 r_1 x1=>⟨hK _ h_1.st.base,k xs s1 a_1 h_1 r_1 x1⟩) (star_plain (hst e (.head _))) (plain_es fun x hx=>hst x (.tail _ hx)).1
theorem ret_call {f:Value} {xs:List Value} {P Q:Value→Shared→Prop} (h:codeAny W.M A (.call f ⟨xs,[]⟩) (RetIs P) s) (k:∀ x s',P x s'→Q x s'):wpAny W.M A (call f xs) Q no' s:=by
 refine wpAny_call (codeAny_mono h fun r s' hr=>?_)
 unfold RetIs at hr
 split at hr
 ·exact k _ _ hr
 ·exact hr.elim
theorem snd_call (O:W.Ok tb gt mg mb) (OC:W.OkC tb mg) (hC:CSnd W n C) {f:Nat} {nm:Str} {np:Pos} {ps:List E} {es:List Expr} (hf:(nm,f)∈tb.gfns) (hg:globalAs sc nm=true) (hm:matchEs tb names sc ps es=true) (hp:EsSnd W gt n C names sc ps es) :
  ESnd W gt n C names sc (.call f ps) (.Call (.Name nm np) es [] pos):=by
 intro ρ H v H' he A env ads s hr
 obtain⟨vs,H1,e1,he⟩:=bnd_eq he
 obtain⟨h1,h2⟩:=OC.calls _ hf
 refine wpAny_Call_ofName (hr.glob O hg h1 ?_)
 refine args_snd hp (matchEs_plain hm) (evalEs_len hm) e1 hr h2 (fun s' k=>O.inK.keeps k) fun xs s1 a_1 h_1 r_1 x1=>?_
 exact ret_call (hC _ _ _ _ _ he A _ s1 xs hr.a.c h_1.st r_1) fun x s2 h_2=>PE.after x1 h_2
theorem meth_call {o:Expr} {name:Str} {es:List Expr} {Q:Value→Shared→Prop} (hb:plainBase o=true) (hline:(apos.endLine==pos.line)=true) (hst:∀ e∈es,notStar e=true) (hlen:es.length<30)
  (h:wpAny W.M A (eval o env) (fun ov s1=>∀ pl,wpAny W.M A (getMethod ov name pl) (fun fx s2=>wpAny W.M A (callWith pos fx.1 fx.2 (backTo pos (starEach es env)) []) Q no' s2) no' s1) no' s) :
  wpAny W.M A (eval (.Call (.Attribute o name apos) es [] pos) env) Q no' s:=by
 rw [arm_eval_Call,base_plain hb]
 refine wpAny_bind (wpAny_mono h (fun ov s1 h_1=>?_) fun _ _ e=>e)
 refine wpAny_bind (wpAny_standAt ?_)
 have hform:methodCallForm (es.length+([]:List Keyword).length) (backTo pos (starEach es env)) (backToKw pos (keywordEach [] env))=true:=by
  unfold methodCallForm
  rw [Bool.and_eq_true,Bool.and_eq_true]
  refine⟨⟨?_,rfl⟩,decide_eq_true (by show es.length+0+0<30;omega)⟩
  rw [List.all_eq_true]
  intro x hx
  rw [(plain_es hst).2 x hx];rfl
 have hpos:methodCallPos true o env apos pos=pure pos:=by unfold methodCallPos;simp [hline]
 unfold methodCall
 rw [hform]
 unfold calleeOf
 refine wpAny_bind (wpAny_holding (wpAny_mono (h_1 _) (fun fx s2 h_2=>?_) fun _ _ e=>e))
 exact wpAny_bind (wpAny_of_eq hpos h_2)
theorem snd_meth (O:W.Ok tb gt mg mb) (OC:W.OkC tb mg) (hC:CSnd W n C) {c f:Nat} {nm:Str} {ps:List E} {es:List Expr} (hf:(c,nm,f)∈tb.meths) (hb:plainBase l=true) (hline:(apos.endLine==pos.line)=true) (hm:matchEs tb names sc ps es=true) (hlen:ps.length<14)
  (ho:ESnd W gt n C names sc p l) (hp:EsSnd W gt n C names sc ps es):ESnd W gt n C names sc (.meth p c f ps) (.Call (.Attribute l nm apos) es [] pos):=by
 intro ρ H v H' he A env ads s hr
 obtain⟨x,H1,e1,he⟩:=bnd_eq he
 obtain⟨o,rfl,he⟩:=asObj_eq he
 obtain⟨fs,hl,he⟩:=asInst_eq he
 obtain⟨vs,H2,e2,he⟩:=bnd_eq he
 obtain⟨g0,g1,g2,g3,g4⟩:=OC.meths _ hf
 refine meth_call hb hline (matchEs_plain hm) (by rw [←evalEs_len hm];omega) (ho.go e1 hr fun xv s1 a_1 h_1 r_1 x1 pl=>?_)
 cases r_1 with
 | @obj _ pp hi =>
  cases h_1.st.obj _ _ _ hl hi with
  | inst ha hd hmm hv hlen hne =>
   refine get_meth (h_1.st.inK O) (O.cok c g0) ha hd.ns g1 g2 (by rw [hmm];exact lookup_zip_none g3) ?_
   refine args_snd hp (matchEs_plain hm) (evalEs_len hm) e2 h_1 g4 (fun s' k=>O.inK.keeps k) fun xs s2 a_2 h_2 r_2 x2=>?_
   exact ret_call (hC _ _ _ _ _ he A _ s2 _ hr.a.c h_2.st (.cons (.obj (ads_more hi)) r_2)) fun x s3 h_3=>PE.after x1 (PE.after x2 h_3)
theorem tc_weight (a:Addr) (xs:List Value):(Code.builtin "type.__call__" ⟨.ref a::xs,[]⟩).weight≤1:=by
 have:(Code.builtin "type.__call__" ⟨.ref a::xs,[]⟩).weight=1:=by kernel_rfl
 omega
theorem tc_units (a:Addr) (xs:List Value):(Code.builtin "type.__call__" ⟨.ref a::xs,[]⟩).cUnits≤4:=by
 have:(Code.builtin "type.__call__" ⟨.ref a::xs,[]⟩).cUnits=1:=by kernel_rfl
 omega
theorem AOK.under {c:Code} (h:AOK n A) (hw:c.weight≤1) (hu:c.cUnits≤4):AOKc n (A.under c) :=
 ⟨h.hh,by have:=h.depth;show A.depth+c.weight+3*n+3<_;omega,by have:=h.units;show A.units+c.cUnits+10*n+95<_;omega⟩
theorem new_inst (S:St W ads H s) {c:Nat} {hh:Heap} (hh':hh=(s.heap.push emptyDict).push (instObj (W.cls c) s.heap.objs.size)) (s':Shared) (hs:s'.heap=hh) (hg:s'.gens=s.gens) (ho:s'.os=s.os) :
  St W (ads++[(s.heap.objs.size+1,s.heap.objs.size)]) (H++[.inst c []]) s'∧Ext none' ads s s' [(s.heap.objs.size+1,s.heap.objs.size)]:=by
 have k:∀ b o,s.heap.get? b=some o→hh.get? b=some o:=fun b o e=>by rw [hh'];exact Heap.get?_push_of_some _ (Heap.get?_push_of_some _ e)
 have n1:s.heap.get? (s.heap.objs.size+1)=none:=by
  cases q:s.heap.get? (s.heap.objs.size+1) with
  | none=>rfl
  | some o=>exact absurd (Heap.lt_size q) (Nat.not_lt.mpr (Nat.le_succ _))
 refine S.alloc (fun b o e=>by rw [hs];exact k b o e) n1 (get_size _) hg ho ?_
 have hx:hh.get? (s.heap.objs.size+1)=some (instObj (W.cls c) s.heap.objs.size):=by
  rw [hh']
  have:=Heap.get?_push_size (o:=instObj (W.cls c) s.heap.objs.size) (s.heap.push emptyDict) rfl
  rwa [Heap.size_push] at this
 have hd:hh.Ns1 s.heap.objs.size (fun _=>none):=by
  rw [hh']
  exact⟨_,#[],0,Heap.get?_push_of_some _ (Heap.get?_push_size _ rfl),rfl,fun _ he=>by simp at he,List.Pairwise.nil,fun _=>rfl⟩
 rw [hs]
 exact .inst hx hd (vals:=[]) (fun y=>by simp) .nil (Nat.zero_le _) (Nat.ne_of_gt (Nat.lt_succ_self _))
theorem snd_new (O:W.Ok tb gt mg mb) (OC:W.OkC tb mg) (hC:CSnd W n C) {c f:Nat} {nm:Str} {np:Pos} {ps:List E} {es:List Expr} (hc:tb.cnames[c]?=some nm) (hf:(c,f)∈tb.inits) (hg:globalAs sc nm=true) (hm:matchEs tb names sc ps es=true) (hp:EsSnd W gt n C names sc ps es) :
  ESnd W gt n C names sc (.new c f ps) (.Call (.Name nm np) es [] pos):=by
 intro ρ H v H' he A env ads s hr
 obtain⟨vs,H1,e1,he⟩:=bnd_eq he
 obtain⟨rv,H2,e2,he⟩:=bnd_eq he
 obtain⟨rfl,he⟩:=asNone_eq he
 cases he
 obtain⟨h1,h2⟩:=OC.cg _ _ hc
 obtain⟨h3,h4⟩:=OC.inits _ hf
 have hcl:c<tb.cnames.length:=(gS.mp hc).1
 refine wpAny_Call_ofName (hr.glob O hg h1 ?_)
 refine args_snd hp (matchEs_plain hm) (evalEs_len hm) e1 hr h2 (fun s' k=>O.inK.keeps k) fun xs s1 a_1 h_1 r_1 x1=>?_
 refine ret_call (P:=PE W ads s (.obj H1.length) H') ?_ fun _ _ h=>h
 obtain⟨hh,g,d,t,os⟩:=s1
 have X:W.K.In hh:=h_1.st.inK O
 refine make_core (makes_of X (O.cok c hcl).made) (looks_findIn X h3) (fun self=>bind_fn X self h4) (.inl rfl) ?_
 obtain⟨S2,x2⟩:=new_inst (c:=c) h_1.st rfl ⟨(hh.push emptyDict).push (instObj (W.cls c) hh.objs.size),g,d,t,os⟩ rfl rfl rfl
 have hi:(ads++a_1++[(hh.objs.size+1,hh.objs.size)])[H1.length]?=some (hh.objs.size+1,hh.objs.size):=by rw [←h_1.st.len];simp
 refine codeAny_mono (hC _ _ _ _ _ e2 _ _ _ (.ref (hh.objs.size+1)::xs) (hr.a.under (tc_weight _ _) (tc_units _ _)) S2 (.cons (.obj hi) (h_1.st.monos x2 .none r_1))) fun r s' hq=>?_
 unfold RetIs at hq
 split at hq
 ·obtain⟨a_3,S3,v3,x3⟩:=hq
  cases v3
  refine⟨rfl,PE.after x1 (PE.after x2 ⟨a_3,S3,.obj (ads_more hi),x3⟩)⟩
 ·exact hq.elim
theorem snd_new0 (O:W.Ok tb gt mg mb) (OC:W.OkC tb mg) {c:Nat} {nm:Str} {np:Pos} (hc:tb.cnames[c]?=some nm) (hf:c∈tb.new0s) (hg:globalAs sc nm=true):ESnd W gt n C names sc (.new0 c) (.Call (.Name nm np) [] [] pos):=by
 intro ρ H v H' he A env ads s hr
 cases he
 obtain⟨h1,h2⟩:=OC.cg _ _ hc
 have h3:=OC.new0s _ hf
 have hcl:c<tb.cnames.length:=(gS.mp hc).1
 refine wpAny_Call_ofName (hr.glob O hg h1 ?_)
 have X:W.K.In s.heap:=hr.st.inK O
 refine callWith_K0 X h2 ?_
 refine ret_call (P:=PE W ads s (.obj H.length) (H++[.inst c []])) ?_ fun _ _ h=>h
 obtain⟨hh,g,d,t,os⟩:=s
 have Y:=makes_of (M:=W.M) X (O.cok c hcl).made
 refine make_core Y (looks_findIn X h3) (fun self=>Looks.of_pure (oi_bind self)) (.inr ⟨rfl,rfl⟩) ?_
 obtain⟨S2,x2⟩:=new_inst (c:=c) hr.st rfl ⟨(hh.push emptyDict).push (instObj (W.cls c) hh.objs.size),g,d,t,os⟩ rfl rfl rfl
 have hx:((hh.push emptyDict).push (instObj (W.cls c) hh.objs.size)).get? (hh.objs.size+1)=some (instObj (W.cls c) hh.objs.size):=by
  have:=Heap.get?_push_size (o:=instObj (W.cls c) hh.objs.size) (hh.push emptyDict) rfl
  rwa [Heap.size_push] at this
 have t1:Looks W.M ((hh.push emptyDict).push (instObj (W.cls c) hh.objs.size)) (typeOf (.ref (hh.objs.size+1))) (.ref (W.cls c)):=(Looks.ld hx).andThen .now
 have t2:Looks W.M ((hh.push emptyDict).push (instObj (W.cls c) hh.objs.size)) (isInstance (.ref (hh.objs.size+1)) (.type "object")) true:=t1.andThen (Y.top.keeps fun b o e=>Heap.get?_push_of_some _ (Heap.get?_push_of_some _ e))
 refine codeAny_call_builtin oi_plain entry_oi (@check_slot W.M _ _ _ "object.__init__" "object" "__init__" (.ref (hh.objs.size+1)) [] [] _ oi_kind oi_split t2 (oi_args (.ref (hh.objs.size+1))) ?_)
 show wpAny _ _ (Builtin.«object.__init__» ⟨[.ref (hh.objs.size+1)],[]⟩) _ _ _
 rw [oi_run]
 have hi:(ads++[(hh.objs.size+1,hh.objs.size)])[H.length]?=some (hh.objs.size+1,hh.objs.size):=by rw [←hr.st.len];simp
 exact wpAny_pure (And.intro rfl ⟨_,S2,.obj hi,x2⟩)
end
end Mine
namespace Mine
open PySem PySem.W PySem.Calls PyProof.Rows
open _root_.List renaming length_map → lM, append_nil → aN, append_assoc → aA, map_append → mP, mem_of_getElem? → mG, length_append → lA, getElem?_eq_some_iff → gS, getElem?_map → gM, mem_append → mA, mem_map → mM, map_cons → mC, cons_append → cA, mem_singleton → mS, mem_cons → mK, nil_append → nA, getElem?_eq_getElem → gE, mem_append_left → mL, length_cons → lC, mem_map_of_mem → mO, not_mem_nil → nM, getElem?_of_mem → gO, zip_cons_cons → zC, lookup_cons → kC, take_add_one → tO, mem_append_right → mR, take_length → tL, nodup_append → nD, map_map → mQ, filter_append → fA, length_nil → lN, take_sublist → tS, getElem?_append_left → gL, getElem?_append_right → gR, nodup_cons → nC, length_take → lT, length_singleton → lS, flatMap_cons → fC, map_congr_left → mJ, perm_append_singleton → pS, getElem?_cons_zero → gZ
section
variable {prog:Program} {w:World} {A:Around} {E:Value→Shared→Prop} {s:Shared} {a0:Array Keyed}
theorem minRun_le:∀ (f n r:Nat),r≤1→minRun' f n r≤n+r
 | 0,n,r,_=>Nat.le_refl _
 | f+1,n,r,h=>by
  rw [minRun'_succ]
  split
  ·exact Nat.le_refl _
  ·have hm:max r (n%2)≤1:=by omega
   have:=minRun_le f (n/2) (max r (n%2)) hm
   omega
theorem wpS_countRun_asc {st:SortSt} {nrem:Nat} {Q:Option Nat→SortSt→Prop} (h0:IntKeys a0) (hn:nrem≤a0.size) (h1:1≤nrem) (hB:SBase a0 st) (hs:SortedTo (arrOf st) nrem) (h:Q (some nrem) st) :
  wpS (model prog w) A E s (countRun' 0 nrem) Q st:=by
 rw [countRun0_eq]
 refine wpS_bind (wpS_ascLoop h0 hn (Nat.le_refl 1) h1 hB (fun i j hij hj=>by cases (show i=j by omega);exact Int.le_refl _) fun n hn1 hn2 hsn hor=>?_)
 dsimp only
 have hnn:n=nrem:=by
  rcases hor with h|h
  ·exact h
  ·refine Classical.byContradiction fun hne=>?_
   have:=hs (n-1) n (by omega) (by omega)
   omega
 rw [if_pos (by simpa using hnn),hnn]
 exact wpS_pure h
theorem wpS_sortRuns_asc {st:SortSt} {Q:Unit→SortSt→Prop} (h0:IntKeys a0) (hB:SBase a0 st) (h2:2≤a0.size) (hasc:SortedTo (arrOf st) a0.size)
  (h:∀ st',(arrOf st').Perm a0→failedOf st'=none→SortedTo (arrOf st') a0.size→Q () st'):wpS (model prog w) A E s sortRuns' Q st:=by
 rw [sortRuns'_eq]
 refine wpS_bind (wpS_get ?_)
 dsimp only
 have hmr:minRun' a0.size a0.size 0≤a0.size:=by have:=minRun_le a0.size a0.size 0 (by omega);omega
 simp only [hB.size]
 generalize minRun' a0.size a0.size 0=mr at hmr
 refine wpS_bind (wpS_mono (wpS_forRange
  (I:=fun x c st'=>(x=0∧c=(none,0)∧SBase a0 st'∧SortedTo (arrOf st') a0.size)∨(1≤x∧c=(none,a0.size)∧SDone a0 st'))
  (Q:=fun c st'=>c=(none,a0.size)∧SDone a0 st') ?step ?fin (.inl ⟨rfl,rfl,hB,hasc⟩)) ?post)
 case fin =>
  rintro c st' (⟨hx,_,_⟩|⟨_,hc,hD⟩)
  ·omega
  ·exact⟨hc,hD⟩
 case step =>
  rintro x c st' _ hx (⟨rfl,rfl,hB',hs'⟩|⟨hx1,rfl,hD⟩)
  ·dsimp only
   rw [if_neg (by omega)]
   simp only [Nat.sub_zero,Nat.zero_add]
   refine wpS_bind (wpS_countRun_asc h0 (Nat.le_refl _) (by omega) hB' hs' ?_)
   dsimp only
   rw [if_neg (by omega)]
   refine wpS_bind (wpS_get ?_)
   have hb:(pendingOf st').back?=none:=by rw [hB'.pend];rfl
   rw [hb]
   dsimp only
   exact wpS_bind (wpS_modify (wpS_pure (.inr ⟨by omega,rfl,hB'.done hs'⟩)))
  ·dsimp only
   rw [if_pos (Nat.le_refl _)]
   exact wpS_pure ⟨rfl,hD⟩
 case post =>
  rintro c st' ⟨rfl,hD⟩
  dsimp only
  refine wpS_bind (wpS_mono (wpS_forRange (I:=fun _ c st''=>st''=st'∧c=(none,())) (Q:=fun c st''=>st''=st'∧c=(none,())) ?_ (fun _ _ hh=>hh) ⟨rfl,rfl⟩) ?_)
  ·rintro x c st'' _ _ ⟨rfl,rfl⟩
   refine wpS_bind (wpS_get ?_)
   rw [if_pos (by rw [hD.2.2.1];exact Nat.le_refl 1)]
   exact wpS_pure ⟨rfl,rfl⟩
  ·rintro c st'' ⟨rfl,rfl⟩
   exact wpS_pure (h _ hD.1 hD.2.1 hD.2.2.2)
theorem sorted_pairs {vs:List Value} {ns:List Int} (hI:IntsAre vs ns) (h:ns.Pairwise (·≤·)):SortedTo (pairsOf vs) (pairsOf vs).size:=by
 intro i j hij hj
 rw [pairsOf_size] at hj
 have hl:=hI.length
 have key:∀ k (hk:k<ns.length),K (pairsOf vs) k=ns[k]:=fun k hk=>by
  obtain⟨t,ht⟩:=hI.get k ns[k] (gE hk)
  unfold K
  have:(pairsOf vs)[k]?=some (.int ns[k] t,.int ns[k] t):=by
   rw [←Array.getElem?_toList,pairsOf_toList,List.getElem?_zip_eq_some]
   exact⟨ht,ht⟩
  rw [this];rfl
 rw [key i (by omega),key j (by omega)]
 rcases Nat.lt_or_ge i j with h'|h'
 ·exact List.pairwise_iff_getElem.mp h i j (by omega) (by omega) h'
 ·have:i=j:=by omega
  subst this;exact Int.le_refl _
theorem list_sort_tree_asc {a:Addr} {vs:List Value} {ns:List Int} {n:Nat} {P:Fin→Shared→Prop} (ho:s.heap.get? a=some (seqObj "list" vs.toArray n))
  (hI:IntsAre vs ns) (hasc:ns.Pairwise (·≤·)) (hle:vs.length≤100000)
  (h:∀ (out:Array Value) (ns':List Int),IntsAre out.toList ns'→ns'.Perm ns→ns'.Pairwise (·≤·)→P (.done (.ret .none)) {s with heap:=sortedHeap s.heap a vs out}) :
  wpAny (model prog w) A (Builtin.«list.sort» ⟨[.ref a],[]⟩) P E s:=by
 rw [list_sort_plain]
 have ha:a<s.heap.objs.size:=Heap.lt_size ho
 refine wpAny_bind (listItems_at ho rfl ?_)
 refine wpAny_bind (listUpdate_at ho rfl ?_ (by rw [sizeLine_eq];simp;omega))
 obtain⟨e1,ho1⟩:∃ e1,(s.heap.update a (Obj.mapSeq fun _=>#[])).get? a=some (seqObj "list" #[] e1):=⟨_,get?_update_seq ho (fun _=>#[])⟩
 refine wpAny_bind (seqEpoch_at ho1 rfl ?_)
 refine wpAny_bind (wpAny_newTuple ?_ (by rw [sizeLine_eq];simp;omega))
 refine wpAny_bind (wpAny_newList ?_)
 refine wpAny_holding ?_
 have ho6:(((s.heap.update a (Obj.mapSeq fun _=>#[])).push (seqObj "tuple" vs.toArray 0)).push (seqObj "list" #[] 0)).get? a=some (seqObj "list" #[] e1):=by
  rw [Heap.get?_push_ne _ _ _ (by rw [size_push',Heap.size_update];exact Nat.ne_of_lt (Nat.lt_succ_of_lt ha)),Heap.get?_push_ne _ _ _ (by rw [Heap.size_update];exact Nat.ne_of_lt ha)]
  exact ho1
 show wpAny (model prog w) A _ P E {s with heap:=((s.heap.update a (Obj.mapSeq fun _=>#[])).push (seqObj "tuple" vs.toArray 0)).push (seqObj "list" #[] 0)}
 dsimp only
 have hsz:vs.toArray.size=vs.length:=by simp
 have fin:∀ st':SortSt,(arrOf st').Perm (pairsOf vs)→SortedTo (arrOf st') (pairsOf vs).size →
   P (.done (.ret .none)) {s with heap:=sortedHeap s.heap a vs ((arrOf st').map (·.2))}:=by
  intro st' hp hs
  obtain⟨ns',h1,h2,h3⟩:=sorted_out hI hp hs
  exact h _ ns' h1 h2 h3
 by_cases h2:vs.toArray.size<2
 ·rw [if_pos h2,if_pos h2]
  refine wpAny_bind (wpAny_pure ?_)
  rw [StateT.run_pure]
  refine wpAny_bind (wpAny_pure ?_)
  dsimp only
  refine wpAny_bind (seqEpoch_at ho6 rfl ?_)
  refine wpAny_bind (listUpdate_at ho6 rfl ?_ (hsz2:=by rw [Array.size_map];show (pairsOf vs).size≤_;rw [pairsOf_size,sizeLine_eq];omega))
  simp only [bne_self_eq_false,Bool.false_eq_true,if_false]
  refine wpAny_pure (fin (SortSt.mk' general' (vs.toArray.zip vs.toArray) #[] 7 none) (Array.Perm.refl _) ?_)
  intro i j hij hj
  have:i=j:=by rw [pairsOf_size] at hj;omega
  subst this;exact Int.le_refl _
 ·rw [if_neg h2,if_neg h2]
  obtain⟨v_1,v2,rest,rfl⟩:∃ v_1 v2 rest,vs=v_1::v2::rest:=by
   match vs,hsz,h2 with
   | [],_,h2=>simp at h2
   | [_],_,h2=>simp at h2
   | v_1::v2::rest,_,_=>exact⟨v_1,v2,rest,rfl⟩
  rw [keyKind_ints hI]
  refine wpAny_bind (wpAny_pure ?_)
  refine wpAny_bind (wpAny_mono (wpS_sortRuns_asc (a0:=pairsOf (v_1::v2::rest)) (st:=SortSt.mk' oneType' ((v_1::v2::rest).toArray.zip (v_1::v2::rest).toArray) #[] 7 none)
   (Q:=fun _ st'=>(arrOf st').Perm (pairsOf (v_1::v2::rest))∧failedOf st'=none∧SortedTo (arrOf st') (pairsOf (v_1::v2::rest)).size)
   hI.intKeys ⟨Array.Perm.refl _,rfl,rfl,rfl⟩ (by rw [pairsOf_size];simp) (sorted_pairs hI hasc) fun st' a1 a2 a3=>⟨a1,a2,a3⟩) ?_ fun _ _ e=>e)
  rintro⟨⟨⟩,st'⟩ s' ⟨rfl,hp,hf,hs⟩
  dsimp only
  refine wpAny_bind (seqEpoch_at ho6 rfl ?_)
  refine wpAny_bind (listUpdate_at ho6 rfl ?_ (hsz2:=by refine Nat.le_trans (Nat.le_of_eq ((Array.size_map ..).trans (hp.size_eq.trans (pairsOf_size _)))) ?_;rw [sizeLine_eq];omega))
  rw [hf]
  simp only [bne_self_eq_false,Bool.false_eq_true,if_false]
  exact wpAny_pure (fin st' hp hs)
theorem ints_of:∀ {acc:List Value} {kvs:List (Int×Value)},acc.length=kvs.length→(∀ (j:Nat) (v:Value),acc[j]?=some v→∃ k x,kvs[j]?=some (k,x)∧(intKind prog w).is k v=true)→IntsAre acc (kvs.map (·.1))
 | [],[],_,_=>.nil
 | v::acc,(k,x)::kvs,hl,h=>by
  obtain⟨k',x',e,hk⟩:=h 0 v rfl
  simp only [gZ,Option.some.injEq,Prod.mk.injEq] at e
  obtain⟨rfl,rfl⟩:=e
  obtain⟨t,rfl⟩:∃ t,v=.int k t:=by
   cases v<;>simp [intKind,Value.isInt] at hk
   rename_i i t
   exact⟨t,by rw [hk]⟩
  exact .cons _ _ (ints_of (by simpa using hl) fun j v hv=>by simpa using h (j+1) v (by simpa using hv))
 | [],_::_,h,_=>by simp at h
 | _::_,[],h,_=>by simp at h
theorem collect_dict {d:Addr} {kvs:List (Int×Value)} {ep:Nat} {Q:List Value→Shared→Prop} (hd:(d==sysModules)=false) (hh:A.handled=none) (hm:s.heap.DictAt (intKind prog w) d kvs ep) (hn:kvs.length≤sizeLine)
  (hQ:∀ s' acc,(∀ b o,s.heap.get? b=some o→s'.heap.get? b=some o)→s'.gens=s.gens→s'.os=s.os→IntsAre acc (kvs.map (·.1))→Q acc s'):wpAny (model prog w) A (collect (.ref d)) Q E s:=by
 have hdlt:d<s.heap.objs.size:=by obtain⟨o,es,ho,_⟩:=hm;exact Heap.lt_size ho
 have hk1:∀ b o,s.heap.get? b=some o→(s.heap.push {cls:=.type "list",data:=.seq ([]:List Value).toArray}).get? b=some o:=fun b o e=>Heap.get?_push_of_some _ e
 have hm1:(s.heap.push {cls:=.type "list",data:=.seq ([]:List Value).toArray}).DictAt (intKind prog w) d kvs ep:=by obtain⟨o,es,ho,r⟩:=hm;exact⟨o,es,hk1 _ _ ho,r⟩
 obtain⟨R0,hR0⟩:∃ R0:Result→Shared→Prop,R0=(fun r s'=>r=.ok (.ret (.ref s.heap.objs.size))∧∃ (acc:Array Value) (c:Nat),(∀ b o,s.heap.get? b=some o→s'.heap.get? b=some o)∧s'.gens=s.gens∧s'.os=s.os ∧
   s'.heap.get? s.heap.objs.size=some {cls:=.type "list",dict:=none,data:=.seq acc c,slots:=#[]}∧ItemsOf (fun i v=>∃ k x,kvs[i]?=some (k,x)∧(intKind prog w).is k v=true) acc kvs.length):=⟨_,rfl⟩
 have main:codeAny (model prog w) A (.builtin "proto.collect" ⟨[.ref d],[]⟩) R0 s:=by
  refine codeAny_builtin F.entry_proto_collect ?_
  rw [Around.under_plainId F.plain_proto_collect _]
  show wpAny _ A.in1 (newList [] >>= fun l=>again (.builtin "list.__iadd__" ⟨[l,.ref d],[]⟩)) _ _ s
  refine wpAny_bind (wpAny_newObj_type ?_)
  refine wpAny_pure ⟨plainId_quiet F.plain_list_iadd _,codeAny_builtin F.entry_list_iadd ?_⟩
  rw [Around.under_plainId F.plain_list_iadd _]
  refine kdl_extend (R:=R0) (s:={s with heap:=s.heap.push {cls:=.type "list",data:=.seq ([]:List Value).toArray}}) (kdl_dict hd) hh hm1 s.heap.objs.size (Nat.ne_of_gt hdlt) (Nat.ne_of_gt hdlt) _ 0 (Heap.get?_push_size _ rfl) (fun h' tk acc' c' hk hS hacc=>?_) hn
  rw [hR0]
  exact⟨rfl,acc',c',fun b o e=>hk b o (Nat.ne_of_lt (Heap.lt_size e)) (hk1 b o e),rfl,rfl,hS,hacc⟩
 unfold collect
 refine wpAny_bind (wpAny_runValue (codeAny_mono main fun r s' hr=>?_))
 rw [hR0] at hr
 obtain⟨rfl,acc,c,hk,hg,ho,hS,hacc⟩:=hr
 show wpAny _ A (load s.heap.objs.size >>= _) _ _ _
 refine wpAny_bind (wpAny_load hS ?_)
 exact wpAny_pure (hQ s' acc.toList hk hg ho (ints_of (by rw [Array.length_toList];exact hacc.1) fun j v hv=>hacc.2 j v (by rw [←Array.getElem?_toList];exact hv)))
theorem sorted_dict {d:Addr} {kvs:List (Int×Value)} {ep:Nat} {Q:Value→Shared→Prop} (hd:(d==sysModules)=false) (hh:A.handled=none) (hm:s.heap.DictAt (intKind prog w) d kvs ep) (hn:kvs.length≤100000)
  (hor:kvs.length<64∨(kvs.map (·.1)).Pairwise (·≤·))
  (hQ:∀ s' D out ns' e,s.heap.get? D=none→(∀ b o,s.heap.get? b=some o→s'.heap.get? b=some o)→s'.gens=s.gens→s'.os=s.os→s'.heap.get? D=some (listOf out e)→IntsAre out.toList ns'→ns'.Perm (kvs.map (·.1))→ns'.Pairwise (·≤·)→Q (.ref D) s') :
  wpAny (model prog w) A (call (.builtin "sorted") [.ref d]) Q E s:=by
 refine Calls.call_function_entry kind_sorted plain_sorted entry_sorted (args_sorted1 _) ?_
 unfold Builtin.«sorted»
 refine wpAny_bind (m:=checkCount "sorted" 1 1 _) (wpAny_pure ?_)
 refine wpAny_bind (collect_dict hd hh hm (by rw [sizeLine_eq];omega) fun s1 vs hk hg ho hI=>?_)
 have hlen:vs.length≤100000:=by have:=hI.length;rw [lM] at this;omega
 refine wpAny_bind (wpAny_newList ?_ (by rw [sizeLine_eq];omega))
 have hoL:(s1.heap.push (seqObj "list" vs.toArray 0)).get? s1.heap.objs.size=some (seqObj "list" vs.toArray 0):=Heap.get?_push_size _ rfl
 show wpAny _ _ _ _ _ {s1 with heap:=s1.heap.push (seqObj "list" vs.toArray 0)}
 have fin:∀ (out:Array Value) (ns':List Int),IntsAre out.toList ns'→ns'.Perm (kvs.map (·.1))→ns'.Pairwise (·≤·)→Q (.ref s1.heap.objs.size) {s1 with heap:=sortedHeap (s1.heap.push (seqObj "list" vs.toArray 0)) s1.heap.objs.size vs out}:=by
  intro out ns' a1 a2 a3
  obtain⟨e,he⟩:=sortedHeap_at (vs:=vs) (out:=out) hoL
  have hold:∀ b o,s1.heap.get? b=some o→(sortedHeap (s1.heap.push (seqObj "list" vs.toArray 0)) s1.heap.objs.size vs out).get? b=some o:=fun b o hb=>by
   rw [sortedHeap_old (Nat.ne_of_lt (Heap.lt_size hb)) (by rw [size_push'];exact Nat.lt_succ_of_lt (Heap.lt_size hb))]
   exact Heap.get?_push_of_some _ hb
  refine hQ _ _ out ns' e ?_ (fun b o hb=>hold b o (hk b o hb)) hg ho he a1 a2 a3
  cases q:s.heap.get? s1.heap.objs.size with
  | none=>rfl
  | some o=>exact absurd (Heap.lt_size (hk _ _ q)) (Nat.lt_irrefl _)
 rcases hor with h64|hasc
 ·refine wpAny_bind (wpAny_holding (wpAny_call_entry slot_list_sort ⟨_,hoL,rfl⟩ entry_list_sort (list_sort_tree hoL hI (by have:=hI.length;rw [lM] at this;omega) fun out ns' a1 a2 a3=>⟨_,rfl,?_⟩) (args_list_sort _)))
  exact wpAny_pure ⟨_,rfl,fin out ns' a1 a2 a3⟩
 ·refine wpAny_bind (wpAny_holding (wpAny_call_entry slot_list_sort ⟨_,hoL,rfl⟩ entry_list_sort (list_sort_tree_asc hoL hI hasc hlen fun out ns' a1 a2 a3=>⟨_,rfl,?_⟩) (args_list_sort _)))
  exact wpAny_pure ⟨_,rfl,fin out ns' a1 a2 a3⟩
end
end Mine
namespace Mine
open PySem PySem.W PySem.Calls PyProof.Rows PySem.Spec
open _root_.List renaming length_map → lM, append_nil → aN, append_assoc → aA, map_append → mP, mem_of_getElem? → mG, length_append → lA, getElem?_eq_some_iff → gS, getElem?_map → gM, mem_append → mA, mem_map → mM, map_cons → mC, cons_append → cA, mem_singleton → mS, mem_cons → mK, nil_append → nA, getElem?_eq_getElem → gE, mem_append_left → mL, length_cons → lC, mem_map_of_mem → mO, not_mem_nil → nM, getElem?_of_mem → gO, zip_cons_cons → zC, lookup_cons → kC, take_add_one → tO, mem_append_right → mR, take_length → tL, nodup_append → nD, map_map → mQ, filter_append → fA, length_nil → lN, take_sublist → tS, getElem?_append_left → gL, getElem?_append_right → gR, nodup_cons → nC, length_take → lT, length_singleton → lS, flatMap_cons → fC, map_congr_left → mJ, perm_append_singleton → pS, getElem?_cons_zero → gZ
section
variable {W:Setup} {tb:Tab} {gt:List V} {mg mb:Str→Option Value} {n:Nat} {C:CallF} {names:List Str} {sc:Scope} {A:Around} {env:Env} {ads a b:Ads} {H H1 H2 H':Hp} {s s' s1 s2:Shared} {ρ ρ1 ρ2 ρ':Rho} {v x:V} {p q r:E} {l e e_2:Expr} {pos apos:Pos}
theorem asDict_eq {β:Type} {H:Hp} {o:Nat} {f:Option β} {r:β} (h:asDict H o f=some r):f=some r∧((∃ l,H[o]?=some (.di l))∨(∃ l,H[o]?=some (.ds l))∨∃ l,H[o]?=some (.dt l)):=by
 unfold asDict at h
 split at h
 ·exact⟨h,.inl ⟨_,by assumption⟩⟩
 ·exact⟨h,.inr (.inl ⟨_,by assumption⟩)⟩
 ·exact⟨h,.inr (.inr ⟨_,by assumption⟩)⟩
 ·cases h
theorem snd_dt:ESnd W gt n C names sc .dt (.Dict [] [] pos):=by
 intro ρ H v H' he A env ads s hr
 cases he
 exact wpAny_Dict_empty (PE.new hr.st rfl (.dt (Heap.get?_push_size _ rfl) ⟨rfl,rfl,rfl⟩ rfl (xs:=[]) rfl List.nodup_nil rfl .nil .nil))
theorem dict_obj (h:OR W ads s.heap o p') (hd:(∃ l,o=.di l)∨(∃ l,o=.ds l)∨∃ l,o=.dt l):s.TypeIs (.ref p'.1) "dict"∧∃ ob,s.heap.get? p'.1=some ob∧ob.dict=none:=by
 rcases hd with ⟨l,rfl⟩|⟨l,rfl⟩|⟨l,rfl⟩
 ·cases h with
  | di a _ _=>exact⟨a.mapOf.typeIs,let ⟨o,_,_,ho,hc,_⟩:=a;⟨o,ho,hc.2.1⟩⟩
 ·cases h with
  | ds a _ _=>exact⟨a.mapOf.typeIs,let ⟨o,_,_,ho,hc,_⟩:=a;⟨o,ho,hc.2.1⟩⟩
 ·cases h with
  | dt a b _ _ _ _ _ _=>exact⟨⟨_,a,b.1⟩,⟨_,a,b.2.1⟩⟩
theorem snd_get2 {q r:E} {e_1 e_2:Expr} (O:W.Ok tb gt mg mb) (hb:plainBase l=true) (hline:(apos.endLine==pos.line)=true) (he1:notStar e_1=true) (he_2:notStar e_2=true) (hp:ESnd W gt n C names sc p l) (hq:ESnd W gt n C names sc q e_1) (hr':ESnd W gt n C names sc r e_2) :
  ESnd W gt n C names sc (.get2 p q r) (.Call (.Attribute l (sO "get") apos) [e_1,e_2] [] pos):=by
 intro ρ H v H' hev A env ads s hr
 obtain⟨x,H1,e1,w1⟩:=bnd_eq hev
 obtain⟨o,hxo,w2⟩:=asObj_eq w1
 subst hxo
 obtain⟨w3,hkind⟩:=asDict_eq w2
 obtain⟨k,H2,e2,w4⟩:=bnd_eq w3
 obtain⟨d,H3,e3,w5⟩:=bnd_eq w4
 clear hev w1 w2 w3 w4
 refine wpAny_Call_method2_late (base_plain hb) hline (trees2 he1 he_2) (hp.go e1 hr fun xv s1 a_1 h_1 r_1 x1=>?_)
 cases r_1 with
 | @obj _ pp hi =>
  obtain⟨oo,hoo⟩:∃ oo,H1[o]?=some oo∧((∃ l,oo=.di l)∨(∃ l,oo=.ds l)∨∃ l,oo=.dt l):=by
   rcases hkind with ⟨l,h⟩|⟨l,h⟩|⟨l,h⟩
   ·exact⟨_,h,.inl ⟨l,rfl⟩⟩
   ·exact⟨_,h,.inr (.inl ⟨l,rfl⟩)⟩
   ·exact⟨_,h,.inr (.inr ⟨l,rfl⟩)⟩
  obtain⟨hT,hnd⟩:=dict_obj (h_1.st.obj _ _ _ hoo.1 hi) hoo.2
  refine⟨"dict","dict.get",F.plainAttrs_dict,F.slot_dict_get,F.type_dict_get,hT,list_dict hnd,?_⟩
  have nm:=h_1.st.not_mods O.low hi
  split at w5
  ·rename_i ll i hl
   cases w5
   refine wpAny_dict_get2 (knd:=W.ik) nm (hq.go e2 h_1 fun yv s2 a_2 h_2 r_2 x2=>hr'.go e3 h_2 fun zv s3 a_3 h_3 r_3 x3=>?_)
   cases r_2
   have hi':=ads_more (a:=a_3) (ads_more (a:=a_2) hi)
   cases h_3.st.obj _ _ _ hl hi' with
   | di ha hk hv =>
    refine⟨i,_,intKind_is _ _ _ _,ha.mapOf,?_⟩
    rcases pairs_get hk hv i with ⟨q1,q2⟩|⟨v',x',q1,q2,q3⟩
    ·rw [q1,q2];exact PE.after x1 (PE.after x2 (PE.after x3 (by refine h_3.pe r_3 ?_ ?_ ?_<;>rfl)))
    ·rw [q1,q2];exact PE.after x1 (PE.after x2 (PE.after x3 (by refine h_3.pe q3 ?_ ?_ ?_<;>rfl)))
  ·rename_i ll i hl
   cases w5
   refine wpAny_dict_get2 (knd:=W.sk) nm (hq.go e2 h_1 fun yv s2 a_2 h_2 r_2 x2=>hr'.go e3 h_2 fun zv s3 a_3 h_3 r_3 x3=>?_)
   cases r_2
   have hi':=ads_more (a:=a_3) (ads_more (a:=a_2) hi)
   cases h_3.st.obj _ _ _ hl hi' with
   | ds ha hk hv =>
    refine⟨i,_,strKind_is _ _ _ _,ha.mapOf,?_⟩
    rcases pairs_get hk hv i with ⟨q1,q2⟩|⟨v',x',q1,q2,q3⟩
    ·rw [q1,q2];exact PE.after x1 (PE.after x2 (PE.after x3 (by refine h_3.pe r_3 ?_ ?_ ?_<;>rfl)))
    ·rw [q1,q2];exact PE.after x1 (PE.after x2 (PE.after x3 (by refine h_3.pe q3 ?_ ?_ ?_<;>rfl)))
  ·rename_i hl
   obtain⟨i,hki,w6⟩:=asSome_eq w5
   cases w6
   have:=ofV_eq hki;subst this
   refine wpAny_dict_get2_heap (knd:=nestKind W.prog W.w) (by show A.units+1+10<cLine;have:=hr.a.units;omega) nm (hq.go e2 h_1 fun yv s2 a_2 h_2 r_2 x2=>hr'.go e3 h_2 fun zv s3 a_3 h_3 r_3 x3=>?_)
   obtain⟨ka,rfl⟩:=toV_ref r_2
   have r2':=h_2.st.mono x3 .none r_2
   have hi':=ads_more (a:=a_3) (ads_more (a:=a_2) hi)
   cases h_3.st.obj _ _ _ hl hi' with
   | dt g1 g2 g3 g4 g5 g6 g7 g8 =>
    refine⟨ka,i,_,rfl,nkey_is r2',dt_of g1 g2 g3 g4 g5 g6 g7,?_⟩
    rcases pairsH_get g6 g8 i with ⟨q1,q2⟩|⟨v',x',q1,q2,q3⟩
    ·rw [q1,q2];exact PE.after x1 (PE.after x2 (PE.after x3 (by refine h_3.pe r_3 ?_ ?_ ?_<;>rfl)))
    ·rw [q1,q2];exact PE.after x1 (PE.after x2 (PE.after x3 (by refine h_3.pe q3 ?_ ?_ ?_<;>rfl)))
  ·cases w5
theorem ints_vrs {ads:Ads} {h:Heap}:∀ {vs:List Value} {ns:List Int},IntsAre vs ns→VRs ads h (ns.map .int) vs
 | _,_,.nil=>.nil
 | _,_,.cons _ _ r=>.cons (.int _ _) (ints_vrs r)
theorem snd_cut {k kk:Nat} {m:Int} {cp sp:Pos} (hm:m=k) (hn:isName l=true) (hp:ESnd W gt n C names sc p l):ESnd W gt n C names sc (.cut p k) (.Subscript l (.Slice none (some (.Constant (.int m) kk cp)) none sp) pos):=by
 intro ρ H v H' he A env ads s hr
 obtain⟨x,H1,e1,he⟩:=bnd_eq he
 obtain⟨ns,rfl,he⟩:=asFrz_eq he
 obtain⟨hle,he⟩:=guardB_eq he
 cases he
 have hle:=of_decide_eq_true hle
 refine wpAny_Subscript_list_slice (hp.go e1 hr fun xv s1 a_1 h_1 r_1 x1=>evalPart_none_step (evalPart_some_step (wpAny_Constant_int ?_))) (by intro o r;cases l<;>first|rfl|cases hn)
 cases r_1 with
 | @frz t o vs n' _ ho hc hd hi hf =>
  have hlen:=hi.length
  refine⟨t,vs,none,some m,rfl,⟨o,ho,hc,n',hd⟩,fit_le (by simp at hlen;omega),.none,.int _ _,?_⟩
  have hI:=slice_ints_uptoW (vs:=vs.toList) hi (y:=m) (by omega)
  rw [hm] at hI ⊢
  simp only [Int.toNat_natCast,Array.toArray_toList] at hI
  obtain⟨T,hT⟩:∃ T:Shared,T={s1 with toks:=s1.toks+1}:=⟨_,rfl⟩
  have zt:=h_1.toks (s1.toks+1)
  have k2:∀ b o,s1.heap.get? b=some o→((s1.heap.push {cls:=.type "slice",data:=.fields #[.none,.int k s1.toks,.none]}).push {cls:=.type "list",data:=.seq (slicePick vs none (some (k:Int)) none)}).get? b=some o:=fun b o e=>Heap.get?_push_of_some _ (Heap.get?_push_of_some _ e)
  have n1:s1.heap.get? (s1.heap.objs.size+1)=none:=by
   cases q:s1.heap.get? (s1.heap.objs.size+1) with
   | none=>rfl
   | some o=>exact absurd (Heap.lt_size q) (Nat.not_lt.mpr (Nat.le_succ _))
  have hat:=Heap.get?_push_size (o:={cls:=.type "list",data:=.seq (slicePick vs none (some (k:Int)) none)}) (s1.heap.push {cls:=.type "slice",data:=.fields #[.none,.int k s1.toks,.none]}) rfl
  rw [Heap.size_push] at hat
  have z:=h_1.st.alloc (o:=.list ((ns.take k).map .int)) (p:=(s1.heap.objs.size+1,s1.heap.objs.size+1)) (s':={s1 with heap:=(s1.heap.push {cls:=.type "slice",data:=.fields #[.none,.int k s1.toks,.none]}).push {cls:=.type "list",data:=.seq (slicePick vs none (some (k:Int)) none)},toks:=s1.toks+1})
   k2 n1 n1 rfl rfl (.list (n:=0) hat (ints_vrs hI))
  have hix:(ads++a_1++[(s1.heap.objs.size+1,s1.heap.objs.size+1)])[H1.length]?=some (s1.heap.objs.size+1,s1.heap.objs.size+1):=by rw [←h_1.st.len];simp
  exact PE.after x1 ⟨_,z.1,.obj hix,z.2⟩
theorem snd_sorted (O:W.Ok tb gt mg mb) {np:Pos} (hg:globalAs sc (sO "sorted")=true) (hs:notStar l=true) (hp:ESnd W gt n C names sc p l):ESnd W gt n C names sc (.sorted p) (.Call (.Name (sO "sorted") np) [l] [] pos):=by
 intro ρ H v H' he A env ads s hr
 obtain⟨x,H1,e1,he⟩:=bnd_eq he
 obtain⟨o,rfl,he⟩:=asObj_eq he
 obtain⟨ll,hl,he⟩:=asDi_eq he
 obtain⟨hle,he⟩:=guardB_eq he
 cases he
 have hle:=of_decide_eq_true hle
 refine name_call1 hr O hg (O.blt _ _ (.tail _ (.head _))) hs ?_
 refine callWith_builtin rfl (evalArgs_plain (spliced_cons (hp.go e1 hr fun xv s1 a_1 h_1 r_1 x1=>spliced_nil ?_)))
 show wpAny _ _ (call (.builtin "sorted") [xv]) _ _ _
 cases r_1 with
 | @obj _ pp hi =>
  cases h_1.st.obj _ _ _ hl hi with
  | @di aL kvs _ ha hk hv =>
   have hlen:=congrArg List.length hk
   simp only [lM] at hlen
   obtain⟨oD,es,ep,ho,hc,hd,r⟩:=ha
   refine sorted_dict (kvs:=kvs) (h_1.st.not_mods O.low hi) hr.a.hh ⟨oD,es,ho,hc,hd,r⟩ (by unfold limit at hle;omega) (by rw [hk,hlen];exact hle.2) fun s2 D out ns' e hD hkp hg ho' hat hI hperm hsort=>?_
   rw [hk] at hperm
   have e1:ns'=(ll.map (·.1)).mergeSort (fun a b=>decide (a≤b)):=by
    refine List.Perm.eq_of_pairwise (le:=fun a b:Int=>a≤b) (fun a b _ _ h1 h2=>Int.le_antisymm h1 h2) hsort ?_ (hperm.trans (List.mergeSort_perm _ _).symm)
    have:=List.pairwise_mergeSort (le:=fun a b:Int=>decide (a≤b)) (by intro a b c h1 h2;simp at *;omega) (by intro a b;simp;omega) (ll.map (·.1))
    exact this.imp fun h=>of_decide_eq_true h
   subst e1
   have z:=h_1.st.alloc (o:=.list (((ll.map (·.1)).mergeSort (fun a b=>decide (a≤b))).map .int)) (p:=(D,D)) (s':=s2) hkp hD hD hg ho' (.list hat (ints_vrs hI))
   have hix:(ads++a_1++[(D,D)])[H1.length]?=some (D,D):=by rw [←h_1.st.len];simp
   exact PE.after x1 ⟨_,z.1,.obj hix,z.2⟩
end
structure Setup.OkT (W:Setup) (mg:Str→Option Value):Prop where
 tid:∃ td kvs,mg (sO "TID_PRIM")=some (.ref td)∧(td==sysModules)=false∧W.g.DictOf W.ik td kvs∧kvs.map (·.1)=[20,9,10,11,12,13,14,15,16,17,18,19,1,4]
theorem valueAt_some {K:Type} [DecidableEq K]:∀ (kvs:List (K×Value)) (i:K),(valueAt kvs i).isSome=decide (i∈kvs.map (·.1))
 | [],i=>by simp [valueAt]
 | p::kvs,i=>by
  have ih:=valueAt_some kvs i
  unfold valueAt at ih ⊢
  rw [List.find?_cons]
  by_cases e:p.1=i
  ·rw [decide_eq_true e];simp [e]
  ·rw [decide_eq_false e]
   have e':¬ i=p.1:=fun h=>e h.symm
   simp only [mC,mK,e',false_or]
   exact ih
theorem stored_end {K:Type} [DecidableEq K] {acc:List (K×Value)} {k:K} {v:Value} (h:k∉acc.map (·.1)):stored acc k v=acc++[(k,v)]:=by
 unfold stored
 rw [if_neg]
 intro q
 rw [List.any_eq_true] at q
 obtain⟨x,hx,hk⟩:=q
 exact h (mM.mpr ⟨x,hx,of_decide_eq_true hk⟩)
theorem merged_all {K:Type} [DecidableEq K]:∀ (kvs acc:List (K×Value)),((acc++kvs).map (·.1)).Nodup→merged acc kvs=acc++kvs
 | [],acc,_=>by simp [merged]
 | p::kvs,acc,h=>by
  have hp:p.1∉acc.map (·.1):=by
   intro hm
   rw [mP,nD] at h
   exact h.2.2 _ hm _ (by simp) rfl
  show merged (stored acc p.1 p.2) kvs=_
  rw [stored_end hp,merged_all kvs (acc++[(p.1,p.2)]) (by simpa [aA] using h)]
  simp [aA]
section
variable {W:Setup} {tb:Tab} {gt:List V} {mg mb:Str→Option Value} {n:Nat} {C:CallF} {names:List Str} {sc:Scope} {A:Around} {env:Env} {ads a b:Ads} {H H1 H2 H':Hp} {s s' s1 s2:Shared} {ρ ρ1 ρ2 ρ':Rho} {v x:V} {p q r:E} {l e e_2:Expr} {pos apos:Pos}
theorem tid_core (O:W.Ok tb gt mg mb) (T:W.OkT mg) {np:Pos} {i:Int} {t:Tok} (hr:Here W n names sc ρ A env ads H s) (hg:globalAs sc (sO "TID_PRIM")=true) {Q:Value→Shared→Prop}
  (k:∀ b tk,b=([20,9,10,11,12,13,14,15,16,17,18,19,1,4]:List Int).contains i→Q (.bool b) {s with toks:=tk}) :
  wpAny W.M A (eval (.Name (sO "TID_PRIM") np) env) (fun b s2=>wpAny W.M A (compareOp .In (.int i t) b) Q no' s2) no' s:=by
 obtain⟨td,kvs,h1,h2,⟨o,es,ep,ho,r⟩,h4⟩:=T.tid
 refine hr.glob O hg h1 ?_
 have hd:s.heap.DictOf W.ik td kvs:=⟨o,es,ep,hr.st.base _ _ ho,r⟩
 refine wpAny_in_of (intKind_is _ _ _ _) h2 hd.mapOf (k _ _ ?_)
 rw [valueAt_some,h4]
 simp
theorem snd_inTid (O:W.Ok tb gt mg mb) (T:W.OkT mg) {np:Pos} (hg:globalAs sc (sO "TID_PRIM")=true) (hp:ESnd W gt n C names sc p l):ESnd W gt n C names sc (.inTid p) (.Compare l [.In] [.Name (sO "TID_PRIM") np] pos):=by
 intro ρ H v H' he A env ads s hr
 obtain⟨x,H1,e1,he⟩:=bnd_eq he
 obtain⟨i,hx,he2⟩:=asInt_eq he
 subst hx
 cases he2
 refine wpAny_Compare1 (hp.go e1 hr fun xv s1 a_1 h_1 r_1 x1=>?_) rfl
 cases r_1
 exact tid_core O T h_1 hg fun b tk hb=>by subst hb;exact PE.after x1 (by refine h_1.pe (VR.bool _) ?_ ?_ ?_<;>rfl)
theorem tr_inTid (O:W.Ok tb gt mg mb) (T:W.OkT mg) {np:Pos} (hg:globalAs sc (sO "TID_PRIM")=true) (hp:ESnd W gt n C names sc p l):TrSnd W gt n C names sc (.inTid p) (.Compare l [.In] [.Name (sO "TID_PRIM") np] pos):=by
 intro ρ H v H' he A env ads s hr Q k
 obtain⟨x,H1,e1,he⟩:=bnd_eq he
 obtain⟨i,hx,he2⟩:=asInt_eq he
 subst hx
 cases he2
 refine wpAny_isTrue_Compare1 (hp.go e1 hr fun xv s1 a_1 h_1 r_1 x1=>?_) rfl
 cases r_1
 refine tid_core O T h_1 hg fun b tk hb=>?_
 subst hb
 have z:=h_1.toks tk
 exact truthy_bool (k _ (a_1++[]) (by rw [aN];exact z.1) (x1.tr z.2))
def keyOk (p:Option Expr×Str):Bool:=match p.1 with
 | some (.Constant (.str x) _ _)=>x==p.2
 | _=>false
theorem keyOk_eq {p:Option Expr×Str} (h:keyOk p=true):∃ kk cp,p.1=some (.Constant (.str p.2) kk cp):=by
 unfold keyOk at h
 split at h
 ·rename_i x kk cp e
  rw [←eq_of_beq h]
  exact⟨kk,cp,e⟩
 ·cases h
def EachSnd (W:Setup) (gt:List V) (n:Nat) (C:CallF) (names:List Str) (sc:Scope):List E→List Expr→Prop
 | [],[]=>True
 | p::ps,e::es=>ESnd W gt n C names sc p e∧EachSnd W gt n C names sc ps es
 | _,_=>False
theorem EachSnd.ess:∀ {ps:List E} {es:List Expr},EachSnd W gt n C names sc ps es→(∀ e∈es,notStar e=true)→EsSnd W gt n C names sc ps es
 | [],[],_,_=>ess_nil
 | _::_,_::_,h,hs=>ess_cons (hs _ (.head _)) h.1 (EachSnd.ess h.2 fun x hx=>hs x (.tail _ hx))
 | [],_::_,h,_=>h.elim
 | _::_,[],h,_=>h.elim
theorem pairs_snd:∀ {ps:List E} {es:List Expr} {ks:List (Option Expr)} {nms:List Str} {vs:List V} {H H':Hp} {ads:Ads} {s:Shared},EachSnd W gt n C names sc ps es→ks.length=ps.length→nms.length=ps.length→((ks.zip nms).all keyOk)=true →
  evalEs gt C ρ ps H=some (vs,H')→Here W n names sc ρ A env ads H s→∀ {Q:List (Value×Value)→Shared→Prop},
  (∀ r s1 a_1 kvs,Carries W.sk r kvs→kvs.map (·.1)=nms→VRs (ads++a_1) s1.heap vs (kvs.map (·.2))→Here W n names sc ρ A env (ads++a_1) H' s1→Ext none' ads s s1 a_1→Q r s1) →
  wpAny W.M A (evalPairs (pairTrees ks es env pos)) Q no' s
 | [],[],[],[],vs,H,H',ads,s,_,_,_,_,he,hr,Q,k=>by
  cases he
  exact pairTrees_nil_walk (k [] s [] [] trivial rfl .nil hr.nil (.refl _ _))
 | p::ps,e::es,ky::ks,nm::nms,vs,H,H',ads,s,hs,h1,h2,h3,he,hr,Q,k=>by
  simp only [zC,List.all_cons,Bool.and_eq_true] at h3
  obtain⟨kk,cp,hk⟩:=keyOk_eq h3.1
  simp only at hk
  subst hk
  obtain⟨x,H1,e1,w1⟩:=bnd_eq he
  obtain⟨xs,H2,e2,w2⟩:=bnd_eq w1
  cases w2
  have zt:=hr.toks (s.toks+1)
  refine pairTrees_cons_walk (wpAny_Constant_str (hs.1.go e1 zt.1 fun xv s1 a_1 h_1 r_1 x1=>pairs_snd hs.2 (by simpa using h1) (by simpa using h2) h3.2 e2 h_1 fun r s2 a_2 kvs c1 c2 c3 h_2 x2=>?_))
  have x1':Ext none' ads s s1 a_1:=by
   have y:Ext none' (ads++[]) {s with toks:=s.toks+1} s1 a_1:=by rw [aN];exact x1
   have:=zt.2.tr y
   simpa using this
  exact k _ s2 (a_1++a_2) ((nm,xv)::kvs) ⟨strKind_is _ _ _ _,rfl,c1⟩ (by rw [mC,c2]) (by rw [←aA];exact .cons (h_1.st.mono x2 .none r_1) c3) h_2.trans1 (x1'.tr x2)
 | [],_::_,_,_,_,_,_,_,_,h,_,_,_,_,_,_,_=>h.elim
 | _::_,[],_,_,_,_,_,_,_,h,_,_,_,_,_,_,_=>h.elim
 | [],[],_::_,_,_,_,_,_,_,_,h,_,_,_,_,_,_=>by simp at h
 | [],[],[],_::_,_,_,_,_,_,_,_,h,_,_,_,_,_=>by simp at h
 | _::_,_::_,[],_,_,_,_,_,_,_,h,_,_,_,_,_,_=>by simp at h
 | _::_,_::_,_::_,[],_,_,_,_,_,_,_,h,_,_,_,_,_=>by simp at h
theorem zip_take {α β:Type}:∀ (ks:List α) (l:List β),ks.zip (l.take ks.length)=ks.zip l
 | [],l=>by simp
 | k::ks,[]=>by simp
 | k::ks,x::l=>by simp [zip_take ks l]
theorem keys_some:∀ {ks:List (Option Expr)} {l:List Str},ks.length≤l.length→(ks.zip l).all keyOk=true→ks.all (·.isSome)=true
 | [],_,_,_=>rfl
 | k::ks,[],h,_=>by simp at h
 | k::ks,x::l,h,hk=>by
  simp only [zC,List.all_cons,Bool.and_eq_true] at hk ⊢
  refine⟨?_,keys_some (by simpa using h) hk.2⟩
  obtain⟨kk,cp,e⟩:=keyOk_eq hk.1
  simp only at e
  rw [e];rfl
theorem snd_wd (O:W.Ok tb gt mg mb) {ps:List E} {es:List Expr} {ks:List (Option Expr)} (h0:ps≠[]) (hkl:ks.length=ps.length) (h15:ps.length≤15) (hwl:ps.length≤tb.wks.length) (hk:((ks.zip tb.wks).all keyOk)=true) (hel:ps.length=es.length)
  (hs:EachSnd W gt n C names sc ps es):ESnd W gt n C names sc (.wd ps) (.Dict ks es pos):=by
 intro ρ H v H' he A env ads s hr
 obtain⟨vs,H1,e1,w1⟩:=bnd_eq he
 obtain⟨wl,hw,w2⟩:=asWd_eq w1
 obtain⟨hem,w3⟩:=guardB_eq w2
 cases w3
 have hz:wl=[]:=by simpa using hem
 subst hz
 have hnl:(tb.wks.take ps.length).length=ps.length:=by rw [lT];omega
 have hkz:ks.zip (tb.wks.take ps.length)=ks.zip tb.wks:=by rw [←hkl];exact zip_take _ _
 refine wpAny_Dict_walk (knd:=W.sk) ?_ (by omega) ?_ (by omega) ?_
 ·exact keys_some (by omega) hk
 ·intro q;rw [q] at hkl;exact h0 (List.length_eq_zero_iff.mp hkl.symm)
 ·have z:=hr.st.alloc (o:=.wd []) (p:=(s.heap.objs.size,s.heap.objs.size)) (s':={s with heap:=s.heap.push {cls:=.type "dict",data:=.dict #[]}}) (fun b o e=>Heap.get?_push_of_some _ e) (get_size _) (get_size _) rfl rfl
   (.wd (DictOf.new _ _) rfl (Nat.zero_le _) .nil)
  have hr1:Here W n names sc ρ A env (ads++[(s.heap.objs.size,s.heap.objs.size)]) (H++[.wd []]) {s with heap:=s.heap.push {cls:=.type "dict",data:=.dict #[]}}:=hr.ext z.1 z.2
  refine pairs_snd hs hkl hnl (by rw [hkz];exact hk) e1 hr1 fun r s1 a_1 kvs c1 c2 c3 h_1 x1=>?_
  have hix:(ads++[(s.heap.objs.size,s.heap.objs.size)]++a_1)[H.length]?=some (s.heap.objs.size,s.heap.objs.size):=by
   refine ads_more ?_
   rw [←hr.st.len];simp
  cases h_1.st.obj _ _ _ hw hix with
  | @wd _ kvs0 _ hd0 hk0 _ _ =>
   have hkn:kvs0=[]:=by simpa using hk0
   subst hkn
   refine⟨kvs,c1,hd0,fun h' hd' hs'=>?_⟩
   have hnd:(kvs.map (·.1)).Nodup:=by rw [c2];exact (tS _ _).nodup O.wnd
   rw [merged_all kvs [] (by simpa using hnd),nA] at hd'
   have hvl:vs.length=ps.length:=evalEs_length e1
   have z_2:=h_1.st.update (s':={s1 with heap:=h',toks:=s1.toks+r.length}) (o:=.wd vs) hix (fun b o hb _ e=>(hs'.2 b hb).trans e) rfl rfl fun mon =>
    .wd hd' (by rw [c2,O.wks,hvl]) (by rw [O.wks,hvl];exact hwl) (mon _ _ c3)
   refine PE.after z.2 (PE.after x1 ⟨[],by rw [aN];exact z_2.1,.obj (ads_more hix),z_2.2⟩)
end
theorem closure_ok {env:Env}:∀ (names:List (Str×NameKind)) (acc:List (Str×Addr)),(∀ x∈names,x.2=.free→∃ c,env.cells.lookup x.1=some c)→(∀ p∈acc,env.cells.lookup p.1=some p.2) →
  ∃ cl,(forIn (m:=Sem) names acc fun x r=>if (x.2==NameKind.free)=true then do let a ←cellOf env x.1;pure (ForInStep.yield ((x.1,a)::r)) else pure (ForInStep.yield r))=pure cl∧(∀ p∈cl,env.cells.lookup p.1=some p.2) ∧
   (∀ p∈acc,p∈cl)∧∀ x∈names,x.2=.free→∃ c,(x.1,c)∈cl
 | [],acc,_,ha=>⟨acc,rfl,ha,fun _ h=>h,fun _ h=>nomatch h⟩
 | (n,k)::r,acc,hn,ha=>by
  have pb:∀ {α β:Type} (a:α) (f:α→Sem β),(pure a >>= f)=f a:=fun _ _=>rfl
  rw [List.forIn_cons]
  cases hk:k==NameKind.free with
  | true =>
   have hk':k=.free:=by simpa using hk
   obtain⟨c,hc⟩:=hn (n,k) (.head _) hk'
   have e:cellOf env n=pure c:=by unfold cellOf;rw [hc]
   simp only [hk,if_true,e,pb]
   obtain⟨cl,h1,h2,h3,h4⟩:=closure_ok r ((n,c)::acc) (fun x hx=>hn x (.tail _ hx)) fun p hp=>by
    rcases mK.mp hp with rfl|hp
    ·exact hc
    ·exact ha p hp
   refine⟨cl,h1,h2,fun p hp=>h3 p (.tail _ hp),fun x hx hf=>?_⟩
   rcases mK.mp hx with rfl|hx
   ·exact⟨c,h3 _ (.head _)⟩
   ·exact h4 x hx hf
  | false =>
   simp only [hk,Bool.false_eq_true,if_false,pb]
   obtain⟨cl,h1,h2,h3,h4⟩:=closure_ok r acc (fun x hx=>hn x (.tail _ hx)) ha
   refine⟨cl,h1,h2,h3,fun x hx hf=>?_⟩
   rcases mK.mp hx with rfl|hx
   ·simp only at hf;rw [hf] at hk;simp at hk
   ·exact h4 x hx hf
theorem mem_lookup_some {α:Type}:∀ {l:List (Str×α)} {n:Str} {c:α},(n,c)∈l→∃ c',l.lookup n=some c'
 | p::r,n,c,h=>by
  rw [kC]
  cases e:n==p.1 with
  | true=>exact⟨_,rfl⟩
  | false =>
   rcases mK.mp h with rfl|h
   ·simp at e
   ·exact mem_lookup_some h
theorem closureFor_ok {scope:Scope} {env:Env} (h:∀ x∈scope.names,x.2=.free→∃ c,env.cells.lookup x.1=some c) :
  ∃ cl,closureFor scope env=pure cl∧∀ x∈scope.names,x.2=.free→cl.lookup x.1=env.cells.lookup x.1:=by
 obtain⟨cl,h1,h2,_,h4⟩:=closure_ok scope.names [] h fun _ hp=>nomatch hp
 refine⟨cl,?_,fun x hx hf=>?_⟩
 ·unfold closureFor
  have:(forIn (m:=Sem) scope.names ([]:List (Str×Addr)) fun x r=>match x with|(name,kind)=>if (kind==NameKind.free)=true then do let a ←cellOf env name;pure (ForInStep.yield ((name,a)::r)) else pure (ForInStep.yield r))=pure cl:=h1
  show ((forIn (m:=Sem) scope.names ([]:List (Str×Addr)) fun x r=>match x with|(name,kind)=>if (kind==NameKind.free)=true then do let a ←cellOf env name;pure (ForInStep.yield ((name,a)::r)) else pure (ForInStep.yield r)) >>= fun s=>pure s)=pure cl
  rw [this]
  rfl
 ·obtain⟨c,hc⟩:=h4 x hx hf
  obtain⟨c',hc'⟩:=mem_lookup_some hc
  rw [hc',h2 _ (mem_of_lookup hc')]
theorem relabel_glob {env:Env}:∀ {names:List (Str×NameKind)} {x:Str} {kd:NameKind},names.lookup x=some kd→kd≠.free →
  (names.map fun (n,k)=>if (k==NameKind.free&&env.scope.kind==.function&&env.kindOf n==some .cell) then (n,NameKind.cell) else (n,k)).lookup x=some kd
 | [],_,_,h,_=>by simp at h
 | (n,k)::r,x,kd,h,hf=>by
  have ih:=@relabel_glob env r x kd
  show List.lookup x ((if (k==NameKind.free&&env.scope.kind==.function&&env.kindOf n==some .cell)=true then (n,NameKind.cell) else (n,k))::_)=_
  cases hx:x==n with
  | true =>
   simp only [kC,hx] at h
   cases h
   have:(k==NameKind.free)=false:=by simpa using hf
   rw [this];simp [kC,hx]
  | false =>
   simp only [kC,hx] at h
   by_cases hc:(k==NameKind.free&&env.scope.kind==.function&&env.kindOf n==some .cell)=true
   ·rw [if_pos hc];simp only [kC,hx];exact ih h hf
   ·rw [if_neg hc];simp only [kC,hx];exact ih h hf
theorem relabel_free {env:Env} (hk:env.scope.kind=.function):∀ {names:List (Str×NameKind)} {x:Str},names.lookup x=some .free→env.kindOf x=some .cell →
  (names.map fun (n,k)=>if (k==NameKind.free&&env.scope.kind==.function&&env.kindOf n==some .cell) then (n,NameKind.cell) else (n,k)).lookup x=some .cell
 | [],_,h,_=>by simp at h
 | (n,k)::r,x,h,hf=>by
  have ih:=@relabel_free env hk r x
  show List.lookup x ((if (k==NameKind.free&&env.scope.kind==.function&&env.kindOf n==some .cell)=true then (n,NameKind.cell) else (n,k))::_)=_
  cases hx:x==n with
  | true =>
   simp only [kC,hx] at h
   cases h
   have e:x=n:=by simpa using hx
   subst e
   have:(NameKind.free==NameKind.free&&env.scope.kind==.function&&env.kindOf x==some .cell)=true:=by rw [hk,hf];rfl
   rw [if_pos this];simp [kC]
  | false =>
   simp only [kC,hx] at h
   by_cases hc:(k==NameKind.free&&env.scope.kind==.function&&env.kindOf n==some .cell)=true
   ·rw [if_pos hc];simp only [kC,hx];exact ih h hf
   ·rw [if_neg hc];simp only [kC,hx];exact ih h hf
section
variable {W:Setup} {tb:Tab} {gt:List V} {mg mb:Str→Option Value} {n:Nat} {C:CallF} {names caps:List Str} {sc isc:Scope} {A:Around} {env:Env} {ads a b:Ads} {H H1 H2 H':Hp} {s s' s1 s2:Shared} {ρ ρ1 ρ2 ρ':Rho} {v x:V} {p q r:E} {l e e_2:Expr} {pos apos:Pos} {I:Addr}
structure CompOk (sc isc:Scope) (caps targets:List Str):Prop where
 kind:isc.kind=.function
 nocell:∀ x∈isc.names,x.2≠.cell
 loc:∀ x∈isc.names,x.2=.local→isc.names.lookup x.1=some .local
 free:∀ x∈isc.names,x.2=.free→isc.names.lookup x.1=some .free∧x.1∈caps
 caps:∀ x∈caps,sc.names.lookup x=some .cell∧isc.names.lookup x=some .free
 tgs:∀ x∈targets,isc.names.lookup x=some .local
theorem CompOk.of {targets:List Str} (h:compScope sc isc caps targets=true):CompOk sc isc caps targets:=by
 simp only [compScope,Bool.and_eq_true,List.all_eq_true,Bool.or_eq_true,bne_iff_ne,ne_eq,beq_iff_eq,kindIn,Bool.not_eq_true'] at h
 obtain⟨⟨⟨⟨⟨h1,h2⟩,h3⟩,h4⟩,_⟩,_⟩:=h
 refine⟨h1,fun x hx=>(h2 x hx).1.2,fun x hx hl=>?_,fun x hx hf=>?_,fun x hx=>(h3 x hx).1,fun x hx=>(h4 x hx).1⟩
 ·rcases (h2 x hx).1.1 with h|h
  ·exact absurd hl h
  ·exact h
 ·rcases (h2 x hx).2 with h|h
  ·exact absurd hf h
  ·exact⟨h.1,by simpa using h.2⟩
end
theorem mapM_get {α β:Type} {f:α→Option β}:∀ {l:List α} {r:List β},l.mapM f=some r→l.length=r.length∧∀ (i:Nat) a,l[i]?=some a→∃ b,r[i]?=some b∧f a=some b:=by
 intro l
 induction l with
 | nil=>intro r h;simp at h;subst h;exact⟨rfl,fun i a h=>by simp at h⟩
 | cons x l ih =>
  intro r h
  rcases mapM_some h with ⟨q,_⟩|⟨_,_,y,r',q,rfl,e1,e2⟩
  ·cases q
  ·cases q
   obtain⟨h1,h2⟩:=ih e2
   refine⟨congrArg (·+1) h1,fun i a h=>?_⟩
   cases i with
   | zero=>simp at h;subst h;exact⟨y,rfl,e1⟩
   | succ i=>simpa using h2 i a (by simpa using h)
section
variable {W:Setup} {tb:Tab} {gt:List V} {mg mb:Str→Option Value} {n:Nat} {C:CallF} {names caps ts:List Str} {sc isc:Scope} {A:Around} {env:Env} {ads a b:Ads} {H H1 H2 H':Hp} {s s' s1 s2:Shared} {ρ ρ1 ρ2 ρ':Rho} {v x:V} {p q r:E} {l e e_2:Expr} {pos apos:Pos} {I L:Addr} {cap:List Nat} {cl:List (Str×Addr)}
abbrev rho0 (ρ:Rho) (cap:List Nat) (k:Nat):Rho:=cap.map (fun i=>(ρ[i]?).join)++List.replicate k none
def CellsOk' (W:Setup) (caps:List Str) (cap:List Nat) (isc:Scope) (env:Env) (cl:List (Str×Addr)) (ρ:Rho) (ads:Ads) (h:Heap):Prop :=
 ∀ (i:Nat) (k:Nat) (v:V),cap[i]?=some k→(ρ[k]?).join=some v→∃ x w c,caps[i]?=some x∧VR ads h v w∧(∀ L,(compEnvC isc cl L env).kindOf x=some .cell)∧cl.lookup x=some c∧h.IsCell c (some w)∧¬ foot ads c
theorem comp_env (hr:Here W n names sc ρ A env ads H s) (hcap:cap.mapM (names[·]?)=some caps) (hall:(cap.all fun i=>(ρ[i]?).join.isSome)=true) (K:CompOk sc isc caps ts) :
  ∃ cl,closureFor isc env=pure cl∧CellsOk' W caps cap isc env cl ρ ads s.heap:=by
 obtain⟨hl,hg⟩:=mapM_get hcap
 have cellOf':∀ (i k:Nat) (v:V),cap[i]?=some k→(ρ[k]?).join=some v→∃ x w c,caps[i]?=some x∧VR ads s.heap v w∧env.cells.lookup x=some c∧s.heap.IsCell c (some w)∧¬ foot ads c:=by
  intro i k v hi hv
  obtain⟨x,hx,hnx⟩:=hg i k hi
  obtain⟨y,w,hy,hw,hL⟩:=hr.r k v hv
  rw [hnx] at hy;cases hy
  have hkc:=hr.sc.cell _ (K.caps _ (mG hx)).1
  cases hL with
  | loc h1 _ _ _=>rw [hkc] at h1;cases h1
  | cell h1 h2 h3 h4=>exact⟨_,w,_,hx,hw,h2,h3,h4⟩
  | free h1 _ _ _=>rw [hkc] at h1;cases h1
 have hfree:∀ x∈isc.names,x.2=.free→∃ c,env.cells.lookup x.1=some c:=by
  intro x hx hf
  obtain⟨i,hi⟩:=gO (K.free x hx hf).2
  have hlt:i<cap.length:=by rw [hl];exact (gS.mp hi).1
  have hsome:=(List.all_eq_true.mp hall) cap[i] (List.getElem_mem hlt)
  obtain⟨v,hv⟩:=Option.isSome_iff_exists.mp hsome
  obtain⟨y,w,c,hy,_,hc,_⟩:=cellOf' i cap[i] v (gE hlt) hv
  rw [hi] at hy;cases hy
  exact⟨c,hc⟩
 obtain⟨cl,h1,h2⟩:=closureFor_ok hfree
 refine⟨cl,h1,fun i k v hi hv=>?_⟩
 obtain⟨x,w,c,hx,hw,hc,hce,hcf⟩:=cellOf' i k v hi hv
 have hk:=K.caps _ (mG hx)
 refine⟨x,w,c,hx,hw,fun L=>?_,?_,hce,hcf⟩
 ·exact relabel_free hr.e.fn hk.2 (hr.sc.cell _ hk.1)
 ·rw [←hc];exact h2 (x,.free) (mem_of_lookup hk.2) rfl
theorem comp_here (hr:Here W n names sc ρ A env ads H s) (K:CompOk sc isc caps ts) (hcap:cap.mapM (names[·]?)=some caps) (hnd:(caps++ts).Nodup) (hcl:CellsOk' W caps cap isc env cl ρ ads s.heap) (S:St W (ads++b) H1 s1) (x:Ext none' ads s s1 b)
  (hL:s.heap.get? L=none) (hN:s1.heap.Ns L fun _=>none) (hf:¬ foot (ads++b) L) (k:Nat):HereS W n (caps++ts) isc (rho0 ρ cap k) A (compEnvC isc cl L env) (ads++b) H1 s1:=by
 obtain⟨hl,hg⟩:=mapM_get hcap
 refine⟨hr.a,⟨K.kind,hr.e.gl,hr.e.bl⟩,⟨fun y h=>lookup_relabel_local h,fun y h=>relabel_glob h (by decide),fun y h=>absurd rfl (K.nocell _ (mem_of_lookup h))⟩,⟨_,hN,hf,fun i v hv=>?_⟩,S,base_none hr.st hL,hnd⟩
 have hlt:i<cap.length:=by
  rcases Nat.lt_or_ge i cap.length with h|h
  ·exact h
  ·rw [gR (by simpa using h)] at hv
   simp only [List.getElem?_replicate] at hv
   split at hv<;>cases hv
 rw [gL (by simpa using hlt),gM,gE hlt] at hv
 have hv':(ρ[cap[i]]?).join=some v:=by simpa using hv
 obtain⟨y,w,c,h1,h2,h3,h4,⟨oc,hoc,rc⟩,h6⟩:=hcl i cap[i] v (gE hlt) hv'
 refine⟨y,w,by rw [gL (by rw [←hl];exact hlt)];exact h1,hr.st.mono x .none h2,.inr ⟨.inl (h3 L),c,h4,⟨oc,x.keep _ _ hoc h6 id,rc⟩,not_foot_ext x hoc h6⟩⟩
def CompEnd (W:Setup) (ads:Ads) (s:Shared) (L:Addr) (acc:Value) (i:Nat) (H':Hp) (s':Shared):Prop :=
 ∃ b D m,acc=.ref D∧St W (ads++b) H' s'∧Ext none' ads s s' b∧(ads++b)[i]?=some (D,D)∧s'.heap.Ns L m∧¬ foot (ads++b) L∧s.heap.get? L=none
abbrev turnC (gt:List V) (C:CallF) (ρ0:Rho) (i:Nat) (acc:Nat) (elt:E) (cond:List E):Turn Unit:=fun v _ H' =>
 asSome (setTarget ρ0 [i] v) fun ρ'=>match cond with
  | []=>bnd (evalE gt C ρ' elt H') fun y H'=>asSome (pushL H' acc y) fun H'=>some ((none,()),H')
  | c::_=>bnd (evalE gt C ρ' c H') fun b H'=>asBool b fun b=>match b with
   | true=>bnd (evalE gt C ρ' elt H') fun y H'=>asSome (pushL H' acc y) fun H'=>some ((none,()),H')
   | false=>some ((none,()),H')
end
section
variable {W:Setup} {tb:Tab} {gt:List V} {mg mb:Str→Option Value} {n:Nat} {C:CallF} {names caps ts:List Str} {sc isc:Scope} {A:Around} {env:Env} {ads a b:Ads} {H H1 H2 H':Hp} {s s' s1 s2 s4:Shared} {ρ ρ1 ρ2 ρ':Rho} {v x:V} {p q r elt:E} {l e e_2 iter:Expr} {pos apos:Pos} {I L D:Addr} {cap:List Nat} {cl:List (Str×Addr)}
theorem HereS.sub (h:HereS W n names sc ρ1 A env ads H s) (hs:∀ (i:Nat) v,(ρ2[i]?).join=some v→(ρ1[i]?).join=some v):HereS W n names sc ρ2 A env ads H s:=by
 obtain⟨m,h1,h2,h3⟩:=h.f
 exact⟨h.a,h.e,h.sc,⟨m,h1,h2,fun i v hv=>h3 i v (hs i v hv)⟩,h.st,h.low,h.nd⟩
theorem rho0_none {k:Nat}:((rho0 ρ cap k)[cap.length]?).join=none:=by
 rw [gR (by simp)]
 simp only [lM,Nat.sub_self,List.getElem?_replicate]
 split<;>rfl
theorem sub_set {ρ0:Rho} {i:Nat} (hn:(ρ0[i]?).join=none):∀ (j:Nat) w,(ρ0[j]?).join=some w→((ρ0.set i (some v))[j]?).join=some w:=by
 intro j w hw
 by_cases e:i=j
 ·subst e;rw [hn] at hw;cases hw
 ·rw [List.getElem?_set_ne e];exact hw
def CondSnd (W:Setup) (gt:List V) (n:Nat) (C:CallF) (names:List Str) (sc:Scope) (cond:List E) (ifs:List Expr):Prop :=
 (cond=[]∧ifs=[])∨∃ c g,cond=[c]∧ifs=[g]∧TrSnd W gt n C names sc c g
theorem emit_snd {acc:Nat} {y:V} {H3 H_4:Hp} {Q:Shared→Prop} {E:Value→Shared→Prop} (hE:ESnd W gt n C names sc elt e) (hacc:ads[acc]?=some (D,D)) (e1:evalE gt C ρ elt H=some (y,H3)) (e2:pushL H3 acc y=some H_4)
  (hr:HereS W n names sc ρ A env ads H s) (k:∀ s1 a_1,HereS W n names sc ρ A env (ads++a_1) H_4 s1→Ext none' ads s s1 a_1→Q s1) :
  wpAny W.M A (eval e env) (fun x s4=>wpAny W.M A (call (.builtin "list.append") [.ref D,x]) (fun _ s5=>Q s5) E s4) E s:=by
 refine wpAny_mono (hE.goS e1 hr (Q:=fun xv s1=>∃ a_1,HereS W n names sc ρ A env (ads++a_1) H3 s1∧VR (ads++a_1) s1.heap y xv∧Ext none' ads s s1 a_1) fun xv s1 a_1 h_1 r_1 x1=>⟨a_1,h_1,r_1,x1⟩) (fun xv s1 ⟨a_1,h_1,r_1,x1⟩=>?_) fun _ _ f=>f.elim
 refine wpAny_mono (push_snd (Q:=fun _ s2=>Q s2) h_1.st e2 (ads_more hacc) r_1 fun s2 S2 x2=>k s2 a_1 (h_1.upd S2 x2) ?_) (fun _ _ q=>q) fun _ _ f=>f.elim
 have x2':Ext none' (ads++a_1) s1 s2 []:=x2
 have:=x1.tr x2'
 rwa [aN] at this
theorem comp_loop {tn:Str} {px:Pos} {ifs:List Expr} {cond:List E} {o acc:Nat} {pp:Addr×Addr} {R:Result→Shared→Prop} (hE:ESnd W gt n C (caps++[tn]) isc elt e) (hC:CondSnd W gt n C (caps++[tn]) isc cond ifs)
  (hb:bindsAs (caps++[tn]) isc cap.length tn=true) (hr:St W ads H s) (hi:ads[o]?=some pp) (hL:s.heap.get? L=none) (hI:s.heap.get? I=none) (hIL:I≠L) (k:Nat)
  (ev:liveItems (turnC gt C (rho0 ρ cap 1) cap.length acc elt cond) o k 0 () H1=some ((none,()),H')) (h_4:HereS W n (caps++[tn]) isc (rho0 ρ cap 1) A (compEnvC isc cl L env) (ads++b) H1 s4) (x4:Ext none' ads s s4 b)
  (hacc:(ads++b)[acc]?=some (D,D)) (hit:s4.heap.IsListIter I pp.1 0) (hf:¬ foot (ads++b) I) (hR:∀ s',CompEnd W ads s L (.ref D) acc H' s'→R (.ok .next) s') :
  codeAny W.M A (.compLoop (.ListComp e [⟨.Name tn px,iter,ifs,0⟩] isc pos) 0 (.ref I) (.ref D) (compEnvC isc cl L env)) R s4:=by
 have hgI:=base_none hr hI
 refine codeAny_compLoop_tests (fun k' s'=>∃ k j b H,k'=k+1∧liveItems (turnC gt C (rho0 ρ cap 1) cap.length acc elt cond) o k j () H=some ((none,()),H')∧HereS W n (caps++[tn]) isc (rho0 ρ cap 1) A (compEnvC isc cl L env) (ads++b) H s'∧Ext none' ads s s' b ∧
   (ads++b)[acc]?=some (D,D)∧s'.heap.IsListIter I pp.1 j∧¬ foot (ads++b) I) ?_ (k+1) ⟨k,0,b,H1,rfl,ev,h_4,x4,hacc,hit,hf⟩
 clear hit hacc x4 h_4 ev hf
 rintro k' s' ⟨k,j,b,H,rfl,ev,hr',x',hacc,⟨oI,hoI,hcI,hdI⟩,hfI⟩
 cases k with
 | zero =>
  obtain⟨ll,hl,e⟩:=asList_eq ev
  obtain⟨hj,e⟩:=guardB_eq e
  cases e
  have hj:=beq_iff_eq.mp hj
  cases hr'.st.obj _ _ _ hl (ads_more hi) with
  | @list aL vs m _ ha hv =>
   have hlen:=hv.length
   refine wpAny_pyNext_list_end hr'.a.hh ⟨oI,hoI,hcI,hdI⟩ ⟨_,ha,rfl,m,rfl⟩ (by rw [Array.getElem?_eq_none];simp at hlen;omega) fun h' hk=>?_
   obtain⟨h_2,_⟩:=hr'.but (s':={s' with heap:=h'}) hoI hdI (fun b o hb e=>hk b o hb e) hfI hgI
   obtain⟨mm,hn,hfn,_⟩:=h_2.f
   exact hR _ ⟨b,D,mm,rfl,h_2.st,x'.behind hI (fun b o hb e=>hk b o hb e) rfl rfl,hacc,hn,hfn,hL⟩
 | succ k =>
  obtain⟨ll,hl,e⟩:=asList_eq ev
  obtain⟨v,hv,e⟩:=asSome_eq e
  obtain⟨ov,u,H2,e1,e⟩:=goes_eq e
  obtain⟨ρ1,e0,e1⟩:=asSome_eq e1
  obtain⟨_,e0⟩:=guardB_eq e0
  cases e0
  cases hr'.st.obj _ _ _ hl (ads_more hi) with
  | @list aL vs m _ ha hvs =>
   obtain⟨xv,hxv,hxr⟩:=hvs.get hv
   refine wpAny_pyNext_list_item ⟨oI,hoI,hcI,hdI⟩ ⟨_,ha,rfl,m,rfl⟩ (x:=xv) (by simpa using hxv) fun h' hit' hs'=>?_
   obtain⟨h_2,mv⟩:=hr'.but (s':={s' with heap:=h'}) hoI hdI (fun b o hb e=>(hs'.2 b hb).trans e) hfI hgI
   have x2:Ext none' ads s {s' with heap:=h'} b:=x'.behind hI (fun b o hb e=>(hs'.2 b hb).trans e) rfl rfl
   obtain⟨oI',hoI',hcI',hdI'⟩:=hit'
   refine wpAny_mono (wpAny_assign_Name (store_snd (Q:=fun _ s3=>HereS W n (caps++[tn]) isc ((rho0 ρ cap 1).set cap.length (some v)) A (compEnvC isc cl L env) (ads++b) H s3∧Ext none' ads s s3 b∧s3.heap.IsListIter I aL (j+1))
    h_2 hb (mv _ _ hxr) fun s3 hr3 x3=>⟨hr3,?_,oI',x3.keep _ _ hoI' hfI hIL,hcI',hdI'⟩)) (fun _ s3 ⟨h_3,x3,hit3⟩=>?_) fun _ _ f=>f.elim
   ·have:=x2.trans x3 fun c o e _ (q:c=L)=>by rw [q,hL] at e;cases e
    rwa [aN] at this
   ·obtain⟨oI3,hoI3,hcI3,hdI3⟩:=hit3
    have back:∀ {s5:Shared} {a_5:Ads} {H5:Hp},HereS W n (caps++[tn]) isc ((rho0 ρ cap 1).set cap.length (some v)) A (compEnvC isc cl L env) (ads++b++a_5) H5 s5→Ext none' (ads++b) s3 s5 a_5→liveItems (turnC gt C (rho0 ρ cap 1) cap.length acc elt cond) o k (j+1) () H5=some ((none,()),H') →
      ∃ m,m<k+1+1∧∃ k j b H,m=k+1∧liveItems (turnC gt C (rho0 ρ cap 1) cap.length acc elt cond) o k j () H=some ((none,()),H')∧HereS W n (caps++[tn]) isc (rho0 ρ cap 1) A (compEnvC isc cl L env) (ads++b) H s5∧Ext none' ads s s5 b ∧
       (ads++b)[acc]?=some (D,D)∧s5.heap.IsListIter I aL j∧¬ foot (ads++b) I:=by
     intro s5 a_5 H5 h_5 x5 e_5
     refine⟨k+1,Nat.lt_succ_self _,k,j+1,b++a_5,H5,rfl,e_5,?_,x3.tr x5,?_,⟨oI3,x5.keep _ _ hoI3 hfI id,hcI3,hdI3⟩,?_⟩
     ·rw [←aA];exact h_5.sub (sub_set rho0_none)
     ·rw [←aA];exact ads_more hacc
     ·rw [←aA];exact not_foot_ext x5 hoI3 hfI
    rcases hC with ⟨rfl,rfl⟩|⟨c,g,rfl,rfl,hT⟩
    ·refine wpAny_tests_nil ?_
     simp only [if_true]
     obtain⟨y,H3,e2,e1⟩:=bnd_eq e1
     obtain⟨H_4,e3,e1⟩:=asSome_eq e1
     cases e1
     rcases e with ⟨_,e⟩|⟨_,q,_⟩
     ·exact emit_snd hE hacc e2 e3 h_3 fun s5 a_5 h_5 x5=>back h_5 x5 e
     ·cases q
    ·refine wpAny_tests_one ?_
     obtain⟨bv,H3,e2,e1⟩:=bnd_eq e1
     obtain⟨bb,rfl,e1⟩:=asBool_eq e1
     refine wpAny_mono (hT.goS e2 h_3 (Q:=fun ok s4=>ok=bb∧∃ a_4,HereS W n (caps++[tn]) isc ((rho0 ρ cap 1).set cap.length (some v)) A (compEnvC isc cl L env) (ads++b++a_4) H3 s4∧Ext none' (ads++b) s3 s4 a_4) fun s4 a_4 h_4 x4=>⟨rfl,a_4,h_4,x4⟩)
      (fun ok s4 hok=>?_) fun _ _ f=>f.elim
     obtain⟨rfl,a_4,h_4,x4⟩:=hok
     cases ok with
     | false =>
      cases e1
      simp only [Bool.false_eq_true,if_false]
      rcases e with ⟨_,e⟩|⟨_,q,_⟩
      ·exact back h_4 x4 e
      ·cases q
     | true =>
      simp only [if_true]
      obtain⟨y,H5,e3,e1⟩:=bnd_eq e1
      obtain⟨H6,e4,e1⟩:=asSome_eq e1
      cases e1
      rcases e with ⟨_,e⟩|⟨_,q,_⟩
      ·refine emit_snd hE (ads_more hacc) e3 e4 h_4 fun s5 a_5 h_5 x5=>back (a_5:=a_4++a_5) (by rw [←aA];exact h_5) (x4.tr x5) e
      ·cases q
end
section
variable {W:Setup} {tb:Tab} {gt:List V} {mg mb:Str→Option Value} {n:Nat} {C:CallF} {names caps ts:List Str} {sc isc:Scope} {A:Around} {env:Env} {ads a b:Ads} {H H1 H2 H':Hp} {s s' s1 s2 s4:Shared} {ρ ρ1 ρ2 ρ':Rho} {v x:V} {p q r elt:E} {l e e_2 iter:Expr} {pos apos:Pos} {I L D:Addr} {cap:List Nat} {cl:List (Str×Addr)}
theorem none_ge {h:Heap} {c:Addr} (hc:h.objs.size≤c):h.get? c=none:=by
 cases q:h.get? c with
 | none=>rfl
 | some o=>exact absurd (Heap.lt_size q) (Nat.not_lt.mpr hc)
theorem comp_start {gens:List Comprehension} {g:Comprehension} {o:Nat} {pp:Addr×Addr} {ll:List V} {R:Value→Addr→Result→Shared→Prop} (hg:g.is_async=0) (hr:Here W n names sc ρ A env ads H s) (K:CompOk sc isc caps ts) (hcap:cap.mapM (names[·]?)=some caps) (hnd:(caps++ts).Nodup)
  (hcl:CellsOk' W caps cap isc env cl ρ ads s.heap) (hl:H[o]?=some (.list ll)) (hi:ads[o]?=some pp) (k:Nat)
  (hloop:∀ I L D b s4,s.heap.get? L=none→s.heap.get? I=none→I≠L→HereS W n (caps++ts) isc (rho0 ρ cap k) A (compEnvC isc cl L env) (ads++b) (H++[.list []]) s4→Ext none' ads s s4 b→(ads++b)[H.length]?=some (D,D)→s4.heap.IsListIter I pp.1 0→¬ foot (ads++b) I →
   codeAny W.M A (.compLoop (.ListComp e (g::gens) isc pos) 0 (.ref I) (.ref D) (compEnvC isc cl L env)) (R (.ref D) L) s4) :
  wpAny W.M A (pyIter (.ref pp.1)) (fun it s2=>wpAny W.M A (newList []) (fun acc s3=>wpAny W.M A (newFunctionEnv isc env.globals cl [] env.qual none .none (some env)) (fun cenv s4 =>
   codeAny W.M A (.compStart (.ListComp e (g::gens) isc pos) 0 it acc {cenv with scope:=relabel isc env}) (R acc cenv.locals) s4) no' s3) no' s2) no' s:=by
 cases hr.st.obj _ _ _ hl hi with
 | @list aL vs m _ ha hv =>
  refine wpAny_pyIter_list ⟨_,ha,rfl,m,rfl⟩ ?_
  refine wpAny_newObj_type (wpAny_newFunctionEnv K.nocell (by intro y hy;simp at hy) (fun h_1 hns1 hsb1=>?_) K.kind)
  dsimp only at hns1 hsb1 ⊢
  generalize hH1:s.heap.push {cls:=.type "list_iterator",dict:=none,data:=.fields #[.ref aL,.int 0 0],slots:=#[]}=G1 at hns1 hsb1 ⊢
  generalize hH2:G1.push {cls:=.type "list",dict:=none,data:=.seq ([]:List Value).toArray,slots:=#[]}=G2 at hns1 hsb1 ⊢
  have z1:G1.objs.size=s.heap.objs.size+1:=by rw [←hH1,Heap.size_push]
  have z2:G2.objs.size=s.heap.objs.size+1+1:=by rw [←hH2,Heap.size_push,z1]
  have up:∀ b o,b≠G2.objs.size→G2.get? b=some o→h_1.get? b=some o:=fun b o hb e=>(hsb1.2 b hb).trans (Heap.get?_push_of_some _ e)
  have up1:∀ b o,G1.get? b=some o→h_1.get? b=some o:=fun b o e=>up b o (Nat.ne_of_lt (by rw [z2,←z1];exact Nat.lt_succ_of_lt (Heap.lt_size e))) (hH2▸Heap.get?_push_of_some _ e)
  have up0:∀ b o,s.heap.get? b=some o→h_1.get? b=some o:=fun b o e=>up1 b o (hH1▸Heap.get?_push_of_some _ e)
  have hI1:h_1.get? s.heap.objs.size=some {cls:=.type "list_iterator",dict:=none,data:=.fields #[.ref aL,.int 0 0],slots:=#[]}:=up1 _ _ (hH1▸Heap.get?_push_size _ rfl)
  have hD1:h_1.get? G1.objs.size=some (listOf #[] 0):=up _ _ (by rw [z2,z1];exact Nat.ne_of_lt (Nat.lt_succ_self _)) (hH2▸Heap.get?_push_size _ rfl)
  have hDn:s.heap.get? G1.objs.size=none:=none_ge (by rw [z1];exact Nat.le_succ _)
  have hLn:s.heap.get? G2.objs.size=none:=none_ge (by rw [z2];exact Nat.le_trans (Nat.le_succ _) (Nat.le_succ _))
  have hIn:s.heap.get? s.heap.objs.size=none:=get_size _
  obtain⟨S4,x4⟩:=hr.st.alloc (o:=.list []) (p:=(G1.objs.size,G1.objs.size)) (s':={s with heap:=h_1,toks:=s.toks+([]:List (Str×Value)).length}) up0 hDn hDn rfl rfl (.list hD1 .nil)
  have ne:∀ c,c≠G1.objs.size→s.heap.get? c=none→¬ foot (ads++[(G1.objs.size,G1.objs.size)]) c:=fun c h1 h2 f=>by
   rcases foot_append.mp f with f|f
   ·exact not_foot_none hr.st h2 f
   ·rcases foot_one.mp f with q|q<;>exact h1 q.symm
  have hNs:h_1.Ns G2.objs.size fun _=>none:=hns1
  have H4:=comp_here hr K hcap hnd hcl S4 x4 hLn hNs (ne _ (by rw [z2,z1];exact Nat.ne_of_gt (Nat.lt_succ_self _)) hLn) k
  have hix:(ads++[(G1.objs.size,G1.objs.size)])[H.length]?=some (G1.objs.size,G1.objs.size):=by rw [←hr.st.len];simp
  have go:=hloop s.heap.objs.size G2.objs.size G1.objs.size _ _ hLn hIn (by rw [z2];exact Nat.ne_of_lt (Nat.lt_succ_of_lt (Nat.lt_succ_self _))) H4 x4 hix ⟨_,hI1,rfl,rfl⟩ (ne _ (by rw [z1];exact Nat.ne_of_lt (Nat.lt_succ_self _)) hIn)
  obtain⟨tg,it,fs,as⟩:=g
  simp only at hg
  subst hg
  exact codeAny_compStart_list go (wpAny_pyIter_listiter (s:={s with heap:=h_1,toks:=s.toks+([]:List (Str×Value)).length}) ⟨_,hI1,rfl,rfl⟩ go)
end
section
variable {W:Setup} {tb:Tab} {gt:List V} {mg mb:Str→Option Value} {n:Nat} {C:CallF} {names caps ts:List Str} {sc isc:Scope} {A:Around} {env:Env} {ads a b:Ads} {H H1 H2 H':Hp} {s s' s1 s2 s4:Shared} {ρ ρ1 ρ2 ρ':Rho} {v x:V} {p q r elt it:E} {l e e_2 iter:Expr} {pos apos:Pos} {I L D:Addr} {cap:List Nat} {cl:List (Str×Addr)}
theorem comp_parts {cond:List E} (he:evalE gt C ρ (.comp elt cap 1 it cond) H=some (v,H')) :
  ∃ o H1 ll,evalE gt C ρ it H=some (.obj o,H1)∧(cap.all fun i=>(ρ[i]?).join.isSome)=true∧H1[o]?=some (.list ll)∧liveItems (turnC gt C (rho0 ρ cap 1) cap.length H1.length elt cond) o ll.length 0 () (H1++[.list []])=some ((none,()),H')∧v=.obj H1.length:=by
 unfold evalE at he
 obtain⟨x,H1,e1,w1⟩:=bnd_eq he
 obtain⟨o,hx,w2⟩:=asObj_eq w1
 subst hx
 obtain⟨h2,w3⟩:=guardB_eq w2
 obtain⟨ll,h3,w4⟩:=asList_eq w3
 obtain⟨⟨rv,⟨⟩⟩,H2,h4,w5⟩:=bnd_eq w4
 cases rv with
 | none=>cases w5;exact⟨o,H1,ll,e1,h2,h3,h4,rfl⟩
 | some _=>cases w5
theorem binds_last {tn:Str} (hcap:cap.mapM (names[·]?)=some caps) (K:CompOk sc isc caps [tn]):bindsAs (caps++[tn]) isc cap.length tn=true:=by
 have hl:=(mapM_get hcap).1
 have h1:(caps++[tn])[cap.length]?=some tn:=by rw [hl];simp
 simp only [bindsAs,kindIn,h1,K.tgs tn (.head _),beq_self_eq_true,Bool.and_self]
theorem snd_comp {tn:Str} {px:Pos} {ifs:List Expr} {cond:List E} (hcap:cap.mapM (names[·]?)=some caps) (K:CompOk sc isc caps [tn]) (hnd:(caps++[tn]).Nodup) (hns:notSet iter=true) (hp:ESnd W gt n C names sc it iter)
  (hE:ESnd W gt n C (caps++[tn]) isc elt e) (hC:CondSnd W gt n C (caps++[tn]) isc cond ifs):ESnd W gt n C names sc (.comp elt cap 1 it cond) (.ListComp e [⟨.Name tn px,iter,ifs,0⟩] isc pos):=by
 intro ρ H v H' he A env ads s hr
 obtain⟨o,H1,ll,e1,hall,hl,hlive,rfl⟩:=comp_parts he
 obtain⟨cl,hclos,_⟩:=comp_env hr hcap hall K
 rw [eval_ListComp]
 refine wpAny_comprehension_free (use:=none) rfl (folded_of hns) hclos K.kind K.loc (hp.go e1 hr fun xv s1 a_1 h_1 r_1 x1=>?_)
 obtain⟨cl',hclos',hcl⟩:=comp_env h_1 hcap hall K
 have hcc:cl'=cl:=by
  have:=hclos'.symm.trans hclos
  injection this
 subst hcc
 cases r_1 with
 | @obj _ pp hi =>
  refine comp_start (R:=fun acc L=>compPost W.M A no' none (PE W ads s (.obj H1.length) H') acc L) rfl h_1 K hcap hnd hcl hl hi 1 fun I L D b s4 hL hI hIL h_4 x4 hacc hit hf=>?_
  refine comp_loop hE hC (binds_last hcap K) h_1.st hi hL hI hIL _ hlive h_4 x4 hacc hit hf fun s' hs'=>?_
  obtain⟨b',D',m,hD,S',x',hacc',hN,hfL,_⟩:=hs'
  cases hD
  refine⟨m,hN,fun h' hs=>?_⟩
  have hk:∀ b o,b≠L→s'.heap.get? b=some o→h'.get? b=some o:=fun b o hb e=>(hs.2 b hb).trans e
  obtain⟨S2,_,_⟩:=S'.but (s':={s' with heap:=h'}) hk hfL (base_none h_1.st hL) fun o ho vs n q=>by
   obtain⟨oo,es,ep,hoo,hd,_⟩:=hN
   rw [ho] at hoo;cases hoo;rw [hd] at q;cases q
  exact PE.after x1 ⟨b',S2,.obj hacc',x'.behind hL hk rfl rfl⟩
end
section
variable {W:Setup} {tb:Tab} {gt:List V} {mg mb:Str→Option Value} {n:Nat} {C:CallF} {names caps ts:List Str} {sc isc:Scope} {A:Around} {env:Env} {ads a b:Ads} {H H1 H2 H':Hp} {s s' s1 s2 s4:Shared} {ρ ρ1 ρ2 ρ':Rho} {v x:V} {p q r elt it:E} {l e e_2 iter:Expr} {pos apos spos:Pos} {I L D:Addr} {cap:List Nat} {cl:List (Str×Addr)}
theorem HereS.but' (hr:HereS W n names sc ρ A env ads H s) {m:Str→Option Value} (hN:s.heap.Ns L m) (k:∀ b o,b≠L→s.heap.get? b=some o→s'.heap.get? b=some o) (hf:¬ foot ads L) (hg:W.g.get? L=none) (hne:L≠env.locals) :
  HereS W n names sc ρ A env ads H s'∧∀ v x,VR ads s.heap v x→VR ads s'.heap v x:=by
 obtain⟨oL,es,ep,hoL,hdL,_⟩:=hN
 obtain⟨S',m1,m2⟩:=hr.st.but k hf hg fun o' e vs' n' q=>by rw [hoL] at e;cases e;rw [hdL] at q;cases q
 refine⟨⟨hr.a,hr.e,hr.sc,?_,S',hr.low,hr.nd⟩,m1⟩
 obtain⟨m,⟨oM,es,ep,hoM,hdM,r⟩,hfL,hm⟩:=hr.f
 refine⟨m,⟨oM,es,ep,k _ _ (fun q=>hne q.symm) hoM,hdM,r⟩,hfL,fun i v hv=>?_⟩
 obtain⟨y,w,hy,hw,hh⟩:=hm i v hv
 refine⟨y,w,hy,m1 _ _ hw,?_⟩
 rcases hh with hh|⟨hk,c,hc,⟨oc,hoc,rc⟩,hcf⟩
 ·exact .inl hh
 ·exact .inr ⟨hk,c,hc,⟨oc,k _ _ (fun q=>by rw [q,hoL] at hoc;cases hoc;rw [hdL] at rc;cases rc) hoc,rc⟩,hcf⟩
theorem ssnd_assign_comp {y tn:Str} {py px:Pos} {i:Nat} {ifs:List Expr} {cond:List E} (hb:bindsAs names sc i y=true) (hsw:∀ env,EnvOK env→env.kindOf y=some .local→swapsWith (.ListComp e [⟨.Name tn px,iter,ifs,0⟩] isc pos) (some (.Name y py)) spos.line env=pure true)
  (hcap:cap.mapM (names[·]?)=some caps) (K:CompOk sc isc caps [tn]) (hnd:(caps++[tn]).Nodup) (hns:notSet iter=true) (hp:ESnd W gt n C names sc it iter)
  (hE:ESnd W gt n C (caps++[tn]) isc elt e) (hC:CondSnd W gt n C (caps++[tn]) isc cond ifs):SSnd W gt n C names sc (.assign (.loc i) (.comp elt cap 1 it cond)) (.Assign [.Name y py] (.ListComp e [⟨.Name tn px,iter,ifs,0⟩] isc pos) spos):=by
 intro ρ H r H' he A env ads s hr
 obtain⟨v,H2,e0,he⟩:=bnd_eq he
 obtain⟨ρ2,H3,e2,he⟩:=bnd_eq he
 cases he
 obtain⟨_,e2⟩:=guardB_eq e2
 cases e2
 obtain⟨o,H1,ll,e1,hall,hl,hlive,rfl⟩:=comp_parts e0
 obtain⟨cl,hclos,_⟩:=comp_env hr.here hcap hall K
 rw [exec_Assign_Name_used _ _ _ _ (hsw env hr.e (hr.sc.loc _ (bindsAs_of hb).2))]
 refine wpAny_bind (wpAny_standAt (wpAny_bind ?_))
 show wpAny _ A (do let _ ←comprehension (.ListComp e [⟨.Name tn px,iter,ifs,0⟩] isc pos) isc env _ (newList []) false (eval iter env) (some (assign (.Name y py) env))) _ _ s
 refine wpAny_bind (wpAny_mono (wpAny_comprehension_free (use:=some (assign (.Name y py) env)) (Q:=fun _ s'=>PS W names env ads s (none,ρ.set i (some (.obj H1.length))) H' .next s') (E:=no') rfl (folded_of hns) hclos K.kind K.loc
  (hp.goS e1 hr fun xv s1 a_1 h_1 r_1 x1=>?_)) (fun _ s' hq=>wpAny_pure (wpAny_pure hq)) fun _ _ e=>e)
 obtain⟨cl',hclos',hcl⟩:=comp_env h_1.here hcap hall K
 have hcc:cl'=cl:=by
  have:=hclos'.symm.trans hclos
  injection this
 subst hcc
 cases r_1 with
 | @obj _ pp hi =>
  refine comp_start (R:=fun acc L=>compPost W.M A no' (some (assign (.Name y py) env)) (fun _ s'=>PS W names env ads s (none,ρ.set i (some (.obj H1.length))) H' .next s') acc L) rfl h_1.here K hcap hnd hcl hl hi 1 fun I L D b s4 hL hI hIL h_4 x4 hacc hit hf=>?_
  refine comp_loop hE hC (binds_last hcap K) h_1.st hi hL hI hIL _ hlive h_4 x4 hacc hit hf fun s' hs'=>?_
  obtain⟨b',D',m,hD,S',x',hacc',hN,hfL,_⟩:=hs'
  cases hD
  have h_5:=h_1.ext S' x'
  have hLo:¬ own env L:=not_own h_1 hL
  show wpAny _ A (assign (.Name y py) env (.ref D)) _ _ _
  refine wpAny_assign_Name (store_snd h_5 hb (.obj hacc') fun s6 h_6 x6=>?_)
  obtain⟨oN,es,ep,hoN,rN⟩:=hN
  have hN6:s6.heap.Ns L m:=⟨oN,es,ep,x6.keep _ _ hoN hfL hLo,rN⟩
  refine⟨m,hN6,fun h' hs=>?_⟩
  have hk:∀ b o,b≠L→s6.heap.get? b=some o→h'.get? b=some o:=fun b o hb e=>(hs.2 b hb).trans e
  obtain⟨h_7,_⟩:=h_6.but' (s':={s6 with heap:=h'}) hN6 hk hfL (base_none h_1.st hL) hLo
  have x56:Ext (own env) (ads++a_1) s1 s6 b':=by
   have:=x'.own.tr x6
   rwa [aN] at this
  exact PS.after x1.own (PS.of1 h_7 (x56.behind hL hk rfl rfl))
end
section
variable {prog:Program} {w:World} {A:Around} {E:Value→Shared→Prop} {R:Result→Shared→Prop} {s:Shared}
theorem compTurn_two0 (elt t_1 i_1 t_2 i_2:Expr) (scope:Scope) (pos:Pos) (it acc:Value) (env:Env) :
  compTurn (.ListComp elt [⟨t_1,i_1,[],0⟩,⟨t_2,i_2,[],0⟩] scope pos) 0 it acc env=(standAt i_1.pos >>= fun _=>pyNext it >>= fun r=>match r with
   | none=>pure (.done .next)
   | some v=>letOwnedTupleGo t_1 it v >>= fun _=>assign t_1 env v >>= fun _=>eval i_2 env >>= fun x=>standAt i_2.pos >>= fun _=>foldedSetIterable i_2 env x >>= fun x=>holding [x] (pyIter x) >>= fun it' =>
    runOwn (.compStart (.ListComp elt [⟨t_1,i_1,[],0⟩,⟨t_2,i_2,[],0⟩] scope pos) 1 it' acc env) env >>= fun _=>again (.compLoop (.ListComp elt [⟨t_1,i_1,[],0⟩,⟨t_2,i_2,[],0⟩] scope pos) 0 it acc env)):=by rfl
theorem compTurn_two1 (elt t_1 i_1 t_2 i_2:Expr) (scope:Scope) (pos:Pos) (it acc:Value) (env:Env) :
  compTurn (.ListComp elt [⟨t_1,i_1,[],0⟩,⟨t_2,i_2,[],0⟩] scope pos) 1 it acc env=(standAt i_2.pos >>= fun _=>pyNext it >>= fun r=>match r with
   | none=>pure (.done .next)
   | some v=>letOwnedTupleGo t_2 it v >>= fun _=>assign t_2 env v >>= fun _=>(eval elt env >>= fun x=>call (.builtin "list.append") [acc,x] >>= fun _=>pure ()) >>= fun _=>again (.compLoop (.ListComp elt [⟨t_1,i_1,[],0⟩,⟨t_2,i_2,[],0⟩] scope pos) 1 it acc env)):=by rfl
theorem loop_outer {elt t_1 i_1 t_2 i_2:Expr} {scope:Scope} {pos:Pos} {it acc:Value} {env:Env} (I:Nat→Shared→Prop)
  (turn:∀ n s,I n s→wpAny (model prog w) A (pyNext it) (fun r s1=>match r with
   | none=>R (.ok .next) s1
   | some v=>wpAny (model prog w) A (assign t_1 env v) (fun _ s2=>wpAny (model prog w) A (eval i_2 env) (fun x s3=>wpAny (model prog w) A (pyIter x) (fun it' s4 =>
     codeAny (model prog w) A (.compStart (.ListComp elt [⟨t_1,i_1,[],0⟩,⟨t_2,i_2,[],0⟩] scope pos) 1 it' acc env) (fun r s5=>match r with|.ok _=>∃ m,m<n∧I m s5|.error _=>False) s4) no' s3) no' s2) no' s1) no' s)
  (n:Nat) (h:I n s) (ht:∀ v,letOwnedTupleGo t_1 it v=pure ():=by intro _;rfl) (hs:∀ x,foldedSetIterable i_2 env x=pure x) :
  codeAny (model prog w) A (.compLoop (.ListComp elt [⟨t_1,i_1,[],0⟩,⟨t_2,i_2,[],0⟩] scope pos) 0 it acc env) R s:=by
 refine codeAny_loop rfl I (fun n s hI=>?_) n h
 show wpAny _ A ((compTurn (.ListComp elt [⟨t_1,i_1,[],0⟩,⟨t_2,i_2,[],0⟩] scope pos) 0 it acc env).onRaise (fun x=>do noteFrame x env;theTreesLotGoes x)) _ _ s
 refine wpAny_noted ?_
 rw [compTurn_two0]
 refine wpAny_bind (wpAny_standAt (wpAny_bind (wpAny_mono (turn n s hI) (fun r s1 h_1=>?_) fun _ _ f=>f.elim)))
 cases r with
 | none=>exact wpAny_pure h_1
 | some v =>
  dsimp only at h_1 ⊢
  refine wpAny_bind (wpAny_of_eq (ht v) (wpAny_bind (wpAny_mono h_1 (fun _ s2 h_2=>?_) fun _ _ f=>f.elim)))
  refine wpAny_bind (wpAny_mono h_2 (fun x s3 h_3=>?_) fun _ _ f=>f.elim)
  refine wpAny_bind (wpAny_standAt (wpAny_bind (wpAny_of_eq (hs x) (wpAny_bind (wpAny_holding (wpAny_mono h_3 (fun it' s4 h_4=>?_) fun _ _ f=>f.elim))))))
  refine wpAny_bind (wpAny_runOwn (h:=none) (codeAny_mono h_4 fun r s5 h_5=>?_))
  cases r with
  | ok f=>exact wpAny_pure ⟨rfl,h_5⟩
  | error e=>exact h_5.elim
theorem loop_inner {elt t_1 i_1 t_2 i_2:Expr} {scope:Scope} {pos:Pos} {it acc:Value} {env:Env} (I:Nat→Shared→Prop)
  (turn:∀ n s,I n s→wpAny (model prog w) A (pyNext it) (fun r s1=>match r with
   | none=>R (.ok .next) s1
   | some v=>wpAny (model prog w) A (assign t_2 env v) (fun _ s2=>wpAny (model prog w) A (eval elt env) (fun x s3=>wpAny (model prog w) A (call (.builtin "list.append") [acc,x]) (fun _ s5=>∃ m,m<n∧I m s5) no' s3) no' s2) no' s1) no' s)
  (n:Nat) (h:I n s) (ht:∀ v,letOwnedTupleGo t_2 it v=pure ():=by intro _;rfl) :
  codeAny (model prog w) A (.compLoop (.ListComp elt [⟨t_1,i_1,[],0⟩,⟨t_2,i_2,[],0⟩] scope pos) 1 it acc env) R s:=by
 refine codeAny_loop rfl I (fun n s hI=>?_) n h
 show wpAny _ A ((compTurn (.ListComp elt [⟨t_1,i_1,[],0⟩,⟨t_2,i_2,[],0⟩] scope pos) 1 it acc env).onRaise (fun x=>do noteFrame x env;theTreesLotGoes x)) _ _ s
 refine wpAny_noted ?_
 rw [compTurn_two1]
 refine wpAny_bind (wpAny_standAt (wpAny_bind (wpAny_mono (turn n s hI) (fun r s1 h_1=>?_) fun _ _ f=>f.elim)))
 cases r with
 | none=>exact wpAny_pure h_1
 | some v =>
  dsimp only at h_1 ⊢
  refine wpAny_bind (wpAny_of_eq (ht v) (wpAny_bind (wpAny_mono h_1 (fun _ s2 h_2=>?_) fun _ _ f=>f.elim)))
  refine wpAny_bind (wpAny_bind (wpAny_mono h_2 (fun x s3 h_3=>?_) fun _ _ f=>f.elim))
  exact wpAny_bind (wpAny_mono h_3 (fun _ s5 h_5=>wpAny_pure (wpAny_pure ⟨rfl,h_5⟩)) fun _ _ f=>f.elim)
theorem start_inner {elt t_1 i_1 t_2 i_2:Expr} {scope:Scope} {pos:Pos} {it acc:Value} {env:Env}
  (h0:codeAny (model prog w) A (.compLoop (.ListComp elt [⟨t_1,i_1,[],0⟩,⟨t_2,i_2,[],0⟩] scope pos) 1 it acc env) R s)
  (h:wpAny (model prog w) A (pyIter it) (fun it' s'=>codeAny (model prog w) A (.compLoop (.ListComp elt [⟨t_1,i_1,[],0⟩,⟨t_2,i_2,[],0⟩] scope pos) 1 it' acc env) R s') no' s) :
  codeAny (model prog w) A (.compStart (.ListComp elt [⟨t_1,i_1,[],0⟩,⟨t_2,i_2,[],0⟩] scope pos) 1 it acc env) R s:=by
 refine codeAny_of_tree ?_
 show wpAny _ _ ((compStart (.ListComp elt [⟨t_1,i_1,[],0⟩,⟨t_2,i_2,[],0⟩] scope pos) 1 it acc env).onRaise (fun x=>do noteFrame x env;standAt theWindowsPlace)) _ _ s
 refine wpAny_notedAt ?_
 unfold compStart
 show wpAny _ _ (ask >>= _) _ _ s
 refine wpAny_bind (wpAny_askSetting (wpAny_ite ?_))
 split
 ·first
   | exact wpAny_bind (wpAny_pure (wpAny_pure (And.intro rfl h0)))
   | exact wpAny_pure (And.intro rfl h0)
 ·first
   | exact wpAny_bind (wpAny_rule (wpAny_bind (wpAny_standAt (wpAny_bind (wpAny_mono h (fun it' s' h'=>wpAny_pure (And.intro rfl h')) fun _ _ f=>f.elim)))))
   | (refine wpAny_bind (wpAny_rule ?_);show wpAny _ _ (standAt i_2.pos >>= _) _ _ s;exact wpAny_bind (wpAny_standAt (wpAny_bind (wpAny_mono h (fun it' s' h'=>wpAny_pure (And.intro rfl h')) fun _ _ f=>f.elim))))
end
section
variable {W:Setup} {tb:Tab} {gt:List V} {mg mb:Str→Option Value} {n:Nat} {C:CallF} {names caps ts:List Str} {sc isc:Scope} {A:Around} {env:Env} {ads a b:Ads} {H H1 H2 H':Hp} {s s' s1 s2 s4:Shared} {ρ ρ0 ρ1 ρ2 ρ':Rho} {v x:V} {p q r elt it:E} {l e e_2 i_1 i_2:Expr} {pos apos:Pos} {I L D:Addr} {cap:List Nat} {cl:List (Str×Addr)}
abbrev turnI (gt:List V) (C:CallF) (ρ0:Rho) (i:Nat) (acc:Nat) (elt:E):Turn Unit:=fun v _ H' =>
 asSome (setTarget ρ0 [i] v) fun ρ'=>bnd (evalE gt C ρ' elt H') fun y H'=>asSome (pushL H' acc y) fun H'=>some ((none,()),H')
theorem comp_inner {t_1 tn:Str} {p_1 p_2:Pos} {o acc i:Nat} {pp:Addr×Addr} (hE:ESnd W gt n C names sc elt e) (hb:bindsAs names sc i tn=true) (hn:(ρ0[i]?).join=none) (hr:HereS W n names sc ρ0 A env ads H s)
  (hi:ads[o]?=some pp) (hI:s.heap.get? I=none) (k:Nat) (ev:liveItems (turnI gt C ρ0 i acc elt) o k 0 () H=some ((none,()),H')) (h_4:HereS W n names sc ρ0 A env ads H s4) (x4:Ext (own env) ads s s4 [])
  (hacc:ads[acc]?=some (D,D)) (hit:s4.heap.IsListIter I pp.1 0) :
  codeAny W.M A (.compLoop (.ListComp e [⟨.Name t_1 p_1,i_1,[],0⟩,⟨.Name tn p_2,i_2,[],0⟩] isc pos) 1 (.ref I) (.ref D) env) (fun r s'=>match r with|.ok _=>∃ a,HereS W n names sc ρ0 A env (ads++a) H' s'∧Ext (own env) ads s s' a|.error _=>False) s4:=by
 have hgI:=base_none hr.st hI
 have hno:=not_own hr hI
 have hf:=not_foot_none hr.st hI
 refine loop_inner (fun k' s'=>∃ k j b H,k'=k+1∧liveItems (turnI gt C ρ0 i acc elt) o k j () H=some ((none,()),H')∧HereS W n names sc ρ0 A env (ads++b) H s'∧Ext (own env) ads s s' b∧s'.heap.IsListIter I pp.1 j∧¬ foot (ads++b) I) ?_ (k+1)
  ⟨k,0,[],H,rfl,ev,by rw [aN];exact h_4,x4,hit,by rw [aN];exact hf⟩
 clear hit x4 h_4 ev hf
 rintro k' s' ⟨k,j,b,H,rfl,ev,hr',x',⟨oI,hoI,hcI,hdI⟩,hfI⟩
 cases k with
 | zero =>
  obtain⟨ll,hl,e⟩:=asList_eq ev
  obtain⟨hj,e⟩:=guardB_eq e
  cases e
  have hj:=beq_iff_eq.mp hj
  cases hr'.st.obj _ _ _ hl (ads_more hi) with
  | @list aL vs m _ ha hv =>
   have hlen:=hv.length
   refine wpAny_pyNext_list_end hr'.a.hh ⟨oI,hoI,hcI,hdI⟩ ⟨_,ha,rfl,m,rfl⟩ (by rw [Array.getElem?_eq_none];simp at hlen;omega) fun h' hk=>?_
   obtain⟨h_2,_⟩:=hr'.but (s':={s' with heap:=h'}) hoI hdI (fun b o hb e=>hk b o hb e) hfI hgI
   exact⟨b,h_2,x'.behind hI (fun b o hb e=>hk b o hb e) rfl rfl⟩
 | succ k =>
  obtain⟨ll,hl,e⟩:=asList_eq ev
  obtain⟨v,hv,e⟩:=asSome_eq e
  obtain⟨ov,u,H2,e1,e⟩:=goes_eq e
  obtain⟨ρ1,e0,e1⟩:=asSome_eq e1
  obtain⟨_,e0⟩:=guardB_eq e0
  cases e0
  cases hr'.st.obj _ _ _ hl (ads_more hi) with
  | @list aL vs m _ ha hvs =>
   obtain⟨xv,hxv,hxr⟩:=hvs.get hv
   refine wpAny_pyNext_list_item ⟨oI,hoI,hcI,hdI⟩ ⟨_,ha,rfl,m,rfl⟩ (x:=xv) (by simpa using hxv) fun h' hit' hs'=>?_
   obtain⟨h_2,mv⟩:=hr'.but (s':={s' with heap:=h'}) hoI hdI (fun b o hb e=>(hs'.2 b hb).trans e) hfI hgI
   have x2:Ext (own env) ads s {s' with heap:=h'} b:=x'.behind hI (fun b o hb e=>(hs'.2 b hb).trans e) rfl rfl
   obtain⟨oI',hoI',hcI',hdI'⟩:=hit'
   refine wpAny_assign_Name (store_snd h_2 hb (mv _ _ hxr) fun s3 hr3 x3=>?_)
   have x23:Ext (own env) ads s s3 b:=by have:=x2.tr x3;rwa [aN] at this
   have hoI3:=x3.keep _ _ hoI' hfI hno
   obtain⟨y,H3,e2,e1⟩:=bnd_eq e1
   obtain⟨H_4,e3,e1⟩:=asSome_eq e1
   cases e1
   rcases e with ⟨_,e⟩|⟨_,q,_⟩
   ·refine emit_snd hE (ads_more hacc) e2 e3 hr3 fun s5 a_5 h_5 x5=>?_
    exact⟨k+1,Nat.lt_succ_self _,k,j+1,b++a_5,_,rfl,e,by rw [←aA];exact h_5.sub (sub_set hn),x23.tr x5.own,⟨oI',x5.keep _ _ hoI3 hfI id,hcI',hdI'⟩,by rw [←aA];exact not_foot_ext x5 hoI3 hfI⟩
   ·cases q
end
section
variable {W:Setup} {tb:Tab} {gt:List V} {mg mb:Str→Option Value} {n:Nat} {C:CallF} {names caps ts:List Str} {sc isc:Scope} {A:Around} {env:Env} {ads a b:Ads} {H H1 H2 H':Hp} {s s' s1 s2 s4:Shared} {ρ ρ0 ρ1 ρ2 ρ':Rho} {v x:V} {p q r elt it it_2:E} {l e e_2 i_1 i_2:Expr} {pos apos:Pos} {I L D:Addr} {cap:List Nat} {cl:List (Str×Addr)}
abbrev turnO (gt:List V) (C:CallF) (ρ0:Rho) (m:Nat) (acc:Nat) (elt it_2:E):Turn Unit:=fun v _ H' =>
 asSome (setTarget ρ0 [m] v) fun ρ'=>bnd (evalE gt C ρ' it_2 H') fun y H'=>asObj y fun o2=>asList H' o2 fun l_2=>liveItems (turnI gt C ρ' (m+1) acc elt) o2 l_2.length 0 () H'
theorem rho0_behind {k i:Nat} (h:cap.length≤i):((rho0 ρ cap k)[i]?).join=none:=by
 rw [gR (by simpa using h)]
 simp only [List.getElem?_replicate]
 split<;>rfl
theorem comp_outer {t_1 t_2:Str} {p_1 p_2:Pos} {o acc:Nat} {pp:Addr×Addr} {R:Result→Shared→Prop} (hE:ESnd W gt n C (caps++[t_1,t_2]) isc elt e) (hE2:ESnd W gt n C (caps++[t_1,t_2]) isc it_2 i_2) (hns:notSet i_2=true)
  (hb1:bindsAs (caps++[t_1,t_2]) isc cap.length t_1=true) (hb2:bindsAs (caps++[t_1,t_2]) isc (cap.length+1) t_2=true) (hr:St W ads H s) (hi:ads[o]?=some pp) (hL:s.heap.get? L=none) (hI:s.heap.get? I=none) (hIL:I≠L) (k:Nat)
  (ev:liveItems (turnO gt C (rho0 ρ cap 2) cap.length acc elt it_2) o k 0 () H1=some ((none,()),H')) (h_4:HereS W n (caps++[t_1,t_2]) isc (rho0 ρ cap 2) A (compEnvC isc cl L env) (ads++b) H1 s4) (x4:Ext none' ads s s4 b)
  (hacc:(ads++b)[acc]?=some (D,D)) (hit:s4.heap.IsListIter I pp.1 0) (hf:¬ foot (ads++b) I) (hR:∀ s',CompEnd W ads s L (.ref D) acc H' s'→R (.ok .next) s') :
  codeAny W.M A (.compLoop (.ListComp e [⟨.Name t_1 p_1,i_1,[],0⟩,⟨.Name t_2 p_2,i_2,[],0⟩] isc pos) 0 (.ref I) (.ref D) (compEnvC isc cl L env)) R s4:=by
 have hgI:=base_none hr hI
 refine loop_outer (fun k' s'=>∃ k j b H,k'=k+1∧liveItems (turnO gt C (rho0 ρ cap 2) cap.length acc elt it_2) o k j () H=some ((none,()),H')∧HereS W n (caps++[t_1,t_2]) isc (rho0 ρ cap 2) A (compEnvC isc cl L env) (ads++b) H s'∧Ext none' ads s s' b ∧
   (ads++b)[acc]?=some (D,D)∧s'.heap.IsListIter I pp.1 j∧¬ foot (ads++b) I) ?_ (k+1) ⟨k,0,b,H1,rfl,ev,h_4,x4,hacc,hit,hf⟩ (fun _=>rfl) (folded_of hns)
 clear hit hacc x4 h_4 ev hf
 rintro k' s' ⟨k,j,b,H,rfl,ev,hr',x',hacc,⟨oI,hoI,hcI,hdI⟩,hfI⟩
 cases k with
 | zero =>
  obtain⟨ll,hl,e⟩:=asList_eq ev
  obtain⟨hj,e⟩:=guardB_eq e
  cases e
  have hj:=beq_iff_eq.mp hj
  cases hr'.st.obj _ _ _ hl (ads_more hi) with
  | @list aL vs m _ ha hv =>
   have hlen:=hv.length
   refine wpAny_pyNext_list_end hr'.a.hh ⟨oI,hoI,hcI,hdI⟩ ⟨_,ha,rfl,m,rfl⟩ (by rw [Array.getElem?_eq_none];simp at hlen;omega) fun h' hk=>?_
   obtain⟨h_2,_⟩:=hr'.but (s':={s' with heap:=h'}) hoI hdI (fun b o hb e=>hk b o hb e) hfI hgI
   obtain⟨mm,hn,hfn,_⟩:=h_2.f
   exact hR _ ⟨b,D,mm,rfl,h_2.st,x'.behind hI (fun b o hb e=>hk b o hb e) rfl rfl,hacc,hn,hfn,hL⟩
 | succ k =>
  obtain⟨ll,hl,ew⟩:=asList_eq ev
  obtain⟨v,hv,ew⟩:=asSome_eq ew
  obtain⟨ov,u,H2,e1,ew⟩:=goes_eq ew
  obtain⟨ρ1,e0,e1⟩:=asSome_eq e1
  obtain⟨_,e0⟩:=guardB_eq e0
  cases e0
  obtain⟨y,H3,e2,w1⟩:=bnd_eq e1
  obtain⟨o2,hy,w2⟩:=asObj_eq w1
  subst hy
  obtain⟨l_2,hl_2,e3⟩:=asList_eq w2
  cases hr'.st.obj _ _ _ hl (ads_more hi) with
  | @list aL vs m _ ha hvs =>
   obtain⟨xv,hxv,hxr⟩:=hvs.get hv
   refine wpAny_pyNext_list_item ⟨oI,hoI,hcI,hdI⟩ ⟨_,ha,rfl,m,rfl⟩ (x:=xv) (by simpa using hxv) fun h' hit' hs'=>?_
   obtain⟨h_2,mv⟩:=hr'.but (s':={s' with heap:=h'}) hoI hdI (fun b o hb e=>(hs'.2 b hb).trans e) hfI hgI
   have x2:Ext none' ads s {s' with heap:=h'} b:=x'.behind hI (fun b o hb e=>(hs'.2 b hb).trans e) rfl rfl
   obtain⟨oI',hoI',hcI',hdI'⟩:=hit'
   refine wpAny_assign_Name (store_snd h_2 hb1 (mv _ _ hxr) fun s3 hr3 x3=>?_)
   have x23:Ext none' ads s s3 b:=by
    have:=x2.trans x3 fun c o e _ (q:c=L)=>by rw [q,hL] at e;cases e
    rwa [aN] at this
   have hoI3:=x3.keep _ _ hoI' hfI hIL
   refine hE2.goS e2 hr3 fun yv s5 a_5 h_5 r5 x5=>?_
   cases r5 with
   | @obj _ p2' hi2 =>
    have hfI5:=not_foot_ext x5 hoI3 hfI
    have hoI5:=x5.keep _ _ hoI3 hfI id
    cases h_5.st.obj _ _ _ hl_2 hi2 with
    | @list aL2 vs2 m_2 _ ha2 hv_2 =>
     refine wpAny_pyIter_list ⟨_,ha2,rfl,m_2,rfl⟩ ?_
     have z:=h_5.pushed {cls:=.type "list_iterator",data:=.fields #[.ref aL2,.int 0 0]} s5.toks
     have fin:codeAny W.M A (.compLoop (.ListComp e [⟨.Name t_1 p_1,i_1,[],0⟩,⟨.Name t_2 p_2,i_2,[],0⟩] isc pos) 1 (.ref s5.heap.objs.size) (.ref D) (compEnvC isc cl L env)) _ _ :=
      comp_inner (pp:=(aL2,aL2)) (i_1:=i_1) (i_2:=i_2) (t_1:=t_1) (p_1:=p_1) (p_2:=p_2) (isc:=isc) (pos:=pos) hE hb2 (i:=cap.length+1) (by rw [List.getElem?_set_ne (by omega)];exact rho0_behind (Nat.le_succ _)) h_5 hi2 (get_size _) l_2.length
       (by rcases ew with ⟨rfl,_⟩|⟨v',rfl,q⟩;exact e3;cases q) z.1 z.2.own (ads_more hacc) ⟨_,Heap.get?_push_size _ rfl,rfl,rfl⟩
     have fin2:=codeAny_mono fin (R':=fun r s5'=>(match r with|.ok _=>(∃ m',m'<k+1+1∧∃ k j b H,m'=k+1∧liveItems (turnO gt C (rho0 ρ cap 2) cap.length acc elt it_2) o k j () H=some ((none,()),H')∧HereS W n (caps++[t_1,t_2]) isc (rho0 ρ cap 2) A (compEnvC isc cl L env) (ads++b) H s5'∧Ext none' ads s s5' b ∧
       (ads++b)[acc]?=some (D,D)∧s5'.heap.IsListIter I aL j∧¬ foot (ads++b) I)|.error _=>False)) fun r s7 hq=>by
      cases r with
      | error _=>exact hq
      | ok f =>
       obtain⟨a_7,h_7,x_7⟩:=hq
       rcases ew with ⟨rfl,ew⟩|⟨v',_,q⟩
       ·refine⟨k+1,Nat.lt_succ_self _,k,j+1,b++(a_5++a_7),_,rfl,ew,?_,?_,?_,⟨oI',x_7.keep _ _ hoI5 hfI5 hIL,hcI',hdI'⟩,?_⟩
        ·rw [←aA,←aA];exact h_7.sub (sub_set rho0_none)
        ·have y1:Ext none' ads s s5 (b++a_5):=x23.tr x5
         have y2:Ext (own (compEnvC isc cl L env)) (ads++(b++a_5)) s5 s7 a_7:=by rw [←aA];exact x_7
         have:=y1.trans y2 fun c o e _ (q:c=L)=>by rw [q,hL] at e;cases e
         rwa [aA] at this
        ·rw [←aA,←aA];exact ads_more (ads_more hacc)
        ·rw [←aA,←aA];exact not_foot_ext x_7 hoI5 hfI5
       ·cases q
     exact start_inner fin2 (wpAny_pyIter_listiter (s:={s5 with heap:=s5.heap.push {cls:=.type "list_iterator",data:=.fields #[.ref aL2,.int 0 0]}}) ⟨_,Heap.get?_push_size _ rfl,rfl,rfl⟩ fin2)
end
section
variable {W:Setup} {tb:Tab} {gt:List V} {mg mb:Str→Option Value} {n:Nat} {C:CallF} {names caps ts:List Str} {sc isc:Scope} {A:Around} {env:Env} {ads a b:Ads} {H H1 H2 H':Hp} {s s' s1 s2 s4:Shared} {ρ ρ1 ρ2 ρ':Rho} {v x:V} {p q r elt it it_2:E} {l e e_2 i_1 i_2:Expr} {pos apos spos:Pos} {I L D:Addr} {cap:List Nat} {cl:List (Str×Addr)}
theorem comp2_parts (he:evalE gt C ρ (.comp2 elt cap 1 it 1 it_2) H=some (v,H')) :
  ∃ o H1 ll,evalE gt C ρ it H=some (.obj o,H1)∧(cap.all fun i=>(ρ[i]?).join.isSome)=true∧H1[o]?=some (.list ll)∧liveItems (turnO gt C (rho0 ρ cap 2) cap.length H1.length elt it_2) o ll.length 0 () (H1++[.list []])=some ((none,()),H')∧v=.obj H1.length:=by
 unfold evalE at he
 obtain⟨x,H1,e1,w1⟩:=bnd_eq he
 obtain⟨o,hx,w2⟩:=asObj_eq w1
 subst hx
 obtain⟨h2,w3⟩:=guardB_eq w2
 obtain⟨ll,h3,w4⟩:=asList_eq w3
 obtain⟨⟨rv,⟨⟩⟩,H2,h4,w5⟩:=bnd_eq w4
 cases rv with
 | none=>cases w5;exact⟨o,H1,ll,e1,h2,h3,h4,rfl⟩
 | some _=>cases w5
theorem binds_two {t_1 t_2:Str} (hcap:cap.mapM (names[·]?)=some caps) (K:CompOk sc isc caps [t_1,t_2]):bindsAs (caps++[t_1,t_2]) isc cap.length t_1=true∧bindsAs (caps++[t_1,t_2]) isc (cap.length+1) t_2=true:=by
 have hl:=(mapM_get hcap).1
 have h1:(caps++[t_1,t_2])[cap.length]?=some t_1:=by rw [hl];simp
 have h2:(caps++[t_1,t_2])[cap.length+1]?=some t_2:=by rw [hl,gR (Nat.le_succ _)];simp
 refine⟨?_,?_⟩
 ·simp only [bindsAs,kindIn,h1,K.tgs t_1 (.head _),beq_self_eq_true,Bool.and_self]
 ·simp only [bindsAs,kindIn,h2,K.tgs t_2 (.tail _ (.head _)),beq_self_eq_true,Bool.and_self]
theorem snd_comp2 {t_1 t_2:Str} {p_1 p_2:Pos} (hcap:cap.mapM (names[·]?)=some caps) (K:CompOk sc isc caps [t_1,t_2]) (hnd:(caps++[t_1,t_2]).Nodup) (hns:notSet i_1=true) (hns2:notSet i_2=true) (hp:ESnd W gt n C names sc it i_1)
  (hE:ESnd W gt n C (caps++[t_1,t_2]) isc elt e) (hE2:ESnd W gt n C (caps++[t_1,t_2]) isc it_2 i_2):ESnd W gt n C names sc (.comp2 elt cap 1 it 1 it_2) (.ListComp e [⟨.Name t_1 p_1,i_1,[],0⟩,⟨.Name t_2 p_2,i_2,[],0⟩] isc pos):=by
 intro ρ H v H' he A env ads s hr
 obtain⟨o,H1,ll,e1,hall,hl,hlive,rfl⟩:=comp2_parts he
 obtain⟨cl,hclos,_⟩:=comp_env hr hcap hall K
 rw [eval_ListComp]
 refine wpAny_comprehension_free (use:=none) rfl (folded_of hns) hclos K.kind K.loc (hp.go e1 hr fun xv s1 a_1 h_1 r_1 x1=>?_)
 obtain⟨cl',hclos',hcl⟩:=comp_env h_1 hcap hall K
 have hcc:cl'=cl:=by
  have:=hclos'.symm.trans hclos
  injection this
 subst hcc
 cases r_1 with
 | @obj _ pp hi =>
  refine comp_start (R:=fun acc L=>compPost W.M A no' none (PE W ads s (.obj H1.length) H') acc L) rfl h_1 K hcap hnd hcl hl hi 2 fun I L D b s4 hL hI hIL h_4 x4 hacc hit hf=>?_
  refine comp_outer hE hE2 hns2 (binds_two hcap K).1 (binds_two hcap K).2 h_1.st hi hL hI hIL _ hlive h_4 x4 hacc hit hf fun s' hs'=>?_
  obtain⟨b',D',m,hD,S',x',hacc',hN,hfL,_⟩:=hs'
  cases hD
  refine⟨m,hN,fun h' hs=>?_⟩
  have hk:∀ b o,b≠L→s'.heap.get? b=some o→h'.get? b=some o:=fun b o hb e=>(hs.2 b hb).trans e
  obtain⟨S2,_,_⟩:=S'.but (s':={s' with heap:=h'}) hk hfL (base_none h_1.st hL) fun o ho vs n q=>by
   obtain⟨oo,es,ep,hoo,hd,_⟩:=hN
   rw [ho] at hoo;cases hoo;rw [hd] at q;cases q
  exact PE.after x1 ⟨b',S2,.obj hacc',x'.behind hL hk rfl rfl⟩
theorem ssnd_assign_comp2 {y t_1 t_2:Str} {py p_1 p_2:Pos} {i:Nat} (hb:bindsAs names sc i y=true) (hsw:∀ env,EnvOK env→env.kindOf y=some .local→swapsWith (.ListComp e [⟨.Name t_1 p_1,i_1,[],0⟩,⟨.Name t_2 p_2,i_2,[],0⟩] isc pos) (some (.Name y py)) spos.line env=pure true)
  (hcap:cap.mapM (names[·]?)=some caps) (K:CompOk sc isc caps [t_1,t_2]) (hnd:(caps++[t_1,t_2]).Nodup) (hns:notSet i_1=true) (hns2:notSet i_2=true) (hp:ESnd W gt n C names sc it i_1)
  (hE:ESnd W gt n C (caps++[t_1,t_2]) isc elt e) (hE2:ESnd W gt n C (caps++[t_1,t_2]) isc it_2 i_2):SSnd W gt n C names sc (.assign (.loc i) (.comp2 elt cap 1 it 1 it_2)) (.Assign [.Name y py] (.ListComp e [⟨.Name t_1 p_1,i_1,[],0⟩,⟨.Name t_2 p_2,i_2,[],0⟩] isc pos) spos):=by
 intro ρ H r H' he A env ads s hr
 obtain⟨v,H2,e0,he⟩:=bnd_eq he
 obtain⟨ρ2,H3,e2,he⟩:=bnd_eq he
 cases he
 obtain⟨_,e2⟩:=guardB_eq e2
 cases e2
 obtain⟨o,H1,ll,e1,hall,hl,hlive,rfl⟩:=comp2_parts e0
 obtain⟨cl,hclos,_⟩:=comp_env hr.here hcap hall K
 rw [exec_Assign_Name_used _ _ _ _ (hsw env hr.e (hr.sc.loc _ (bindsAs_of hb).2))]
 refine wpAny_bind (wpAny_standAt (wpAny_bind ?_))
 show wpAny _ A (do let _ ←comprehension (.ListComp e [⟨.Name t_1 p_1,i_1,[],0⟩,⟨.Name t_2 p_2,i_2,[],0⟩] isc pos) isc env _ (newList []) false (eval i_1 env) (some (assign (.Name y py) env))) _ _ s
 refine wpAny_bind (wpAny_mono (wpAny_comprehension_free (use:=some (assign (.Name y py) env)) (Q:=fun _ s'=>PS W names env ads s (none,ρ.set i (some (.obj H1.length))) H' .next s') (E:=no') rfl (folded_of hns) hclos K.kind K.loc
  (hp.goS e1 hr fun xv s1 a_1 h_1 r_1 x1=>?_)) (fun _ s' hq=>wpAny_pure (wpAny_pure hq)) fun _ _ e=>e)
 obtain⟨cl',hclos',hcl⟩:=comp_env h_1.here hcap hall K
 have hcc:cl'=cl:=by
  have:=hclos'.symm.trans hclos
  injection this
 subst hcc
 cases r_1 with
 | @obj _ pp hi =>
  refine comp_start (R:=fun acc L=>compPost W.M A no' (some (assign (.Name y py) env)) (fun _ s'=>PS W names env ads s (none,ρ.set i (some (.obj H1.length))) H' .next s') acc L) rfl h_1.here K hcap hnd hcl hl hi 2 fun I L D b s4 hL hI hIL h_4 x4 hacc hit hf=>?_
  refine comp_outer hE hE2 hns2 (binds_two hcap K).1 (binds_two hcap K).2 h_1.st hi hL hI hIL _ hlive h_4 x4 hacc hit hf fun s' hs'=>?_
  obtain⟨b',D',m,hD,S',x',hacc',hN,hfL,_⟩:=hs'
  cases hD
  have h_5:=h_1.ext S' x'
  have hLo:¬ own env L:=not_own h_1 hL
  show wpAny _ A (assign (.Name y py) env (.ref D)) _ _ _
  refine wpAny_assign_Name (store_snd h_5 hb (.obj hacc') fun s6 h_6 x6=>?_)
  obtain⟨oN,es,ep,hoN,rN⟩:=hN
  have hN6:s6.heap.Ns L m:=⟨oN,es,ep,x6.keep _ _ hoN hfL hLo,rN⟩
  refine⟨m,hN6,fun h' hs=>?_⟩
  have hk:∀ b o,b≠L→s6.heap.get? b=some o→h'.get? b=some o:=fun b o hb e=>(hs.2 b hb).trans e
  obtain⟨h_7,_⟩:=h_6.but' (s':={s6 with heap:=h'}) hN6 hk hfL (base_none h_1.st hL) hLo
  have x56:Ext (own env) (ads++a_1) s1 s6 b':=by
   have:=x'.own.tr x6
   rwa [aN] at this
  exact PS.after x1.own (PS.of1 h_7 (x56.behind hL hk rfl rfl))
end
end Mine
namespace Mine
open PySem PySem.W PySem.Calls PyProof.Rows PySem.Spec
open _root_.List renaming length_map → lM, append_nil → aN, append_assoc → aA, map_append → mP, mem_of_getElem? → mG, length_append → lA, getElem?_eq_some_iff → gS, getElem?_map → gM, mem_append → mA, mem_map → mM, map_cons → mC, cons_append → cA, mem_singleton → mS, mem_cons → mK, nil_append → nA, getElem?_eq_getElem → gE, mem_append_left → mL, length_cons → lC, mem_map_of_mem → mO, not_mem_nil → nM, getElem?_of_mem → gO, zip_cons_cons → zC, lookup_cons → kC, take_add_one → tO, mem_append_right → mR, take_length → tL, nodup_append → nD, map_map → mQ, filter_append → fA, length_nil → lN, take_sublist → tS, getElem?_append_left → gL, getElem?_append_right → gR, nodup_cons → nC, length_take → lT, length_singleton → lS, flatMap_cons → fC, map_congr_left → mJ, perm_append_singleton → pS, getElem?_cons_zero → gZ
set_option maxHeartbeats 1000000
variable {tb:Tab} {names:List Str} {sc:Scope}
theorem comp_inv {elt it:E} {cap:List Nat} {nt:Nat} {cond:List E} {l:Expr} (h:matchE tb names sc (.comp elt cap nt it cond) l=true) :
  ∃ e tn px i fs isc pos caps,l=.ListComp e [⟨.Name tn px,i,fs,0⟩] isc pos∧cap.mapM (names[·]?)=some caps∧nt=1∧matchE tb names sc it i=true∧notSet i=true∧compScope sc isc caps [tn]=true∧(caps++[tn]).Nodup ∧
   matchE tb (caps++[tn]) isc elt e=true∧((cond=[]∧fs=[])∨∃ c g,cond=[c]∧fs=[g]∧matchE tb (caps++[tn]) isc c g=true):=by
 unfold matchE at h
 split at h<;>first|(cases h;done)|(rename_i hq;cases hq;done)|skip
 rename_i e t i fs isc pos hq
 cases hq
 split at h
 ·rename_i caps hc
  simp only [Bool.and_eq_true] at h
  obtain⟨⟨h1,h2⟩,h⟩:=h
  split at h
  ·rename_i ts ht
   simp only [Bool.and_eq_true,beq_iff_eq,decide_eq_true_eq] at h
   obtain⟨⟨⟨⟨⟨⟨h3,h8⟩,h9⟩,h4⟩,h5⟩,h6⟩,h7⟩:=h
   subst h3
   cases t<;>first|(simp [matchE.targetNames] at ht;done)|skip
   ·rename_i tn px
    simp only [matchE.targetNames,Option.some.injEq] at ht
    subst ht
    refine⟨e,tn,px,i,fs,isc,pos,caps,rfl,hc,rfl,h1,h2,h4,h5,h6,?_⟩
    split at h7
    ·exact .inl ⟨rfl,rfl⟩
    ·exact .inr ⟨_,_,rfl,rfl,h7⟩
    ·cases h7
   ·simp only [targetIs,Bool.and_eq_true,decide_eq_true_eq] at h9
    omega
  ·cases h
 ·cases h
theorem comp2_inv {elt it it_2:E} {cap:List Nat} {n_1 n_2:Nat} {l:Expr} (h:matchE tb names sc (.comp2 elt cap n_1 it n_2 it_2) l=true) :
  ∃ e t_1 p_1 i_1 t_2 p_2 i_2 isc pos caps,l=.ListComp e [⟨.Name t_1 p_1,i_1,[],0⟩,⟨.Name t_2 p_2,i_2,[],0⟩] isc pos∧cap.mapM (names[·]?)=some caps∧n_1=1∧n_2=1∧matchE tb names sc it i_1=true∧notSet i_1=true∧notSet i_2=true ∧
   compScope sc isc caps [t_1,t_2]=true∧(caps++[t_1,t_2]).Nodup∧matchE tb (caps++[t_1,t_2]) isc elt e=true∧matchE tb (caps++[t_1,t_2]) isc it_2 i_2=true:=by
 unfold matchE at h
 split at h<;>first|(cases h;done)|(rename_i hq;cases hq;done)|skip
 rename_i e t_1 i_1 t_2 i_2 isc pos hq
 cases hq
 split at h
 ·rename_i caps hc
  simp only [Bool.and_eq_true] at h
  obtain⟨⟨⟨h1,h2⟩,h2'⟩,h⟩:=h
  split at h
  ·rename_i ts1 ts2 ht_1 ht_2
   simp only [Bool.and_eq_true,beq_iff_eq,decide_eq_true_eq] at h
   obtain⟨⟨⟨⟨⟨⟨⟨⟨⟨g1,g2⟩,g3⟩,g4⟩,g5⟩,g6⟩,h4⟩,h5⟩,h6⟩,h7⟩:=h
   subst g1;subst g2
   cases t_1<;>first|(simp [matchE.targetNames] at ht_1;done)|skip
   ·cases t_2<;>first|(simp [matchE.targetNames] at ht_2;done)|skip
    ·simp only [matchE.targetNames,Option.some.injEq] at ht_1 ht_2
     subst ht_1;subst ht_2
     exact⟨e,_,_,i_1,_,_,i_2,isc,pos,caps,rfl,hc,rfl,rfl,h1,h2,h2',h4,h5,h6,h7⟩
    ·simp only [targetIs,Bool.and_eq_true,decide_eq_true_eq] at g6
     omega
   ·simp only [targetIs,Bool.and_eq_true,decide_eq_true_eq] at g5
    omega
  ·cases h
 ·cases h
end Mine
namespace Mine
open PySem PySem.W PySem.Calls PyProof.Rows PySem.Spec
open _root_.List renaming length_map → lM, append_nil → aN, append_assoc → aA, map_append → mP, mem_of_getElem? → mG, length_append → lA, getElem?_eq_some_iff → gS, getElem?_map → gM, mem_append → mA, mem_map → mM, map_cons → mC, cons_append → cA, mem_singleton → mS, mem_cons → mK, nil_append → nA, getElem?_eq_getElem → gE, mem_append_left → mL, length_cons → lC, mem_map_of_mem → mO, not_mem_nil → nM, getElem?_of_mem → gO, zip_cons_cons → zC, lookup_cons → kC, take_add_one → tO, mem_append_right → mR, take_length → tL, nodup_append → nD, map_map → mQ, filter_append → fA, length_nil → lN, take_sublist → tS, getElem?_append_left → gL, getElem?_append_right → gR, nodup_cons → nC, length_take → lT, length_singleton → lS, flatMap_cons → fC, map_congr_left → mJ, perm_append_singleton → pS, getElem?_cons_zero → gZ
set_option maxHeartbeats 2000000
structure Setup.All (W:Setup) (tb:Tab) (gt:List V) (mg mb:Str→Option Value):Prop where
 o:W.Ok tb gt mg mb
 c:W.OkC tb mg
 t:W.OkT mg
 wl:tb.wks.length≤100
section
variable {W:Setup} {tb:Tab} {gt:List V} {mg mb:Str→Option Value} {n:Nat} {C:CallF}
abbrev Both (W:Setup) (gt:List V) (n:Nat) (C:CallF) (names:List Str) (sc:Scope) (p:E) (l:Expr):Prop:=ESnd W gt n C names sc p l∧TrSnd W gt n C names sc p l
theorem bothv {names:List Str} {sc:Scope} {p:E} {l:Expr} (he:∀ env whole,isTrue l env whole=(do let v ←whole;standAt l.pos;holding [v] (truthy v))) (h:ESnd W gt n C names sc p l):Both W gt n C names sc p l:=⟨h,tr_value he h⟩
theorem t_lit {v:V} {l:Expr} {names:List Str} {sc:Scope} (h:matchE tb names sc (.lit v) l=true):Both W gt n C names sc (.lit v) l:=by
 cases l<;>first|(simp [matchE] at h;done)|skip
 simp only [matchE] at h
 exact bothv (fun _ _=>rfl) (snd_lit h)
theorem t_glob (O:W.All tb gt mg mb) {x:Nat} {l:Expr} {names:List Str} {sc:Scope} (h:matchE tb names sc (.glob x) l=true):Both W gt n C names sc (.glob x) l:=by
 cases l<;>first|(simp [matchE] at h;done)|skip
 simp only [matchE,Bool.and_eq_true,beq_iff_eq] at h
 exact bothv (fun _ _=>rfl) (snd_glob O.o h.1 h.2)
theorem t_loc {i:Nat} {l:Expr} {names:List Str} {sc:Scope} (h:matchE tb names sc (.loc i) l=true):Both W gt n C names sc (.loc i) l:=by
 cases l<;>first|(simp [matchE] at h;done)|skip
 simp only [matchE] at h
 exact bothv (fun _ _=>rfl) (snd_loc h)
theorem and_inv {names:List Str} {sc:Scope} {p:E} {l:List Expr} (h:matchAnd tb names sc p l=true):∃ a b x y r,p=.and a b∧l=x::y::r∧matchE tb names sc a x=true∧((r=[]∧matchE tb names sc b y=true)∨matchAnd tb names sc b (y::r)=true):=by
 unfold matchAnd at h
 split at h
 ·simp only [Bool.and_eq_true] at h
  refine⟨_,_,_,_,_,rfl,rfl,h.1,?_⟩
  split at h
  ·exact .inl ⟨rfl,h.2⟩
  ·exact .inr h.2
 ·cases h
theorem or_inv {names:List Str} {sc:Scope} {p:E} {l:List Expr} (h:matchOr tb names sc p l=true):∃ a b x y r,p=.or a b∧l=x::y::r∧matchE tb names sc a x=true∧((r=[]∧matchE tb names sc b y=true)∨matchOr tb names sc b (y::r)=true):=by
 unfold matchOr at h
 split at h
 ·simp only [Bool.and_eq_true] at h
  refine⟨_,_,_,_,_,rfl,rfl,h.1,?_⟩
  split at h
  ·exact .inl ⟨rfl,h.2⟩
  ·exact .inr h.2
 ·cases h
mutual
theorem sE (O:W.All tb gt mg mb) (hC:CSnd W n C):(p:E)→∀ (l:Expr) (names:List Str) (sc:Scope),matchE tb names sc p l=true→Both W gt n C names sc p l
 | .lit v=>fun l names sc h=>t_lit h
 | .glob x=>fun l names sc h=>t_glob O h
 | .loc i=>fun l names sc h=>t_loc h
 | .bin op a b=>fun l names sc h=>by
  cases l<;>first|(simp [matchE] at h;done)|skip
  simp only [matchE,Bool.and_eq_true] at h
  exact bothv (fun _ _=>rfl) (snd_bin h.1.1 (sE O hC a _ _ _ h.1.2).1 (sE O hC b _ _ _ h.2).1)
 | .neg a=>fun l names sc h=>by
  cases l<;>first|(simp [matchE] at h;done)|skip
  rename_i op x pos
  cases op<;>first|(simp [matchE] at h;done)|skip
  simp only [matchE] at h
  exact bothv (fun _ _=>rfl) (snd_neg (sE O hC a _ _ _ h).1)
 | .not a=>fun l names sc h=>by
  cases l<;>first|(simp [matchE] at h;done)|skip
  rename_i op x pos
  cases op<;>first|(simp [matchE] at h;done)|skip
  simp only [matchE] at h
  have ih:=sE O hC a _ _ _ h
  exact⟨snd_not ih.1,tr_not ih.2⟩
 | .and a b=>fun l names sc h=>by
  cases l<;>first|(simp [matchE] at h;done)|skip
  rename_i op vs pos
  cases op<;>first|(simp [matchE] at h;done)|skip
  rcases vs with _|⟨x,_|⟨y,r⟩⟩<;>first|(simp [matchE] at h;done)|skip
  simp only [matchE,Bool.and_eq_true] at h
  have ia:=sE O hC a _ _ _ h.1
  cases r with
  | nil =>
   have ib:=sE O hC b _ _ _ h.2
   exact⟨snd_and ia.1 (.inr ⟨rfl,ib.1⟩),tr_bool (all_and ia.2 (all_one_and ib.2))⟩
  | cons z r =>
   have ib:=sAnd O hC b _ _ _ h.2
   exact⟨snd_and ia.1 (.inl (ib.1 pos)),tr_bool (all_and ia.2 ib.2)⟩
 | .or a b=>fun l names sc h=>by
  cases l<;>first|(simp [matchE] at h;done)|skip
  rename_i op vs pos
  cases op<;>first|(simp [matchE] at h;done)|skip
  rcases vs with _|⟨x,_|⟨y,r⟩⟩<;>first|(simp [matchE] at h;done)|skip
  simp only [matchE,Bool.and_eq_true] at h
  have ia:=sE O hC a _ _ _ h.1
  cases r with
  | nil =>
   have ib:=sE O hC b _ _ _ h.2
   exact⟨snd_or ia.1 (.inr ⟨rfl,ib.1⟩),tr_bool (all_or ia.2 (all_one_or ib.2))⟩
  | cons z r =>
   have ib:=sOr O hC b _ _ _ h.2
   exact⟨snd_or ia.1 (.inl (ib.1 pos)),tr_bool (all_or ia.2 ib.2)⟩
 | .cmp op a b=>fun l names sc h=>by
  cases l<;>first|(simp [matchE] at h;done)|skip
  rename_i x ops cs pos
  rcases ops with _|⟨o,_|⟨_,_⟩⟩<;>first|(simp [matchE] at h;done)|skip
  rcases cs with _|⟨r,_|⟨_,_⟩⟩<;>first|(simp [matchE] at h;done)|skip
  simp only [matchE,Bool.and_eq_true] at h
  have ia:=sE O hC a _ _ _ h.1.2
  have ib:=sE O hC b _ _ _ h.2
  exact⟨snd_cmp O.o.low h.1.1.1.1 h.1.1.1.2 h.1.1.2 ia.1 ib.1,tr_cmp O.o.low h.1.1.1.1 h.1.1.1.2 h.1.1.2 ia.1 ib.1⟩
 | .tup l=>fun r names sc h=>by
  cases r<;>first|(simp [matchE] at h;done)|skip
  simp only [matchE,Bool.and_eq_true,beq_iff_eq,decide_eq_true_eq] at h
  have is:=sEs O hC l _ _ _ h.1
  exact bothv (fun _ _=>rfl) (snd_tup h.2 (is.ess (matchEs_plain h.1)))
 | .list l=>fun r names sc h=>by
  cases r<;>first|(simp [matchE] at h;done)|skip
  simp only [matchE,Bool.and_eq_true,beq_iff_eq,decide_eq_true_eq] at h
  have is:=sEs O hC l _ _ _ h.1
  exact bothv (fun _ _=>rfl) (snd_list h.2 (is.ess (matchEs_plain h.1)))
 | .di=>fun l names sc h=>by
  cases l<;>first|(simp [matchE] at h;done)|skip
  rename_i ks vs pos
  cases ks<;>first|(simp [matchE] at h;done)|skip
  cases vs<;>first|(simp [matchE] at h;done)|skip
  exact bothv (fun _ _=>rfl) snd_di
 | .ds=>fun l names sc h=>by
  cases l<;>first|(simp [matchE] at h;done)|skip
  rename_i ks vs pos
  cases ks<;>first|(simp [matchE] at h;done)|skip
  cases vs<;>first|(simp [matchE] at h;done)|skip
  exact bothv (fun _ _=>rfl) snd_ds
 | .dt=>fun l names sc h=>by
  cases l<;>first|(simp [matchE] at h;done)|skip
  rename_i ks vs pos
  cases ks<;>first|(simp [matchE] at h;done)|skip
  cases vs<;>first|(simp [matchE] at h;done)|skip
  exact bothv (fun _ _=>rfl) snd_dt
 | .idx a b=>fun l names sc h=>by
  cases l<;>first|(simp [matchE] at h;done)|skip
  simp only [matchE,Bool.and_eq_true,Bool.not_eq_true'] at h
  exact bothv (fun _ _=>rfl) (snd_idx h.1.1.2 (sE O hC a _ _ _ h.1.2).1 (sE O hC b _ _ _ h.2).1)
 | .attr a c i=>fun l names sc h=>by
  cases l<;>first|(simp [matchE] at h;done)|skip
  simp only [matchE,Bool.and_eq_true,beq_iff_eq,decide_eq_true_eq] at h
  exact bothv (fun _ _=>rfl) (snd_attr O.o h.2 h.1.1 (sE O hC a _ _ _ h.1.2).1)
 | .call f args=>fun l names sc h=>by
  cases l<;>first|(simp [matchE] at h;done)|skip
  rename_i f es kws pos
  cases f<;>first|(simp [matchE] at h;done)|skip
  rename_i nm np
  rcases kws with _|⟨_,_⟩<;>first|(simp [matchE] at h;done)|skip
  simp only [matchE,Bool.and_eq_true,beq_iff_eq,decide_eq_true_eq] at h
  have is:=sEs O hC args _ _ _ h.1.2
  exact bothv (fun _ _=>rfl) (snd_call O.o O.c hC (List.contains_iff_mem.mp h.1.1.1) h.1.1.2 h.1.2 (is.ess (matchEs_plain h.1.2)))
 | .len a=>fun l names sc h=>by
  cases l<;>first|(simp [matchE] at h;done)|skip
  rename_i f es kws pos
  cases f<;>first|(simp [matchE] at h;done)|skip
  rename_i nm np
  rcases es with _|⟨e,_|⟨_,_⟩⟩<;>first|(simp [matchE] at h;done)|skip
  rcases kws with _|⟨_,_⟩<;>first|(simp [matchE] at h;done)|skip
  simp only [matchE,Bool.and_eq_true,beq_iff_eq,decide_eq_true_eq] at h
  obtain⟨⟨⟨rfl,hg⟩,hm⟩,hs⟩:=h
  exact bothv (fun _ _=>rfl) (snd_len O.o hg hs (sE O hC a _ _ _ hm).1)
 | .append o x=>fun l names sc h=>by
  cases l<;>first|(simp [matchE] at h;done)|skip
  rename_i f es kws pos
  cases f<;>first|(simp [matchE] at h;done)|skip
  rename_i v nm apos
  rcases es with _|⟨e,_|⟨_,_⟩⟩<;>first|(simp [matchE] at h;done)|skip
  rcases kws with _|⟨_,_⟩<;>first|(simp [matchE] at h;done)|skip
  simp only [matchE,Bool.and_eq_true,beq_iff_eq,decide_eq_true_eq] at h
  obtain⟨⟨⟨⟨⟨rfl,h1⟩,h2⟩,h3⟩,h4⟩,h5⟩:=h
  exact bothv (fun _ _=>rfl) (snd_append h1 (by simpa using h2) h5 (sE O hC o _ _ _ h3).1 (sE O hC x _ _ _ h4).1)
 | .sorted a=>fun l names sc h=>by
  cases l<;>first|(simp [matchE] at h;done)|skip
  rename_i f es kws pos
  cases f<;>first|(simp [matchE] at h;done)|skip
  rename_i nm np
  rcases es with _|⟨e,_|⟨_,_⟩⟩<;>first|(simp [matchE] at h;done)|skip
  rcases kws with _|⟨_,_⟩<;>first|(simp [matchE] at h;done)|skip
  simp only [matchE,Bool.and_eq_true,beq_iff_eq,decide_eq_true_eq] at h
  obtain⟨⟨⟨rfl,hg⟩,hm⟩,hs⟩:=h
  exact bothv (fun _ _=>rfl) (snd_sorted O.o hg hs (sE O hC a _ _ _ hm).1)
 | .tupleOf a=>fun l names sc h=>by
  cases l<;>first|(simp [matchE] at h;done)|skip
  rename_i f es kws pos
  cases f<;>first|(simp [matchE] at h;done)|skip
  rename_i nm np
  rcases es with _|⟨e,_|⟨_,_⟩⟩<;>first|(simp [matchE] at h;done)|skip
  rcases kws with _|⟨_,_⟩<;>first|(simp [matchE] at h;done)|skip
  simp only [matchE,Bool.and_eq_true,beq_iff_eq,decide_eq_true_eq] at h
  obtain⟨⟨⟨rfl,hg⟩,hm⟩,hs⟩:=h
  exact bothv (fun _ _=>rfl) (snd_tupleOf O.o hg hs (sE O hC a _ _ _ hm).1)
 | .strOf a=>fun l names sc h=>by
  cases l<;>first|(simp [matchE] at h;done)|skip
  rename_i f es kws pos
  cases f<;>first|(simp [matchE] at h;done)|skip
  rename_i nm np
  rcases es with _|⟨e,_|⟨_,_⟩⟩<;>first|(simp [matchE] at h;done)|skip
  rcases kws with _|⟨_,_⟩<;>first|(simp [matchE] at h;done)|skip
  simp only [matchE,Bool.and_eq_true,beq_iff_eq,decide_eq_true_eq] at h
  obtain⟨⟨⟨rfl,hg⟩,hm⟩,hs⟩:=h
  exact bothv (fun _ _=>rfl) (snd_strOf O.o hg hs (sE O hC a _ _ _ hm).1)
 | .pop o=>fun l names sc h=>by
  cases l<;>first|(simp [matchE] at h;done)|skip
  rename_i f es kws pos
  cases f<;>first|(simp [matchE] at h;done)|skip
  rename_i v nm apos
  rcases es with _|⟨e,es⟩<;>first|(simp [matchE] at h;done)|skip
  rcases kws with _|⟨_,_⟩<;>first|(simp [matchE] at h;done)|skip
  simp only [matchE,Bool.and_eq_true,beq_iff_eq,decide_eq_true_eq] at h
  obtain⟨⟨⟨rfl,h1⟩,h2⟩,h3⟩:=h
  exact bothv (fun _ _=>rfl) (snd_pop h1 (by simpa using h2) (sE O hC o _ _ _ h3).1)
 | .popAt o x=>fun l names sc h=>by
  cases l<;>first|(simp [matchE] at h;done)|skip
  rename_i f es kws pos
  cases f<;>first|(simp [matchE] at h;done)|skip
  rename_i v nm apos
  rcases es with _|⟨e,_|⟨_,_⟩⟩<;>first|(simp [matchE] at h;done)|skip
  rcases kws with _|⟨_,_⟩<;>first|(simp [matchE] at h;done)|skip
  simp only [matchE,Bool.and_eq_true,beq_iff_eq,decide_eq_true_eq] at h
  obtain⟨⟨⟨⟨⟨rfl,h1⟩,h2⟩,h3⟩,h4⟩,h5⟩:=h
  exact bothv (fun _ _=>rfl) (snd_popAt h1 (by simpa using h2) h5 (sE O hC o _ _ _ h3).1 (sE O hC x _ _ _ h4).1)
 | .get1 o x=>fun l names sc h=>by
  cases l<;>first|(simp [matchE] at h;done)|skip
  rename_i f es kws pos
  cases f<;>first|(simp [matchE] at h;done)|skip
  rename_i v nm apos
  rcases es with _|⟨e,_|⟨_,_⟩⟩<;>first|(simp [matchE] at h;done)|skip
  rcases kws with _|⟨_,_⟩<;>first|(simp [matchE] at h;done)|skip
  simp only [matchE,Bool.and_eq_true,beq_iff_eq,decide_eq_true_eq] at h
  obtain⟨⟨⟨⟨⟨rfl,h1⟩,h2⟩,h3⟩,h4⟩,h5⟩:=h
  exact bothv (fun _ _=>rfl) (snd_get1 O.o h1 (by simpa using h2) h5 (sE O hC o _ _ _ h3).1 (sE O hC x _ _ _ h4).1)
 | .get2 o x d=>fun l names sc h=>by
  cases l<;>first|(simp [matchE] at h;done)|skip
  rename_i f es kws pos
  cases f<;>first|(simp [matchE] at h;done)|skip
  rename_i v nm apos
  rcases es with _|⟨e,_|⟨e',_|⟨_,_⟩⟩⟩<;>first|(simp [matchE] at h;done)|skip
  rcases kws with _|⟨_,_⟩<;>first|(simp [matchE] at h;done)|skip
  simp only [matchE,Bool.and_eq_true,beq_iff_eq,decide_eq_true_eq] at h
  obtain⟨⟨⟨⟨⟨⟨⟨rfl,h1⟩,h2⟩,h3⟩,h4⟩,h5⟩,h6⟩,h7⟩:=h
  exact bothv (fun _ _=>rfl) (snd_get2 O.o h1 (by simpa using h2) h6 h7 (sE O hC o _ _ _ h3).1 (sE O hC x _ _ _ h4).1 (sE O hC d _ _ _ h5).1)
 | .new c f args=>fun l names sc h=>by
  cases l<;>first|(simp [matchE] at h;done)|skip
  rename_i f es kws pos
  cases f<;>first|(simp [matchE] at h;done)|skip
  rename_i nm np
  rcases kws with _|⟨_,_⟩<;>first|(simp [matchE] at h;done)|skip
  simp only [matchE,Bool.and_eq_true,beq_iff_eq,decide_eq_true_eq] at h
  have is:=sEs O hC args _ _ _ h.1.2
  exact bothv (fun _ _=>rfl) (snd_new O.o O.c hC h.1.1.1.1 (List.contains_iff_mem.mp h.1.1.2) h.1.1.1.2 h.1.2 (is.ess (matchEs_plain h.1.2)))
 | .new0 c=>fun l names sc h=>by
  cases l<;>first|(simp [matchE] at h;done)|skip
  rename_i f es kws pos
  cases f<;>first|(simp [matchE] at h;done)|skip
  rename_i nm np
  rcases es with _|⟨e,es⟩<;>first|(simp [matchE] at h;done)|skip
  rcases kws with _|⟨_,_⟩<;>first|(simp [matchE] at h;done)|skip
  simp only [matchE,Bool.and_eq_true,beq_iff_eq,decide_eq_true_eq] at h
  exact bothv (fun _ _=>rfl) (snd_new0 O.o O.c h.1.1 (List.contains_iff_mem.mp h.2) h.1.2)
 | .meth o c f args=>fun l names sc h=>by
  cases l<;>first|(simp [matchE] at h;done)|skip
  rename_i f es kws pos
  cases f<;>first|(simp [matchE] at h;done)|skip
  rename_i v nm apos
  rcases kws with _|⟨_,_⟩<;>first|(simp [matchE] at h;done)|skip
  simp only [matchE,Bool.and_eq_true,beq_iff_eq,decide_eq_true_eq] at h
  obtain⟨⟨⟨⟨⟨h1,h2⟩,h3⟩,h4⟩,h5⟩,h6⟩:=h
  have is:=sEs O hC args _ _ _ h5
  exact bothv (fun _ _=>rfl) (snd_meth O.o O.c hC (List.contains_iff_mem.mp h4) h1 (by simpa using h2) h5 h6 (sE O hC o _ _ _ h3).1 (is.ess (matchEs_plain h5)))
 | .wk a k=>fun l names sc h=>by
  cases l<;>first|(simp [matchE] at h;done)|skip
  rename_i v i pos
  cases i<;>first|(simp [matchE] at h;done)|skip
  rename_i c kk cp
  cases c<;>first|(simp [matchE] at h;done)|skip
  simp only [matchE,Bool.and_eq_true,beq_iff_eq] at h
  exact bothv (fun _ _=>rfl) (snd_wk (by rw [O.o.wks];exact h.2) (sE O hC a _ _ _ h.1.2).1)
 | .inTid a=>fun l names sc h=>by
  cases l<;>first|(simp [matchE] at h;done)|skip
  rename_i x ops cs pos
  rcases ops with _|⟨o,_|⟨_,_⟩⟩<;>first|(simp [matchE] at h;done)|skip
  cases o<;>first|(simp [matchE] at h;done)|skip
  rcases cs with _|⟨r,_|⟨_,_⟩⟩<;>first|(simp [matchE] at h;done)|skip
  cases r<;>first|(simp [matchE] at h;done)|skip
  simp only [matchE,Bool.and_eq_true,beq_iff_eq] at h
  obtain⟨⟨h1,rfl⟩,h3⟩:=h
  have ia:=sE O hC a _ _ _ h1
  exact⟨snd_inTid O.o O.t h3 ia.1,tr_inTid O.o O.t h3 ia.1⟩
 | .cut a k=>fun l names sc h=>by
  cases l<;>first|(simp [matchE] at h;done)|skip
  rename_i v i pos
  cases i<;>first|(simp [matchE] at h;done)|skip
  rename_i lo up st sp
  cases lo<;>first|(simp [matchE] at h;done)|skip
  cases st<;>first|(simp [matchE] at h;done)|(cases up<;>(simp [matchE] at h;done))|skip
  cases up<;>first|(simp [matchE] at h;done)|skip
  rename_i up
  cases up<;>first|(simp [matchE] at h;done)|skip
  rename_i c kk cp
  cases c<;>first|(simp [matchE] at h;done)|skip
  simp only [matchE,Bool.and_eq_true,beq_iff_eq,decide_eq_true_eq] at h
  exact bothv (fun _ _=>rfl) (snd_cut h.1.2 h.1.1.1 (sE O hC a _ _ _ h.1.1.2).1)
 | .wd ps=>fun l names sc h=>by
  cases l<;>first|(simp [matchE] at h;done)|skip
  simp only [matchE,Bool.and_eq_true,beq_iff_eq,decide_eq_true_eq] at h
  obtain⟨⟨⟨⟨⟨h1,h2⟩,h3⟩,h4⟩,h6⟩,h5⟩:=h
  have is:=sEs O hC ps _ _ _ h1
  exact bothv (fun _ _=>rfl) (snd_wd O.o (by intro q;rw [q] at h6;simp at h6) h2 h3 h4 h5 (evalEs_len h1) is)
 | .comp elt cap nt it []=>fun l names sc h=>by
  obtain⟨e,tn,px,i,fs,isc,pos,caps,rfl,hc,rfl,h1,h2,h4,h5,h6,h7⟩:=comp_inv h
  refine bothv (fun _ _=>rfl) (snd_comp hc (CompOk.of h4) h5 h2 (sE O hC it _ _ _ h1).1 (sE O hC elt _ _ _ h6).1 ?_)
  rcases h7 with ⟨_,rfl⟩|⟨c,g,q,_⟩
  ·exact .inl ⟨rfl,rfl⟩
  ·cases q
 | .comp elt cap nt it (c::cs)=>fun l names sc h=>by
  obtain⟨e,tn,px,i,fs,isc,pos,caps,rfl,hc,rfl,h1,h2,h4,h5,h6,h7⟩:=comp_inv h
  refine bothv (fun _ _=>rfl) (snd_comp hc (CompOk.of h4) h5 h2 (sE O hC it _ _ _ h1).1 (sE O hC elt _ _ _ h6).1 ?_)
  rcases h7 with ⟨q,rfl⟩|⟨c',g,q,rfl,h7⟩
  ·cases q
  ·have e1:c=c':=by cases q;rfl
   have e2:cs=[]:=by cases q;rfl
   subst e2
   exact .inr ⟨c,g,rfl,rfl,(sE O hC c _ _ _ (e1▸h7)).2⟩
 | .comp2 elt cap n1 it n2 it2=>fun l names sc h=>by
  obtain⟨e,t_1,p_1,i_1,t_2,p_2,i_2,isc,pos,caps,rfl,hc,rfl,rfl,h1,h2,h3,h4,h5,h6,h7⟩:=comp2_inv h
  exact bothv (fun _ _=>rfl) (snd_comp2 hc (CompOk.of h4) h5 h2 h3 (sE O hC it _ _ _ h1).1 (sE O hC elt _ _ _ h6).1 (sE O hC it2 _ _ _ h7).1)
theorem sAnd (O:W.All tb gt mg mb) (hC:CSnd W n C):(p:E)→∀ (l:List Expr) (names:List Str) (sc:Scope),matchAnd tb names sc p l=true→(∀ pos,ESnd W gt n C names sc p (.BoolOp .And l pos))∧AllSnd W gt n C names sc .And p l
 | .and a b=>fun l names sc h=>by
  obtain⟨a',b',x,y,r,hp,rfl,h1,h2⟩:=and_inv h
  have e1:a=a':=by cases hp;rfl
  have e2:b=b':=by cases hp;rfl
  have ia:=sE O hC a x names sc (e1▸h1)
  rcases h2 with ⟨rfl,h2⟩|h2
  ·have ib:=sE O hC b y names sc (e2▸h2)
   exact⟨fun pos=>snd_and ia.1 (.inr ⟨rfl,ib.1⟩),all_and ia.2 (all_one_and ib.2)⟩
  ·have ib:=sAnd O hC b _ names sc (e2▸h2)
   exact⟨fun pos=>snd_and ia.1 (.inl (ib.1 pos)),all_and ia.2 ib.2⟩
 | .lit _|.glob _|.loc _|.bin ..|.neg _|.not _|.or ..|.cmp ..|.tup _|.list _|.di|.ds|.dt|.wd _|.idx ..|.wk ..|.cut ..|.attr ..|.call ..|.new ..|.new0 ..|.meth ..|.append ..|.pop ..|.popAt ..|.get1 ..|.get2 ..|.len ..|.sorted ..|.tupleOf ..|.strOf ..|.comp ..|.comp2 ..|.inTid ..=>fun l names sc h=>by
  obtain⟨a',b',x,y,r,hp,rfl,h1,h2⟩:=and_inv h
  cases hp
theorem sOr (O:W.All tb gt mg mb) (hC:CSnd W n C):(p:E)→∀ (l:List Expr) (names:List Str) (sc:Scope),matchOr tb names sc p l=true→(∀ pos,ESnd W gt n C names sc p (.BoolOp .Or l pos))∧AllSnd W gt n C names sc .Or p l
 | .or a b=>fun l names sc h=>by
  obtain⟨a',b',x,y,r,hp,rfl,h1,h2⟩:=or_inv h
  have e1:a=a':=by cases hp;rfl
  have e2:b=b':=by cases hp;rfl
  have ia:=sE O hC a x names sc (e1▸h1)
  rcases h2 with ⟨rfl,h2⟩|h2
  ·have ib:=sE O hC b y names sc (e2▸h2)
   exact⟨fun pos=>snd_or ia.1 (.inr ⟨rfl,ib.1⟩),all_or ia.2 (all_one_or ib.2)⟩
  ·have ib:=sOr O hC b _ names sc (e2▸h2)
   exact⟨fun pos=>snd_or ia.1 (.inl (ib.1 pos)),all_or ia.2 ib.2⟩
 | .lit _|.glob _|.loc _|.bin ..|.neg _|.not _|.and ..|.cmp ..|.tup _|.list _|.di|.ds|.dt|.wd _|.idx ..|.wk ..|.cut ..|.attr ..|.call ..|.new ..|.new0 ..|.meth ..|.append ..|.pop ..|.popAt ..|.get1 ..|.get2 ..|.len ..|.sorted ..|.tupleOf ..|.strOf ..|.comp ..|.comp2 ..|.inTid ..=>fun l names sc h=>by
  obtain⟨a',b',x,y,r,hp,rfl,h1,h2⟩:=or_inv h
  cases hp
theorem sEs (O:W.All tb gt mg mb) (hC:CSnd W n C):(p:List E)→∀ (l:List Expr) (names:List Str) (sc:Scope),matchEs tb names sc p l=true→EachSnd W gt n C names sc p l
 | []=>fun l names sc h=>by cases l<;>first|(simp [matchEs] at h;done)|trivial
 | a::r=>fun l names sc h=>by
  cases l<;>first|(simp [matchEs] at h;done)|skip
  simp only [matchEs,Bool.and_eq_true] at h
  exact⟨(sE O hC a _ _ _ h.1.2).1,sEs O hC r _ _ _ h.2⟩
end
end
section
variable {W:Setup} {tb:Tab} {gt:List V} {mg mb:Str→Option Value} {n:Nat} {C:CallF} {names:List Str} {sc:Scope}
theorem sT (O:W.All tb gt mg mb) (hC:CSnd W n C):(t:T)→∀ (l:Expr),matchT tb names sc t l=true→TSnd W gt n C names sc t l
 | .loc i=>fun l h=>by
  unfold matchT at h
  split at h<;>first|(cases h;done)|(rename_i hq;cases hq;done)|skip
  rename_i hq;cases hq
  exact tsnd_loc h
 | .locs is=>fun l h=>by
  unfold matchT at h
  split at h<;>first|(cases h;done)|(rename_i hq;cases hq;done)|skip
  rename_i hq;cases hq
  simp only [Bool.and_eq_true] at h
  exact tsnd_locs h.1
 | .attr a c i=>fun l h=>by
  unfold matchT at h
  split at h<;>first|(cases h;done)|(rename_i hq;cases hq;done)|skip
  rename_i hq;cases hq
  simp only [Bool.and_eq_true,beq_iff_eq] at h
  exact tsnd_attr O.o h.2 (sE O hC a _ _ _ h.1).1
 | .idx a b=>fun l h=>by
  unfold matchT at h
  split at h<;>first|(cases h;done)|(rename_i hq;cases hq;done)|skip
  rename_i hq;cases hq
  simp only [Bool.and_eq_true,beq_iff_eq] at h
  exact tsnd_idx (sE O hC a _ _ _ h.1.2).1 (sE O hC b _ _ _ h.2).1
 | .wk a k=>fun l h=>by
  unfold matchT at h
  split at h<;>first|(cases h;done)|(rename_i hq;cases hq;done)|skip
  rename_i hq;cases hq
  simp only [Bool.and_eq_true,beq_iff_eq] at h
  exact tsnd_wk O.o O.wl h.2 (sE O hC a _ _ _ h.1).1
theorem matchT_star {t:T} {l:Expr} (h:matchT tb names sc t l=true):notStar l=true:=by
 cases l<;>first|rfl|skip
 unfold matchT at h
 split at h<;>first|(cases h;done)|(rename_i hq;cases hq;done)|skip
theorem not_comp {l:Expr} (h:isComp l=false):∀ t k env,swapsWith l t k env=pure false:=by
 intro t k env
 cases l<;>first|rfl|cases h
theorem matchE_comps {p:E} {l:Expr} (h:matchE tb names sc p l=true) (hc:isComp l=true):∃ e gens isc pos,l=.ListComp e gens isc pos:=by
 cases l<;>first|(cases hc;done)|exact⟨_,_,_,_,rfl⟩|skip
 all_goals
  unfold matchE at h
  split at h<;>first|(cases h;done)|(rename_i hq;cases hq;done)|skip
theorem match_comp {p:E} {e:Expr} {gens:List Comprehension} {isc:Scope} {pos:Pos} (h:matchE tb names sc p (.ListComp e gens isc pos)=true):(∃ elt cap nt it cond,p=.comp elt cap nt it cond)∨∃ elt cap n_1 it1 n_2 it_2,p=.comp2 elt cap n_1 it1 n_2 it_2:=by
 cases p<;>first|exact .inl ⟨_,_,_,_,_,rfl⟩|exact .inr ⟨_,_,_,_,_,_,rfl⟩|(unfold matchE at h;cases h)
theorem stores_none {t:T} {te l:Expr} (hm:matchT tb names sc t te=true) (h:assignOk t te l=true):∀ env,swappedStores [te] l env=pure none:=by
 intro env
 cases te<;>first|rfl|skip
 ·unfold matchT at hm
  split at hm<;>first|(cases hm;done)|(rename_i hq;cases hq;done)|skip
 ·unfold matchT at hm
  split at hm<;>first|(cases hm;done)|(rename_i hq;cases hq;done)|skip
  cases l<;>first|rfl|skip
  simp [assignOk] at h
theorem sAssign (O:W.All tb gt mg mb) (hC:CSnd W n C) {t:T} {te l:Expr} {p:E} {pos:Pos} (h1:matchT tb names sc t te=true) (h2:matchE tb names sc p l=true) (h3:assignOk t te l=true):SSnd W gt n C names sc (.assign t p) (.Assign [te] l pos):=by
 cases hc:isComp l with
 | false=>exact ssnd_assign (matchT_star h1) (fun env=>not_comp hc _ _ _) (stores_none h1 h3) (sT O hC t te h1) (sE O hC p l names sc h2).1
 | true =>
  obtain⟨e,gens,isc,lp,rfl⟩:=matchE_comps h2 hc
  cases te<;>first|exact ssnd_assign (matchT_star h1) (fun env=>rfl) (stores_none h1 h3) (sT O hC t _ h1) (sE O hC p _ names sc h2).1|skip
  rename_i y py
  unfold matchT at h1
  split at h1<;>first|(cases h1;done)|(rename_i hq;cases hq;done)|skip
  rename_i i x pos' hq
  cases hq
  simp only [assignOk,Bool.and_eq_true,beq_iff_eq,Bool.not_eq_true'] at h3
  have hsw:∀ env,EnvOK env→env.kindOf y=some .local→swapsWith (.ListComp e gens isc lp) (some (.Name y py)) pos.line env=pure true:=by
   intro env he hk
   unfold swapsWith
   show (pure (env.blockKind==.function&&env.kindOf y==some .local&&py.line==lp.line&&!(isc.names.any fun (n,k)=>n==y&&(k==.local||k==.cell))):Sem Bool)=pure true
   have hb:env.blockKind=.function:=by unfold Env.blockKind;rw [he.fn];rfl
   rw [hb,hk,h3.1]
   have:(isc.names.any fun (n,k)=>n==y&&(k==.local||k==.cell))=false:=h3.2
   rw [this]
   simp
  rcases match_comp h2 with ⟨elt,cap,nt,it,cond,rfl⟩|⟨elt,cap,n_1,it1,n_2,it_2,rfl⟩
  ·obtain⟨e,tn,px,j,fs,isc,pos,caps,q,hcc,rfl,g1,g2,g4,g5,g6,g7⟩:=comp_inv h2
   cases q
   refine ssnd_assign_comp h1 hsw hcc (CompOk.of g4) g5 g2 (sE O hC it _ _ _ g1).1 (sE O hC elt _ _ _ g6).1 ?_
   rcases g7 with ⟨rfl,rfl⟩|⟨c,g,rfl,rfl,g7⟩
   ·exact .inl ⟨rfl,rfl⟩
   ·exact .inr ⟨c,g,rfl,rfl,(sE O hC c _ _ _ g7).2⟩
  ·obtain⟨e,t_1,p_1,i_1,t_2,p_2,i_2,isc,pos,caps,q,hcc,rfl,rfl,g1,g2,g3,g4,g5,g6,g7⟩:=comp2_inv h2
   cases q
   exact ssnd_assign_comp2 h1 hsw hcc (CompOk.of g4) g5 g2 g3 (sE O hC it1 _ _ _ g1).1 (sE O hC elt _ _ _ g6).1 (sE O hC it_2 _ _ _ g7).1
end
section
variable {W:Setup} {tb:Tab} {gt:List V} {mg mb:Str→Option Value} {n:Nat} {C:CallF} {names:List Str} {sc:Scope}
theorem ssnd_stuck {t:Stmt}:SSnd W gt n C names sc .stuck t:=by
 intro ρ H r H' he
 cases he
theorem not_interactive {env:Env} (h:EnvOK env):interactive env=false:=by
 unfold interactive;rw [h.fn];rfl
mutual
theorem sS (O:W.All tb gt mg mb) (hC:CSnd W n C):(t:S)→∀ (l:Stmt),matchS tb names sc t l=true→SSnd W gt n C names sc t l
 | .assign t e=>fun l h=>by
  unfold matchS at h
  split at h<;>first|(cases h;done)|(rename_i hq;cases hq;done)|skip
  rename_i hq;cases hq
  simp only [Bool.and_eq_true] at h
  exact sAssign O hC h.1.1 h.1.2 h.2
 | .aug t op e=>fun l h=>by
  unfold matchS at h
  split at h<;>first|(cases h;done)|(rename_i hq;cases hq;done)|skip
  ·rename_i hq;cases hq
   simp only [Bool.and_eq_true] at h
   exact ssnd_aug_loc h.1.1.1 h.1.1.2 h.1.2 (sE O hC e _ _ _ h.2).1
  ·rename_i a _ _ _ _ _ _ _ _ _ hq;cases hq
   simp only [Bool.and_eq_true,beq_iff_eq] at h
   exact ssnd_aug_attr O.o h.1.2 h.1.1.1 (sE O hC _ _ _ _ h.1.1.2).1 (sE O hC e _ _ _ h.2).1
 | .expr e=>fun l h=>by
  unfold matchS at h
  split at h<;>first|(cases h;done)|(rename_i hq;cases hq;done)|skip
  rename_i hq;cases hq
  simp only [Bool.and_eq_true,Bool.not_eq_true'] at h
  exact ssnd_expr (fun env=>not_comp h.2 _ _ _) (fun env=>not_interactive) (sE O hC e _ _ _ h.1).1
 | .ret e=>fun l h=>by
  unfold matchS at h
  split at h<;>first|(cases h;done)|(rename_i hq;cases hq;done)|skip
  ·rename_i hq;cases hq
   exact ssnd_ret (sE O hC e _ _ _ h).1
  ·rename_i hq;cases hq
   exact ssnd_ret_none h
 | .pass=>fun l h=>by
  unfold matchS at h
  split at h<;>first|(cases h;done)|(rename_i hq;cases hq;done)|skip
  exact ssnd_pass
 | .ite c a b=>fun l h=>by
  unfold matchS at h
  split at h<;>first|(cases h;done)|(rename_i hq;cases hq;done)|skip
  rename_i hq;cases hq
  simp only [Bool.and_eq_true] at h
  exact ssnd_if (sE O hC c _ _ _ h.1.1).2 (sSs O hC a _ h.1.2) (sSs O hC b _ h.2)
 | .while c b=>fun l h=>by
  unfold matchS at h
  split at h<;>first|(cases h;done)|(rename_i hq;cases hq;done)|skip
  rename_i hq;cases hq
  simp only [Bool.and_eq_true] at h
  exact ssnd_while (sE O hC c _ _ _ h.1).2 (sSs O hC b _ h.2)
 | .forI t e b=>fun l h=>by
  unfold matchS at h
  split at h<;>first|(cases h;done)|(rename_i hq;cases hq;done)|skip
  rename_i hq;cases hq
  simp only [Bool.and_eq_true] at h
  exact ssnd_for h.1.1.1 h.1.2 (sE O hC e _ _ _ h.1.1.2).1 (sSs O hC b _ h.2)
 | .forR t e b=>fun l h=>by
  unfold matchS at h
  split at h<;>first|(cases h;done)|(rename_i hq;cases hq;done)|skip
  rename_i hq;cases hq
  simp only [Bool.and_eq_true,beq_iff_eq] at h
  obtain⟨⟨⟨⟨⟨h1,rfl⟩,h2⟩,h3⟩,h4⟩,h5⟩:=h
  exact ssnd_range O.o h1 h2 h3 (sE O hC e _ _ _ h4).1 (sSs O hC b _ h5)
 | .stuck=>fun l h=>ssnd_stuck
theorem sSs (O:W.All tb gt mg mb) (hC:CSnd W n C):(t:List S)→∀ (l:List Stmt),matchSs tb names sc t l=true→SsSnd W gt n C names sc t l
 | []=>fun l h=>by
  cases l
  ·exact sssnd_nil
  ·simp [matchSs] at h
 | a::r=>fun l h=>by
  cases l
  ·simp [matchSs] at h
  ·simp only [matchSs,Bool.and_eq_true] at h
   exact sssnd_cons (sS O hC a _ h.1) (sSs O hC r _ h.2)
end
structure Setup.Fns (W:Setup) (tb:Tab) (fns:List Fn):Prop where
 fn:∀ (f:Nat) (md:Fn),fns[f]?=some md→∃ o fd body names,W.g.get? (W.fn f)=some o∧o.data=.func fd∧FnOk tb W.g fd body names md
theorem callN_snd (O:W.All tb gt mg mb) {fns:List Fn} (F:W.Fns tb fns):∀ n,CSnd W n (callN gt fns n)
 | 0=>by
  intro f vs H v H' he
  cases he
 | n+1=>by
  intro f vs H v H' he A ads s xs hA S hv
  have ih:=callN_snd O F n
  obtain⟨md,e1,he⟩:=asSome_eq he
  obtain⟨hlen,he⟩:=guardB_eq he
  obtain⟨r,H1,e2,he⟩:=bnd_eq he
  cases he
  obtain⟨o,fd,body,names,ho,hd,hF⟩:=F.fn f md e1
  exact call_snd O.o ho hd hF (sSs O ih _ _ hF.bodyOk) hA S hv (by simpa using hlen) e2
end
end Mine
namespace Mine
open PySem PySem.W PySem.Calls PyProof.Rows PySem.Spec
open _root_.List renaming length_map → lM, append_nil → aN, append_assoc → aA, map_append → mP, mem_of_getElem? → mG, length_append → lA, getElem?_eq_some_iff → gS, getElem?_map → gM, mem_append → mA, mem_map → mM, map_cons → mC, cons_append → cA, mem_singleton → mS, mem_cons → mK, nil_append → nA, getElem?_eq_getElem → gE, mem_append_left → mL, length_cons → lC, mem_map_of_mem → mO, not_mem_nil → nM, getElem?_of_mem → gO, zip_cons_cons → zC, lookup_cons → kC, take_add_one → tO, mem_append_right → mR, take_length → tL, nodup_append → nD, map_map → mQ, filter_append → fA, length_nil → lN, take_sublist → tS, getElem?_append_left → gL, getElem?_append_right → gR, nodup_cons → nC, length_take → lT, length_singleton → lS, flatMap_cons → fC, map_congr_left → mJ, perm_append_singleton → pS, getElem?_cons_zero → gZ
set_option maxHeartbeats 8000000
def clsA:List Addr:=[45,66,176,485,408,604,626,661,682,710,906,981,1002]
def fnA:List Addr:=[28,42,63,77,84,91,98,105,112,159,173,187,194,201,208,215,222,236,243,293,300,307,314,321,328,335,342,349,356,363,377,384,391,405,419,433,440,447,454,461,475,482,496,503,510,517,524,531,538,545,552,559,566,573,580,587,601,623,679,854,875,896,903,943,950,957,964,978,999,1016,1023,1030,1035,1042,1049,1054,1061,1068,1075,1082,1089,1096,1101,1106,1111,1118,1125,1132]
def fnIn (K:Frag) (a:Addr) (names:List Str) (md:Fn):Bool:=match K.lookup a with
 | some ⟨_,_,.func fd,_⟩=>fd.params.posonlyargs.isEmpty&&fd.params.kwonlyargs.isEmpty&&fd.params.vararg.isNone&&fd.params.kwarg.isNone&&(match fd.defaults with|.none=>true|_=>false)&&fd.closure.isEmpty&&fd.globals==mainGlobals&&fd.builtins==builtinsNs &&
   (match fd.body with|.stmts b=>matchSs tab names fd.scope md.body b|_=>false)&&codeIn K fd.code fd.qualname&&!fd.scope.isCoroutine&&!fd.scope.isGenerator&&fd.scope.kind==.function&&decide names.Nodup&&(fd.params.args.map (·.arg)==names.take md.np) &&
   decide (md.np≤names.length)&&(names.take md.np).all (fun x=>fd.scope.names.lookup x==some .local||(fd.scope.names.lookup x==some .cell&&((cellsFrom 0 fd.scope.names []).lookup x).isSome))
 | _=>false
def fnsIn (K:Frag):List Addr→List (Option Str×Str×List Str)→List Fn→Bool
 | a::as,p::ps,f::fs=>fnIn K a p.2.2 f&&fnsIn K as ps fs
 | [],[],[]=>true
 | _,_,_=>false
theorem fns_in (P:PySem.Params):fnsIn (Hd.hd.heap_39 P) fnA places fns=true:=by kernel_rfl
theorem cellsFrom_some {x:Str}:∀ {l:List (Str×NameKind)} {a b:List (Str×Addr)} {k m:Nat},((a.lookup x).isSome=(b.lookup x).isSome)→((cellsFrom k l a).lookup x).isSome=((cellsFrom m l b).lookup x).isSome
 | [],a,b,k,m,h=>h
 | (n,kd)::r,a,b,k,m,h=>by
  unfold cellsFrom
  split
  ·refine cellsFrom_some ?_
   rw [kC,kC]
   cases x==n
   ·exact h
   ·rfl
  ·exact cellsFrom_some h
theorem fn_of {K:Frag} {h:Heap} (X:K.In h) {a:Addr} {names:List Str} {md:Fn} (e:fnIn K a names md=true):∃ o fd body,h.get? a=some o∧o.data=.func fd∧FnOk tab h fd body names md:=by
 unfold fnIn at e
 split at e
 ·rename_i c d fd sl ho
  simp only [Bool.and_eq_true,List.isEmpty_iff,beq_iff_eq,Option.isNone_iff_eq_none,decide_eq_true_eq,Bool.not_eq_true',List.all_eq_true,Bool.or_eq_true] at e
  obtain⟨⟨⟨⟨⟨⟨⟨⟨⟨⟨⟨⟨⟨⟨⟨⟨h1,h2⟩,h3⟩,h4⟩,h5⟩,h6⟩,h7⟩,h8⟩,h9⟩,h10⟩,h11⟩,h12⟩,h13⟩,h14⟩,h15⟩,h16⟩,h17⟩:=e
  split at h9
  ·rename_i b hb
   refine⟨_,fd,b,X _ _ ho,rfl,⟨h1,h2,h3,h4,?_,h6,h7,h8,hb,codeRec_of X h10,h11,h12,h13,h14,h15,h16,fun x hx=>?_,h9⟩⟩
   ·split at h5
    ·assumption
    ·cases h5
   ·rcases h17 x hx with q|⟨q,q'⟩
    ·exact .inl q
    ·exact .inr ⟨q,fun k=>by rw [cellsFrom_some (k:=k) (m:=0) (b:=[]) rfl];exact q'⟩
  ·cases h9
 ·cases e
theorem fns_of {K:Frag} {h:Heap} (X:K.In h):∀ {as:List Addr} {ps:List (Option Str×Str×List Str)} {fs:List Fn},fnsIn K as ps fs=true→∀ (f:Nat) (md:Fn),fs[f]?=some md→∃ o fd body names,h.get? (as.getD f 0)=some o∧o.data=.func fd∧FnOk tab h fd body names md
 | [],[],[],_,f,md,hf=>by simp at hf
 | a::as,p::ps,g::fs,e,f,md,hf=>by
  unfold fnsIn at e
  rw [Bool.and_eq_true] at e
  cases f with
  | zero =>
   simp only [gZ,Option.some.injEq] at hf
   subst hf
   obtain⟨o,fd,body,h1,h2,h3⟩:=fn_of X e.1
   exact⟨o,fd,body,_,h1,h2,h3⟩
  | succ f=>exact fns_of X e.2 f md (by simpa using hf)
 | [],_::_,_,e,_,_,_=>by simp [fnsIn] at e
 | [],[],_::_,e,_,_,_=>by simp [fnsIn] at e
 | _::_,[],_,e,_,_,_=>by simp [fnsIn] at e
 | _::_,_::_,[],e,_,_,_=>by simp [fnsIn] at e
mutual
def vIn (K:Frag):V→Value→Bool
 | .int i,.int j _=>i==j
 | .str x,.str y _=>x==y
 | .tup l,.ref a=>match K.lookup a with
  | some ⟨.type "tuple",_,.seq vs _,_⟩=>vsIn K l vs.toList
  | _=>false
 | _,_=>false
def vsIn (K:Frag):List V→List Value→Bool
 | [],[]=>true
 | v::l,x::xs=>vIn K v x&&vsIn K l xs
 | _,_=>false
end
mutual
theorem v_of {K:Frag} {h:Heap} (X:K.In h):∀ (v:V) (x:Value),vIn K v x=true→VR [] h v x
 | .int i,x,e=>by
  cases x<;>first|(simp [vIn] at e;done)|skip
  simp only [vIn,beq_iff_eq] at e
  subst e;exact .int _ _
 | .str i,x,e=>by
  cases x<;>first|(simp [vIn] at e;done)|skip
  simp only [vIn,beq_iff_eq] at e
  subst e;exact .str _ _
 | .tup l,x,e=>by
  cases x<;>first|(simp [vIn] at e;done)|skip
  simp only [vIn] at e
  split at e
  ·rename_i ho
   exact .tup (X _ _ ho) rfl rfl (vs_of X l _ e)
  ·cases e
 | .none,x,e=>by simp [vIn] at e
 | .bool _,x,e=>by simp [vIn] at e
 | .obj _,x,e=>by simp [vIn] at e
 | .frz _,x,e=>by simp [vIn] at e
theorem vs_of {K:Frag} {h:Heap} (X:K.In h):∀ (v:List V) (x:List Value),vsIn K v x=true→VRs [] h v x
 | [],x,e=>by
  cases x
  ·exact .nil
  ·simp [vsIn] at e
 | v::l,x,e=>by
  cases x
  ·simp [vsIn] at e
  ·simp only [vsIn,Bool.and_eq_true] at e
   exact .cons (v_of X v _ e.1) (vs_of X l _ e.2)
end
def gIn (K:Frag):List V→List Str→Bool
 | v::vs,n::ns=>(match nsIn K mainGlobals n with|some (some x)=>vIn K v x|_=>false)&&gIn K vs ns
 | [],[]=>true
 | _,_=>false
theorem g_of {K:Frag} {h:Heap} {mg:Str→Option Value} (X:K.In h) (G:h.Ns mainGlobals mg):∀ {vs:List V} {ns:List Str},gIn K vs ns=true→∀ (x:Nat) v nm,vs[x]?=some v→ns[x]?=some nm→∃ r,mg nm=some r∧VR [] h v r
 | [],[],_,x,v,nm,h1,_=>by simp at h1
 | a::vs,b::ns,e,x,v,nm,h1,h2=>by
  unfold gIn at e
  rw [Bool.and_eq_true] at e
  cases x with
  | zero =>
   simp only [gZ,Option.some.injEq] at h1 h2
   subst h1;subst h2
   have e:=e.1
   split at e
   ·rename_i r hr
    exact⟨r,mg_of X G hr,v_of X _ _ e⟩
   ·cases e
  | succ x=>exact g_of X G e.2 x v nm (by simpa using h1) (by simpa using h2)
 | [],_::_,e,_,_,_,_,_=>by simp [gIn] at e
 | _::_,[],e,_,_,_,_,_=>by simp [gIn] at e
def entIn:List DictEntry→List Int→Bool
 | e::es,k::ks=>e.key.isInt k&&e.hash==hashInt k&&entIn es ks
 | [],[]=>true
 | _,_=>false
def dictIn (K:Frag) (a:Addr) (ks:List Int):Bool:=match K.lookup a with
 | some ⟨.type "dict",none,.dict es _,sl⟩=>sl.toList.isEmpty&&entIn es.toList ks&&decide ks.Nodup
 | _=>false
theorem ent_of {prog:Program} {w:World}:∀ {es:List DictEntry} {ks:List Int},entIn es ks=true→(∀ e∈es,∃ k,(PySem.intKind prog w).is k e.key=true∧e.hash=(PySem.intKind prog w).hash k)∧∃ kvs,Pairs (PySem.intKind prog w) es kvs∧kvs.map (·.1)=ks
 | [],[],_=>⟨fun _ h=>(nomatch h),[],.nil,rfl⟩
 | e::es,k::ks,h=>by
  unfold entIn at h
  simp only [Bool.and_eq_true,beq_iff_eq] at h
  obtain⟨⟨h1,h2⟩,h3⟩:=h
  obtain⟨q,kvs,p,hm⟩:=ent_of (prog:=prog) (w:=w) h3
  refine⟨fun e' he=>?_,(k,e.val)::kvs,.cons h1 rfl p,by rw [mC,hm]⟩
  rcases mK.mp he with rfl|he
  ·exact⟨k,h1,h2⟩
  ·exact q e' he
 | [],_::_,h=>by simp [entIn] at h
 | _::_,[],h=>by simp [entIn] at h
theorem dict_of {prog:Program} {w:World} {K:Frag} {h:Heap} (X:K.In h) {a:Addr} {ks:List Int} (e:dictIn K a ks=true):∃ kvs,h.DictOf (PySem.intKind prog w) a kvs∧kvs.map (·.1)=ks:=by
 unfold dictIn at e
 split at e
 ·rename_i es ep sl ho
  simp only [Bool.and_eq_true,decide_eq_true_eq,List.isEmpty_iff] at e
  obtain⟨⟨h0,h1⟩,h2⟩:=e
  obtain⟨q,kvs,p,hm⟩:=ent_of (prog:=prog) (w:=w) h1
  refine⟨kvs,⟨_,es,ep,X _ _ ho,⟨rfl,rfl,?_⟩,rfl,fun x hx=>q x (Array.mem_toList_iff.mpr hx),p,by rw [hm];exact h2⟩,hm⟩
  exact Array.toList_eq_nil_iff.mp h0
 ·cases e
def clsOf (c:Nat):Addr:=clsA.getD c 0
def fnOf' (f:Nat):Addr:=fnA.getD f 0
def attrsOf (c:Nat):List Str:=tab.attrs.getD c []
def isRef (K:Frag) (n:Str) (a:Addr):Bool:=nsIn K mainGlobals n==some (some (.ref a))&&keepIn K (.ref a)
def allIn (K:Frag):Bool :=
 gIn K gtab tab.gnames&&(List.range 13).all (fun c=>clsOk K (clsOf c) (attrsOf c))&&tab.gfns.all (fun p=>isRef K p.1 (fnOf' p.2))&&(tab.cnames.zip (List.range 13)).all (fun p=>isRef K p.1 (clsOf p.2)) &&
 tab.inits.all (fun p=>findIn K (.ref (clsOf p.1)) "__init__"==some (some (.ref (fnOf' p.2)))&&typeIn K (.ref (fnOf' p.2))==some (.type "function")) &&
 tab.new0s.all (fun c=>findIn K (.ref (clsOf c)) "__init__"==some (some (.builtin "object.__init__"))) &&
 tab.meths.all (fun p=>decide (p.1<13)&&findIn K (.ref (clsOf p.1)) p.2.1==some (some (.ref (fnOf' p.2.2)))&&isFn K (.ref (fnOf' p.2.2))&&!(attrsOf p.1).contains p.2.1&&keepIn K (.ref (fnOf' p.2.2))) &&
 ["len","sorted","range","tuple","str"].all (fun (x:String)=>nsIn K mainGlobals (sO x)==some none) &&
 nsIn K mainGlobals (sO "TID_PRIM")==some (some (.ref 145))&&dictIn K 145 [20,9,10,11,12,13,14,15,16,17,18,19,1,4] &&
 nsIn K mainGlobals (sO "law")==some (some (.ref (fnOf' 87)))
theorem all_in (P:PySem.Params):allIn (Hd.hd.heap_39 P)=true:=by kernel_rfl
def tabOk:Bool:=tab.attrs.all (fun l=>decide l.Nodup&&decide (l.length≤800))&&decide (tab.attrs.length=13)&&decide (tab.cnames.length=13)&&decide tab.wks.Nodup&&decide (tab.wks.length≤100)
theorem tab_ok:tabOk=true:=by decide +kernel
noncomputable def setup (w:World) (g:Heap):Setup:=⟨PySem.Challenge.pw_xm0318_01,w,g,Hd.hd.heap_39 w.params,clsOf,fnOf',attrsOf,tab.wks⟩
theorem getD_all {α:Type} {p:α→Bool} {l:List α} {d:α} (h:l.all p=true) (hd:p d=true) (c:Nat):p (l.getD c d)=true:=by
 rw [List.getD_eq_getElem?_getD]
 cases q:l[c]? with
 | none=>exact hd
 | some a=>exact List.all_eq_true.mp h a (mG q)
theorem ref_of {K:Frag} {n:Str} {a:Addr} (e:isRef K n a=true):nsIn K mainGlobals n=some (some (.ref a))∧keepIn K (.ref a)=true:=by
 simp only [isRef,Bool.and_eq_true,beq_iff_eq] at e;exact e
theorem boot5:bootBuiltins (sO "len")=some (.builtin "len")∧bootBuiltins (sO "sorted")=some (.builtin "sorted")∧bootBuiltins (sO "range")=some (.type "range")∧bootBuiltins (sO "tuple")=some (.type "tuple")∧bootBuiltins (sO "str")=some (.type "str"):=by
 refine⟨?_,?_,?_,?_,?_⟩<;>decide +kernel
theorem setup_all {q:Program} {loose:List Str} {mean:ExcName→Option Value} {w:World} {g:Heap} {mg mb:Str→Option Value} (X:(Hd.hd.heap_39 w.params).In g) (T:Top q loose mean mg mb g) (hlow:∃ o,g.get? sysModules=some o):(setup w g).All tab gtab mg mb:=by
 have e:=all_in w.params
 have t:=tab_ok
 simp only [allIn,Bool.and_eq_true,List.all_eq_true,beq_iff_eq,decide_eq_true_eq,Bool.not_eq_true'] at e
 simp only [tabOk,Bool.and_eq_true,decide_eq_true_eq] at t
 obtain⟨⟨⟨⟨⟨⟨⟨⟨⟨⟨e1,e2⟩,e3⟩,e4⟩,e5⟩,e6⟩,e7⟩,e8⟩,e9⟩,e10⟩,e11⟩:=e
 obtain⟨⟨⟨⟨t1,t2⟩,t3⟩,t4⟩,t5⟩:=t
 have ta:∀ c,(attrsOf c).Nodup∧(attrsOf c).length≤800:=fun c=>by
  have:=getD_all (d:=[]) t1 (by decide) c
  simp only [Bool.and_eq_true,decide_eq_true_eq] at this
  exact this
 have bl:∀ x∈(["len","sorted","range","tuple","str"]:List String),mg (sO x)=none:=fun x hx=>mg_none_of X T.g (e8 x hx)
 have bb:∀ (x:Str) v,x≠"__name__"→bootBuiltins x=some v→mb x=some v:=fun x v h h'=>(T.builtins x h).trans h'
 refine⟨⟨⟨?_⟩,X,T.g,T.b,T.nolimit,T.nodigits,fun _=>rfl,rfl,t4,fun c=>(ta c).1,fun c=>(ta c).2,fun c hc=>.of (e2 c (by rw [t3] at hc;simpa using hc)),fun c hc=>?_,g_of X T.g e1,fun nm v h=>?_⟩,⟨?_,?_,?_,e6,?_⟩,⟨?_⟩,t5⟩
 ·exact hlow
 ·rw [t3]
  refine Classical.byContradiction fun q=>hc ?_
  show tab.attrs.getD c []=[]
  rw [List.getD_eq_getElem?_getD,List.getElem?_eq_none (by omega)];rfl
 ·simp only [mK,Prod.mk.injEq,nM,or_false] at h
  rcases h with ⟨rfl,rfl⟩|⟨rfl,rfl⟩|⟨rfl,rfl⟩|⟨rfl,rfl⟩|⟨rfl,rfl⟩
  ·exact⟨bl _ (by simp),bb _ _ (by decide) boot5.1⟩
  ·exact⟨bl _ (by simp),bb _ _ (by decide) boot5.2.1⟩
  ·exact⟨bl _ (by simp),bb _ _ (by decide) boot5.2.2.1⟩
  ·exact⟨bl _ (by simp),bb _ _ (by decide) boot5.2.2.2.1⟩
  ·exact⟨bl _ (by simp),bb _ _ (by decide) boot5.2.2.2.2⟩
 ·intro p hp
  have:=ref_of (e3 p hp)
  exact⟨mg_of X T.g this.1,this.2⟩
 ·intro c x hx
  have hc:c<13:=by rw [←t3];exact (gS.mp hx).1
  have hm:(x,c)∈tab.cnames.zip (List.range 13):=by
   refine mG (i:=c) ?_
   rw [List.getElem?_zip_eq_some]
   exact⟨hx,by rw [List.getElem?_range hc]⟩
  have:=ref_of (e4 (x,c) hm)
  exact⟨mg_of X T.g this.1,this.2⟩
 ·intro p hp
  exact e5 p hp
 ·intro p hp
  obtain⟨⟨⟨⟨h1,h2⟩,h3⟩,h4⟩,h5⟩:=e7 p hp
  refine⟨by rw [t3];exact h1,h2,h3,fun q=>?_,h5⟩
  have:(attrsOf p.1).contains p.2.1=true:=List.contains_iff_mem.mpr q
  rw [this] at h4;cases h4
 ·obtain⟨kvs,h1,h2⟩:=dict_of (prog:=(setup w g).prog) (w:=w) X e10
  exact⟨145,kvs,mg_of X T.g e9,by decide,h1,h2⟩
theorem setup_fns {w:World} {g:Heap} (X:(Hd.hd.heap_39 w.params).In g):(setup w g).Fns tab fns:=⟨fun f md hf=>fns_of X (fns_in w.params) f md hf⟩
theorem law_at {w:World} {g:Heap} {mg:Str→Option Value} (X:(Hd.hd.heap_39 w.params).In g) (G:g.Ns mainGlobals mg):mg (sO "law")=some (.ref (fnOf' 87)):=by
 have e:=all_in w.params
 simp only [allIn,Bool.and_eq_true,beq_iff_eq] at e
 exact mg_of X G e.2
theorem join_call {w:World} {s:Shared} {mg mb:Str→Option Value} {q:Program} {loose:List Str} {mean:ExcName→Option Value} (X:(Hd.hd.heap_39 w.params).In s.heap) (T:Top q loose mean mg mb s.heap) (hlow:∃ o,s.heap.get? sysModules=some o)
  {a:Addr} {xs:List Value} {ns:List Int} (hL:s.heap.IsList a xs.toArray) (hI:IntsAre xs ns) {H:Hp} (e:callN gtab fns 12 87 [.frz ns] []=some (.bool true,H)) {Q:Value→Shared→Prop} {E:Value→Shared→Prop}
  (k:∀ s',(∀ b o,s.heap.get? b=some o→s'.heap.get? b=some o)→s'.gens=s.gens→s'.os=s.os→Q (.bool true) s') :
  wpAny (model PySem.Challenge.pw_xm0318_01 w) callerA (call (.ref (fnOf' 87)) [.ref a]) Q E s:=by
 have O:=setup_all X T hlow
 have hC:=callN_snd O (setup_fns X) 12
 obtain⟨oa,hoa,hca,na,hda⟩:=hL
 have S:St (setup w s.heap) [] [] s:=⟨rfl,fun i j p q h=>by simp at h,fun i o p h=>by simp at h,fun b o e=>e,fun b f=>(foot_nil f).elim⟩
 have hv:VRs [] s.heap [.frz ns] [.ref a]:=.cons (.frz hoa hca hda (by simpa using hI) foot_nil) .nil
 refine wpAny_mono (ret_call (W:=setup w s.heap) (f:=.ref (fnOf' 87)) (hC 87 [.frz ns] [] (.bool true) H e callerA [] s [.ref a] ⟨rfl,by decide,by decide⟩ S hv) fun x s' h=>?_) (fun _ _ q=>q) fun _ _ f=>f.elim
 obtain⟨b,S',hx,ex⟩:=h
 cases hx
 exact k s' (fun b o e=>ex.keep b o e foot_nil id) ex.gens ex.os
theorem join (plain:∀ ns:List Int,ns.length≤63→∃ H,callN gtab fns 12 87 [.frz ns] []=some (.bool true,H)):PySem.Challenge.rw_xm0318_01.Holds:=by
 refine Hd.hd ?_
 intro w s_0 s1 mg mb G Y fa o pm cd doc dV kV ho hd hcd hD hmg hg args vals as hpre hlay hrd hwl hlo
 have KX:=kIn_of Y
 have hlow:∃ o,s1.heap.get? sysModules=some o:=by
  exact Option.isSome_iff_exists.mp G.X.2
 refine Ground.open G ?_
 intro T B D TE TW
 clear hd hcd hD ho
 wrow_args hpre hlay hrd hwl hlo
 have e:=law_at KX T.g
 have hf:fa=fnOf' 87:=by
  have h:mg (sO "law")=some (.ref fa):=hmg
  rw [e] at h;cases h;rfl
 subst hf
 rename_i ns _ _ _ _ _ _ _ _ _ _ hL _ _ _ hI _ hn _
 obtain⟨H,hH⟩:=plain ns (by omega)
 refine join_call KX T hlow hL hI hH fun s' k hg' ho'=>?_
 refine⟨.inl ⟨_,.bool true,[],rfl,fun cls=>?_,.bool true,?_,?_⟩,.of_keep k,ho',.of_eq (hg'.trans hg)⟩
 ·first|rfl|(revert cls;wrow_none_raised)
 ·wrow_post
 ·exact fun _=>⟨List.nodup_nil,fun _ h=>nomatch h⟩
end Mine
namespace Mine
open PySem
open _root_.List renaming length_map → lM, append_nil → aN, append_assoc → aA, map_append → mP, mem_of_getElem? → mG, length_append → lA, getElem?_eq_some_iff → gS, getElem?_map → gM, mem_append → mA, mem_map → mM, map_cons → mC, cons_append → cA, mem_singleton → mS, mem_cons → mK, nil_append → nA, getElem?_eq_getElem → gE, mem_append_left → mL, length_cons → lC, mem_map_of_mem → mO, not_mem_nil → nM, getElem?_of_mem → gO, zip_cons_cons → zC, lookup_cons → kC, take_add_one → tO, mem_append_right → mR, take_length → tL, nodup_append → nD, map_map → mQ, filter_append → fA, length_nil → lN, take_sublist → tS, getElem?_append_left → gL, getElem?_append_right → gR, nodup_cons → nC, length_take → lT, length_singleton → lS, flatMap_cons → fC, map_congr_left → mJ, perm_append_singleton → pS, getElem?_cons_zero → gZ
inductive K where
 | g|w|m|hp|kt|th|fr|ch|hd|oth
 | scr|tl|at_|cd|fin|rdy|frs|sts|chs|hes|fas|inn|fl|tx|wt|ag|wh|ce|hr
 | real|slots|tspec|cspec|ktl
 | tmp (n:Nat)
 deriving DecidableEq
abbrev CallFn:=Nat→List V→Hp→Option (V×Hp)
abbrev TH:=List (K×O)
def hpOf (T:TH):Hp:=T.map (·.2)
theorem hp_get {T:TH} {i:Nat} {k:K} {o:O} (h:T[i]?=some (k,o)):(hpOf T)[i]?=some o:=by
 unfold hpOf;rw [gM,h];rfl
theorem hp_length {T:TH}:(hpOf T).length=T.length:=by unfold hpOf;simp
theorem hp_set {T:TH} {i:Nat} {k:K} {o:O}:(hpOf T).set i o=hpOf (T.set i (k,o)):=by unfold hpOf;rw [List.map_set]
theorem hp_app {T:TH} {k:K} {o:O}:hpOf T++[o]=hpOf (T++[(k,o)]):=by unfold hpOf;simp
structure Chg (X:Nat→K→Prop) (T T':TH):Prop where
 get:∀ {i:Nat} {k:K} {o:O},T[i]?=some (k,o)→¬ X i k→T'[i]?=some (k,o)
 kind:∀ {i:Nat} {k:K} {o:O},T[i]?=some (k,o)→∃ o',T'[i]?=some (k,o')
abbrev noX:Nat→K→Prop:=fun _ _=>False
abbrev oneX (o:Nat):Nat→K→Prop:=fun j _=>j=o
abbrev ksX (ks:List K):Nat→K→Prop:=fun _ k=>k∈ks
theorem Chg.refl (X:Nat→K→Prop) (T:TH):Chg X T T:=⟨fun h _=>h,fun h=>⟨_,h⟩⟩
theorem Chg.trans {X Y Z:Nat→K→Prop} {T T1 T2:TH} (a:Chg X T T1) (b:Chg Y T1 T2) (hx:∀ (i:Nat) (k:K) (o:O),T[i]?=some (k,o)→X i k→Z i k) (hy:∀ (i:Nat) (k:K) (o:O),T[i]?=some (k,o)→Y i k→Z i k):Chg Z T T2 :=
 ⟨fun h n=>b.get (a.get h fun q=>n (hx _ _ _ h q)) fun q=>n (hy _ _ _ h q),fun h=>by obtain⟨_,h'⟩:=a.kind h;exact b.kind h'⟩
theorem Chg.weaken {X Y:Nat→K→Prop} {T T1:TH} (a:Chg X T T1) (hx:∀ i k,X i k→Y i k):Chg Y T T1:=⟨fun h n=>a.get h fun q=>n (hx _ _ q),a.kind⟩
theorem Chg.tr {X:Nat→K→Prop} {T T1 T2:TH} (a:Chg X T T1) (b:Chg X T1 T2):Chg X T T2:=a.trans b (fun _ _ _ _ h=>h) fun _ _ _ _ h=>h
theorem Chg.keep {T T':TH} (a:Chg noX T T') {i:Nat} {k:K} {o:O} (h:T[i]?=some (k,o)):T'[i]?=some (k,o):=a.get h id
theorem Chg.other {T T':TH} {j i:Nat} {k:K} {o:O} (a:Chg (oneX j) T T') (h:T[i]?=some (k,o)) (n:i≠j):T'[i]?=some (k,o):=a.get h n
theorem ne_kind {T:TH} {i j:Nat} {k k':K} {o o':O} (h:T[i]?=some (k,o)) (h':T[j]?=some (k',o')) (n:k≠k'):i≠j:=fun e=>by
 rw [e,h'] at h;cases h;exact n rfl
theorem Chg.otherK {T T':TH} {j i:Nat} {k k':K} {o o':O} (a:Chg (oneX j) T T') (h:T[i]?=some (k,o)) (h':T'[j]?=some (k',o')) (n:k≠k':=by decide):T'[i]?=some (k,o) :=
 a.other h fun e=>by
  subst e
  obtain⟨o'',e⟩:=a.kind h
  rw [h'] at e;cases e;exact n rfl
theorem Chg.set {T:TH} {i:Nat} {k:K} {o o':O} (h:T[i]?=some (k,o)):Chg (oneX i) T (T.set i (k,o')):=by
 refine⟨fun {j k' x} e n=>?_,fun {j k' x} e=>?_⟩
 ·rw [List.getElem?_set_ne (Ne.symm n)];exact e
 ·by_cases q:j=i
  ·subst q
   rw [h] at e;cases e
   exact⟨o',by rw [List.getElem?_set_self (gS.mp h).1]⟩
  ·exact⟨x,by rw [List.getElem?_set_ne (Ne.symm q)];exact e⟩
theorem set_get {T:TH} {i:Nat} {k:K} {o o':O} (h:T[i]?=some (k,o)):(T.set i (k,o'))[i]?=some (k,o'):=List.getElem?_set_self (gS.mp h).1
theorem Chg.app {T:TH} {x:K×O}:Chg noX T (T++[x]):=by
 have:∀ {i:Nat} {k:K} {o:O},T[i]?=some (k,o)→(T++[x])[i]?=some (k,o):=fun h=>by
  rw [gL (gS.mp h).1];exact h
 exact⟨fun h _=>this h,fun h=>⟨_,this h⟩⟩
theorem app_get {T:TH} {x:K×O}:(T++[x])[T.length]?=some x:=by simp
theorem get_none {T:TH}:T[T.length]?=none:=by simp
theorem ne_none {T:TH} {i j:Nat} {x:K×O} (h:T[i]?=some x) (n:T[j]?=none):i≠j:=fun e=>by rw [e,n] at h;cases h
structure Y {α:Type} (x:Option (α×Hp)) (Q:α→TH→Prop):Prop where
 intro ::
 ex:∃ a T,x=some (a,hpOf T)∧Q a T
theorem Y.pure {α:Type} {a:α} {T:TH} {Q:α→TH→Prop} (h:Q a T):Y (some (a,hpOf T)) Q:=⟨a,T,rfl,h⟩
theorem Y.of {α:Type} {x:Option (α×Hp)} {a:α} {T:TH} {Q:α→TH→Prop} (e:x=some (a,hpOf T)) (h:Q a T):Y x Q:=⟨a,T,e,h⟩
theorem Y.bnd {α β:Type} {x:Option (α×Hp)} {f:α→Hp→Option (β×Hp)} {Q:β→TH→Prop} (h:Y x fun a T=>Y (f a (hpOf T)) Q):Y (bnd x f) Q:=by
 obtain⟨a,T,rfl,h⟩:=h
 exact h
theorem Y.mono {α:Type} {x:Option (α×Hp)} {Q R:α→TH→Prop} (h:Y x Q) (k:∀ a T,Q a T→R a T):Y x R:=by
 obtain⟨a,T,e,h⟩:=h
 exact⟨a,T,e,k a T h⟩
theorem Y.eq {α:Type} {x:Option (α×Hp)} {Q:α→TH→Prop} (h:Y x Q) {v:α} {H:Hp} (e:x=.some (v,H)):∃ T,H=hpOf T∧Q v T:=by
 obtain⟨a,T,e',h⟩:=h
 rw [e] at e';cases e';exact⟨T,rfl,h⟩
@[irreducible] def EV (C:CallFn) (ρ:Rho) (e:E) (T:TH) (Q:V→TH→Prop):Prop:=Y (evalE gtab C ρ e (hpOf T)) Q
@[irreducible] def EVs (C:CallFn) (ρ:Rho) (e:List E) (T:TH) (Q:List V→TH→Prop):Prop:=Y (evalEs gtab C ρ e (hpOf T)) Q
@[irreducible] def SV (C:CallFn) (ρ:Rho) (s:List S) (T:TH) (Q:Option V×Rho→TH→Prop):Prop:=Y (execs gtab C ρ s (hpOf T)) Q
abbrev CN (n:Nat):CallFn:=callN gtab fns n
theorem EV.intro {C:CallFn} {ρ:Rho} {e:E} {T:TH} {Q:V→TH→Prop} (h:Y (evalE gtab C ρ e (hpOf T)) Q):EV C ρ e T Q:=by unfold EV;exact h
theorem EV.y {C:CallFn} {ρ:Rho} {e:E} {T:TH} {Q:V→TH→Prop} (h:EV C ρ e T Q):Y (evalE gtab C ρ e (hpOf T)) Q:=by unfold EV at h;exact h
theorem EVs.intro {C:CallFn} {ρ:Rho} {e:List E} {T:TH} {Q:List V→TH→Prop} (h:Y (evalEs gtab C ρ e (hpOf T)) Q):EVs C ρ e T Q:=by unfold EVs;exact h
theorem EVs.y {C:CallFn} {ρ:Rho} {e:List E} {T:TH} {Q:List V→TH→Prop} (h:EVs C ρ e T Q):Y (evalEs gtab C ρ e (hpOf T)) Q:=by unfold EVs at h;exact h
theorem SV.intro {C:CallFn} {ρ:Rho} {e:List S} {T:TH} {Q:Option V×Rho→TH→Prop} (h:Y (execs gtab C ρ e (hpOf T)) Q):SV C ρ e T Q:=by unfold SV;exact h
theorem SV.y {C:CallFn} {ρ:Rho} {e:List S} {T:TH} {Q:Option V×Rho→TH→Prop} (h:SV C ρ e T Q):Y (execs gtab C ρ e (hpOf T)) Q:=by unfold SV at h;exact h
section
variable {C:CallFn} {ρ ρ':Rho} {T:TH} {Q:V→TH→Prop} {a b c:E} {n:Nat}
structure BinY (op:Bop) (x y:V) (Q:V→Prop):Prop where
 intro ::
 ex:∃ v,binV op x y=some v∧Q v
structure CmpY (T:TH) (op:Cop) (x y:V) (Q:Bool→Prop):Prop where
 intro ::
 ex:∃ b,cmpV (hpOf T) op x y=some b∧Q b
structure IdxY (T:TH) (x y:V) (Q:V→Prop):Prop where
 intro ::
 ex:∃ v,idxV (hpOf T) x y=some v∧Q v
structure BoolY (x:V) (Q:Bool→Prop):Prop where
 intro ::
 ex:∃ b,x=.bool b∧Q b
structure IntY (x:V) (Q:Int→Prop):Prop where
 intro ::
 ex:∃ b,x=.int b∧Q b
structure ObjY (x:V) (Q:Nat→Prop):Prop where
 intro ::
 ex:∃ b,x=.obj b∧Q b
structure TupY (x:V) (Q:List V→Prop):Prop where
 intro ::
 ex:∃ b,x=.tup b∧Q b
theorem BoolY.mk {b:Bool} {Q:Bool→Prop} (h:Q b):BoolY (.bool b) Q:=⟨b,rfl,h⟩
theorem IntY.mk {b:Int} {Q:Int→Prop} (h:Q b):IntY (.int b) Q:=⟨b,rfl,h⟩
theorem ObjY.mk {b:Nat} {Q:Nat→Prop} (h:Q b):ObjY (.obj b) Q:=⟨b,rfl,h⟩
theorem TupY.mk {b:List V} {Q:List V→Prop} (h:Q b):TupY (.tup b) Q:=⟨b,rfl,h⟩
theorem EV.lit {v:V} (h:Q v T):EV C ρ (.lit v) T Q:=.intro (.pure h)
theorem EV.glob {x:Nat} {v:V} (e:gtab[x]?=some v) (h:Q v T):EV C ρ (.glob x) T Q:=by
 refine .intro (.of (a:=v) (T:=T) ?_ h)
 simp only [evalE,e,asSome]
theorem EV.loc {i:Nat} {v:V} (e:(ρ[i]?).join=some v) (h:Q v T):EV C ρ (.loc i) T Q:=by
 refine .intro (.of (a:=v) (T:=T) ?_ h)
 simp only [evalE,e,asSome]
theorem EV.bin {op:Bop} (h:EV C ρ a T fun x T=>EV C ρ b T fun y T=>BinY op x y fun v=>Q v T):EV C ρ (.bin op a b) T Q:=by
 simp only [EV,EVs,evalE] at *
 refine .bnd (h.mono fun x T1 h=>.bnd (h.mono fun y T2 ⟨v,e,h⟩=>?_))
 rw [e];exact .pure h
theorem EV.neg (h:EV C ρ a T fun x T=>IntY x fun i=>Q (.int (-i)) T):EV C ρ (.neg a) T Q:=by
 simp only [EV,EVs,evalE] at *
 refine .bnd (h.mono ?_);rintro x T1 ⟨i,rfl,h⟩;exact .pure h
theorem EV.not (h:EV C ρ a T fun x T=>BoolY x fun i=>Q (.bool (!i)) T):EV C ρ (.not a) T Q:=by
 simp only [EV,EVs,evalE] at *
 refine .bnd (h.mono ?_);rintro x T1 ⟨i,rfl,h⟩;exact .pure h
theorem EV.and (h:EV C ρ a T fun x T=>BoolY x fun c=>(c=true→EV C ρ b T fun y T=>BoolY y fun d=>Q (.bool d) T)∧(c=false→Q (.bool false) T)):EV C ρ (.and a b) T Q:=by
 simp only [EV,EVs,evalE] at *
 refine .bnd (h.mono ?_);rintro x T1 ⟨i,rfl,h,h'⟩
 cases i
 ·exact .pure (h' rfl)
 ·refine .bnd ((h rfl).mono ?_);rintro y T2 ⟨j,rfl,h⟩;exact .pure h
theorem EV.or (h:EV C ρ a T fun x T=>BoolY x fun c=>(c=false→EV C ρ b T fun y T=>BoolY y fun d=>Q (.bool d) T)∧(c=true→Q (.bool true) T)):EV C ρ (.or a b) T Q:=by
 simp only [EV,EVs,evalE] at *
 refine .bnd (h.mono ?_);rintro x T1 ⟨i,rfl,h,h'⟩
 cases i
 ·refine .bnd ((h rfl).mono ?_);rintro y T2 ⟨j,rfl,h⟩;exact .pure h
 ·exact .pure (h' rfl)
theorem EV.cmp {op:Cop} (h:EV C ρ a T fun x T=>EV C ρ b T fun y T=>CmpY T op x y fun v=>Q (.bool v) T):EV C ρ (.cmp op a b) T Q:=by
 simp only [EV,EVs,evalE] at *
 refine .bnd (h.mono fun x T1 h=>.bnd (h.mono fun y T2 ⟨v,e,h⟩=>?_))
 rw [e];exact .pure h
theorem EV.idx (h:EV C ρ a T fun x T=>EV C ρ b T fun y T=>IdxY T x y fun v=>Q v T):EV C ρ (.idx a b) T Q:=by
 simp only [EV,EVs,evalE] at *
 refine .bnd (h.mono fun x T1 h=>.bnd (h.mono fun y T2 ⟨v,e,h⟩=>?_))
 rw [e];exact .pure h
theorem EVs.nil {Q:List V→TH→Prop} (h:Q [] T):EVs C ρ [] T Q:=by
 simp only [EV,EVs,evalEs] at *;exact .pure h
theorem EVs.cons {e:E} {r:List E} {Q:List V→TH→Prop} (h:EV C ρ e T fun v T=>EVs C ρ r T fun vs T=>Q (v::vs) T):EVs C ρ (e::r) T Q:=by
 simp only [EV,EVs,evalEs] at *
 exact .bnd (h.mono fun x T1 h=>.bnd (h.mono fun y T2 h=>.pure h))
theorem EV.tup {l:List E} (h:EVs C ρ l T fun vs T=>Q (.tup vs) T):EV C ρ (.tup l) T Q:=by
 simp only [EV,EVs,evalE] at *
 exact .bnd (h.mono fun x T1 h=>.pure h)
structure InstY (T:TH) (o c:Nat) (Q:List V→Prop):Prop where
 intro ::
 ex:∃ k fs,T[o]?=some (k,.inst c fs)∧Q fs
structure ListY (T:TH) (o:Nat) (Q:K→List V→Prop):Prop where
 intro ::
 ex:∃ k l,T[o]?=some (k,.list l)∧Q k l
structure DiY (T:TH) (o:Nat) (Q:K→List (Int×V)→Prop):Prop where
 intro ::
 ex:∃ k l,T[o]?=some (k,.di l)∧Q k l
structure WdY (T:TH) (o:Nat) (Q:K→List V→Prop):Prop where
 intro ::
 ex:∃ k l,T[o]?=some (k,.wd l)∧Q k l
theorem InstY.mk {o c:Nat} {Q:List V→Prop} {k:K} {fs:List V} (e:T[o]?=some (k,.inst c fs)) (h:Q fs):InstY T o c Q:=⟨k,fs,e,h⟩
theorem ListY.mk {o:Nat} {Q:K→List V→Prop} {k:K} {fs:List V} (e:T[o]?=some (k,.list fs)) (h:Q k fs):ListY T o Q:=⟨k,fs,e,h⟩
theorem DiY.mk {o:Nat} {Q:K→List (Int×V)→Prop} {k:K} {fs:List (Int×V)} (e:T[o]?=some (k,.di fs)) (h:Q k fs):DiY T o Q:=⟨k,fs,e,h⟩
theorem WdY.mk {o:Nat} {Q:K→List V→Prop} {k:K} {fs:List V} (e:T[o]?=some (k,.wd fs)) (h:Q k fs):WdY T o Q:=⟨k,fs,e,h⟩
structure GetY {α:Type} (x:Option α) (Q:α→Prop):Prop where
 intro ::
 ex:∃ v,x=some v∧Q v
theorem GetY.mk {α:Type} {x:Option α} {v:α} {Q:α→Prop} (e:x=some v) (h:Q v):GetY x Q:=⟨v,e,h⟩
theorem as_inst {β:Type} {f:List V→Option β} {o c:Nat} {k:K} {fs:List V} (e:T[o]?=some (k,.inst c fs)):asInst (hpOf T) o c f=f fs:=by
 unfold asInst;rw [hp_get e];simp
theorem as_list {β:Type} {f:List V→Option β} {o:Nat} {k:K} {fs:List V} (e:T[o]?=some (k,.list fs)):asList (hpOf T) o f=f fs:=by
 unfold asList;rw [hp_get e]
theorem as_di {β:Type} {f:List (Int×V)→Option β} {o:Nat} {k:K} {fs:List (Int×V)} (e:T[o]?=some (k,.di fs)):asDi (hpOf T) o f=f fs:=by
 unfold asDi;rw [hp_get e]
theorem as_wd {β:Type} {f:List V→Option β} {o:Nat} {k:K} {fs:List V} (e:T[o]?=some (k,.wd fs)):asWd (hpOf T) o f=f fs:=by
 unfold asWd;rw [hp_get e]
theorem EV.attr {c i:Nat} (h:EV C ρ a T fun x T=>ObjY x fun o=>InstY T o c fun fs=>GetY fs[i]? fun v=>Q v T):EV C ρ (.attr a c i) T Q:=by
 simp only [EV,EVs,evalE] at *
 refine .bnd (h.mono ?_);rintro x T1 ⟨o,rfl,k,fs,e,v,e',h⟩
 simp only [asObj,as_inst e,e',asSome];exact .pure h
theorem EV.wk {i:Nat} (h:EV C ρ a T fun x T=>ObjY x fun o=>WdY T o fun _ fs=>GetY fs[i]? fun v=>Q v T):EV C ρ (.wk a i) T Q:=by
 simp only [EV,EVs,evalE] at *
 refine .bnd (h.mono ?_);rintro x T1 ⟨o,rfl,k,fs,e,v,e',h⟩
 simp only [asObj,as_wd e,e',asSome];exact .pure h
theorem EV.call {f:Nat} {args:List E} (h:EVs C ρ args T fun vs T=>Y (C f vs (hpOf T)) Q):EV C ρ (.call f args) T Q:=by
 simp only [EV,EVs,evalE] at *
 exact .bnd h
theorem EV.meth {c f:Nat} {args:List E} (h:EV C ρ a T fun x T=>ObjY x fun o=>InstY T o c fun _=>EVs C ρ args T fun vs T=>Y (C f (.obj o::vs) (hpOf T)) Q):EV C ρ (.meth a c f args) T Q:=by
 simp only [EV,EVs,evalE] at *
 refine .bnd (h.mono ?_);rintro x T1 ⟨o,rfl,k,fs,e,h⟩
 simp only [asObj,as_inst e];exact .bnd h
structure NewY (T:TH) (k:K) (o:O) (Q:Nat→TH→Prop):Prop where
 intro ::
 ex:∀ i T',T[i]?=none→T'[i]?=some (k,o)→Chg noX T T'→Q i T'
theorem NewY.go {k:K} {o:O} {Q:Nat→TH→Prop} (h:NewY T k o Q):Q T.length (T++[(k,o)]):=h.ex _ _ get_none app_get .app
theorem EV.list {l:List E} (k:K) (h:EVs C ρ l T fun vs T=>NewY T k (.list vs) fun i T=>Q (.obj i) T):EV C ρ (.list l) T Q:=by
 simp only [EV,EVs,evalE] at *
 refine .bnd (h.mono fun x T1 h=>?_)
 rw [hp_app (k:=k),hp_length]
 exact .pure h.go
theorem EV.di (k:K) (h:NewY T k (.di []) fun i T=>Q (.obj i) T):EV C ρ .di T Q:=by
 simp only [EV,EVs,evalE] at *;rw [hp_app (k:=k),hp_length];exact .pure h.go
theorem EV.ds (k:K) (h:NewY T k (.ds []) fun i T=>Q (.obj i) T):EV C ρ .ds T Q:=by
 simp only [EV,EVs,evalE] at *;rw [hp_app (k:=k),hp_length];exact .pure h.go
theorem EV.dt (k:K) (h:NewY T k (.dt []) fun i T=>Q (.obj i) T):EV C ρ .dt T Q:=by
 simp only [EV,EVs,evalE] at *;rw [hp_app (k:=k),hp_length];exact .pure h.go
theorem EV.new0 {c:Nat} (k:K) (h:NewY T k (.inst c []) fun i T=>Q (.obj i) T):EV C ρ (.new0 c) T Q:=by
 simp only [EV,EVs,evalE] at *;rw [hp_app (k:=k),hp_length];exact .pure h.go
theorem EV.new {c f:Nat} {args:List E} (k:K) (h:EVs C ρ args T fun vs T=>NewY T k (.inst c []) fun i T=>Y (C f (.obj i::vs) (hpOf T)) fun r T=>r=.none∧Q (.obj i) T):EV C ρ (.new c f args) T Q:=by
 simp only [EV,EVs,evalE] at *
 refine .bnd (h.mono fun vs T1 h=>?_)
 rw [hp_app (k:=k),hp_length]
 refine .bnd (h.go.mono ?_)
 rintro r T2 ⟨rfl,h⟩
 exact .pure h
structure PutY (T:TH) (o:Nat) (k:K) (x:O) (Q:TH→Prop):Prop where
 intro ::
 ex:∀ T',T'[o]?=some (k,x)→Chg (oneX o) T T'→Q T'
theorem PutY.go {o:Nat} {k:K} {x y:O} {Q:TH→Prop} (e:T[o]?=some (k,y)) (h:PutY T o k x Q):Q (T.set o (k,x)):=h.ex _ (set_get e) (.set e)
theorem EV.append (h:EV C ρ a T fun y T=>ObjY y fun o=>ListY T o fun _ _=>EV C ρ b T fun v T=>ListY T o fun k l=>l.length<limit∧PutY T o k (.list (l++[v])) fun T=>Q .none T):EV C ρ (.append a b) T Q:=by
 simp only [EV,EVs,evalE] at *
 refine .bnd (h.mono ?_);rintro x T1 ⟨o,rfl,k,fs,e,h⟩
 simp only [asObj,as_list e]
 refine .bnd (h.mono ?_);rintro v T2 ⟨k,l,e,hl,h⟩
 simp only [pushL,as_list e,hl,decide_true,guardB,asSome]
 rw [hp_set (k:=k)]
 exact .pure (h.go e)
theorem EV.pop (h:EV C ρ a T fun y T=>ObjY y fun o=>ListY T o fun k l=>l.length≤limit∧GetY l[l.length-1]? fun v=>PutY T o k (.list (l.eraseIdx (l.length-1))) fun T=>Q v T):EV C ρ (.pop a) T Q:=by
 simp only [EV,EVs,evalE] at *
 refine .bnd (h.mono ?_);rintro x T1 ⟨o,rfl,k,fs,e,hl,v,hv,h⟩
 simp only [asObj,as_list e,hl,decide_true,guardB,hv,asSome]
 rw [hp_set (k:=k)]
 exact .pure (h.go e)
theorem EV.popAt (h:EV C ρ a T fun y T=>ObjY y fun o=>ListY T o fun _ _=>EV C ρ b T fun j T=>IntY j fun i=>ListY T o fun k l=>(0≤i∧i<1000000∧l.length≤limit)∧GetY l[i.toNat]? fun v=>PutY T o k (.list (l.eraseIdx i.toNat)) fun T=>Q v T):EV C ρ (.popAt a b) T Q:=by
 simp only [EV,EVs,evalE] at *
 refine .bnd (h.mono ?_);rintro x T1 ⟨o,rfl,k,fs,e,h⟩
 simp only [asObj,as_list e]
 refine .bnd (h.mono ?_);rintro v T2 ⟨i,rfl,k,l,e,hl,v,hv,h⟩
 simp only [asInt,as_list e,hl,decide_true,guardB,hv,asSome,and_self]
 rw [hp_set (k:=k)]
 exact .pure (h.go e)
theorem EV.get1 (h:EV C ρ a T fun y T=>ObjY y fun o=>DiY T o fun _ _=>EV C ρ b T fun j T=>IntY j fun i=>DiY T o fun _ l=>Q ((dget l i).getD .none) T):EV C ρ (.get1 a b) T Q:=by
 simp only [EV,EVs,evalE] at *
 refine .bnd (h.mono ?_);rintro x T1 ⟨o,rfl,k,fs,e,h⟩
 simp only [asObj,as_di e]
 refine .bnd (h.mono ?_);rintro v T2 ⟨i,rfl,k,l,e,h⟩
 simp only [asInt,as_di e]
 exact .pure h
theorem EV.get2 (h:EV C ρ a T fun y T=>ObjY y fun o=>DiY T o fun _ _=>EV C ρ b T fun j T=>EV C ρ c T fun d T=>IntY j fun i=>DiY T o fun _ l=>Q ((dget l i).getD d) T):EV C ρ (.get2 a b c) T Q:=by
 simp only [EV,EVs,evalE] at *
 refine .bnd (h.mono ?_);rintro x T1 ⟨o,rfl,k,fs,e,h⟩
 simp only [asObj,asDict,hp_get e]
 refine .bnd (h.mono ?_);rintro v T2 h
 refine .bnd (h.mono ?_);rintro d T3 ⟨i,rfl,k,l,e,h⟩
 simp only [hp_get e]
 exact .pure h
structure LenY (T:TH) (x:V) (Q:Nat→Prop):Prop where
 intro ::
 ex:∃ n,lenV (hpOf T) x=some n∧Q n
theorem LenY.tup {l:List V} {Q:Nat→Prop} (hl:l.length≤limit) (h:Q l.length):LenY T (.tup l) Q:=⟨_,by simp only [lenV,hl,if_true],h⟩
theorem LenY.list {o:Nat} {k:K} {l:List V} {Q:Nat→Prop} (e:T[o]?=some (k,.list l)) (hl:l.length≤limit) (h:Q l.length):LenY T (.obj o) Q:=⟨_,by simp only [lenV,hp_get e,hl,if_true],h⟩
theorem LenY.di {o:Nat} {k:K} {l:List (Int×V)} {Q:Nat→Prop} (e:T[o]?=some (k,.di l)) (hl:l.length≤limit) (h:Q l.length):LenY T (.obj o) Q:=⟨_,by simp only [lenV,hp_get e,hl,if_true],h⟩
theorem EV.len (h:EV C ρ a T fun x T=>LenY T x fun n=>Q (.int n) T):EV C ρ (.len a) T Q:=by
 simp only [EV,EVs,evalE] at *
 refine .bnd (h.mono ?_);rintro x T1 ⟨o,e,h⟩
 simp only [e,asSome];exact .pure h
theorem EV.tupleOf (h:EV C ρ a T fun y T=>ObjY y fun o=>ListY T o fun _ l=>l.length≤limit∧Q (.tup l) T):EV C ρ (.tupleOf a) T Q:=by
 simp only [EV,EVs,evalE] at *
 refine .bnd (h.mono ?_);rintro x T1 ⟨o,rfl,k,fs,e,hl,h⟩
 simp only [asObj,as_list e,hl,decide_true,guardB];exact .pure h
theorem EV.strOf (h:EV C ρ a T fun y T=>IntY y fun i=>(0≤i∧i<1000000000)∧Q (.str (sO (toString i))) T):EV C ρ (.strOf a) T Q:=by
 simp only [EV,EVs,evalE] at *
 refine .bnd (h.mono ?_);rintro x T1 ⟨i,rfl,hl,h⟩
 simp only [asInt,hl,decide_true,guardB,and_self];exact .pure h
theorem EV.sorted (k:K) (h:EV C ρ a T fun y T=>ObjY y fun o=>DiY T o fun _ l=>(l.length≤limit∧(l.length<64∨(l.map (·.1)).Pairwise (·≤·)))∧NewY T k (.list (((l.map (·.1)).mergeSort (fun a b=>decide (a≤b))).map .int)) fun i T=>Q (.obj i) T):EV C ρ (.sorted a) T Q:=by
 simp only [EV,EVs,evalE] at *
 refine .bnd (h.mono ?_);rintro x T1 ⟨o,rfl,k',l,e,hl,h⟩
 simp only [asObj,as_di e,hl,decide_true,guardB,and_self]
 rw [hp_app (k:=k),hp_length]
 exact .pure h.go
theorem EV.cut {n:Nat} (k:K) (h:EV C ρ a T fun y T=>∃ l,y=.frz l∧l.length≤limit∧NewY T k (.list ((l.take n).map .int)) fun i T=>Q (.obj i) T):EV C ρ (.cut a n) T Q:=by
 simp only [EV,EVs,evalE] at *
 refine .bnd (h.mono ?_);rintro x T1 ⟨l,rfl,hl,h⟩
 simp only [asFrz,hl,decide_true,guardB]
 rw [hp_app (k:=k),hp_length]
 exact .pure h.go
theorem EV.inTid (h:EV C ρ a T fun y T=>IntY y fun i=>Q (.bool ([20,9,10,11,12,13,14,15,16,17,18,19,1,4].contains i)) T):EV C ρ (.inTid a) T Q:=by
 simp only [EV,EVs,evalE] at *
 refine .bnd (h.mono ?_);rintro x T1 ⟨i,rfl,h⟩
 exact .pure h
end
def putAt:List V→Nat→V→List V
 | [],_,v=>[v]
 | _::r,0,v=>v::r
 | a::r,i+1,v=>a::putAt r i v
theorem putAt_eq:∀ {l:List V} {i:Nat} {v:V},i≤l.length→(if i<l.length then l.set i v else l++[v])=putAt l i v
 | [],i,v,h=>by simp only [lN,Nat.le_zero] at h;subst h;rfl
 | a::r,0,v,_=>rfl
 | a::r,i+1,v,h=>by
  have ih:=putAt_eq (l:=r) (i:=i) (v:=v) (by simpa using h)
  unfold putAt
  rw [←ih]
  by_cases q:i<r.length
  ·rw [if_pos q,if_pos (by simpa using q)];rfl
  ·rw [if_neg q,if_neg (by simpa using q)];rfl
section
variable {C:CallFn} {ρ ρ':Rho} {T:TH} {Q:Option V×Rho→TH→Prop} {r:List S} {a b c e:E} {n:Nat}
theorem execs_append {gt:List V} {C:CallFn}:∀ {x y:List S} {ρ:Rho} {H:Hp},execs gt C ρ (x++y) H=goes (execs gt C ρ x H) fun ρ H=>execs gt C ρ y H
 | [],y,ρ,H=>rfl
 | s::x,y,ρ,H=>by
  rw [cA,execs,execs]
  cases h:execS gt C ρ s H with
  | none=>rfl
  | some p =>
   obtain⟨⟨o,ρ1⟩,H1⟩:=p
   cases o with
   | none=>exact execs_append
   | some v=>rfl
theorem SV.nil (h:Q (none,ρ) T):SV C ρ [] T Q:=by
 simp only [EV,SV,execs] at *;exact .pure h
theorem Y.goes {α:Type} {x:Option ((Option V×α)×Hp)} {f:α→Hp→Option ((Option V×α)×Hp)} {Q:Option V×α→TH→Prop} (h:Y x fun r T=>(r.1=none→Y (f r.2 (hpOf T)) Q)∧(∀ v,r.1=some v→Q r T)):Y (goes x f) Q:=by
 unfold Mine.goes
 refine .bnd (h.mono ?_)
 rintro⟨o,a⟩ T h
 cases o with
 | none=>exact h.1 rfl
 | some v=>exact .pure (h.2 v rfl)
theorem SV.step {s:S} (h:Y (execS gtab C ρ s (hpOf T)) fun x T=>(x.1=none→SV C x.2 r T Q)∧(∀ v,x.1=some v→Q x T)):SV C ρ (s::r) T Q:=by
 simp only [EV,SV,execs] at *;exact .goes h
theorem SV.next {s:S} (h:Y (execS gtab C ρ s (hpOf T)) fun x T=>x.1=none∧SV C x.2 r T Q):SV C ρ (s::r) T Q :=
 .step (h.mono fun x T h=>⟨fun _=>h.2,fun v e=>by rw [h.1] at e;cases e⟩)
theorem SV.assign_loc {i:Nat} (h:EV C ρ e T fun v T=>i<ρ.length∧SV C (ρ.set i (some v)) r T Q):SV C ρ (.assign (.loc i) e::r) T Q:=by
 refine .next ?_
 simp only [EV,EVs,execS] at *
 refine .bnd (h.mono fun v T h=>.bnd ?_)
 simp only [assignT,h.1,decide_true,guardB]
 exact .pure (.pure ⟨rfl,h.2⟩)
theorem SV.assign_locs {l:List Nat} (h:EV C ρ e T fun v T=>TupY v fun vs=>GetY (setLocs ρ l vs) fun ρ=>SV C ρ r T Q):SV C ρ (.assign (.locs l) e::r) T Q:=by
 refine .next ?_
 simp only [EV,EVs,execS] at *
 refine .bnd (h.mono ?_);rintro v T ⟨vs,rfl,ρ',e,h⟩
 refine .bnd ?_
 simp only [assignT,asTup,e,asSome]
 exact .pure (.pure ⟨rfl,h⟩)
structure AttrPut (T:TH) (o c i:Nat) (v:V) (Q:TH→Prop):Prop where
 intro ::
 ex:∃ k fs,T[o]?=some (k,.inst c fs)∧i≤fs.length∧PutY T o k (.inst c (putAt fs i v)) Q
theorem AttrPut.go {o c i:Nat} {v:V} {Q:TH→Prop} (h:AttrPut T o c i v Q):∃ T',putAttr (hpOf T) o c i v=some (hpOf T')∧Q T':=by
 obtain⟨k,fs,e,hi,h⟩:=h
 refine⟨T.set o (k,.inst c (putAt fs i v)),?_,h.go e⟩
 unfold putAttr
 rw [as_inst e,←hp_set,←putAt_eq hi]
 split
 ·rfl
 ·rw [if_pos (by omega)]
theorem AttrPut.mk {o c i:Nat} {v:V} {Q:TH→Prop} {k:K} {fs:List V} (e:T[o]?=some (k,.inst c fs)) (hi:i≤fs.length) (h:PutY T o k (.inst c (putAt fs i v)) Q):AttrPut T o c i v Q:=⟨k,fs,e,hi,h⟩
theorem SV.assign_attr {c i:Nat} (h:EV C ρ e T fun v T=>EV C ρ a T fun x T=>ObjY x fun o=>AttrPut T o c i v fun T=>SV C ρ r T Q):SV C ρ (.assign (.attr a c i) e::r) T Q:=by
 refine .next ?_
 simp only [EV,EVs,execS] at *
 refine .bnd (h.mono fun v T h=>.bnd ?_)
 simp only [assignT]
 refine .bnd (h.mono ?_);rintro x T1 ⟨o,rfl,h⟩
 obtain⟨T',e,h⟩:=h.go
 simp only [asObj,e,asSome]
 exact .pure (.pure ⟨rfl,h⟩)
structure WdPut (T:TH) (o i:Nat) (v:V) (Q:TH→Prop):Prop where
 intro ::
 ex:∃ k fs,T[o]?=some (k,.wd fs)∧i≤fs.length∧PutY T o k (.wd (putAt fs i v)) Q
theorem WdPut.go {o i:Nat} {v:V} {Q:TH→Prop} (h:WdPut T o i v Q):∃ T',putWk (hpOf T) o i v=some (hpOf T')∧Q T':=by
 obtain⟨k,fs,e,hi,h⟩:=h
 refine⟨T.set o (k,.wd (putAt fs i v)),?_,h.go e⟩
 unfold putWk
 rw [as_wd e,←hp_set,←putAt_eq hi]
 split
 ·rfl
 ·rw [if_pos (by omega)]
theorem WdPut.mk {o i:Nat} {v:V} {Q:TH→Prop} {k:K} {fs:List V} (e:T[o]?=some (k,.wd fs)) (hi:i≤fs.length) (h:PutY T o k (.wd (putAt fs i v)) Q):WdPut T o i v Q:=⟨k,fs,e,hi,h⟩
theorem SV.assign_wk {i:Nat} (h:EV C ρ e T fun v T=>EV C ρ a T fun x T=>ObjY x fun o=>WdPut T o i v fun T=>SV C ρ r T Q):SV C ρ (.assign (.wk a i) e::r) T Q:=by
 refine .next ?_
 simp only [EV,EVs,execS] at *
 refine .bnd (h.mono fun v T h=>.bnd ?_)
 simp only [assignT]
 refine .bnd (h.mono ?_);rintro x T1 ⟨o,rfl,h⟩
 obtain⟨T',e,h⟩:=h.go
 simp only [asObj,e,asSome]
 exact .pure (.pure ⟨rfl,h⟩)
structure IdxPut (T:TH) (o:Nat) (k v:V) (Q:TH→Prop):Prop where
 intro ::
 ex:∃ T',putIdx (hpOf T) o k v=some (hpOf T')∧Q T'
theorem IdxPut.list {o:Nat} {i:Int} {v:V} {Q:TH→Prop} {k:K} {l:List V} (e:T[o]?=some (k,.list l)) (hi:0≤i∧i<l.length∧i<1000000) (h:PutY T o k (.list (l.set i.toNat v)) Q):IdxPut T o (.int i) v Q:=by
 refine⟨T.set o (k,.list (l.set i.toNat v)),?_,h.go e⟩
 unfold putIdx
 rw [hp_get e,←hp_set]
 simp only [hi,and_self,decide_true,guardB]
theorem IdxPut.di {o:Nat} {i:Int} {v:V} {Q:TH→Prop} {k:K} {l:List (Int×V)} (e:T[o]?=some (k,.di l)) (hi:l.length<limit) (h:PutY T o k (.di (dput l i v)) Q):IdxPut T o (.int i) v Q:=by
 refine⟨T.set o (k,.di (dput l i v)),?_,h.go e⟩
 unfold putIdx
 rw [hp_get e,←hp_set]
 simp only [hi,decide_true,guardB]
theorem SV.assign_idx (h:EV C ρ e T fun v T=>EV C ρ a T fun x T=>ObjY x fun o=>EV C ρ b T fun k T=>IdxPut T o k v fun T=>SV C ρ r T Q):SV C ρ (.assign (.idx a b) e::r) T Q:=by
 refine .next ?_
 simp only [EV,EVs,execS] at *
 refine .bnd (h.mono fun v T h=>.bnd ?_)
 simp only [assignT]
 refine .bnd (h.mono ?_);rintro x T1 ⟨o,rfl,h⟩
 simp only [asObj]
 refine .bnd (h.mono ?_);rintro k T2 ⟨T',e,h⟩
 simp only [e,asSome]
 exact .pure (.pure ⟨rfl,h⟩)
theorem SV.aug_loc {i:Nat} {op:Bop} {x:V} (ex:(ρ[i]?).join=some x) (h:EV C ρ e T fun y T=>IntY x fun x=>IntY y fun y=>GetY (augOp op x y) fun v=>SV C (ρ.set i (some (.int v))) r T Q):SV C ρ (.aug (.loc i) op e::r) T Q:=by
 refine .next ?_
 simp only [EV,EVs,execS,ex,asSome] at *
 refine .bnd (h.mono ?_);rintro y T1 ⟨x,rfl,y,rfl,v,e,h⟩
 simp only [asInt,e]
 exact .pure ⟨rfl,h⟩
theorem SV.aug_attr {c i:Nat} {op:Bop} (h:EV C ρ a T fun x T=>ObjY x fun o=>InstY T o c fun fs=>GetY fs[i]? fun x=>EV C ρ e T fun y T=>IntY x fun x=>IntY y fun y=>GetY (augOp op x y) fun v=>AttrPut T o c i (.int v) fun T=>SV C ρ r T Q) :
  SV C ρ (.aug (.attr a c i) op e::r) T Q:=by
 refine .next ?_
 simp only [EV,EVs,execS] at *
 refine .bnd (h.mono ?_);rintro y T1 ⟨o,rfl,k,fs,e,x,e',h⟩
 simp only [asObj,as_inst e,e',asSome]
 refine .bnd (h.mono ?_);rintro y T2 ⟨x,rfl,y,rfl,v,e,h⟩
 obtain⟨T',e'',h⟩:=h.go
 simp only [asInt,e,e'']
 exact .pure ⟨rfl,h⟩
theorem SV.expr (h:EV C ρ e T fun _ T=>SV C ρ r T Q):SV C ρ (.expr e::r) T Q:=by
 refine .next ?_
 simp only [EV,EVs,execS] at *
 exact .bnd (h.mono fun v T h=>.pure ⟨rfl,h⟩)
theorem SV.ret (h:EV C ρ e T fun v T=>Q (some v,ρ) T):SV C ρ (.ret e::r) T Q:=by
 refine .step ?_
 simp only [EV,EVs,execS] at *
 refine .bnd (h.mono fun v T h=>.pure ?_)
 constructor
 ·intro q;cases q
 ·intro w q;exact h
theorem SV.pass (h:SV C ρ r T Q):SV C ρ (.pass::r) T Q:=by
 refine .next ?_
 simp only [EV,EVs,execS] at *
 exact .pure ⟨rfl,h⟩
theorem SV.ite {x y:List S} (h:EV C ρ c T fun v T=>BoolY v fun d=>(d=true→SV C ρ (x++r) T Q)∧(d=false→SV C ρ (y++r) T Q)):SV C ρ (.ite c x y::r) T Q:=by
 obtain⟨v,T1,e,d,rfl,h1,h2⟩:=h.y
 refine .intro ?_
 simp only [execs,execS,e,bnd,asBool]
 cases d
 ·show Y (goes (execs gtab C ρ y (hpOf T1)) _) Q
  rw [←execs_append];exact (h2 rfl).y
 ·show Y (goes (execs gtab C ρ x (hpOf T1)) _) Q
  rw [←execs_append];exact (h1 rfl).y
end
section
variable {C:CallFn} {ρ ρ':Rho} {T:TH} {Q:Option V×Rho→TH→Prop} {r:List S} {a b c e:E} {n:Nat}
abbrev TurnQ (J:Rho→TH→Prop) (Q:Option V×Rho→TH→Prop):Option V×Rho→TH→Prop:=fun r T=>match r with
 | (none,ρ)=>J ρ T
 | (some v,ρ)=>Q (some v,ρ) T
abbrev LoopQ (C:CallFn) (r:List S) (J:Rho→TH→Prop) (Q:Option V×Rho→TH→Prop):Prop:=∀ ρ T,J ρ T→SV C ρ r T Q
theorem Y.turn {x:Res} {f:Rho→Hp→Res} {J:Rho→TH→Prop} {Q:Option V×Rho→TH→Prop} (h:Y x (TurnQ J Q)) (k:∀ ρ T,J ρ T→Y (f ρ (hpOf T)) Q):Y (Mine.goes x f) Q:=by
 refine .goes (h.mono ?_)
 rintro⟨o,ρ1⟩ T h
 cases o with
 | none=>exact⟨fun _=>k _ _ h,fun v q=>(nomatch q)⟩
 | some v=>exact⟨fun q=>(nomatch q),fun _ _=>h⟩
theorem live_items {f:Turn Rho} {o:Nat} {k:K} {l:List V} {I:Nat→Rho→TH→Prop} (hs:∀ j x ρ T,l[j]?=some x→I j ρ T→T[o]?=some (k,.list l)→Y (f x ρ (hpOf T)) (TurnQ (fun ρ T=>I (j+1) ρ T∧T[o]?=some (k,.list l)) Q)) :
  ∀ (m j:Nat) ρ T,m+j=l.length→I j ρ T→T[o]?=some (k,.list l)→(∀ ρ T,I l.length ρ T→T[o]?=some (k,.list l)→Q (none,ρ) T)→Y (liveItems f o m j ρ (hpOf T)) Q
 | 0,j,ρ,T,hm,hI,ho,hQ=>by
  have hj:j=l.length:=by omega
  subst hj
  simp only [liveItems,as_list ho,beq_self_eq_true,guardB]
  exact .pure (hQ _ _ hI ho)
 | m+1,j,ρ,T,hm,hI,ho,hQ=>by
  obtain⟨x,hx⟩:∃ x,l[j]?=some x:=⟨_,gE (by omega)⟩
  simp only [liveItems,as_list ho,hx,asSome]
  exact .turn (hs j x ρ T hx hI ho) fun ρ T h=>live_items hs m (j+1) ρ T (by omega) h.1 h.2 hQ
theorem SV.join {s:S} {J:Rho→TH→Prop} (h:Y (execS gtab C ρ s (hpOf T)) (TurnQ J Q)) (k:LoopQ C r J Q):SV C ρ (s::r) T Q:=by
 simp only [EV,SV,execs] at *
 exact .turn h fun ρ T hj=>(k ρ T hj).y
theorem SV.mid {s:S} (J:Rho→TH→Prop) (h:SV C ρ [s] T (TurnQ J Q)) (k:LoopQ C r J Q):SV C ρ (s::r) T Q:=by
 replace h:=h.y
 simp only [execs] at h
 refine .join (J:=J) ?_ k
 obtain⟨⟨o,ρ1⟩,T1,e,h⟩:=h
 cases q:execS gtab C ρ s (hpOf T) with
 | none=>rw [q] at e;cases e
 | some p =>
  obtain⟨⟨o',ρ2⟩,H⟩:=p
  rw [q] at e
  cases o' with
  | none=>cases e;exact .pure h
  | some v=>cases e;exact .pure h
theorem SV.forI {t:List Nat} {bs:List S} (I:Nat→Rho→TH→Prop) (h:EV C ρ e T fun x T=>ObjY x fun o=>ListY T o fun k l=>I 0 ρ T ∧
   (∀ j x ρ T,l[j]?=some x→I j ρ T→T[o]?=some (k,.list l)→GetY (setTarget ρ t x) fun ρ=>SV C ρ bs T (TurnQ (fun ρ T=>I (j+1) ρ T∧T[o]?=some (k,.list l)) Q))∧∀ ρ T,I l.length ρ T→T[o]?=some (k,.list l)→SV C ρ r T Q):SV C ρ (.forI t e bs::r) T Q:=by
 obtain⟨x,T1,e1,o,rfl,k,l,e2,h0,hs,hQ⟩:=h.y
 refine .join (J:=fun ρ T=>I l.length ρ T∧T[o]?=some (k,.list l)) ?_ fun ρ T h=>hQ ρ T h.1 h.2
 simp only [execS,e1,bnd,items,as_list e2]
 refine live_items (k:=k) (I:=I) (fun j x ρ T hx hI ho=>?_) l.length 0 ρ T1 rfl h0 e2 fun ρ T h h'=>⟨h,h'⟩
 obtain⟨ρ1,e3,h⟩:=hs j x ρ T hx hI ho
 simp only [e3,asSome]
 refine h.y.mono ?_
 rintro⟨o',ρ2⟩ T2 h
 cases o'<;>exact h
theorem SV.forE {t:List Nat} {bs:List S} (h:EV C ρ e T fun x T=>x=.tup []∧SV C ρ r T Q):SV C ρ (.forI t e bs::r) T Q:=by
 obtain⟨x,T1,e1,rfl,h⟩:=h.y
 refine .next ?_
 simp only [execS,e1,bnd,items]
 exact .pure ⟨rfl,h⟩
theorem range_items {f:Turn Rho} {I:Nat→Rho→TH→Prop} (n:Nat) (hs:∀ j ρ T,j<n→I j ρ T→Y (f (.int j) ρ (hpOf T)) (TurnQ (fun ρ T=>I (j+1) ρ T) Q)) :
  ∀ (m j:Nat) ρ T,m+j=n→I j ρ T→(∀ ρ T,I n ρ T→Q (none,ρ) T)→Y (rangeItems f m j ρ (hpOf T)) Q
 | 0,j,ρ,T,hm,hI,hQ=>by
  have hj:j=n:=by omega
  subst hj
  simp only [rangeItems]
  exact .pure (hQ _ _ hI)
 | m+1,j,ρ,T,hm,hI,hQ=>by
  simp only [rangeItems]
  exact .turn (hs j ρ T (by omega) hI) fun ρ T h=>range_items n hs m (j+1) ρ T (by omega) h hQ
theorem SV.forR {t:Nat} {bs:List S} (I:Nat→Rho→TH→Prop) (h:EV C ρ e T fun x T=>IntY x fun n=>(0≤n∧n≤limit)∧I 0 ρ T ∧
   (∀ (j:Nat) ρ T,j<n.toNat→I j ρ T→t<ρ.length∧SV C (ρ.set t (some (.int j))) bs T (TurnQ (fun ρ T=>I (j+1) ρ T) Q))∧∀ ρ T,I n.toNat ρ T→SV C ρ r T Q):SV C ρ (.forR t e bs::r) T Q:=by
 obtain⟨x,T1,e1,n,rfl,hn,h0,hs,hQ⟩:=h.y
 refine .join (J:=fun ρ T=>I n.toNat ρ T) ?_ fun ρ T h=>hQ ρ T h
 simp only [execS,e1,bnd,asInt,hn,and_self,decide_true,guardB]
 refine range_items (I:=I) n.toNat (fun j ρ T hj hI=>?_) n.toNat 0 ρ T1 rfl h0 fun ρ T h=>h
 obtain⟨e3,h⟩:=hs j ρ T hj hI
 simp only [setTarget,e3,decide_true,guardB,asSome]
 refine h.y.mono ?_
 rintro⟨o',ρ2⟩ T2 h
 cases o'<;>exact h
theorem SV.while {bs:List S} (I:Nat→Rho→TH→Prop) (m:Nat) (hm:m<limit) (h0:I m ρ T)
  (hs:∀ m ρ T,I m ρ T→EV C ρ c T fun x T=>BoolY x fun d=>(d=true→SV C ρ bs T (TurnQ (fun ρ T=>∃ m',m'<m∧I m' ρ T) Q))∧(d=false→SV C ρ r T Q)):SV C ρ (.while c bs::r) T Q:=by
 have key:∀ (k m:Nat) ρ T,m<k→I m ρ T→Y (whileN (fun ρ H=>evalE gtab C ρ c H) (fun ρ H=>execs gtab C ρ bs H) k ρ (hpOf T)) (TurnQ (fun ρ T=>SV C ρ r T Q) Q):=by
  intro k
  induction k with
  | zero=>intro m ρ T h;omega
  | succ k ih =>
   intro m ρ T hlt hI
   obtain⟨x,T1,e,d,rfl,h1,h2⟩:=(hs m ρ T hI).y
   simp only [whileN,e,bnd,asBool]
   cases d
   ·exact .pure (h2 rfl)
   ·refine .turn (J:=fun ρ T=>∃ m',m'<m∧I m' ρ T) ((h1 rfl).y.mono ?_) ?_
    ·rintro⟨o',ρ2⟩ T2 h
     cases o'<;>exact h
    ·rintro ρ T ⟨m',hm',h⟩
     exact ih m' ρ T (by omega) h
 refine .join (J:=fun ρ T=>SV C ρ r T Q) ?_ fun ρ T h=>h
 simp only [EV,EVs,execS] at *
 exact key limit m ρ T hm h0
theorem call_fn {f:Nat} {fd:Fn} {args:List V} {Q:V→TH→Prop} (hf:fns[f]?=some fd) (hl:args.length=fd.np) (h:SV (CN n) (args.map some++List.replicate (fd.nl-fd.np) none) fd.body T fun r T=>Q (r.1.getD .none) T):Y (CN (n+1) f args (hpOf T)) Q:=by
 show Y (callN gtab fns (n+1) f args (hpOf T)) Q
 simp only [callN,hf,asSome,hl,beq_self_eq_true,guardB]
 exact .bnd (h.y.mono fun r T h=>.pure h)
def Pure (C:CallFn) (ρ:Rho) (e:E) (T:TH) (v:V):Prop:=evalE gtab C ρ e (hpOf T)=some (v,hpOf T)
theorem Pure.ev {Q:V→TH→Prop} {v:V} (h:Pure C ρ e T v) (q:Q v T):EV C ρ e T Q:=.intro (.of h q)
theorem Pure.of {v:V} (h:EV C ρ e T fun x T'=>x=v∧T'=T):Pure C ρ e T v:=by
 obtain⟨x,T',e,rfl,rfl⟩:=h.y
 exact e
theorem acc_items {F:Turn Unit} {f:V→Option V} {o i:Nat} {k kk:K} {l:List V} (hl:l.length≤limit) (ho:T[o]?=some (k,.list l)) (hi:i=T.length)
  (hs:∀ x T' acc,x∈l→Chg noX T T'→T'[i]?=some (kk,.list acc)→acc.length<limit→F x () (hpOf T')=some ((none,()),hpOf (match f x with|some v=>T'.set i (kk,.list (acc++[v]))|none=>T'))) :
  ∀ (m j:Nat) (T1:TH) (acc:List V),m+j=l.length→Chg noX T T1→T1[i]?=some (kk,.list acc)→acc=(l.take j).filterMap f →
   ∃ T2,liveItems F o m j () (hpOf T1)=some ((none,()),hpOf T2)∧Chg noX T T2∧T2[i]?=some (kk,.list (l.filterMap f))
 | 0,j,T1,acc,hm,hc,ha,he=>by
  have hj:j=l.length:=by omega
  subst hj
  simp only [liveItems,as_list (hc.keep ho),beq_self_eq_true,guardB]
  rw [tL] at he
  subst he
  exact⟨T1,rfl,hc,ha⟩
 | m+1,j,T1,acc,hm,hc,ha,he=>by
  have hj:j<l.length:=by omega
  obtain⟨x,hx⟩:∃ x,l[j]?=some x:=⟨_,gE hj⟩
  simp only [liveItems,as_list (hc.keep ho),hx,asSome]
  have htk:(l.take (j+1)).filterMap f=acc++(f x).toList:=by
   rw [he,tO,hx,List.filterMap_append]
   cases q:f x<;>simp [q]
  have hacc:acc.length<limit:=by
   have h1:acc.length≤(l.take j).length:=by rw [he];exact List.length_filterMap_le _ _
   rw [lT] at h1
   omega
  rw [hs x T1 acc (mG hx) hc ha hacc]
  cases hf:f x with
  | none =>
   obtain⟨T2,e,h2⟩:=acc_items hl ho hi hs m (j+1) T1 acc (by omega) hc ha (by rw [htk,hf];simp)
   exact⟨T2,e,h2⟩
  | some v =>
   have hne:o≠i:=ne_none ho (by rw [hi];exact get_none)
   have hc2:Chg noX T (T1.set i (kk,.list (acc++[v]))):=by
    refine hc.trans (Chg.set ha) (fun _ _ _ _ q=>q) fun b k' o' hb q=>?_
    have q:b=i:=q
    rw [q,hi] at hb;simp at hb
   obtain⟨T2,e,h2⟩:=acc_items hl ho hi hs m (j+1) (T1.set i (kk,.list (acc++[v]))) (acc++[v]) (by omega) hc2 (set_get ha) (by rw [htk,hf];rfl)
   exact⟨T2,e,h2⟩
abbrev capOf (ρ:Rho) (cap:List Nat) (x:V):Rho:=cap.map (fun i=>(ρ[i]?).join)++[some x]
def ItemC (C:CallFn) (ρ:Rho) (elt:E) (cond:List E) (T:TH) (x:V):Option V→Prop
 | some v=>Pure C ρ elt T v∧(cond=[]∨∃ c s,cond=c::s∧Pure C ρ c T (.bool true))
 | none=>∃ c s,cond=c::s∧Pure C ρ c T (.bool false)
def cturn (C:CallFn) (ρ0:Rho) (t:List Nat) (i:Nat) (elt:E) (cond:List E):Turn Unit:=fun v _ H' =>
 asSome (setTarget ρ0 t v) fun ρ'=>match cond with
  | []=>bnd (evalE gtab C ρ' elt H') fun y H'=>asSome (pushL H' i y) fun H'=>some ((none,()),H')
  | c::_=>bnd (evalE gtab C ρ' c H') fun b H'=>asBool b fun b=>match b with
   | true=>bnd (evalE gtab C ρ' elt H') fun y H'=>asSome (pushL H' i y) fun H'=>some ((none,()),H')
   | false=>some ((none,()),H')
theorem EV.comp {elt:E} {cap:List Nat} {it:E} {cond:List E} {Q:V→TH→Prop} (kk:K) (f:V→Option V) (h:EV C ρ it T fun x T=>ObjY x fun o=>ListY T o fun _ l=>l.length≤limit∧(cap.all fun i=>(ρ[i]?).join.isSome)=true ∧
   (∀ x T',x∈l→Chg noX T T'→ItemC C (capOf ρ cap x) elt cond T' x (f x))∧NewY T kk (.list (l.filterMap f)) fun i T=>Q (.obj i) T):EV C ρ (.comp elt cap 1 it cond) T Q:=by
 obtain⟨x,T1,e,o,rfl,k,l,ho,hl,hcap,hs,h⟩:=h.y
 have key:∀ x T' acc,x∈l→Chg noX T1 T'→T'[T1.length]?=some (kk,.list acc)→acc.length<limit→cturn C (cap.map (fun i=>(ρ[i]?).join)++List.replicate 1 none) ((List.range 1).map (cap.length+·)) T1.length elt cond x () (hpOf T')=some ((none,()),hpOf (match f x with|some v=>T'.set T1.length (kk,.list (acc++[v]))|none=>T')):=by
  intro x T' acc hx hc ha hacc
  unfold cturn
  have hset:setTarget (cap.map (fun i=>(ρ[i]?).join)++List.replicate 1 none) ((List.range 1).map (cap.length+·)) x=some (capOf ρ cap x):=by
   simp [setTarget,List.range_succ,guardB,List.set_append]
  rw [hset]
  show (match cond with
     | []=>bnd (evalE gtab C (capOf ρ cap x) elt (hpOf T')) fun y H'=>asSome (pushL H' T1.length y) fun H'=>some ((none,()),H')
     | c::_=>bnd (evalE gtab C (capOf ρ cap x) c (hpOf T')) fun b H'=>asBool b fun b=>match b with
      | true=>bnd (evalE gtab C (capOf ρ cap x) elt H') fun y H'=>asSome (pushL H' T1.length y) fun H'=>some ((none,()),H')
      | false=>some ((none,()),H'))=_
  have h:=hs x T' hx hc
  have push:∀ v,asSome (pushL (hpOf T') T1.length v) (fun H'=>some ((none,()),H'))=some (((none:Option V),()),hpOf (T'.set T1.length (kk,.list (acc++[v])))):=fun v=>by
   simp only [pushL,as_list ha,hacc,decide_true,guardB,asSome,hp_set (k:=kk)]
  cases hf:f x with
  | some v =>
   rw [hf] at h
   obtain⟨hp,rfl|⟨c,s,rfl,hpc⟩⟩:=h
   ·show bnd (evalE gtab C (capOf ρ cap x) elt (hpOf T')) _=_
    rw [show evalE gtab C _ elt (hpOf T')=_ from hp]
    exact push v
   ·show bnd (evalE gtab C (capOf ρ cap x) c (hpOf T')) _=_
    rw [show evalE gtab C _ c (hpOf T')=_ from hpc]
    show bnd (evalE gtab C (capOf ρ cap x) elt (hpOf T')) _=_
    rw [show evalE gtab C _ elt (hpOf T')=_ from hp]
    exact push v
  | none =>
   rw [hf] at h
   obtain⟨c,s,rfl,hpc⟩:=h
   show bnd (evalE gtab C (capOf ρ cap x) c (hpOf T')) _=_
   rw [show evalE gtab C _ c (hpOf T')=_ from hpc]
   rfl
 obtain⟨T2,e2,hc,hg⟩:=acc_items (T:=T1) (F:=cturn C (cap.map (fun i=>(ρ[i]?).join)++List.replicate 1 none) ((List.range 1).map (cap.length+·)) T1.length elt cond) (f:=f) (kk:=kk) hl ho rfl key l.length 0 (T1++[(kk,.list [])]) [] rfl .app app_get rfl
 refine .intro ?_
 rw [evalE,e]
 show Y (guardB _ _) Q
 rw [hcap]
 show Y (asList _ _ _) Q
 rw [as_list ho,hp_length,hp_app (k:=kk)]
 show Y (bnd (liveItems (cturn C (cap.map (fun i=>(ρ[i]?).join)++List.replicate 1 none) ((List.range 1).map (cap.length+·)) T1.length elt cond) o l.length 0 () (hpOf (T1++[(kk,.list [])]))) _) Q
 rw [e2]
 exact .pure (h.ex _ _ get_none hg hc)
end
end Mine
namespace Mine
open PySem
open _root_.List renaming length_map → lM, append_nil → aN, append_assoc → aA, map_append → mP, mem_of_getElem? → mG, length_append → lA, getElem?_eq_some_iff → gS, getElem?_map → gM, mem_append → mA, mem_map → mM, map_cons → mC, cons_append → cA, mem_singleton → mS, mem_cons → mK, nil_append → nA, getElem?_eq_getElem → gE, mem_append_left → mL, length_cons → lC, mem_map_of_mem → mO, not_mem_nil → nM, getElem?_of_mem → gO, zip_cons_cons → zC, lookup_cons → kC, take_add_one → tO, mem_append_right → mR, take_length → tL, nodup_append → nD, map_map → mQ, filter_append → fA, length_nil → lN, take_sublist → tS, getElem?_append_left → gL, getElem?_append_right → gR, nodup_cons → nC, length_take → lT, length_singleton → lS, flatMap_cons → fC, map_congr_left → mJ, perm_append_singleton → pS, getElem?_cons_zero → gZ
theorem BinY.mk {op:Bop} {x y v:V} {Q:V→Prop} (e:binV op x y=some v) (h:Q v):BinY op x y Q:=⟨v,e,h⟩
theorem CmpY.mk {T:TH} {op:Cop} {x y:V} {b:Bool} {Q:Bool→Prop} (e:cmpV (hpOf T) op x y=some b) (h:Q b):CmpY T op x y Q:=⟨b,e,h⟩
theorem IdxY.tup {T:TH} {l:List V} {i:Int} {v:V} {Q:V→Prop} (e:at? l i=some v) (h:Q v):IdxY T (.tup l) (.int i) Q:=⟨v,e,h⟩
theorem IdxY.list {T:TH} {o:Nat} {k:K} {l:List V} {i:Int} {v:V} {Q:V→Prop} (e:T[o]?=some (k,.list l)) (e':at? l i=some v) (h:Q v):IdxY T (.obj o) (.int i) Q:=⟨v,by simp only [idxV,hp_get e];exact e',h⟩
theorem IdxY.di {T:TH} {o:Nat} {k:K} {l:List (Int×V)} {i:Int} {v:V} {Q:V→Prop} (e:T[o]?=some (k,.di l)) (e':dget l i=some v) (h:Q v):IdxY T (.obj o) (.int i) Q:=⟨v,by simp only [idxV,hp_get e];exact e',h⟩
theorem at_nat {l:List V} {j:Nat} {v:V} (h:l[j]?=some v) (hb:j<1000000):at? l (j:Int)=some v:=by
 unfold at?
 rw [if_pos (by omega),if_pos (by omega)]
 simpa using h
theorem at_last {l:List V} {v:V} (h:l.getLast?=some v) (hb:l.length≤limit):at? l (-1)=some v:=by
 have hl:0<l.length:=by cases l with
  | nil=>simp at h
  | cons _ _=>simp
 unfold at?
 rw [if_neg (by omega),if_pos (by constructor<;>omega)]
 rw [List.getLast?_eq_getElem?] at h
 have:((-1:Int)+(l.length:Int)).toNat=l.length-1:=by omega
 rw [this];exact h
def Off (X:Nat→K→Prop) (T':TH) (i:Nat) (k:K):Prop:=(∃ o',T'[i]?=some (k,o'))→¬ X i k
theorem Chg.look {X:Nat→K→Prop} {T T':TH} {i:Nat} {k:K} {o:O} (a:Chg X T T') (h:T[i]?=some (k,o)) (n:Off X T' i k):T'[i]?=some (k,o):=a.get h (n (a.kind h))
theorem off_no {T':TH} {i:Nat} {k:K}:Off noX T' i k:=fun _=>id
theorem off_one {T':TH} {i j:Nat} {k k':K} {o':O} (h:T'[j]?=some (k',o')) (n:k≠k'):Off (oneX j) T' i k:=fun ⟨_,e⟩ q=>by
 have q:i=j:=q
 rw [q,h] at e;cases e;exact n rfl
theorem off_ne {T':TH} {i j:Nat} {k:K} (n:i≠j):Off (oneX j) T' i k:=fun _=>n
theorem off_not {X:Nat→K→Prop} {T':TH} {i:Nat} {k:K} (n:¬ X i k):Off X T' i k:=fun _=>n
theorem Chg.back {Z Y:Nat→K→Prop} {T T1 T2:TH} (b:Chg Y T1 T2) (a:Chg Z T T1) (hy:∀ (i:Nat) (k:K) (o:O),T[i]?=some (k,o)→Y i k→Z i k):Chg Z T T2:=a.trans b (fun _ _ _ _ h=>h) hy
theorem Chg.fresh {Z:Nat→K→Prop} {T T1 T2:TH} {i:Nat} (b:Chg (oneX i) T1 T2) (a:Chg Z T T1) (hn:T[i]?=none):Chg Z T T2 :=
 b.back a fun j k o h q=>by
  have q:j=i:=q
  rw [q,hn] at h;cases h
theorem side_no {T:TH} {Z:Nat→K→Prop}:∀ (i:Nat) (k:K) (o:O),T[i]?=some (k,o)→noX i k→Z i k:=fun _ _ _ _ h=>h.elim
theorem side_same {T:TH} {Z:Nat→K→Prop}:∀ (i:Nat) (k:K) (o:O),T[i]?=some (k,o)→Z i k→Z i k:=fun _ _ _ _ h=>h
theorem side_fresh {T:TH} {Z:Nat→K→Prop} {j:Nat} (hn:T[j]?=none):∀ (i:Nat) (k:K) (o:O),T[i]?=some (k,o)→oneX j i k→Z i k:=fun i k o h q=>by
 have q:i=j:=q
 rw [q,hn] at h;cases h
theorem side_kind {T:TH} {j:Nat} {k_0:K} {o0:O} {ks:List K} (h_0:T[j]?=some (k_0,o0)) (hk:k_0∈ks:=by decide):∀ (i:Nat) (k:K) (o:O),T[i]?=some (k,o)→oneX j i k→ksX ks i k:=fun i k o h q=>by
 have q:i=j:=q
 rw [q,h_0] at h;cases h;exact hk
theorem side_ks {T:TH} {ks ks':List K} (hk:∀ k∈ks,k∈ks'):∀ (i:Nat) (k:K) (o:O),T[i]?=some (k,o)→ksX ks i k→ksX ks' i k:=fun _ _ _ _ q=>hk _ q
theorem GetY.aug_sub {a b:Int} {Q:Int→Prop} (h:Q (a-b)):GetY (augOp .sub a b) Q:=⟨_,rfl,h⟩
theorem GetY.aug_add {a b:Int} {Q:Int→Prop} (h:Q (a+b)):GetY (augOp .add a b) Q:=⟨_,rfl,h⟩
theorem IdxY.list0 {T:TH} {o:Nat} {k:K} {a:V} {l:List V} {Q:V→Prop} (e:T[o]?=some (k,.list (a::l))) (h:Q a):IdxY T (.obj o) (.int 0) Q:=.list e (v:=a) (by simp [at?]) h
theorem IdxY.list1 {T:TH} {o:Nat} {k:K} {a b:V} {l:List V} {Q:V→Prop} (e:T[o]?=some (k,.list (a::b::l))) (h:Q b):IdxY T (.obj o) (.int 1) Q:=.list e (v:=b) (by simp [at?]) h
theorem IdxY.tupN {T:TH} {l:List V} {v:V} {j:Nat} {Q:V→Prop} (e:l[j]?=some v) (hb:j<1000000) (h:Q v):IdxY T (.tup l) (.int j) Q:=.tup (at_nat e hb) h
theorem IdxY.tup0 {T:TH} {a:V} {l:List V} {Q:V→Prop} (h:Q a):IdxY T (.tup (a::l)) (.int 0) Q:=.tup (v:=a) (by simp [at?]) h
theorem IdxY.tup1 {T:TH} {a b:V} {l:List V} {Q:V→Prop} (h:Q b):IdxY T (.tup (a::b::l)) (.int 1) Q:=.tup (v:=b) (by simp [at?]) h
theorem IdxY.tup2 {T:TH} {a b c:V} {l:List V} {Q:V→Prop} (h:Q c):IdxY T (.tup (a::b::c::l)) (.int 2) Q:=.tup (v:=c) (by simp [at?]) h
theorem ne_none' {T:TH} {i j:Nat} {x:K×O} (n:T[j]?=none) (h:T[i]?=some x):i≠j:=ne_none h n
abbrev anyX:Nat→K→Prop:=fun _ _=>True
theorem none_back {T T':TH} {i:Nat} (h:T'[i]?=none) (a:Chg anyX T T'):T[i]?=none:=by
 cases q:T[i]? with
 | none=>rfl
 | some x=>obtain⟨k,o⟩:=x;obtain⟨o',e⟩:=a.kind q;rw [h] at e;cases e
theorem side_any {T:TH} {X:Nat→K→Prop}:∀ (i:Nat) (k:K) (o:O),T[i]?=some (k,o)→X i k→anyX i k:=fun _ _ _ _ _=>trivial
theorem CmpY.mem_di {T:TH} {o:Nat} {k:K} {l:List (Int×V)} {i:Int} {Q:Bool→Prop} (e:T[o]?=some (k,.di l)) (h:Q (dget l i).isSome):CmpY T .mem (.int i) (.obj o) Q:=⟨_,by simp only [cmpV,memV,hp_get e],h⟩
theorem CmpY.nmem_di {T:TH} {o:Nat} {k:K} {l:List (Int×V)} {i:Int} {Q:Bool→Prop} (e:T[o]?=some (k,.di l)) (h:Q (!(dget l i).isSome)):CmpY T .nmem (.int i) (.obj o) Q:=⟨_,by simp only [cmpV,memV,hp_get e,Option.map_some],h⟩
structure WV (C:CallFn) (c:E) (b r:List S) (fuel:Nat) (ρ:Rho) (T:TH) (Q:Option V×Rho→TH→Prop):Prop where
 intro ::
 y:Y (whileN (fun ρ H=>evalE gtab C ρ c H) (fun ρ H=>execs gtab C ρ b H) fuel ρ (hpOf T)) (TurnQ (fun ρ T=>SV C ρ r T Q) Q)
section
variable {C:CallFn} {ρ:Rho} {T:TH} {Q:Option V×Rho→TH→Prop} {r:List S} {c:E} {b:List S}
theorem SV.whileU (h:WV C c b r limit ρ T Q):SV C ρ (.while c b::r) T Q:=by
 refine .join (J:=fun ρ T=>SV C ρ r T Q) ?_ fun ρ T h=>h
 simp only [execS]
 exact h.y
theorem WV.step {fuel:Nat} (hf:0<fuel) (h:EV C ρ c T fun x T=>BoolY x fun d=>(d=true→SV C ρ b T (TurnQ (fun ρ T=>WV C c b r (fuel-1) ρ T Q) Q))∧(d=false→SV C ρ r T Q)):WV C c b r fuel ρ T Q:=by
 obtain⟨k,rfl⟩:∃ k,fuel=k+1:=⟨fuel-1,by omega⟩
 refine⟨?_⟩
 obtain⟨x,T1,e,d,rfl,h1,h2⟩:=h.y
 simp only [whileN,e,bnd,asBool]
 cases d
 ·exact .pure (h2 rfl)
 ·refine .turn (J:=fun ρ T=>WV C c b r k ρ T Q) ((h1 rfl).y.mono ?_) fun ρ T h=>h.y
  rintro⟨o',ρ2⟩ T2 h
  cases o'<;>exact h
end
def BoolM (x:V) (Q:Bool→Prop):Prop:=match x with|.bool b=>Q b|_=>False
def IntM (x:V) (Q:Int→Prop):Prop:=match x with|.int b=>Q b|_=>False
def ObjM (x:V) (Q:Nat→Prop):Prop:=match x with|.obj b=>Q b|_=>False
def TupM (x:V) (Q:List V→Prop):Prop:=match x with|.tup b=>Q b|_=>False
def GetM {α:Type} (x:Option α) (Q:α→Prop):Prop:=match x with|some v=>Q v|none=>False
theorem BoolM.y {x:V} {Q:Bool→Prop} (h:BoolM x Q):BoolY x Q:=by cases x<;>first|exact⟨_,rfl,h⟩|exact False.elim h
theorem IntM.y {x:V} {Q:Int→Prop} (h:IntM x Q):IntY x Q:=by cases x<;>first|exact⟨_,rfl,h⟩|exact False.elim h
theorem ObjM.y {x:V} {Q:Nat→Prop} (h:ObjM x Q):ObjY x Q:=by cases x<;>first|exact⟨_,rfl,h⟩|exact False.elim h
theorem TupM.y {x:V} {Q:List V→Prop} (h:TupM x Q):TupY x Q:=by cases x<;>first|exact⟨_,rfl,h⟩|exact False.elim h
theorem GetM.y {α:Type} {x:Option α} {Q:α→Prop} (h:GetM x Q):GetY x Q:=by cases x<;>first|exact⟨_,rfl,h⟩|exact False.elim h
theorem IntY.mono {x:V} {P Q:Int→Prop} (h:IntY x P) (k:∀ i,P i→Q i):IntY x Q:=by obtain⟨i,e,h⟩:=h;exact⟨i,e,k i h⟩
theorem ObjY.mono {x:V} {P Q:Nat→Prop} (h:ObjY x P) (k:∀ i,P i→Q i):ObjY x Q:=by obtain⟨i,e,h⟩:=h;exact⟨i,e,k i h⟩
theorem TupY.mono {x:V} {P Q:List V→Prop} (h:TupY x P) (k:∀ i,P i→Q i):TupY x Q:=by obtain⟨i,e,h⟩:=h;exact⟨i,e,k i h⟩
theorem InstY.mono {T:TH} {o c:Nat} {P Q:List V→Prop} (h:InstY T o c P) (k:∀ i,P i→Q i):InstY T o c Q:=by obtain⟨i,j,e,h⟩:=h;exact⟨i,j,e,k _ h⟩
theorem WdY.mono {T:TH} {o:Nat} {P Q:K→List V→Prop} (h:WdY T o P) (k:∀ i j,P i j→Q i j):WdY T o Q:=by obtain⟨i,j,e,h⟩:=h;exact⟨i,j,e,k _ _ h⟩
theorem ListY.mono {T:TH} {o:Nat} {P Q:K→List V→Prop} (h:ListY T o P) (k:∀ i j,P i j→Q i j):ListY T o Q:=by obtain⟨i,j,e,h⟩:=h;exact⟨i,j,e,k _ _ h⟩
theorem DiY.mono {T:TH} {o:Nat} {P Q:K→List (Int×V)→Prop} (h:DiY T o P) (k:∀ i j,P i j→Q i j):DiY T o Q:=by obtain⟨i,j,e,h⟩:=h;exact⟨i,j,e,k _ _ h⟩
theorem EV.mono {C:CallFn} {ρ:Rho} {e:E} {T:TH} {P Q:V→TH→Prop} (h:EV C ρ e T P) (k:∀ v T,P v T→Q v T):EV C ρ e T Q:=.intro (h.y.mono k)
theorem SV.mono {C:CallFn} {ρ:Rho} {e:List S} {T:TH} {P Q:Option V×Rho→TH→Prop} (h:SV C ρ e T P) (k:∀ v T,P v T→Q v T):SV C ρ e T Q:=.intro (h.y.mono k)
theorem EVs.mono {C:CallFn} {ρ:Rho} {e:List E} {T:TH} {P Q:List V→TH→Prop} (h:EVs C ρ e T P) (k:∀ v T,P v T→Q v T):EVs C ρ e T Q:=.intro (h.y.mono k)
structure AnyK (P:K→Prop):Prop where
 intro ::
 ex:∃ k,P k
theorem AnyK.mk {P:K→Prop} (k:K) (h:P k):AnyK P:=⟨k,h⟩
structure HandE (C:CallFn) (ρ:Rho) (e:E) (T:TH) (Q:V→TH→Prop):Prop where
 intro ::
 ex:EV C ρ e T Q
structure HandS (C:CallFn) (ρ:Rho) (e:List S) (T:TH) (Q:Option V×Rho→TH→Prop):Prop where
 intro ::
 ex:SV C ρ e T Q
def EVn (C:CallFn) (ρ:Rho) (e:E) (T:TH) (Q:V→TH→Prop):Prop:=match e with
 | .lit v=>Q v T
 | .glob x=>GetM gtab[x]? fun v=>Q v T
 | .loc i=>GetM (ρ[i]?).join fun v=>Q v T
 | .bin op a b=>EV C ρ a T fun x T=>EV C ρ b T fun y T=>BinY op x y fun v=>Q v T
 | .neg a=>EV C ρ a T fun x T=>IntM x fun i=>Q (.int (-i)) T
 | .not a=>EV C ρ a T fun x T=>BoolM x fun i=>Q (.bool (!i)) T
 | .and a b=>EV C ρ a T fun x T=>BoolM x fun c=>(c=true→EV C ρ b T fun y T=>BoolM y fun d=>Q (.bool d) T)∧(c=false→Q (.bool false) T)
 | .or a b=>EV C ρ a T fun x T=>BoolM x fun c=>(c=false→EV C ρ b T fun y T=>BoolM y fun d=>Q (.bool d) T)∧(c=true→Q (.bool true) T)
 | .cmp op a b=>EV C ρ a T fun x T=>EV C ρ b T fun y T=>CmpY T op x y fun v=>Q (.bool v) T
 | .tup l=>EVs C ρ l T fun vs T=>Q (.tup vs) T
 | .list l=>AnyK fun k=>EVs C ρ l T fun vs T=>NewY T k (.list vs) fun i T=>Q (.obj i) T
 | .di=>AnyK fun k=>NewY T k (.di []) fun i T=>Q (.obj i) T
 | .ds=>AnyK fun k=>NewY T k (.ds []) fun i T=>Q (.obj i) T
 | .dt=>AnyK fun k=>NewY T k (.dt []) fun i T=>Q (.obj i) T
 | .idx a b=>EV C ρ a T fun x T=>EV C ρ b T fun y T=>IdxY T x y fun v=>Q v T
 | .wk a i=>EV C ρ a T fun x T=>ObjM x fun o=>WdY T o fun _ fs=>GetM fs[i]? fun v=>Q v T
 | .attr a c i=>EV C ρ a T fun x T=>ObjM x fun o=>InstY T o c fun fs=>GetM fs[i]? fun v=>Q v T
 | .call f args=>EVs C ρ args T fun vs T=>Y (C f vs (hpOf T)) Q
 | .new c f args=>AnyK fun k=>EVs C ρ args T fun vs T=>NewY T k (.inst c []) fun i T=>Y (C f (.obj i::vs) (hpOf T)) fun r T=>r=.none∧Q (.obj i) T
 | .new0 c=>AnyK fun k=>NewY T k (.inst c []) fun i T=>Q (.obj i) T
 | .meth a c f args=>EV C ρ a T fun x T=>ObjM x fun o=>InstY T o c fun _=>EVs C ρ args T fun vs T=>Y (C f (.obj o::vs) (hpOf T)) Q
 | .append a b=>EV C ρ a T fun y T=>ObjM y fun o=>ListY T o fun _ _=>EV C ρ b T fun v T=>ListY T o fun k l=>l.length<limit∧PutY T o k (.list (l++[v])) fun T=>Q .none T
 | .pop a=>EV C ρ a T fun y T=>ObjM y fun o=>ListY T o fun k l=>l.length≤limit∧GetY l[l.length-1]? fun v=>PutY T o k (.list (l.eraseIdx (l.length-1))) fun T=>Q v T
 | .popAt a b=>EV C ρ a T fun y T=>ObjM y fun o=>ListY T o fun _ _=>EV C ρ b T fun j T=>IntM j fun i=>ListY T o fun k l=>(0≤i∧i<1000000∧l.length≤limit)∧GetY l[i.toNat]? fun v=>PutY T o k (.list (l.eraseIdx i.toNat)) fun T=>Q v T
 | .get1 a b=>EV C ρ a T fun y T=>ObjM y fun o=>DiY T o fun _ _=>EV C ρ b T fun j T=>IntM j fun i=>DiY T o fun _ l=>Q ((dget l i).getD .none) T
 | .get2 a b c=>HandE C ρ (.get2 a b c) T Q
 | .len a=>EV C ρ a T fun x T=>LenY T x fun n=>Q (.int n) T
 | .tupleOf a=>EV C ρ a T fun y T=>ObjM y fun o=>ListY T o fun _ l=>l.length≤limit∧Q (.tup l) T
 | .strOf a=>EV C ρ a T fun y T=>IntM y fun i=>(0≤i∧i<1000000000)∧Q (.str (sO (toString i))) T
 | .inTid a=>EV C ρ a T fun y T=>IntM y fun i=>Q (.bool ([20,9,10,11,12,13,14,15,16,17,18,19,1,4].contains i)) T
 | e=>HandE C ρ e T Q
theorem EV.go {C:CallFn} {ρ:Rho} {e:E} {T:TH} {Q:V→TH→Prop} (h:EVn C ρ e T Q):EV C ρ e T Q:=by
 cases e with
 | lit v=>exact .lit h
 | glob x=>obtain⟨v,e,h⟩:=GetM.y h;exact .glob e h
 | loc i=>obtain⟨v,e,h⟩:=GetM.y h;exact .loc e h
 | bin op a b=>exact .bin h
 | neg a=>exact .neg (EV.mono h fun x T h=>h.y)
 | not a=>exact .not (EV.mono h fun x T h=>h.y)
 | and a b =>
  refine .and (EV.mono h fun x T h=>?_)
  obtain⟨c,rfl,h1,h2⟩:=h.y
  exact⟨c,rfl,fun q=>(h1 q).mono fun y T h=>h.y,h2⟩
 | or a b =>
  refine .or (EV.mono h fun x T h=>?_)
  obtain⟨c,rfl,h1,h2⟩:=h.y
  exact⟨c,rfl,fun q=>(h1 q).mono fun y T h=>h.y,h2⟩
 | cmp op a b=>exact .cmp h
 | tup l=>exact .tup h
 | list l=>obtain⟨k,h⟩:=AnyK.ex h;exact .list k h
 | di=>obtain⟨k,h⟩:=AnyK.ex h;exact .di k h
 | ds=>obtain⟨k,h⟩:=AnyK.ex h;exact .ds k h
 | dt=>obtain⟨k,h⟩:=AnyK.ex h;exact .dt k h
 | idx a b=>exact .idx h
 | wk a i=>exact .wk (EV.mono h fun x T h=>h.y.mono fun o h=>h.mono fun _ fs h=>h.y)
 | attr a c i=>exact .attr (EV.mono h fun x T h=>h.y.mono fun o h=>h.mono fun fs h=>h.y)
 | call f args=>exact .call h
 | new c f args=>obtain⟨k,h⟩:=AnyK.ex h;exact .new k h
 | new0 c=>obtain⟨k,h⟩:=AnyK.ex h;exact .new0 k h
 | meth a c f args=>exact .meth (EV.mono h fun x T h=>h.y)
 | append a b=>exact .append (EV.mono h fun x T h=>h.y)
 | pop a=>exact .pop (EV.mono h fun x T h=>h.y)
 | popAt a b=>exact .popAt (EV.mono h fun x T h=>h.y.mono fun o h=>h.mono fun _ _ h=>h.mono fun j T h=>h.y)
 | get1 a b=>exact .get1 (EV.mono h fun x T h=>h.y.mono fun o h=>h.mono fun _ _ h=>h.mono fun j T h=>h.y)
 | len a=>exact .len h
 | tupleOf a=>exact .tupleOf (EV.mono h fun x T h=>h.y)
 | strOf a=>exact .strOf (EV.mono h fun x T h=>h.y)
 | inTid a=>exact .inTid (EV.mono h fun x T h=>h.y)
 | _=>exact HandE.ex h
def EVsn (C:CallFn) (ρ:Rho) (l:List E) (T:TH) (Q:List V→TH→Prop):Prop:=match l with
 | []=>Q [] T
 | e::r=>EV C ρ e T fun v T=>EVs C ρ r T fun vs T=>Q (v::vs) T
theorem EVs.go {C:CallFn} {ρ:Rho} {l:List E} {T:TH} {Q:List V→TH→Prop} (h:EVsn C ρ l T Q):EVs C ρ l T Q:=by
 cases l with
 | nil=>exact .nil h
 | cons e r=>exact .cons h
structure AugY (op:Bop) (x y:Int) (Q:Int→Prop):Prop where
 intro ::
 y:GetY (augOp op x y) Q
theorem AugY.add {x y:Int} {Q:Int→Prop} (h:Q (x+y)):AugY .add x y Q:=⟨_,rfl,h⟩
theorem AugY.sub {x y:Int} {Q:Int→Prop} (h:Q (x-y)):AugY .sub x y Q:=⟨_,rfl,h⟩
def setR:Rho→Nat→V→Option Rho
 | [],_,_=>none
 | _::r,0,v=>some (some v::r)
 | a::r,i+1,v=>(setR r i v).map (a::·)
theorem setR_eq:∀ {ρ:Rho} {i:Nat} {v:V} {ρ':Rho},setR ρ i v=some ρ'→i<ρ.length∧ρ'=ρ.set i (some v)
 | _::r,0,v,_,h=>by cases h;exact⟨by simp,rfl⟩
 | a::r,i+1,v,_,h=>by
  simp only [setR,Option.map_eq_some_iff] at h
  obtain⟨ρ1,h,rfl⟩:=h
  obtain⟨h1,rfl⟩:=setR_eq h
  exact⟨by simpa using h1,rfl⟩
structure KnowR (x:Option Rho) (Q:Rho→Prop):Prop where
 intro ::
 ex:∃ ρ,x=some ρ∧Q ρ
theorem KnowR.mk {x:Option Rho} {Q:Rho→Prop} {ρ:Rho} (e:x=some ρ) (h:Q ρ):KnowR x Q:=⟨ρ,e,h⟩
def SVn (C:CallFn) (ρ:Rho) (l:List S) (T:TH) (Q:Option V×Rho→TH→Prop):Prop:=match l with
 | []=>Q (none,ρ) T
 | .assign (.loc i) e::r=>EV C ρ e T fun v T=>GetM (setR ρ i v) fun ρ=>SV C ρ r T Q
 | .assign (.locs l) e::r=>EV C ρ e T fun v T=>TupM v fun vs=>GetM (setLocs ρ l vs) fun ρ=>SV C ρ r T Q
 | .assign (.attr a c i) e::r=>EV C ρ e T fun v T=>EV C ρ a T fun x T=>ObjM x fun o=>AttrPut T o c i v fun T=>SV C ρ r T Q
 | .assign (.wk a i) e::r=>EV C ρ e T fun v T=>EV C ρ a T fun x T=>ObjM x fun o=>WdPut T o i v fun T=>SV C ρ r T Q
 | .assign (.idx a b) e::r=>EV C ρ e T fun v T=>EV C ρ a T fun x T=>ObjM x fun o=>EV C ρ b T fun k T=>IdxPut T o k v fun T=>SV C ρ r T Q
 | .aug (.loc i) op e::r=>GetM (ρ[i]?).join fun x=>EV C ρ e T fun y T=>IntM x fun x=>IntM y fun y=>AugY op x y fun v=>GetM (setR ρ i (.int v)) fun ρ=>SV C ρ r T Q
 | .aug (.attr a c i) op e::r=>EV C ρ a T fun x T=>ObjM x fun o=>InstY T o c fun fs=>GetM fs[i]? fun x=>EV C ρ e T fun y T=>IntM x fun x=>IntM y fun y=>AugY op x y fun v=>AttrPut T o c i (.int v) fun T=>SV C ρ r T Q
 | .expr e::r=>EV C ρ e T fun _ T=>SV C ρ r T Q
 | .ret e::_=>EV C ρ e T fun v T=>Q (some v,ρ) T
 | .pass::r=>SV C ρ r T Q
 | .ite c x y::r=>EV C ρ c T fun v T=>BoolM v fun d=>(d=true→SV C ρ (x++r) T Q)∧(d=false→SV C ρ (y++r) T Q)
 | l=>HandS C ρ l T Q
theorem SV.go {C:CallFn} {ρ:Rho} {l:List S} {T:TH} {Q:Option V×Rho→TH→Prop} (h:SVn C ρ l T Q):SV C ρ l T Q:=by
 unfold SVn at h
 split at h
 ·exact .nil h
 ·refine .assign_loc (EV.mono h fun v T h=>?_)
  obtain⟨ρ',e,h⟩:=h.y
  obtain⟨h1,rfl⟩:=setR_eq e
  exact⟨h1,h⟩
 ·exact .assign_locs (EV.mono h fun v T h=>h.y.mono fun vs h=>h.y)
 ·exact .assign_attr (EV.mono h fun v T h=>h.mono fun x T h=>h.y)
 ·exact .assign_wk (EV.mono h fun v T h=>h.mono fun x T h=>h.y)
 ·exact .assign_idx (EV.mono h fun v T h=>h.mono fun x T h=>h.y)
 ·obtain⟨x,e,h⟩:=h.y
  refine .aug_loc e (EV.mono h fun y T h=>h.y.mono fun x h=>h.y.mono fun y h=>?_)
  obtain⟨v,e,h⟩:=h.y
  obtain⟨ρ',e',h⟩:=h.y
  obtain⟨h1,rfl⟩:=setR_eq e'
  exact⟨v,e,h⟩
 ·exact .aug_attr (EV.mono h fun x T h=>h.y.mono fun o h=>h.mono fun fs h=>(by
   obtain⟨v,e,h⟩:=h.y
   exact⟨v,e,h.mono fun y T h=>h.y.mono fun x h=>h.y.mono fun y h=>h.y⟩))
 ·exact .expr h
 ·exact .ret h
 ·exact .pass h
 ·exact .ite (EV.mono h fun v T h=>h.y)
 ·exact HandS.ex h
structure FV (C:CallFn) (t:List Nat) (b r:List S) (o m j:Nat) (ρ:Rho) (T:TH) (Q:Option V×Rho→TH→Prop):Prop where
 intro ::
 y:Y (liveItems (fun v ρ H=>asSome (setTarget ρ t v) fun ρ=>execs gtab C ρ b H) o m j ρ (hpOf T)) (TurnQ (fun ρ T=>SV C ρ r T Q) Q)
section
variable {C:CallFn} {ρ:Rho} {T:TH} {Q:Option V×Rho→TH→Prop} {r:List S} {e:E} {b:List S} {t:List Nat} {o m j:Nat} {k:K} {l:List V} {x:V}
theorem SV.forU (h:EV C ρ e T fun x T=>ObjY x fun o=>ListY T o fun _ l=>FV C t b r o l.length 0 ρ T Q):SV C ρ (.forI t e b::r) T Q:=by
 obtain⟨x,T1,e1,o,rfl,k,l,e2,h⟩:=h.y
 refine .join (J:=fun ρ T=>SV C ρ r T Q) ?_ fun ρ T h=>h
 simp only [execS,e1,bnd,items,as_list e2]
 exact h.y
theorem FV.step (e2:T[o]?=some (k,.list l)) (hx:l[j]?=some x) (h:GetY (setTarget ρ t x) fun ρ=>SV C ρ b T (TurnQ (fun ρ T=>FV C t b r o m (j+1) ρ T Q) Q)):FV C t b r o (m+1) j ρ T Q:=by
 obtain⟨ρ1,e3,h⟩:=h
 refine⟨?_⟩
 simp only [liveItems,as_list e2,hx,asSome,e3]
 refine .turn (J:=fun ρ T=>FV C t b r o m (j+1) ρ T Q) (h.y.mono ?_) fun ρ T h=>h.y
 rintro⟨o',ρ2⟩ T2 h
 cases o'<;>exact h
theorem FV.done (e2:T[o]?=some (k,.list l)) (hl:l.length=j) (h:SV C ρ r T Q):FV C t b r o 0 j ρ T Q:=by
 refine⟨?_⟩
 simp only [liveItems,as_list e2,hl,beq_self_eq_true,guardB]
 exact .pure h
structure RV (C:CallFn) (t:Nat) (b r:List S) (m j:Nat) (ρ:Rho) (T:TH) (Q:Option V×Rho→TH→Prop):Prop where
 intro ::
 y:Y (rangeItems (fun v ρ H=>asSome (setTarget ρ [t] v) fun ρ=>execs gtab C ρ b H) m j ρ (hpOf T)) (TurnQ (fun ρ T=>SV C ρ r T Q) Q)
theorem SV.forRU {t:Nat} (h:EV C ρ e T fun x T=>IntY x fun n=>(0≤n∧n≤limit)∧RV C t b r n.toNat 0 ρ T Q):SV C ρ (.forR t e b::r) T Q:=by
 obtain⟨x,T1,e1,n,rfl,hn,h⟩:=h.y
 refine .join (J:=fun ρ T=>SV C ρ r T Q) ?_ fun ρ T h=>h
 simp only [execS,e1,bnd,asInt,hn,and_self,decide_true,guardB]
 exact h.y
theorem RV.step {t:Nat} (h:GetY (setR ρ t (.int j)) fun ρ=>SV C ρ b T (TurnQ (fun ρ T=>RV C t b r m (j+1) ρ T Q) Q)):RV C t b r (m+1) j ρ T Q:=by
 obtain⟨ρ1,e3,h⟩:=h
 obtain⟨h1,rfl⟩:=setR_eq e3
 refine⟨?_⟩
 simp only [rangeItems,setTarget,h1,decide_true,guardB,asSome]
 refine .turn (J:=fun ρ T=>RV C t b r m (j+1) ρ T Q) (h.y.mono ?_) fun ρ T h=>h.y
 rintro⟨o',ρ2⟩ T2 h
 cases o'<;>exact h
theorem RV.done {t:Nat} (h:SV C ρ r T Q):RV C t b r 0 j ρ T Q:=by
 refine⟨?_⟩
 simp only [rangeItems]
 exact .pure h
end
abbrev twoX (a b:Nat):Nat→K→Prop:=fun i _=>i=a∨i=b
theorem off_two {T':TH} {i j j':Nat} {k k_1 k_2:K} {o1 o2:O} (h_1:T'[j]?=some (k_1,o1)) (h_2:T'[j']?=some (k_2,o2)) (n_1:k≠k_1) (n_2:k≠k_2):Off (twoX j j') T' i k:=fun ⟨_,e⟩ q=>by
 rcases q with q|q
 ·rw [q,h_1] at e;cases e;exact n_1 rfl
 ·rw [q,h_2] at e;cases e;exact n_2 rfl
section
variable {C:CallFn} {ρ:Rho} {T:TH}
theorem acc_many {F:Turn Unit} {f:V→List V} {o i:Nat} {k kk:K} {l:List V} (ho:T[o]?=some (k,.list l))
  (hs:∀ x T' acc,x∈l→Chg noX T T'→T'[i]?=some (kk,.list acc)→acc.length+(f x).length≤limit→∃ T'',F x () (hpOf T')=some ((none,()),hpOf T'')∧Chg noX T T''∧T''[i]?=some (kk,.list (acc++f x))) :
  ∀ (m j:Nat) (T1:TH) (acc:List V),m+j=l.length→Chg noX T T1→T1[i]?=some (kk,.list acc)→acc.length+((l.drop j).flatMap f).length≤limit →
   ∃ T2,liveItems F o m j () (hpOf T1)=some ((none,()),hpOf T2)∧Chg noX T T2∧T2[i]?=some (kk,.list (acc++(l.drop j).flatMap f))
 | 0,j,T1,acc,hm,hc,ha,he=>by
  have hj:j=l.length:=by omega
  subst hj
  simp only [liveItems,as_list (hc.keep ho),beq_self_eq_true,guardB]
  rw [List.drop_length]
  exact⟨T1,rfl,hc,by simpa using ha⟩
 | m+1,j,T1,acc,hm,hc,ha,he=>by
  have hj:j<l.length:=by omega
  obtain⟨x,hx⟩:∃ x,l[j]?=some x:=⟨_,gE hj⟩
  have hd:l.drop j=x::l.drop (j+1):=by
   rw [List.drop_eq_getElem_cons hj,gE hj] at *
   cases hx;rfl
  rw [hd,fC,lA] at he
  simp only [liveItems,as_list (hc.keep ho),hx,asSome]
  obtain⟨T',e,hc',ha'⟩:=hs x T1 acc (mG hx) hc ha (by omega)
  rw [e]
  obtain⟨T2,e2,h2,h3⟩:=acc_many ho hs m (j+1) T' (acc++f x) (by omega) hc' ha' (by rw [lA];omega)
  refine⟨T2,e2,h2,?_⟩
  rw [h3,hd,fC,aA]
theorem flat_one {g:V→V} {l:List V}:(l.flatMap fun y=>[g y])=l.map g:=by
 induction l with
 | nil=>rfl
 | cons a l ih=>rw [fC,ih];rfl
theorem EV.comp2 {elt it it_2:E} {Q:V→TH→Prop} (kk:K) (f:V→List V) (h:EV C ρ it T fun x T=>ObjY x fun o=>ListY T o fun _ l=>(l.flatMap f).length≤limit ∧
   (∀ x T',x∈l→Chg noX T T'→∃ o2 k_2 l_2 g,T[o2]?=some (k_2,.list l_2)∧f x=l_2.map g∧Pure C [some x,none] it_2 T' (.obj o2)∧∀ y T'',y∈l_2→Chg noX T T''→Pure C [some x,some y] elt T'' (g y))∧NewY T kk (.list (l.flatMap f)) fun i T=>Q (.obj i) T):EV C ρ (.comp2 elt [] 1 it 1 it_2) T Q:=by
 obtain⟨x,T1,e,o,rfl,k,l,ho,hb,hs,h⟩:=h.y
 refine .intro ?_
 rw [evalE,e]
 show Y (asList _ _ _) Q
 rw [as_list ho,hp_length,hp_app (k:=kk)]
 obtain⟨T2,e2,hc,hg⟩:=acc_many (T:=T1) (i:=T1.length) (F:=fun v (_:Unit) H' =>
    asSome (setTarget (([]:List Nat).map (fun i=>(ρ[i]?).join)++List.replicate (1+1) none) ((List.range 1).map (([]:List Nat).length+·)) v) fun ρ' =>
     bnd (evalE gtab C ρ' it_2 H') fun y H'=>asObj y fun o2=>asList H' o2 fun l_2=>liveItems (fun v (_:Unit) H' =>
      asSome (setTarget ρ' ((List.range 1).map (([]:List Nat).length+1+·)) v) fun ρ'' =>
       bnd (evalE gtab C ρ'' elt H') fun y H'=>asSome (pushL H' T1.length y) fun H'=>some ((none,()),H')) o2 l_2.length 0 () H') (f:=f) (kk:=kk) ho (fun x T' acc hx hc ha hacc=>by
  obtain⟨o2,k_2,l_2,g,ho2,hf,hp,hq⟩:=hs x T' hx hc
  have hset:setTarget (([]:List Nat).map (fun i=>(ρ[i]?).join)++List.replicate (1+1) none) ((List.range 1).map (([]:List Nat).length+·)) x=some [some x,none]:=rfl
  rw [hset]
  show ∃ T'',bnd (evalE gtab C [some x,none] it_2 (hpOf T')) _=_∧_
  rw [show evalE gtab C _ it_2 (hpOf T')=_ from hp]
  show ∃ T'',asList (hpOf T') o2 _=_∧_
  rw [as_list (hc.keep ho2)]
  obtain⟨T3,e3,hc3,hg3⟩:=acc_many (T:=T1) (i:=T1.length) (kk:=kk) (f:=fun y=>[g y]) (F:=fun v (_:Unit) H' =>
      asSome (setTarget [some x,none] ((List.range 1).map (([]:List Nat).length+1+·)) v) fun ρ'' =>
       bnd (evalE gtab C ρ'' elt H') fun y H'=>asSome (pushL H' T1.length y) fun H'=>some ((none,()),H')) ho2 (fun y T'' acc hy hc' ha' hacc=>by
   have hset:setTarget [some x,none] ((List.range 1).map (([]:List Nat).length+1+·)) y=some [some x,some y]:=rfl
   rw [hset]
   show ∃ T''',bnd (evalE gtab C [some x,some y] elt (hpOf T'')) _=_∧_
   rw [show evalE gtab C _ elt (hpOf T'')=_ from hq y T'' hy hc']
   have hacc:acc.length<limit:=by simp at hacc;omega
   refine⟨T''.set T1.length (kk,.list (acc++[g y])),?_,?_,set_get ha'⟩
   ·show asSome (pushL (hpOf T'') T1.length (g y)) _=_
    simp only [pushL,as_list ha',hacc,decide_true,guardB,asSome,hp_set (k:=kk)]
   ·refine hc'.trans (Chg.set ha') (fun _ _ _ _ q=>q) fun b k' o' hb q=>?_
    have q:b=T1.length:=q
    rw [q] at hb;simp at hb) l_2.length 0 T' acc rfl hc ha (by
     rw [List.drop_zero];rw [hf] at hacc
     rw [flat_one];exact hacc)
  refine⟨T3,e3,hc3,?_⟩
  rw [hg3,List.drop_zero,hf]
  rw [flat_one]) l.length 0 (T1++[(kk,.list [])]) [] rfl .app app_get (by rw [List.drop_zero];simpa using hb)
 show Y (bnd (liveItems _ o l.length 0 () (hpOf (T1++[(kk,.list [])]))) _) Q
 erw [e2]
 rw [List.drop_zero,nA] at hg
 exact .pure (h.ex _ _ get_none hg hc)
end
end Mine
namespace Mine
open PySem
open _root_.List renaming length_map → lM, append_nil → aN, append_assoc → aA, map_append → mP, mem_of_getElem? → mG, length_append → lA, getElem?_eq_some_iff → gS, getElem?_map → gM, mem_append → mA, mem_map → mM, map_cons → mC, cons_append → cA, mem_singleton → mS, mem_cons → mK, nil_append → nA, getElem?_eq_getElem → gE, mem_append_left → mL, length_cons → lC, mem_map_of_mem → mO, not_mem_nil → nM, getElem?_of_mem → gO, zip_cons_cons → zC, lookup_cons → kC, take_add_one → tO, mem_append_right → mR, take_length → tL, nodup_append → nD, map_map → mQ, filter_append → fA, length_nil → lN, take_sublist → tS, getElem?_append_left → gL, getElem?_append_right → gR, nodup_cons → nC, length_take → lT, length_singleton → lS, flatMap_cons → fC, map_congr_left → mJ, perm_append_singleton → pS, getElem?_cons_zero → gZ
variable {n:Nat} {T:TH} {Q:V→TH→Prop}
local macro_rules | `(tactic| k_caughtN0) => `(tactic| first
 | exact off_no|exact off_one (by assumption) (by first|decide|assumption|exact Ne.symm (by assumption))|exact off_ne (by first|assumption|exact Ne.symm (by assumption))|exact off_not (by intro h;simp at h;done)|exact off_not (by assumption))
local macro_rules | `(tactic| k_caughtNB) => `(tactic| first
 | assumption
 | exact Chg.look (by assumption) (by k_caughtNB) (by k_caughtN0))
local macro_rules | `(tactic| o_fieldsN) => `(tactic| first
 | (apply EV.go;conv=>whnf)
 | (apply SV.go;conv=>whnf)
 | (apply EVs.go;conv=>whnf)
 | (apply InstY.mk;(focus k_caughtNB);conv=>whnf)
 | (apply BinY.mk;(focus rfl);(try simp only [Int.reduceSub,Int.reduceAdd,Int.reduceMul,Int.reduceNeg]);conv=>whnf)
 | (apply CmpY.mk;(focus rfl);conv=>whnf)
 | (with_reducible apply IdxY.tup0;conv=>whnf)|(with_reducible apply IdxY.tup1;conv=>whnf)|(with_reducible apply IdxY.tup2;conv=>whnf)|(with_reducible apply IdxY.list0;(focus k_caughtNB);conv=>whnf)|(with_reducible apply IdxY.list1;(focus k_caughtNB);conv=>whnf)
 | (apply WdY.mk;(focus k_caughtNB);conv=>whnf)
 | (apply ListY.mk;(focus k_caughtNB);conv=>whnf)
 | (apply DiY.mk;(focus k_caughtNB);conv=>whnf)
 | (apply LenY.tup;(focus exact Nat.le_of_ble_eq_true rfl);(try simp only [lC,lN,Nat.zero_add,Nat.reduceAdd,Int.cast_ofNat_Int,Int.ofNat_zero,Int.ofNat_one]);conv=>whnf)
 | (apply LenY.list;(focus k_caughtNB);(focus exact Nat.le_of_ble_eq_true rfl);(try simp only [lC,lN,Nat.zero_add,Nat.reduceAdd,Int.cast_ofNat_Int,Int.ofNat_zero,Int.ofNat_one]);conv=>whnf)
 | (apply AttrPut.mk;(focus k_caughtNB);(focus exact Nat.le_of_ble_eq_true rfl))|(apply WdPut.mk;(focus k_caughtNB);(focus exact Nat.le_of_ble_eq_true rfl))
 | (apply PutY.intro;intro T' hT' hC';(try simp only [putAt,lC,lN,Nat.zero_add,Nat.reduceAdd,Nat.reduceSub,Nat.add_one_sub_one,List.eraseIdx_zero,List.eraseIdx_cons_zero,List.eraseIdx_cons_succ,List.tail_cons,cA,nA,Nat.sub_self] at hT');(try (have hC'':=Chg.tr (by assumption) hC';clear hC';have hC':=hC'';clear hC''));conv=>whnf)
 | (apply NewY.intro;intro i T' hn' hT' hC';conv=>whnf)
 | (apply AugY.add;(try simp only [Int.reduceSub,Int.reduceAdd,Int.reduceNeg]);conv=>whnf)|(apply AugY.sub;(try simp only [Int.reduceSub,Int.reduceAdd,Int.reduceNeg]);conv=>whnf)
 | (apply BoolY.mk;conv=>whnf)|(apply ObjY.mk;conv=>whnf)|(apply IntY.mk;conv=>whnf)|(apply TupY.mk;conv=>whnf)
 | (refine And.intro (by exact Nat.le_of_ble_eq_true rfl) ?_;conv=>whnf)
 | (apply GetY.mk;(focus rfl);conv=>whnf))
local macro_rules | `(tactic| k_caughtB) => `(tactic| first
 | exact Chg.refl _ _
 | assumption
 | exact Chg.back (by assumption) (by k_caughtB) (by first|exact side_any|exact side_no|exact side_same|exact side_fresh (by assumption)|exact side_fresh (none_back (by assumption) (by k_caughtB))|exact side_kind (by assumption)|exact side_ks (by decide)|assumption))
local macro_rules | `(tactic| k_caught0) => `(tactic| (first
 | refine⟨fun _=>?_,fun hb=>absurd hb (by decide)⟩
 | refine⟨fun hb=>absurd hb (by decide),fun _=>?_⟩
 | refine⟨fun _=>?_,fun hb=>False.elim (by first|(simp at hb;done)|(simp at hb;omega))⟩
 | refine⟨fun hb=>False.elim (by first|(simp at hb;done)|(simp at hb;omega)),fun _=>?_⟩);(try dsimp only [cA,nA]))
local macro_rules | `(tactic| k_ownIn) => `(tactic| repeat first | o_fieldsN | k_caught0)
local macro_rules | `(tactic| k_updF) => `(tactic| repeat first | o_fieldsN | k_caught0 | refine HandS.intro (SV.whileU ?_) | refine WV.step (by decide) ?_)
theorem down {n k:Nat} (h:k+1≤n):∃ m,n=m+1∧k≤m:=⟨n-1,by omega,by omega⟩
theorem sp_words_for {c:Nat} (hn:1≤n) (h:Q (.int (if 2+c<3 then 3 else 2+c:Nat)) T):Y (CN n 0 [.int c] (hpOf T)) Q:=by
 obtain⟨n,rfl,_⟩:=down hn
 refine call_fn (fd:=fd_words_for) (by rfl) (by rfl) ?_
 show SV _ [some (.int c)] _ _ _
 unfold fd_words_for
 repeat o_fieldsN
 refine⟨fun hb=>?_,fun hb=>?_⟩<;>(dsimp only [cA,nA];repeat o_fieldsN)
 ·have:2+c<3:=by simp at hb;omega
  rw [if_pos this] at h;exact h
 ·have:¬ 2+c<3:=by simp at hb;omega
  rw [if_neg this] at h;exact h
theorem sp_Thing {t a sl:Nat} {kd:Int} {l:List V} {kk:K} (hn:2≤n) (ht:T[t]?=some (.th,.inst 0 [])) (hs:T[sl]?=some (kk,.list l)) (hl:0<l.length∧l.length≤limit) (hk:kk≠.th)
  (h:∀ T',T'[t]?=some (.th,.inst 0 [.int a,.int kd,.obj sl,.int 0,.int (2+l.length:Nat),.int 0])→Chg (oneX t) T T'→Q .none T'):Y (CN n 1 [.obj t,.int a,.int kd,.obj sl] (hpOf T)) Q:=by
 obtain⟨n,rfl,_⟩:=down hn
 refine call_fn (fd:=fd_Thing_init) (by rfl) (by rfl) ?_
 show SV _ [some (.obj t),some (.int a),some (.int kd),some (.obj sl)] _ _ _
 unfold fd_Thing_init
 repeat o_fieldsN
 refine LenY.list (by k_caughtNB) (by omega) ?_
 repeat o_fieldsN
 refine sp_words_for (by omega) ?_
 rw [if_neg (by omega)]
 repeat o_fieldsN
 exact h _ (by k_caughtNB) (by k_caughtB)
structure Spec where
 form:Nat
 one:Nat
 n:Nat
 deriving DecidableEq
def Spec.v (s:Spec):V:=.tup [.int s.form,.int s.one,.int s.n]
structure Th where
 ser:Nat
 kind:Int
 specs:List Spec
 age:Nat
 addr:Nat
 tid:Nat
 sid:Nat
 pid:Nat
 deriving DecidableEq
def Th.size (t:Th):Nat:=2+t.specs.length
structure Hid where
 hp:Nat
 tl:Nat
 at_:Nat
 cd:Nat
 fin:Nat
 rdy:Nat
structure Hn where
 limit:Int
 fresh:Int
 young:Int
 moved:Int
 made:Nat
def endOf (ts:List Th):Nat:=16+(ts.map Th.size).sum
def Th.obj (t:Th):O:=.inst 0 [.int t.addr,.int t.kind,.obj t.sid,.int t.age,.int t.size,.int t.ser]
def hpObj (h:Hid) (f:Hn) (top:Nat):O:=.inst 1 [.obj h.tl,.obj h.at_,.int top,.int f.limit,.obj h.cd,.int 3,.int f.fresh,.int f.young,.obj h.fin,.obj h.rdy,.int f.moved,.int f.made]
def atOf (ts:List Th):List (Int×V):=ts.map fun t=>((t.addr:Int),.obj t.tid)
structure HB (h:Hid) (ts:List Th) (f:Hn) (T:TH):Prop where
 hp:T[h.hp]?=some (.hp,hpObj h f (endOf ts))
 tl:T[h.tl]?=some (.tl,.list (ts.map fun t=>.obj t.tid))
 at_:T[h.at_]?=some (.at_,.di (atOf ts))
 cd:T[h.cd]?=some (.cd,.di [])
 fin:T[h.fin]?=some (.fin,.list [])
 rdy:T[h.rdy]?=some (.real,.list [])
 th:∀ t∈ts,T[t.tid]?=some (.th,t.obj)
def Apart (ts:List Th):Prop:=ts.Pairwise fun a b=>a.addr+a.size≤b.addr
theorem Th.size_pos (t:Th):0<t.size:=by unfold Th.size;omega
theorem dget_at {ts:List Th} (ha:Apart ts) {t:Th} (ht:t∈ts):dget (atOf ts) (t.addr:Int)=some (.obj t.tid):=by
 induction ts with
 | nil=>cases ht
 | cons a r ih =>
  unfold Apart at ha
  rw [List.pairwise_cons] at ha
  show dget (((a.addr:Int),V.obj a.tid)::atOf r) _=_
  unfold dget
  rcases mK.mp ht with rfl|ht
  ·simp
  ·have:=ha.1 t ht
   have:=a.size_pos
   rw [if_neg (by simp;omega)]
   exact ih ha.2 ht
theorem dget_off {ts:List Th} {x:Int} (h:∀ t∈ts,(t.addr:Int)≠x):dget (atOf ts) x=none:=by
 induction ts with
 | nil=>rfl
 | cons a r ih =>
  show dget (((a.addr:Int),V.obj a.tid)::atOf r) _=_
  unfold dget
  rw [if_neg (by simpa using h a (.head _))]
  exact ih fun t ht=>h t (.tail _ ht)
theorem apart_lt {ts:List Th} (ha:Apart ts) {i j:Nat} {a b:Th} (hi:ts[i]?=some a) (hj:ts[j]?=some b) (h:i<j):a.addr+a.size≤b.addr:=by
 obtain⟨p,rfl⟩:=gS.mp hi
 obtain⟨q,rfl⟩:=gS.mp hj
 exact List.pairwise_iff_getElem.mp ha i j p q h
theorem off_inside {ts:List Th} (ha:Apart ts) {t:Th} (ht:t∈ts) {d:Nat} (hd:d<t.size) (h0:0<d):∀ u∈ts,(u.addr:Int)≠((t.addr+d:Nat):Int):=by
 intro u hu e
 obtain⟨i,hi⟩:=gO ht
 obtain⟨j,hj⟩:=gO hu
 have e:u.addr=t.addr+d:=by exact_mod_cast e
 rcases Nat.lt_trichotomy i j with h|h|h
 ·have:=apart_lt ha hi hj h;omega
 ·subst h;rw [hi] at hj;cases hj;omega
 ·have:=apart_lt ha hj hi h;have:=u.size_pos;omega
theorem half {a b:Nat}:Int.fdiv ((a:Int)+(b:Int)) 2=(((a+b)/2:Nat):Int):=by
 rw [Int.fdiv_eq_ediv_of_nonneg _ (by decide)]
 omega
theorem sp_find {h:Hid} {ts:List Th} {f:Hn} {t:Th} {d:Nat} {word:Int} (hn:1≤n) (hb:HB h ts f T) (ha:Apart ts) (ht:t∈ts) (hd:d<t.size) (hw:word=((t.addr+d:Nat):Int)) (hlim:ts.length≤50000)
  (k:Q (.obj t.tid) T):Y (CN n 6 [.obj h.hp,.int word] (hpOf T)) Q:=by
 obtain⟨n,rfl,_⟩:=down hn
 obtain⟨b1,b2,b3,b4,b5,b6,b7⟩:=hb
 refine call_fn (fd:=fd_find_thing) (by rfl) (by rfl) ?_
 show SV _ [some (.obj h.hp),some (.int word),none,none,none,none,none] _ _ _
 unfold fd_find_thing
 unfold hpObj at b1
 repeat o_fieldsN
 by_cases hd0:d=0
 ·subst hd0
  have hw:word=(t.addr:Int):=by rw [hw];rfl
  rw [hw,dget_at ha ht]
  repeat o_fieldsN
  refine⟨fun _=>?_,fun hb=>(nomatch hb)⟩
  dsimp only [cA,nA]
  repeat o_fieldsN
  exact k
 ·rw [dget_off (by rw [hw];exact off_inside ha ht hd (by omega))]
  repeat o_fieldsN
  refine⟨fun hb=>(nomatch hb),fun _=>?_⟩
  dsimp only [cA,nA]
  repeat o_fieldsN
  refine LenY.list (by k_caughtNB) (by simp;unfold limit;omega) ?_
  repeat o_fieldsN
  obtain⟨j,hj⟩:=gO ht
  have hjl:j<ts.length:=(gS.mp hj).1
  refine HandS.intro ?_
  refine SV.while (fun m ρ T'=>T'=T∧∃ (lo hi:Nat) (x:Option V),m=hi-lo∧lo≤hi∧hi≤ts.length∧(∀ i u,i<lo→ts[i]?=some u→(u.addr:Int)≤word)∧(∀ i u,hi≤i→ts[i]?=some u→word<(u.addr:Int)) ∧
   ρ=[some (.obj h.hp),some (.int word),some .none,some (.int lo),some (.int hi),x,none]) ts.length (by unfold limit;omega) ⟨rfl,0,ts.length,none,rfl,Nat.zero_le _,Nat.le_refl _,fun i u h=>absurd h (Nat.not_lt_zero _),fun i u h h'=>(by rw [List.getElem?_eq_none h] at h';cases h'),(by simp)⟩ ?_
  rintro m ρ T' ⟨rfl,lo,hi,x,rfl,h1,h2,h3,h4,rfl⟩
  repeat o_fieldsN
  refine⟨fun hb=>?_,fun hb=>?_⟩
  ·have hlt:lo<hi:=by simp at hb;omega
   obtain⟨u,hu⟩:∃ u,ts[(lo+hi)/2]?=some u:=⟨_,gE (by omega)⟩
   have hum:u∈ts:=mG hu
   have hth:=b7 u hum
   unfold Th.obj at hth
   repeat o_fieldsN
   rw [half]
   repeat o_fieldsN
   refine IdxY.list (by k_caughtNB) (at_nat (v:=.obj u.tid) (by rw [gM,hu];rfl) (by omega)) ?_
   repeat o_fieldsN
   refine⟨fun hb'=>?_,fun hb'=>?_⟩
   ·dsimp only [cA,nA]
    repeat o_fieldsN
    have hle:(u.addr:Int)≤word:=by simpa using hb'
    refine⟨hi-((lo+hi)/2+1),by omega,rfl,(lo+hi)/2+1,hi,_,rfl,by omega,h2,fun i v hi' hv=>?_,h4,rfl⟩
    rcases Nat.lt_or_eq_of_le (Nat.lt_succ_iff.mp hi') with q|q
    ·have:=apart_lt ha hv hu q;omega
    ·subst q;rw [hu] at hv;cases hv;exact hle
   ·dsimp only [cA,nA]
    repeat o_fieldsN
    have hgt:word<(u.addr:Int):=by simp at hb';omega
    refine⟨(lo+hi)/2-lo,by omega,rfl,lo,(lo+hi)/2,_,rfl,by omega,by omega,h3,fun i v hi' hv=>?_,rfl⟩
    rcases Nat.lt_or_eq_of_le hi' with q|q
    ·have:=apart_lt ha hu hv q;omega
    ·subst q;rw [hu] at hv;cases hv;exact hgt
  ·have hge:lo=hi:=by simp at hb;omega
   subst hge
   have hjlo:j<lo:=Nat.lt_of_not_le fun q=>by have:=h4 j t q hj;omega
   have hlo:lo=j+1:=by
    refine Nat.le_antisymm (Nat.le_of_not_lt fun q=>?_) hjlo
    obtain⟨u,hu⟩:∃ u,ts[j+1]?=some u:=⟨_,gE (by omega)⟩
    have:=h3 (j+1) u q hu
    have:=apart_lt ha hj hu (by omega)
    omega
   subst hlo
   repeat o_fieldsN
   refine⟨fun hb=>by simp at hb;omega,fun _=>?_⟩
   dsimp only [cA,nA]
   have hth:=b7 t ht
   unfold Th.obj at hth
   repeat o_fieldsN
   rw [show (((j+1:Nat):Int)-1)=(j:Int) by omega]
   refine IdxY.list (by k_caughtNB) (at_nat (v:=.obj t.tid) (by rw [gM,hj];rfl) (by omega)) ?_
   repeat o_fieldsN
   refine⟨fun _=>?_,fun hb=>by simp at hb;omega⟩
   dsimp only [cA,nA]
   repeat o_fieldsN
   exact k
def Packed:Nat→List Th→Prop
 | _,[]=>True
 | a,t::r=>t.addr=a∧Packed (a+t.size) r
theorem Packed.mem:∀ {ts:List Th} {a:Nat},Packed a ts→∀ t∈ts,a≤t.addr∧t.addr+t.size≤a+(ts.map Th.size).sum
 | [],_,_,_,h=>nomatch h
 | u::r,a,p,t,h=>by
  rw [mC,List.sum_cons]
  rcases mK.mp h with rfl|h
  ·have:=p.1;omega
  ·have:=p.2.mem t h;omega
theorem Packed.apart:∀ {ts:List Th} {a:Nat},Packed a ts→Apart ts
 | [],_,_=>List.Pairwise.nil
 | u::r,a,p=>List.pairwise_cons.mpr ⟨fun t h=>by have:=p.2.mem t h;have:=p.1;omega,p.2.apart⟩
theorem Packed.snoc:∀ {ts:List Th} {a:Nat} {t:Th},Packed a ts→t.addr=a+(ts.map Th.size).sum→Packed a (ts++[t])
 | [],_,_,_,e=>⟨by simpa using e,trivial⟩
 | u::r,a,t,p,e=>⟨p.1,p.2.snoc (by rw [e,mC,List.sum_cons];omega)⟩
theorem Packed.lt_end {ts:List Th} (p:Packed 16 ts):∀ t∈ts,t.addr<endOf ts:=fun t h=>by
 have:=p.mem t h;have:=t.size_pos;unfold endOf;omega
theorem dput_new {α:Type} [DecidableEq α]:∀ {l:List (α×V)} {k:α} {v:V},(∀ p∈l,p.1≠k)→dput l k v=l++[(k,v)]
 | [],_,_,_=>rfl
 | p::r,k,v,h=>by
  unfold dput
  rw [if_neg (h p (.head _)),dput_new fun q hq=>h q (.tail _ hq)]
  rfl
theorem endOf_snoc {ts:List Th} {t:Th}:endOf (ts++[t])=endOf ts+t.size:=by
 unfold endOf;rw [mP,List.sum_append];simp;omega
theorem sp_alloc {h:Hid} {ts:List Th} {f:Hn} {kd:Int} {sl pid:Nat} {l:List V} {specs:List Spec} (hn:3≤n) (hb:HB h ts f T) (hp:Packed 16 ts) (hlim:ts.length≤50000)
  (hs:T[sl]?=some (.slots,.list l)) (hl:0<l.length∧l.length≤limit) (he:specs.length=l.length)
  (k:∀ t T',T[t]?=none→HB h (ts++[⟨f.made+1,kd,specs,0,endOf ts,t,sl,pid⟩]) {f with fresh:=f.fresh+(2+l.length:Nat),made:=f.made+1} T'→Chg (ksX [.hp,.tl,.at_]) T T'→Q (.obj t) T'):Y (CN n 3 [.obj h.hp,.int kd,.obj sl] (hpOf T)) Q:=by
 obtain⟨n,rfl,_⟩:=down hn
 obtain⟨b1,b2,b3,b4,b5,b6,b7⟩:=hb
 refine call_fn (fd:=fd_heap_alloc) (by rfl) (by rfl) ?_
 show SV _ [some (.obj h.hp),some (.int kd),some (.obj sl),none] _ _ _
 unfold fd_heap_alloc
 unfold hpObj at b1
 repeat o_fieldsN
 refine AnyK.mk .th ?_
 repeat o_fieldsN
 refine sp_Thing (l:=l) (kk:=.slots) (by omega) (by k_caughtNB) (by k_caughtNB) hl (by decide) fun T1 h_1 c_1=>⟨rfl,?_⟩
 repeat o_fieldsN
 refine⟨by simp;unfold limit;omega,?_⟩
 repeat o_fieldsN
 refine IdxPut.di (by k_caughtNB) (by simp [atOf];unfold limit;omega) ?_
 rw [dput_new fun p hp'=>by
  obtain⟨u,hu,rfl⟩:=mM.mp hp'
  have:=hp.lt_end u hu
  simp;omega]
 repeat o_fieldsN
 refine k _ _ (by assumption) ?_ ?_
 ·refine⟨?_,?_,?_,?_,?_,?_,fun u hu=>?_⟩
  ·rw [endOf_snoc]
   refine Eq.trans (by k_caughtNB) ?_
   simp [hpObj,Th.size,he]
  ·refine Eq.trans (by k_caughtNB) ?_
   simp
  ·refine Eq.trans (by k_caughtNB) ?_
   simp [atOf]
  ·k_caughtNB
  ·k_caughtNB
  ·k_caughtNB
  ·rcases mA.mp hu with hu|hu
   ·have h1:=b7 u hu
    have hne:=ne_none h1 (by assumption)
    k_caughtNB
   ·rw [mS] at hu
    subst hu
    refine Eq.trans (by k_caughtNB) ?_
    simp [Th.obj,Th.size,he]
 ·k_caughtB
def words:Nat→Str
 | 0=>sO ""
 | 1=>sO "a"
 | _=>sO "ab"
def refV (a:Nat):V:=.tup [.int 4,.int a]
def pairV (n a:Nat):V:=.tup [.int 5,.int 18,.tup [.tup [.int 1,.int n],.tup [.int 4,.int a]]]
def outerV (n a:Nat):V:=.tup [.int 5,.int 19,.tup [pairV n a,.tup [.int 1,.int 16]]]
def placeV (n a:Nat):V:=.tup [.int 6,.tup [.int 3,.int ((a:Int)+2+n),.tup [.int n]]]
def Spec.valA (s:Spec) (a:Nat):V:=match s.form with
 | 0=>refV a
 | 1=>placeV s.n a
 | 2=>pairV s.n a
 | 3=>outerV s.n a
 | 4=>.tup [.int 1,.int (16+s.n)]
 | 5=>.tup [.int 6,.tup [.int 1,.int 1,.int s.n,.tup []]]
 | 6=>.tup [.int 7,.tup [.int 16,.int (1+s.n),.tup []]]
 | _=>.tup [.int 8,.str (words s.n)]
def oneL (a:Nat):List V:=if a=0 then [] else [.int a]
theorem sp_refs_ref {a:Nat} (hn:1≤n) (k:∀ i T',T[i]?=none→T'[i]?=some (.tmp 190,.list (oneL a))→Chg noX T T'→Q (.obj i) T'):Y (CN n 19 [refV a] (hpOf T)) Q:=by
 obtain⟨n,rfl,_⟩:=down hn
 refine call_fn (fd:=fd_refs_in) (by rfl) (by rfl) ?_
 show SV _ [some (.tup [.int 4,.int a]),none,none,none,none] _ _ _
 unfold fd_refs_in
 unfold oneL at k
 by_cases ha:a=0
 ·rw [if_pos ha] at k
  subst ha
  k_ownIn
  refine AnyK.mk (.tmp 190) ?_
  k_ownIn
  exact k _ _ (by assumption) (by assumption) (by assumption)
 ·rw [if_neg ha] at k
  k_ownIn
  refine AnyK.mk (.tmp 190) ?_
  k_ownIn
  exact k _ _ (by assumption) (by assumption) (by assumption)
theorem sp_refs_no {c:Int} {l:List V} (hn:1≤n) (hc:c≠4∧c≠5) (k:∀ i T',T[i]?=none→T'[i]?=some (.tmp 190,.list [])→Chg noX T T'→Q (.obj i) T'):Y (CN n 19 [.tup (.int c::l)] (hpOf T)) Q:=by
 obtain⟨n,rfl,_⟩:=down hn
 refine call_fn (fd:=fd_refs_in) (by rfl) (by rfl) ?_
 show SV _ [some (.tup (.int c::l)),none,none,none,none] _ _ _
 unfold fd_refs_in
 have:=hc.1
 have:=hc.2
 k_ownIn
 refine AnyK.mk (.tmp 190) ?_
 k_ownIn
 exact k _ _ (by assumption) (by assumption) (by assumption)
set_option maxHeartbeats 1000000 in
theorem sp_refs_pair {m a:Nat} (hn:1≤n) (k:∀ i T',T[i]?=none→T'[i]?=some (.tmp 190,.list (oneL a))→Chg noX T T'→Q (.obj i) T'):Y (CN n 19 [pairV m a] (hpOf T)) Q:=by
 obtain⟨n,rfl,_⟩:=down hn
 refine call_fn (fd:=fd_refs_in) (by rfl) (by rfl) ?_
 show SV _ [some (pairV m a),none,none,none,none] _ _ _
 unfold fd_refs_in pairV
 unfold oneL at k
 by_cases ha:a=0
 ·rw [if_pos ha] at k
  subst ha
  k_updF
  refine AnyK.mk (.tmp 190) ?_
  k_updF
  refine AnyK.mk (.tmp 191) ?_
  k_updF
  exact k _ _ (none_back (by assumption) (by k_caughtB)) (by k_caughtNB) (by k_caughtB)
 ·rw [if_neg ha] at k
  k_updF
  refine AnyK.mk (.tmp 190) ?_
  k_updF
  refine AnyK.mk (.tmp 191) ?_
  k_updF
  exact k _ _ (none_back (by assumption) (by k_caughtB)) (by k_caughtNB) (by k_caughtB)
set_option maxHeartbeats 1000000 in
theorem sp_refs_outer {m a:Nat} (hn:1≤n) (k:∀ i T',T[i]?=none→T'[i]?=some (.tmp 190,.list (oneL a))→Chg noX T T'→Q (.obj i) T'):Y (CN n 19 [outerV m a] (hpOf T)) Q:=by
 obtain⟨n,rfl,_⟩:=down hn
 refine call_fn (fd:=fd_refs_in) (by rfl) (by rfl) ?_
 show SV _ [some (outerV m a),none,none,none,none] _ _ _
 unfold fd_refs_in outerV pairV
 unfold oneL at k
 by_cases ha:a=0
 ·rw [if_pos ha] at k
  subst ha
  k_updF
  refine AnyK.mk (.tmp 190) ?_
  k_updF
  refine AnyK.mk (.tmp 191) ?_
  k_updF
  exact k _ _ (none_back (by assumption) (by k_caughtB)) (by k_caughtNB) (by k_caughtB)
 ·rw [if_neg ha] at k
  k_updF
  refine AnyK.mk (.tmp 190) ?_
  k_updF
  refine AnyK.mk (.tmp 191) ?_
  k_updF
  exact k _ _ (none_back (by assumption) (by k_caughtB)) (by k_caughtNB) (by k_caughtB)
theorem words_le (n:Nat):(words n).length≤1000:=by
 unfold words;split<;>decide
def Spec.wordsA (s:Spec) (a:Nat):List V:=match s.form with
 | 0=>[.int a]
 | 1=>[.int ((a:Int)+2+s.n)]
 | 2=>oneL a
 | 3=>oneL a
 | _=>[]
def Spec.refsA (s:Spec) (a:Nat):List V:=match s.form with
 | 0=>oneL a
 | 2=>oneL a
 | 3=>oneL a
 | _=>[]
theorem sp_refs {s:Spec} {a:Nat} (hn:1≤n) (k:∀ i T',T[i]?=none→T'[i]?=some (.tmp 190,.list (s.refsA a))→Chg noX T T'→Q (.obj i) T'):Y (CN n 19 [s.valA a] (hpOf T)) Q:=by
 obtain⟨form,one,m⟩:=s
 unfold Spec.refsA at k
 unfold Spec.valA
 rcases form with _|_|_|_|_|_|_|form
 ·exact sp_refs_ref hn k
 ·exact sp_refs_no hn (by decide) k
 ·exact sp_refs_pair hn k
 ·exact sp_refs_outer hn k
 ·exact sp_refs_no hn (by decide) k
 ·exact sp_refs_no hn (by decide) k
 ·exact sp_refs_no hn (by decide) k
 ·exact sp_refs_no hn (by decide) k
theorem sp_words {s:Spec} {a:Nat} (hn:2≤n) (k:∀ i kk T',T[i]?=none→T'[i]?=some (kk,.list (s.wordsA a))→Chg noX T T'→Q (.obj i) T'):Y (CN n 23 [s.valA a] (hpOf T)) Q:=by
 obtain⟨n,rfl,_⟩:=down hn
 refine call_fn (fd:=fd_words_of) (by rfl) (by rfl) ?_
 show SV _ [some (s.valA a),none] _ _ _
 unfold fd_words_of
 obtain⟨form,one,m⟩:=s
 unfold Spec.wordsA at k
 rcases form with _|_|_|_|_|_|_|form
 ·show SV _ [some (refV a),none] _ _ _
  unfold refV
  k_ownIn
  refine AnyK.mk (.tmp 230) ?_
  k_ownIn
  exact k _ _ _ (by assumption) (by assumption) (by assumption)
 ·show SV _ [some (placeV m a),none] _ _ _
  unfold placeV
  k_ownIn
  refine AnyK.mk (.tmp 230) ?_
  k_ownIn
  exact k _ _ _ (by assumption) (by assumption) (by assumption)
 ·show SV _ [some (pairV m a),none] _ _ _
  unfold pairV
  k_ownIn
  exact sp_refs_pair (by omega) fun i T' h1 h2 h3=>k i _ T' h1 h2 h3
 ·show SV _ [some (outerV m a),none] _ _ _
  unfold outerV
  k_ownIn
  exact sp_refs_outer (by omega) fun i T' h1 h2 h3=>k i _ T' h1 h2 h3
 ·show SV _ [some (.tup [.int 1,.int (16+m)]),none] _ _ _
  k_ownIn
  exact sp_refs_no (by omega) (by decide) fun i T' h1 h2 h3=>k i _ T' h1 h2 h3
 ·show SV _ [some (.tup [.int 6,.tup [.int 1,.int 1,.int m,.tup []]]),none] _ _ _
  k_ownIn
  refine AnyK.mk (.tmp 230) ?_
  k_ownIn
  exact k _ _ _ (by assumption) (by assumption) (by assumption)
 ·show SV _ [some (.tup [.int 7,.tup [.int 16,.int (1+m),.tup []]]),none] _ _ _
  k_ownIn
  exact sp_refs_no (by omega) (by decide) fun i T' h1 h2 h3=>k i _ T' h1 h2 h3
 ·show SV _ [some (.tup [.int 8,.str (words m)]),none] _ _ _
  k_ownIn
  exact sp_refs_no (by omega) (by decide) fun i T' h1 h2 h3=>k i _ T' h1 h2 h3
def Spec.val (wh:Nat→Nat) (s:Spec):V:=s.valA (if 0<s.one then wh s.one else 0)
def whOf (ts:List Th) (s:Nat):Nat:=((ts.find? fun t=>t.ser==s).map Th.addr).getD 0
structure WId where
 w:Nat
 scr:Nat
 m:Nat
 wt:Nat
 ag:Nat
 wh:Nat
 fl:Nat
 tx:Nat
 ce:Nat
structure WN where
 at_:Nat
 made:Nat
 top:Nat
 count:Nat
def kindsV:V:=.tup [.int 16,.int 17]
def WId.obj (i:WId) (f:WN):O:=.wd [.obj i.scr,.int f.at_,.obj i.m,.int f.made,.obj i.wt,.obj i.ag,.obj i.wh,.int f.top,.int f.count,.obj i.fl,.obj i.tx,.obj i.ce,kindsV,.int 18,.int 19]
def whL (ts:List Th):List (Int×V):=ts.map fun t=>((t.ser:Int),.int t.addr)
theorem IdxY.wh {o:Nat} {k:K} {ts:List Th} {s:Nat} {Q:V→Prop} (e:T[o]?=some (k,.di (whL ts))) (hs:∃ t∈ts,t.ser=s) (h:Q (.int (whOf ts s:Nat))):IdxY T (.obj o) (.int s) Q:=by
 refine .di e (v:=.int (whOf ts s:Nat)) ?_ h
 clear e h
 induction ts with
 | nil=>obtain⟨t,h,_⟩:=hs;cases h
 | cons a r ih =>
  show dget (((a.ser:Int),V.int (a.addr:Int))::whL r) _=_
  unfold dget whOf
  rw [List.find?_cons]
  by_cases q:a.ser=s
  ·subst q;simp
  ·have q':(a.ser==s)=false:=by simpa using q
   rw [if_neg (by simp;omega),q']
   refine ih ?_
   obtain⟨t,ht,e⟩:=hs
   rcases mK.mp ht with rfl|ht
   ·exact absurd e q
   ·exact⟨t,ht,e⟩
structure Spec.Ok (s:Spec) (ts:List Th):Prop where
 form:s.form≤7
 n:s.n≤2
 one:0<s.one→s.form<4∧∃ t∈ts,t.ser=s.one∧(s.form=1→s.n<t.specs.length)
 place:s.form=1→0<s.one
set_option maxHeartbeats 1000000 in
theorem sp_value {i:WId} {f:WN} {ts:List Th} {s:Spec} (hn:1≤n) (hw:T[i.w]?=some (.w,i.obj f)) (hwh:T[i.wh]?=some (.wh,.di (whL ts))) (hs:s.Ok ts) (k:Q (s.val (whOf ts)) T):Y (CN n 70 [.obj i.w,s.v] (hpOf T)) Q:=by
 obtain⟨n,rfl,_⟩:=down hn
 refine call_fn (fd:=fd_law_value) (by rfl) (by rfl) ?_
 show SV _ [some (.obj i.w),some (.tup [.int s.form,.int s.one,.int s.n]),none,none,none,none,none] _ _ _
 unfold fd_law_value
 unfold WId.obj kindsV at hw
 have fin:∀ a:Nat,Q (s.valA a) T→SV (CN n) [some (.obj i.w),some (.tup [.int s.form,.int s.one,.int s.n]),some (.int s.form),some (.int s.one),some (.int s.n),some (.int a),none] (fd_law_value.body.drop 3) T fun r T=>Q (r.1.getD .none) T:=by
  intro a k
  obtain⟨form,one,m⟩:=s
  have hf:form≤7:=hs.form
  have hm:m≤2:=hs.n
  unfold fd_law_value
  dsimp only [List.drop] at *
  rcases form with _|_|_|_|_|_|_|_|form
  all_goals first|omega|skip
  all_goals first|(k_ownIn;exact k)|skip
  k_ownIn
  have hw:([.str (words 0),.str (words 1),.str (words 2)]:List V)[m]?=some (.str (words m)):=by
   rcases m with _|_|_|m
   ·rfl
   ·rfl
   ·rfl
   ·omega
  refine IdxY.tupN hw (by omega) ?_
  k_ownIn
  exact k
 k_ownIn
 refine⟨fun hb=>?_,fun hb=>?_⟩<;>dsimp only [cA,nA]
 ·have h1:0<s.one:=by simp at hb;omega
  obtain⟨h2,t,ht,he,_⟩:=hs.one h1
  k_ownIn
  refine IdxY.wh hwh ⟨t,ht,he⟩ ?_
  conv=>whnf
  refine fin _ ?_
  unfold Spec.val at k
  rw [if_pos h1] at k
  exact k
 ·have h1:¬ 0<s.one:=by simp at hb;omega
  unfold Spec.val at k
  rw [if_neg h1] at k
  exact fin 0 k
def marksL (ms:List Th):List (Int×V):=ms.map fun t=>((t.addr:Int),.int 1)
def workL (ws:List Th):List V:=ws.map fun t=>.obj t.tid
theorem addr_inj {ts:List Th} (ha:Apart ts) {a b:Th} (h1:a∈ts) (h2:b∈ts) (e:a.addr=b.addr):a=b:=by
 obtain⟨i,hi⟩:=gO h1
 obtain⟨j,hj⟩:=gO h2
 have:=a.size_pos
 have:=b.size_pos
 rcases Nat.lt_trichotomy i j with h|h|h
 ·have:=apart_lt ha hi hj h;omega
 ·subst h;rw [hi] at hj;cases hj;rfl
 ·have:=apart_lt ha hj hi h;omega
theorem dget_marks {ts:List Th} (ha:Apart ts) {u:Th} (hu:u∈ts):∀ {ms:List Th},(∀ m∈ms,m∈ts)→(dget (marksL ms) (u.addr:Int)).isSome=decide (u∈ms)
 | [],_=>by simp [marksL,dget]
 | m::ms,h=>by
  show (dget (((m.addr:Int),V.int 1)::marksL ms) _).isSome=_
  unfold dget
  by_cases e:m.addr=u.addr
  ·have:=addr_inj ha (h m (.head _)) hu e
   subst this
   simp
  ·have ne:u≠m:=fun q=>e (by rw [q])
   rw [if_neg (by simp;omega),dget_marks ha hu fun x hx=>h x (.tail _ hx)]
   simp [ne]
def pushT (gen:Nat) (u:Th) (p:List Th×List Th):List Th×List Th:=if gen<u.age∨u∈p.1 then p else (p.1++[u],p.2++[u])
structure MK (h:Hid) (ts:List Th) (f:Hn) (mk wk:Nat) (p:List Th×List Th) (T:TH):Prop where
 hb:HB h ts f T
 mks:T[mk]?=some (.tmp 280,.di (marksL p.1))
 wks:∃ kk,(kk=.tmp 281∨kk=.tmp 291)∧T[wk]?=some (kk,.list (workL p.2))
theorem HB.keep {h:Hid} {ts:List Th} {f:Hn} {T T':TH} {X:Nat→K→Prop} (b:HB h ts f T) (c:Chg X T T') (n:∀ i,¬ X i .hp∧¬ X i .tl∧¬ X i .at_∧¬ X i .cd∧¬ X i .fin∧¬ X i .th) (nr:¬ X h.rdy .real):HB h ts f T' :=
 ⟨c.get b.hp (n _).1,c.get b.tl (n _).2.1,c.get b.at_ (n _).2.2.1,c.get b.cd (n _).2.2.2.1,c.get b.fin (n _).2.2.2.2.1,c.get b.rdy nr,fun t ht=>c.get (b.th t ht) (n _).2.2.2.2.2⟩
theorem HB.keep0 {h:Hid} {ts:List Th} {f:Hn} {T T':TH} (b:HB h ts f T) (c:Chg noX T T'):HB h ts f T':=b.keep c (fun _=>⟨id,id,id,id,id,id⟩) id
theorem HB.off {h:Hid} {ts:List Th} {f:Hn} {T T':TH} {i:Nat} {k:K} {o:O} (b:HB h ts f T) (hi:T[i]?=some (k,o)) (hk:k∉([.hp,.tl,.at_,.cd,.fin,.th,.real]:List K)) (c:Chg (oneX i) T T'):HB h ts f T':=by
 have ne:∀ {j:Nat} {k':K} {o':O},T[j]?=some (k',o')→k'∈([.hp,.tl,.at_,.cd,.fin,.th,.real]:List K)→¬ oneX i j k':=fun hj hk' q=>by
  have q:_=i:=q
  rw [q,hi] at hj;cases hj;exact hk hk'
 exact⟨c.get b.hp (ne b.hp (by decide)),c.get b.tl (ne b.tl (by decide)),c.get b.at_ (ne b.at_ (by decide)),c.get b.cd (ne b.cd (by decide)),c.get b.fin (ne b.fin (by decide)),c.get b.rdy (ne b.rdy (by decide)),fun t ht=>c.get (b.th t ht) (ne (b.th t ht) (by decide))⟩
theorem sp_pushw {h:Hid} {ts:List Th} {f:Hn} {mk wk:Nat} {p:List Th×List Th} {gen:Nat} {u:Th} {d:Nat} {word:Int} (hn:2≤n) (M:MK h ts f mk wk p T) (ha:Apart ts) (hlim:ts.length≤50000) (hu:u∈ts) (hd:d<u.size) (hw:word=((u.addr+d:Nat):Int)) (h0:0<u.addr)
  (hms:∀ m∈p.1,m∈ts) (hl1:p.1.length≤50000) (hl2:p.2.length≤50000) (k:∀ T',MK h ts f mk wk (pushT gen u p) T'→Chg (twoX mk wk) T T'→Q .none T'):Y (CN n 24 [.obj h.hp,.int word,.int gen,.obj mk,.obj wk] (hpOf T)) Q:=by
 obtain⟨n,rfl,_⟩:=down hn
 obtain⟨hb,hmk,kk,hkk,hwk⟩:=M
 have hth:=hb.th u hu
 refine call_fn (fd:=fd_push_word) (by rfl) (by rfl) ?_
 show SV _ [some (.obj h.hp),some (.int word),some (.int gen),some (.obj mk),some (.obj wk),none] _ _ _
 unfold fd_push_word
 unfold Th.obj at hth
 k_ownIn
 refine sp_find (by omega) hb ha hu hd hw hlim ?_
 k_ownIn
 by_cases h1:gen<u.age
 ·have e:pushT gen u p=p:=if_pos (.inl h1)
  rw [e] at k
  k_ownIn
  exact k _ ⟨hb,hmk,kk,hkk,hwk⟩ (.refl _ _)
 ·refine⟨fun _=>?_,fun hb'=>by simp at hb';omega⟩
  k_ownIn
  refine CmpY.mem_di hmk ?_
  rw [dget_marks ha hu hms]
  by_cases h2:u∈p.1
  ·have e:pushT gen u p=p:=if_pos (.inr h2)
   rw [e] at k
   rw [decide_eq_true h2]
   k_ownIn
   exact k _ ⟨hb,hmk,kk,hkk,hwk⟩ (.refl _ _)
  ·have e:pushT gen u p=(p.1++[u],p.2++[u]):=if_neg fun q=>q.elim h1 h2
   rw [e] at k
   rw [decide_eq_false h2]
   k_ownIn
   have ne:K.tmp 280≠kk:=by rcases hkk with rfl|rfl<;>decide
   have ne':kk∉([.hp,.tl,.at_,.cd,.fin,.th,.real]:List K):=by rcases hkk with rfl|rfl<;>decide
   refine IdxPut.di hmk (by simp [marksL];unfold limit;omega) ?_
   rw [dput_new fun q hq=>by
    obtain⟨m,hm,rfl⟩:=mM.mp hq
    intro e
    have e:m.addr=u.addr:=by have e:(m.addr:Int)=u.addr:=e;omega
    exact h2 (addr_inj ha (hms m hm) hu e▸hm)]
   refine PutY.intro ?_
   intro T1 h_1 c_1
   have hwk1:=c_1.otherK hwk h_1 (Ne.symm ne)
   have hb1:=hb.off hmk (by decide) c_1
   k_ownIn
   refine⟨by simp [workL];unfold limit;omega,?_⟩
   refine PutY.intro ?_
   intro T2 h_2 c_2
   have h1':=c_2.otherK h_1 h_2 ne
   k_ownIn
   refine k _ ⟨hb1.off hwk1 ne' c_2,by simpa [marksL] using h1',kk,hkk,by simpa [workL] using h_2⟩ (c_1.trans c_2 (fun _ _ _ _ q=>.inl q) fun _ _ _ _ q=>.inr q)
theorem sp_pushw0 {h:Hid} {mk wk:Nat} {gen:Nat} (hn:1≤n) (k:Q .none T):Y (CN n 24 [.obj h.hp,.int (0:Nat),.int gen,.obj mk,.obj wk] (hpOf T)) Q:=by
 obtain⟨n,rfl,_⟩:=down hn
 refine call_fn (fd:=fd_push_word) (by rfl) (by rfl) ?_
 show SV _ [some (.obj h.hp),some (.int (0:Nat)),some (.int gen),some (.obj mk),some (.obj wk),none] _ _ _
 unfold fd_push_word
 k_ownIn
 exact k
def tgt (ts:List Th) (s:Spec):Option Th:=if 0<s.one then ts.find? (fun t=>t.ser==s.one) else none
def pushS (gen:Nat) (ts:List Th) (s:Spec) (p:List Th×List Th):List Th×List Th:=match tgt ts s with
 | none=>p
 | some u=>pushT gen u p
theorem tgt_mem {ts:List Th} {s:Spec} {u:Th} (h:tgt ts s=some u):u∈ts∧0<s.one∧u.ser=s.one:=by
 unfold tgt at h
 split at h
 ·rename_i h0
  exact⟨List.mem_of_find?_eq_some h,h0,by simpa using List.find?_some h⟩
 ·cases h
def Sers (ts:List Th):Prop:=∀ a∈ts,∀ b∈ts,a.ser=b.ser→a=b
theorem tgt_of {ts:List Th} (hs:Sers ts) {s:Spec} {t:Th} (h0:0<s.one) (ht:t∈ts) (e:t.ser=s.one):tgt ts s=some t:=by
 unfold tgt
 rw [if_pos h0]
 cases q:ts.find? (fun t=>t.ser==s.one) with
 | none =>
  have:=List.find?_eq_none.mp q t ht
  simp [e] at this
 | some u =>
  have h1:=List.mem_of_find?_eq_some q
  have h2:u.ser=s.one:=by simpa using List.find?_some q
  rw [hs u h1 t ht (h2.trans e.symm)]
theorem val_tgt {ts:List Th} {s:Spec}:s.val (whOf ts)=s.valA ((tgt ts s).elim 0 Th.addr):=by
 unfold Spec.val tgt whOf
 split
 ·cases ts.find? (fun t=>t.ser==s.one)<;>rfl
 ·rfl
theorem tgt_none {ts:List Th} {s:Spec} (hs:s.Ok ts) (h:tgt ts s=none):s.one=0:=by
 refine Nat.eq_zero_of_not_pos fun q=>?_
 obtain⟨_,t,ht,e,_⟩:=hs.one q
 unfold tgt at h
 rw [if_pos q] at h
 have:=List.find?_eq_none.mp h t ht
 simp [e] at this
theorem sp_push {h:Hid} {ts:List Th} {f:Hn} {mk wk:Nat} {p:List Th×List Th} {gen:Nat} {s:Spec} (hn:3≤n) (M:MK h ts f mk wk p T) (hp:Packed 16 ts) (hsr:Sers ts) (hlim:ts.length≤50000) (hs:s.Ok ts)
  (hms:∀ m∈p.1,m∈ts) (hl1:p.1.length≤50000) (hl2:p.2.length≤50000) (k:∀ T',MK h ts f mk wk (pushS gen ts s p) T'→Chg (twoX mk wk) T T'→Q .none T'):Y (CN n 25 [.obj h.hp,s.val (whOf ts),.int gen,.obj mk,.obj wk] (hpOf T)) Q:=by
 obtain⟨n,rfl,_⟩:=down hn
 have ha:=hp.apart
 rw [val_tgt]
 refine call_fn (fd:=fd_push_value) (by rfl) (by rfl) ?_
 show SV _ [some (.obj h.hp),some (s.valA ((tgt ts s).elim 0 Th.addr)),some (.int gen),some (.obj mk),some (.obj wk),none] _ _ _
 unfold fd_push_value
 k_ownIn
 refine HandS.intro (SV.forU ?_)
 k_ownIn
 refine sp_words (by omega) fun i kk T1 hn_1 h_1 c_1=>?_
 have M1:MK h ts f mk wk p T1:=by
  obtain⟨hb,hmk,kk',hkk,hwk⟩:=M
  exact⟨hb.keep0 c_1,c_1.keep hmk,kk',hkk,c_1.keep hwk⟩
 k_ownIn
 have done:∀ T' ρ,T'[i]?=some (kk,.list (s.wordsA ((tgt ts s).elim 0 Th.addr)))→MK h ts f mk wk (pushS gen ts s p) T'→Chg (twoX mk wk) T1 T'→FV (CN n) [5] [S.expr (E.call 24 [E.loc 0,E.loc 5,E.loc 2,E.loc 3,E.loc 4])] [] i 0 (s.wordsA ((tgt ts s).elim 0 Th.addr)).length ρ T' fun r T=>Q (r.1.getD .none) T:=by
  intro T' ρ hi M' c'
  refine FV.done hi rfl ?_
  k_ownIn
  exact k _ M' (c_1.trans c' (fun _ _ _ _ q=>q.elim) fun _ _ _ _ q=>q)
 cases ht:tgt ts s with
 | none =>
  have h1:=tgt_none hs ht
  have hp':pushS gen ts s p=p:=by unfold pushS;rw [ht]
  rw [hp'] at done
  rw [ht] at done h_1
  have hcase:s.wordsA 0=[.int (0:Nat)]∨s.wordsA 0=[]:=by
   have:=hs.place
   unfold Spec.wordsA
   split
   ·exact .inl rfl
   ·rename_i q;have:=this q;omega
   ·exact .inr rfl
   ·exact .inr rfl
   ·exact .inr rfl
  dsimp only [Option.elim] at done h_1 ⊢
  rcases hcase with e|e
  ·rw [e] at done h_1 ⊢
   refine FV.step h_1 rfl ?_
   refine GetY.mk rfl ?_
   k_ownIn
   refine sp_pushw0 (by omega) ?_
   k_ownIn
   exact done _ _ h_1 M1 (.refl _ _)
  ·rw [e] at done h_1 ⊢
   exact done _ _ h_1 M1 (.refl _ _)
 | some u =>
  obtain⟨hu,h0,hus⟩:=tgt_mem ht
  have hp':pushS gen ts s p=pushT gen u p:=by unfold pushS;rw [ht]
  rw [hp'] at done
  rw [ht] at done h_1
  obtain⟨hf,t,htm,hte,hpl⟩:=hs.one h0
  have htu:=hsr t htm u hu (hte.trans hus.symm)
  subst htu
  have hpos:0<t.addr:=by have:=hp.mem t hu;omega
  have hcase:∃ d:Nat,d<t.size∧s.wordsA t.addr=[.int ((t.addr+d:Nat):Int)]:=by
   have h1:oneL t.addr=[.int ((t.addr+0:Nat):Int)]:=by unfold oneL;rw [if_neg (by omega)];rfl
   unfold Spec.wordsA
   split
   ·exact⟨0,t.size_pos,rfl⟩
   ·rename_i q
    refine⟨2+s.n,by unfold Th.size;have:=hpl q;omega,?_⟩
    rw [show ((t.addr:Int)+2+s.n)=((t.addr+(2+s.n):Nat):Int) by omega]
   ·exact⟨0,t.size_pos,h1⟩
   ·exact⟨0,t.size_pos,h1⟩
   ·rename_i q1 q2 q3 q4
    have q:s.form=0∨s.form=1∨s.form=2∨s.form=3:=by omega
    exact (q.elim q1 fun q=>q.elim q2 fun q=>q.elim q3 q4).elim
  obtain⟨d,hd,e⟩:=hcase
  dsimp only [Option.elim] at done h_1 ⊢
  rw [e] at done h_1 ⊢
  refine FV.step h_1 rfl ?_
  refine GetY.mk rfl ?_
  k_ownIn
  refine sp_pushw (by omega) M1 ha hlim hu hd rfl hpos hms hl1 hl2 fun T2 M2 c_2=>?_
  k_ownIn
  have hi:T2[i]?=some (kk,.list [.int ((t.addr+d:Nat):Int)]):=c_2.get h_1 fun q=>by
   obtain⟨hb,hmk,kk',hkk,hwk⟩:=M
   rcases q with q|q
   ·rw [q,hmk] at hn_1;cases hn_1
   ·rw [q,hwk] at hn_1;cases hn_1
  exact done _ _ hi M2 c_2
theorem nodup_le {α:Type} [DecidableEq α]:∀ {l ts:List α},l.Nodup→(∀ x∈l,x∈ts)→l.length≤ts.length
 | [],_,_,_=>Nat.zero_le _
 | a::l,ts,hn,hs=>by
  rw [nC] at hn
  have ha:=hs a (.head _)
  have ih:=nodup_le (l:=l) (ts:=ts.erase a) hn.2 fun x hx=>(List.mem_erase_of_ne fun (e:x=a)=>hn.1 (e▸hx)).mpr (hs x (.tail _ hx))
  rw [List.length_erase_of_mem ha] at ih
  have:0<ts.length:=List.length_pos_of_mem ha
  simp only [lC]
  omega
def SL (ts:List Th) (T:TH):Prop:=∀ t∈ts,T[t.sid]?=some (.slots,.list (t.specs.map (Spec.val (whOf ts))))
structure Mk1 (gen:Nat) (ts:List Th) (P:Th→Prop) (p:List Th×List Th):Prop where
 sub:∀ m∈p.1,m∈ts∧m.age≤gen∧P m
 nd:p.1.Nodup
 wsub:∀ w∈p.2,w∈p.1
 wlen:p.2.length≤p.1.length
theorem Mk1.le {gen:Nat} {ts:List Th} {P:Th→Prop} {p:List Th×List Th} (h:Mk1 gen ts P p):p.1.length≤ts.length:=nodup_le h.nd fun x hx=>(h.sub x hx).1
theorem Mk1.push {gen:Nat} {ts:List Th} {P:Th→Prop} {p:List Th×List Th} (h:Mk1 gen ts P p) {u:Th} (hu:u∈ts) (hp:P u):Mk1 gen ts P (pushT gen u p):=by
 unfold pushT
 split
 ·exact h
 ·rename_i q
  rw [not_or] at q
  refine⟨fun m hm=>?_,?_,fun w hw=>?_,?_⟩
  ·rcases mA.mp hm with hm|hm
   ·exact h.sub m hm
   ·rw [mS] at hm;subst hm;exact⟨hu,by omega,hp⟩
  ·rw [nD]
   exact⟨h.nd,by simp,fun a ha b hb e=>q.2 (by rw [mS] at hb;rw [←hb,←e];exact ha)⟩
  ·rcases mA.mp hw with hw|hw
   ·exact mL _ (h.wsub w hw)
   ·exact mR _ hw
  ·simp only [lA,lS];have:=h.wlen;omega
theorem pushT_sub {gen:Nat} {u:Th} {p:List Th×List Th}:∀ m∈p.1,m∈(pushT gen u p).1:=by
 intro m hm;unfold pushT;split
 ·exact hm
 ·exact mL _ hm
theorem pushT_in {gen:Nat} {u:Th} {p:List Th×List Th}:gen<u.age∨u∈(pushT gen u p).1:=by
 unfold pushT;split
 ·rename_i q;exact q
 ·exact .inr (by simp)
theorem pushT_new {gen:Nat} {u:Th} {p:List Th×List Th}:∀ m∈(pushT gen u p).1,m∈p.1∨m∈(pushT gen u p).2:=by
 intro m hm;unfold pushT at hm ⊢;split
 ·rename_i q;rw [if_pos q] at hm;exact .inl hm
 ·rename_i q;rw [if_neg q] at hm
  rcases mA.mp hm with hm|hm
  ·exact .inl hm
  ·exact .inr (mR _ hm)
theorem pushT_w {gen:Nat} {u:Th} {p:List Th×List Th}:∀ m∈p.2,m∈(pushT gen u p).2:=by
 intro m hm;unfold pushT;split
 ·exact hm
 ·exact mL _ hm
theorem pushT_measure {gen:Nat} {u:Th} {p:List Th×List Th} {N:Nat} (h:(pushT gen u p).1.length≤N):(pushT gen u p).2.length+2*(N-(pushT gen u p).1.length)≤p.2.length+2*(N-p.1.length):=by
 unfold pushT at h ⊢;split
 ·exact Nat.le_refl _
 ·rename_i q
  rw [if_neg q] at h
  simp only [lA,lS] at h ⊢
  omega
def ClS (gen:Nat) (ts:List Th) (ms:List Th) (s:Spec):Prop:=∀ v,tgt ts s=some v→gen<v.age∨v∈ms
theorem ClS.more {gen:Nat} {ts ms ms':List Th} {s:Spec} (h:ClS gen ts ms s) (k:∀ m∈ms,m∈ms'):ClS gen ts ms' s:=fun v e=>(h v e).imp id (k v)
def Closed (P:Th→Prop) (ts:List Th):Prop:=∀ u v s,u∈ts→P u→s∈u.specs→tgt ts s=some v→P v
theorem pushS_all {gen:Nat} {ts:List Th} {P:Th→Prop} {p:List Th×List Th} (h:Mk1 gen ts P p) {s:Spec} (hp:∀ v,tgt ts s=some v→P v) :
  Mk1 gen ts P (pushS gen ts s p)∧(∀ m∈p.1,m∈(pushS gen ts s p).1)∧ClS gen ts (pushS gen ts s p).1 s∧(∀ m∈(pushS gen ts s p).1,m∈p.1∨m∈(pushS gen ts s p).2)∧(∀ m∈p.2,m∈(pushS gen ts s p).2) ∧
  (pushS gen ts s p).2.length+2*(ts.length-(pushS gen ts s p).1.length)≤p.2.length+2*(ts.length-p.1.length):=by
 unfold pushS ClS
 cases ht:tgt ts s with
 | none=>exact⟨h,fun _ h=>h,fun v e=>(nomatch e),fun _ h=>.inl h,fun _ h=>h,Nat.le_refl _⟩
 | some u =>
  have hm:=h.push (tgt_mem ht).1 (hp u ht)
  exact⟨hm,pushT_sub,fun v e=>by cases e;exact pushT_in,pushT_new,pushT_w,pushT_measure hm.le⟩
theorem MK.chg {h:Hid} {ts:List Th} {f:Hn} {mk wk:Nat} {p:List Th×List Th} {T T':TH} (M:MK h ts f mk wk p T) (S:SL ts T) (c:Chg (twoX mk wk) T T'):SL ts T':=by
 obtain⟨_,hm,kk,hkk,hw⟩:=M
 intro t ht
 refine c.get (S t ht) fun q=>?_
 rcases q with q|q
 ·have:=S t ht;rw [q,hm] at this;cases this
 ·have:=S t ht
  rw [q,hw] at this
  have e:kk=K.slots:=congrArg Prod.fst (Option.some.inj this)
  rcases hkk with q|q<;>rw [q] at e<;>cases e
set_option maxHeartbeats 1000000 in
theorem sp_drain {h:Hid} {ts:List Th} {f:Hn} {mk wk:Nat} {p:List Th×List Th} {gen:Nat} {P:Th→Prop} (hn:4≤n) (M:MK h ts f mk wk p T) (S:SL ts T) (hp:Packed 16 ts) (hsr:Sers ts) (hlim:ts.length≤30000) (hok:∀ t∈ts,∀ s∈t.specs,s.Ok ts)
  (hP:Closed P ts) (h1:Mk1 gen ts P p) (h2:∀ u∈p.1,u∉p.2→∀ s∈u.specs,ClS gen ts p.1 s) (k:∀ p' T',MK h ts f mk wk p' T'→p'.2=[]→Mk1 gen ts P p'→(∀ u∈p'.1,∀ s∈u.specs,ClS gen ts p'.1 s)→(∀ m∈p.1,m∈p'.1)→Chg (twoX mk wk) T T'→Q .none T') :
  Y (CN n 26 [.obj h.hp,.obj wk,.int gen,.obj mk] (hpOf T)) Q:=by
 obtain⟨n,rfl,_⟩:=down hn
 refine call_fn (fd:=fd_drain) (by rfl) (by rfl) ?_
 show SV _ [some (.obj h.hp),some (.obj wk),some (.int gen),some (.obj mk),none,none] _ _ _
 unfold fd_drain
 k_ownIn
 refine HandS.intro (SV.while (fun m ρ T'=>∃ (p':List Th×List Th) (x y:Option V),ρ=[some (.obj h.hp),some (.obj wk),some (.int gen),some (.obj mk),x,y]∧MK h ts f mk wk p' T'∧SL ts T'∧Mk1 gen ts P p' ∧
  (∀ u∈p'.1,u∉p'.2→∀ s∈u.specs,ClS gen ts p'.1 s)∧(∀ m∈p.1,m∈p'.1)∧m=p'.2.length+2*(ts.length-p'.1.length)∧Chg (twoX mk wk) T T') (p.2.length+2*(ts.length-p.1.length)) (by have:=h1.le;have:=h1.wlen;unfold limit;omega) ⟨p,none,none,rfl,M,S,h1,h2,fun _ h=>h,rfl,.refl _ _⟩ ?_)
 rintro m ρ T1 ⟨p_1,x,y,rfl,M1,S1,i1,i2,i3,rfl,c_1⟩
 obtain⟨hb,hmk,kk,hkk,hwk⟩:=id M1
 have hle:=i1.le
 have hwl:=i1.wlen
 k_ownIn
 refine LenY.list hwk (by simp [workL];unfold limit;omega) ?_
 k_ownIn
 refine⟨fun hb'=>?_,fun hb'=>?_⟩
 ·have hne:p_1.2≠[]:=by intro q;rw [q] at hb';simp [workL] at hb'
  obtain⟨ws,u,hws⟩:∃ ws u,p_1.2=ws++[u]:=⟨_,_,(List.dropLast_concat_getLast hne).symm⟩
  have hu:u∈p_1.1:=i1.wsub u (by rw [hws];simp)
  obtain⟨hut,hua,huP⟩:=i1.sub u hu
  have hth:=hb.th u hut
  unfold Th.obj at hth
  k_ownIn
  refine⟨by simp [workL];unfold limit;omega,?_⟩
  have hwl2:workL p_1.2=workL ws++[.obj u.tid]:=by unfold workL;rw [hws];simp
  rw [hwl2] at hwk ⊢
  refine GetY.mk (v:=.obj u.tid) (by simp) ?_
  rw [show (workL ws++[V.obj u.tid]).eraseIdx ((workL ws++[V.obj u.tid]).length-1)=workL ws by simp [List.eraseIdx_append_of_length_le]]
  refine PutY.intro ?_
  intro T2 h_2 c_2
  have c2':Chg (twoX mk wk) T1 T2:=c_2.weaken fun _ _ q=>.inr q
  have ne:K.tmp 280≠kk:=by rcases hkk with rfl|rfl<;>decide
  have ne':kk∉([.hp,.tl,.at_,.cd,.fin,.th,.real]:List K):=by rcases hkk with rfl|rfl<;>decide
  have M2:MK h ts f mk wk (p_1.1,ws) T2:=⟨hb.off hwk ne' c_2,c_2.otherK hmk h_2 ne,kk,hkk,h_2⟩
  have S2:=M1.chg S1 c2'
  have hth2:=M2.hb.th u hut
  unfold Th.obj at hth2
  k_ownIn
  refine HandS.intro (SV.forI (fun j ρ T'=>∃ (p':List Th×List Th) (y:Option V),ρ=[some (.obj h.hp),some (.obj wk),some (.int gen),some (.obj mk),some (.obj u.tid),y]∧MK h ts f mk wk p' T'∧SL ts T'∧Mk1 gen ts P p' ∧
   (∀ v∈p'.1,v∉p'.2→v≠u→∀ s∈v.specs,ClS gen ts p'.1 s)∧(∀ s∈u.specs.take j,ClS gen ts p'.1 s)∧(∀ m∈p_1.1,m∈p'.1)∧p'.2.length+2*(ts.length-p'.1.length)≤ws.length+2*(ts.length-p_1.1.length)∧Chg (twoX mk wk) T T') ?_)
  k_ownIn
  refine ListY.mk (S2 u hut) ⟨⟨(p_1.1,ws),y,rfl,M2,S2,⟨i1.sub,i1.nd,fun w hw=>i1.wsub w (by rw [hws];simp [hw]),by rw [hws] at hwl;simp at hwl;show ws.length≤p_1.1.length;omega⟩,fun v hv hv2 hvu=>i2 v hv (by rw [hws];simp;exact⟨hv2,hvu⟩),by simp,fun _ h=>h,Nat.le_refl _,c_1.tr c2'⟩,?_,?_⟩
  ·rintro j v ρ T3 hv ⟨p3,y3,rfl,M3,S3,j1,j2,j3,j4,j5,c_3⟩ ho
   rw [gM] at hv
   obtain⟨s,hs,rfl⟩:=Option.map_eq_some_iff.mp hv
   have hsm:=mG hs
   have hle3:=j1.le
   have hwl3:=j1.wlen
   refine GetY.mk rfl ?_
   k_ownIn
   refine sp_push (by omega) M3 hp hsr (by omega) (hok u hut s hsm) (fun m hm=>(j1.sub m hm).1) (by omega) (by omega) fun T4 M4 c4=>?_
   obtain⟨g1,g2,g3,g4,g5,g6⟩:=pushS_all j1 (s:=s) fun v hv=>hP u v s hut huP hsm hv
   k_ownIn
   refine⟨⟨_,_,rfl,M4,M3.chg S3 c4,g1,fun v hv hv2 hvu s' hs'=>?_,fun s' hs'=>?_,fun m hm=>g2 m (j4 m hm),Nat.le_trans g6 j5,c_3.tr c4⟩,M3.chg S3 c4 u hut⟩
   ·rcases g4 v hv with q|q
    ·exact (j2 v q (fun q'=>hv2 (g5 v q')) hvu s' hs').more g2
    ·exact absurd q hv2
   ·rw [tO,hs] at hs'
    rcases mA.mp hs' with q|q
    ·exact (j3 s' q).more g2
    ·simp at q;subst q;exact g3
  ·rintro ρ T3 ⟨p3,y3,rfl,M3,S3,j1,j2,j3,j4,j5,c_3⟩ ho
   k_ownIn
   refine⟨p3.2.length+2*(ts.length-p3.1.length),?_,p3,_,_,rfl,M3,S3,j1,fun v hv hv2 s hs=>?_,fun m hm=>j4 m (i3 m hm),rfl,c_3⟩
   ·rw [hws];simp only [lA,lS];omega
   ·by_cases q:v=u
    ·subst q
     exact j3 s (by rw [lM,tL];exact hs)
    ·exact j2 v hv hv2 q s hs
 ·have he:p_1.2=[]:=by
   cases q:p_1.2 with
   | nil=>rfl
   | cons a r=>rw [q] at hb';simp [workL] at hb'
  k_ownIn
  exact k p_1 T1 M1 he i1 (fun u hu=>i2 u hu (by rw [he];simp)) i3 c_1
theorem sp_slot {t:Th} {x:Int} (hn:1≤n) (ht:T[t.tid]?=some (.th,t.obj)) (k':Q (.int ((t.addr:Int)+2+x)) T):Y (CN n 7 [.obj t.tid,.int x] (hpOf T)) Q:=by
 obtain⟨n,rfl,_⟩:=down hn
 refine call_fn (fd:=fd_slot_word) (by rfl) (by rfl) ?_
 show SV _ [some (.obj t.tid),some (.int x)] _ _ _
 unfold fd_slot_word
 unfold Th.obj at ht
 k_ownIn
 exact k'
theorem sp_card {h:Hid} {ts:List Th} {f:Hn} {x:Int} (hn:1≤n) (hb:HB h ts f T) (k:∀ y,Q (.int y) T):Y (CN n 8 [.obj h.hp,.int x] (hpOf T)) Q:=by
 obtain⟨n,rfl,_⟩:=down hn
 obtain⟨b1,b2,b3,b4,b5,b6,b7⟩:=hb
 refine call_fn (fd:=fd_card_number) (by rfl) (by rfl) ?_
 show SV _ [some (.obj h.hp),some (.int x)] _ _ _
 unfold fd_card_number
 unfold hpObj at b1
 k_ownIn
 exact k _
theorem sp_old {h:Hid} {ts:List Th} {f:Hn} {gen:Nat} (hn:2≤n) (hb:HB h ts f T) (S:SL ts T) (hlen:∀ t∈ts,t.specs.length≤1000) (k:∀ i T',T[i]?=none→T'[i]?=some (.tmp 270,.list [])→Chg noX T T'→Q (.obj i) T'):Y (CN n 27 [.obj h.hp,.int gen] (hpOf T)) Q:=by
 obtain⟨n,rfl,_⟩:=down hn
 refine call_fn (fd:=fd_old_slots) (by rfl) (by rfl) ?_
 show SV _ [some (.obj h.hp),some (.int gen),none,none,none] _ _ _
 unfold fd_old_slots
 k_ownIn
 refine AnyK.mk (.tmp 270) ?_
 refine EVs.go ?_
 conv=>whnf
 refine NewY.intro ?_
 intro i T1 hn_1 h_1 c_1
 replace hb:=hb.keep0 c_1
 have S1:SL ts T1:=fun t ht=>c_1.keep (S t ht)
 have hh:=hb.hp
 unfold hpObj at hh
 have htl:=hb.tl
 k_ownIn
 refine HandS.intro (SV.forI (fun j ρ T'=>T'=T1∧∃ x y:Option V,ρ=[some (.obj h.hp),some (.int gen),some (.obj i),x,y]) ?_)
 k_ownIn
 refine⟨⟨rfl,_,_,rfl⟩,?_,?_⟩
 ·rintro j v ρ T' hv ⟨rfl,x,y,rfl⟩ ho
  rw [gM] at hv
  obtain⟨t,ht,rfl⟩:=Option.map_eq_some_iff.mp hv
  have htm:=mG ht
  have hth:=hb.th t htm
  have hth':=hth
  unfold Th.obj at hth'
  have hsl:=S1 t htm
  refine GetY.mk rfl ?_
  k_ownIn
  refine⟨fun hb'=>?_,fun hb'=>?_⟩
  ·dsimp only [cA,nA]
   refine SV.go ?_
   conv=>whnf
   refine HandS.intro (SV.forR (fun j ρ T''=>T''=T'∧∃ y:Option V,ρ=[some (.obj h.hp),some (.int gen),some (.obj i),some (.obj t.tid),y]) ?_)
   k_ownIn
   have hlt:=hlen t htm
   refine LenY.list hsl (by simp;unfold limit;omega) ?_
   k_ownIn
   refine⟨⟨by simp,by simp;unfold limit;omega⟩,⟨rfl,_,rfl⟩,?_,?_⟩
   ·rintro j' ρ T'' hj' ⟨rfl,y,rfl⟩
    refine⟨Nat.le_of_ble_eq_true rfl,?_⟩
    show SV _ [some (.obj h.hp),some (.int gen),some (.obj i),some (.obj t.tid),some (.int j')] _ _ _
    k_ownIn
    refine sp_slot (by omega) hth ?_
    k_ownIn
    refine sp_card (by omega) hb fun y=>?_
    k_ownIn
    refine CmpY.mem_di hb.cd ?_
    conv=>whnf
    refine⟨fun hb=>(nomatch hb),fun _=>?_⟩
    dsimp only [cA,nA]
    k_ownIn
    exact⟨rfl,_,rfl⟩
   ·rintro ρ T'' ⟨rfl,y,rfl⟩
    k_ownIn
    exact⟨⟨rfl,_,_,rfl⟩,ho⟩
  ·dsimp only [cA,nA]
   k_ownIn
   exact⟨⟨rfl,_,_,rfl⟩,ho⟩
 ·rintro ρ T' ⟨rfl,x,y,rfl⟩ ho
  k_ownIn
  exact k _ _ hn_1 h_1 c_1
structure RowsAt (ts:List Th) (rows:List (Nat×List Spec)) (T:TH):Prop where
 at_:∀ r∈rows,T[r.1]?=some (.real,.list (r.2.map (Spec.val (whOf ts))))
 ok:∀ r∈rows,∀ s∈r.2,s.Ok ts
theorem RowsAt.chg {ts:List Th} {rows:List (Nat×List Spec)} {T T':TH} {h:Hid} {f:Hn} {mk wk:Nat} {p:List Th×List Th} (R:RowsAt ts rows T) (M:MK h ts f mk wk p T) (c:Chg (twoX mk wk) T T'):RowsAt ts rows T':=by
 obtain⟨_,hm,kk,hkk,hw⟩:=M
 refine⟨fun r hr=>c.get (R.at_ r hr) fun q=>?_,R.ok⟩
 have:=R.at_ r hr
 rcases q with q|q
 ·rw [q,hm] at this;cases congrArg Prod.fst (Option.some.inj this)
 ·rw [q,hw] at this
  have e:kk=K.real:=congrArg Prod.fst (Option.some.inj this)
  rcases hkk with q|q<;>rw [q] at e<;>cases e
set_option maxHeartbeats 1000000 in
theorem sp_mark {h:Hid} {ts:List Th} {f:Hn} {lo:Nat} {rows:List (Nat×List Spec)} {gen:Nat} {P:Th→Prop} (hn:5≤n) (hb:HB h ts f T) (S:SL ts T) (hp:Packed 16 ts) (hsr:Sers ts) (hlim:ts.length≤30000) (hok:∀ t∈ts,∀ s∈t.specs,s.Ok ts) (hlen:∀ t∈ts,t.specs.length≤1000)
  (R:RowsAt ts rows T) (hlo:T[lo]?=some (.tmp 510,.list (rows.map fun r=>.obj r.1))) (hP:Closed P ts) (hP0:∀ r∈rows,∀ s∈r.2,∀ v,tgt ts s=some v→P v)
  (k:∀ mk ms T',T[mk]?=none→T'[mk]?=some (.tmp 280,.di (marksL ms))→Mk1 gen ts P (ms,[])→(∀ u∈ms,∀ s∈u.specs,ClS gen ts ms s)→(∀ r∈rows,∀ s∈r.2,ClS gen ts ms s)→Chg noX T T'→Q (.obj mk) T') :
  Y (CN n 28 [.obj h.hp,.obj lo,.int gen] (hpOf T)) Q:=by
 obtain⟨n,rfl,_⟩:=down hn
 refine call_fn (fd:=fd_mark) (by rfl) (by rfl) ?_
 show SV _ [some (.obj h.hp),some (.obj lo),some (.int gen),none,none,none,none,none,none] _ _ _
 unfold fd_mark
 k_ownIn
 refine AnyK.mk (.tmp 280) ?_
 refine NewY.intro ?_
 intro mk T1 hn_1 h_1 c_1
 k_ownIn
 refine AnyK.mk (.tmp 281) ?_
 refine EVs.go ?_
 conv=>whnf
 refine NewY.intro ?_
 intro wk T2 hn_2 h_2 c_2
 have c12:Chg noX T T2:=c_1.tr c_2
 have M2:MK h ts f mk wk ([],[]) T2:=⟨hb.keep0 c12,c_2.keep h_1,_,.inl rfl,h_2⟩
 have S2:SL ts T2:=fun t ht=>c12.keep (S t ht)
 have R2:RowsAt ts rows T2:=⟨fun r hr=>c12.keep (R.at_ r hr),R.ok⟩
 have hlo2:=c12.keep hlo
 have hwk1:T[wk]?=none:=none_back hn_2 (c_1.weaken fun _ _ q=>q.elim)
 have outer:∀ {T'},Chg (twoX mk wk) T2 T'→Chg noX T T':=fun c=>c12.trans c (fun _ _ _ _ q=>q) fun i k o hi q=>by
  rcases q with q|q
  ·rw [q,hn_1] at hi;cases hi
  ·rw [q,hwk1] at hi;cases hi
 have lo_keep:∀ {T'},Chg (twoX mk wk) T2 T'→T'[lo]?=some (.tmp 510,.list (rows.map fun r=>.obj r.1)):=fun c=>c.get hlo2 fun q=>by
  rcases q with q|q
  ·rw [q] at hlo;rw [hlo] at hn_1;cases hn_1
  ·rw [q] at hlo;rw [hlo] at hwk1;cases hwk1
 k_ownIn
 refine HandS.intro (SV.forI (fun j ρ T'=>∃ (p:List Th×List Th) (x y:Option V),ρ=[some (.obj h.hp),some (.obj lo),some (.int gen),some (.obj mk),some (.obj wk),x,y,none,none]∧MK h ts f mk wk p T'∧SL ts T'∧RowsAt ts rows T'∧Mk1 gen ts P p ∧
   (∀ v∈p.1,v∈p.2)∧(∀ r∈rows.take j,∀ s∈r.2,ClS gen ts p.1 s)∧Chg (twoX mk wk) T2 T') ?_)
 k_ownIn
 refine⟨⟨([],[]),none,none,rfl,M2,S2,R2,⟨fun _ q=>(nomatch q),List.nodup_nil,fun _ q=>(nomatch q),Nat.le_refl _⟩,fun _ q=>(nomatch q),by simp,.refl _ _⟩,?_,?_⟩
 ·rintro j v ρ T' hv ⟨p,x,y,rfl,M',S',R',i1,i2,i3,c'⟩ ho
  rw [gM] at hv
  obtain⟨r,hr,rfl⟩:=Option.map_eq_some_iff.mp hv
  have hrm:=mG hr
  have hrow:=R'.at_ r hrm
  refine GetY.mk rfl ?_
  refine SV.go ?_
  conv=>whnf
  refine HandS.intro (SV.forI (fun j' ρ T'=>∃ (p':List Th×List Th) (y:Option V),ρ=[some (.obj h.hp),some (.obj lo),some (.int gen),some (.obj mk),some (.obj wk),some (.obj r.1),y,none,none]∧MK h ts f mk wk p' T'∧SL ts T'∧RowsAt ts rows T'∧Mk1 gen ts P p' ∧
   (∀ v∈p'.1,v∈p'.2)∧(∀ m∈p.1,m∈p'.1)∧(∀ s∈r.2.take j',ClS gen ts p'.1 s)∧Chg (twoX mk wk) T2 T') ?_)
  k_ownIn
  refine⟨⟨p,y,rfl,M',S',R',i1,i2,fun _ h=>h,by simp,c'⟩,?_,?_⟩
  ·rintro j' v ρ T3 hv ⟨p3,y3,rfl,M3,S3,R3,j1,j2,j3,j4,c_3⟩ ho3
   rw [gM] at hv
   obtain⟨s,hs,rfl⟩:=Option.map_eq_some_iff.mp hv
   have hsm:=mG hs
   have hle3:=j1.le
   have hwl3:=j1.wlen
   refine GetY.mk rfl ?_
   k_ownIn
   refine sp_push (by omega) M3 hp hsr (by omega) (R.ok r hrm s hsm) (fun m hm=>(j1.sub m hm).1) (by omega) (by omega) fun T4 M4 c4=>?_
   obtain⟨g1,g2,g3,g4,g5,g6⟩:=pushS_all j1 (s:=s) fun v hv=>hP0 r hrm s hsm v hv
   k_ownIn
   refine⟨⟨_,_,rfl,M4,M3.chg S3 c4,R3.chg M3 c4,g1,fun v hv=>(g4 v hv).elim (fun q=>g5 v (j2 v q)) id,fun m hm=>g2 m (j3 m hm),fun s' hs'=>?_,c_3.tr c4⟩,(R3.chg M3 c4).at_ r hrm⟩
   rw [tO,hs] at hs'
   rcases mA.mp hs' with q|q
   ·exact (j4 s' q).more g2
   ·simp at q;subst q;exact g3
  ·rintro ρ T3 ⟨p3,y3,rfl,M3,S3,R3,j1,j2,j3,j4,c_3⟩ ho3
   k_ownIn
   refine⟨⟨p3,_,_,rfl,M3,S3,R3,j1,j2,fun r' hr' s hs=>?_,c_3⟩,lo_keep c_3⟩
   rw [tO,hr] at hr'
   rcases mA.mp hr' with q|q
   ·exact (i3 r' q s hs).more j3
   ·simp at q;subst q
    exact j4 s (by rw [lM,tL];exact hs)
 ·rintro ρ T' ⟨p,x,y,rfl,M',S',R',i1,i2,i3,c'⟩ ho
  rw [lM,tL] at i3
  have fin:∀ ρ T'' z_1 z_2,ρ=[some (.obj h.hp),some (.obj lo),some (.int gen),some (.obj mk),some (.obj wk),x,y,z_1,z_2]→Chg noX T' T''→SV (CN n) ρ [.expr (.call 26 [(.loc 0),(.loc 4),(.loc 2),(.loc 3)]),.ret (.loc 3)] T'' fun r T=>Q (r.1.getD .none) T:=by
   rintro ρ T'' z_1 z_2 rfl c''
   have M'':MK h ts f mk wk p T'':=by
    obtain⟨a1,a2,kk,hkk,a3⟩:=M'
    exact⟨a1.keep0 c'',c''.keep a2,kk,hkk,c''.keep a3⟩
   have S'':SL ts T'':=fun t ht=>c''.keep (S' t ht)
   k_ownIn
   refine sp_drain (by omega) M'' S'' hp hsr hlim hok hP i1 (fun u hu hu2=>absurd (i2 u hu) hu2) fun p5 T5 M5 e_5 g1 g2 g3 c_5=>?_
   k_ownIn
   obtain⟨p51,p52⟩:=p5
   dsimp only at e_5
   subst e_5
   exact k mk p51 T5 hn_1 M5.mks g1 g2 (fun r hr s hs=>(i3 r hr s hs).more g3) (outer ((c'.tr (c''.weaken fun _ _ q=>q.elim)).tr c_5))
  k_ownIn
  refine⟨fun hb'=>?_,fun hb'=>?_⟩
  ·dsimp only [cA,nA]
   refine SV.go ?_
   conv=>whnf
   refine HandS.intro (SV.forU ?_)
   k_ownIn
   refine sp_old (by omega) M'.hb S' hlen fun i T6 hn6 h_6 c_6=>?_
   k_ownIn
   refine FV.done h_6 rfl ?_
   exact fin _ _ none none rfl c_6
  ·dsimp only [cA,nA]
   exact fin _ _ none none rfl (.refl _ _)
structure Hds (hd hr:Nat) (T:TH):Prop where
 hd:T[hd]?=some (.hd,.inst 4 [.obj hr])
 hr:T[hr]?=some (.hr,.list [])
theorem Hds.chg {X:Nat→K→Prop} {hd hr:Nat} {T T':TH} (H:Hds hd hr T) (c:Chg X T T') (n:∀ i,¬ X i .hd∧¬ X i .hr):Hds hd hr T':=⟨c.get H.hd (n _).1,c.get H.hr (n _).2⟩
theorem nk {ks:List K} {k:K} {i:Nat} (h:k∉ks:=by decide):¬ ksX ks i k:=h
theorem sp_strong {hd hr:Nat} (hn:1≤n) (H:Hds hd hr T) (k:∀ i T',T[i]?=none→T'[i]?=some (.real,.list [])→Chg noX T T'→Q (.obj i) T'):Y (CN n 34 [.obj hd] (hpOf T)) Q:=by
 obtain⟨n,rfl,_⟩:=down hn
 obtain⟨h1,h2⟩:=H
 refine call_fn (fd:=fd_strong_values) (by rfl) (by rfl) ?_
 show SV _ [some (.obj hd),none,none] _ _ _
 unfold fd_strong_values
 k_ownIn
 refine AnyK.mk .real ?_
 k_ownIn
 refine HandS.intro (SV.forU ?_)
 k_ownIn
 refine FV.done (by k_caughtNB) rfl ?_
 k_ownIn
 exact k _ _ (by assumption) (by assumption) (by assumption)
theorem sp_clear {hd hr:Nat} {a b c d:V} (hn:1≤n) (H:Hds hd hr T) (k:Q (.int 0) T):Y (CN n 35 [.obj hd,a,b,c,d] (hpOf T)) Q:=by
 obtain⟨n,rfl,_⟩:=down hn
 obtain⟨h1,h2⟩:=H
 refine call_fn (fd:=fd_clear_handles) (by rfl) (by rfl) ?_
 show SV _ [some (.obj hd),some a,some b,some c,some d,none,none] _ _ _
 unfold fd_clear_handles
 k_ownIn
 refine HandS.intro (SV.forU ?_)
 k_ownIn
 refine FV.done (by k_caughtNB) rfl ?_
 k_ownIn
 exact k
theorem sp_moveh {hd hr:Nat} {a:V} (hn:1≤n) (H:Hds hd hr T) (k:Q .none T):Y (CN n 36 [.obj hd,a] (hpOf T)) Q:=by
 obtain⟨n,rfl,_⟩:=down hn
 obtain⟨h1,h2⟩:=H
 refine call_fn (fd:=fd_move_handles) (by rfl) (by rfl) ?_
 show SV _ [some (.obj hd),some a,none] _ _ _
 unfold fd_move_handles
 k_ownIn
 refine HandS.intro (SV.forU ?_)
 k_ownIn
 refine FV.done (by k_caughtNB) rfl ?_
 k_ownIn
 exact k
theorem HB.hpPut {h h':Hid} {ts:List Th} {f f':Hn} {T T':TH} (b:HB h ts f T) (c:Chg (oneX h.hp) T T') (hh:T'[h.hp]?=some (.hp,hpObj h' f' (endOf ts))) (e:h'.hp=h.hp) (e1:T'[h'.tl]?=some (.tl,.list (ts.map fun t=>.obj t.tid))) (e2:T'[h'.at_]?=some (.at_,.di (atOf ts)))
  (e3:T'[h'.cd]?=some (.cd,.di [])) (e4:T'[h'.fin]?=some (.fin,.list [])) (e5:T'[h'.rdy]?=some (.real,.list [])):HB h' ts f' T' :=
 ⟨e▸hh,e1,e2,e3,e4,e5,fun t ht=>c.otherK (b.th t ht) hh⟩
theorem sp_pick {h:Hid} {ts:List Th} {f:Hn} {a b:V} (hn:1≤n) (hb:HB h ts f T) (k:∀ i j T',T[i]?=none→T'[i]?=some (.tmp 371,.list [])→HB {h with fin:=j} ts f T'→Chg (ksX [.hp]) T T'→Q (.obj i) T'):Y (CN n 37 [.obj h.hp,a,b] (hpOf T)) Q:=by
 obtain⟨n,rfl,_⟩:=down hn
 have hb':=hb
 obtain⟨b1,b2,b3,b4,b5,b6,b7⟩:=hb
 refine call_fn (fd:=fd_pick_finals) (by rfl) (by rfl) ?_
 show SV _ [some (.obj h.hp),some a,some b,none,none,none] _ _ _
 unfold fd_pick_finals
 unfold hpObj at b1
 k_ownIn
 refine AnyK.mk .fin ?_
 refine EVs.go ?_
 conv=>whnf
 refine NewY.intro ?_
 intro j T1 hn_1 h_1 c_1
 k_ownIn
 refine AnyK.mk (.tmp 371) ?_
 refine EVs.go ?_
 conv=>whnf
 refine NewY.intro ?_
 intro i T2 hn_2 h_2 c_2
 have hb2:=hb'.keep0 (c_1.tr c_2)
 have j_2:=c_2.keep h_1
 k_ownIn
 refine HandS.intro (SV.forU ?_)
 k_ownIn
 refine FV.done (by k_caughtNB) rfl ?_
 refine SV.go ?_
 conv=>whnf
 k_ownIn
 rename_i T3 h_3 c_3
 refine k i j T3 (none_back hn_2 (c_1.weaken fun _ _ _=>trivial)) (by k_caughtNB) (hb2.hpPut c_3 (by simpa [hpObj] using h_3) rfl (by k_caughtNB) (by k_caughtNB) (by k_caughtNB) (by k_caughtNB) ?_) (by k_caughtB)
 exact c_3.otherK hb2.rdy h_3
theorem sp_rootl {h:Hid} {ts:List Th} {f:Hn} {hd hr lo:Nat} {rows:List Nat} (hn:2≤n) (hb:HB h ts f T) (H:Hds hd hr T) (hlo:T[lo]?=some (.tmp 540,.list (rows.map .obj))) (hlen:rows.length≤50000)
  (k:∀ i sv T',T[i]?=none→T'[i]?=some (.tmp 510,.list ((rows++[h.rdy,sv]).map .obj))→T'[sv]?=some (.real,.list [])→Chg noX T T'→Q (.obj i) T'):Y (CN n 51 [.obj h.hp,.obj lo,.obj hd] (hpOf T)) Q:=by
 obtain⟨n,rfl,_⟩:=down hn
 refine call_fn (fd:=fd_root_lists) (by rfl) (by rfl) ?_
 show SV _ [some (.obj h.hp),some (.obj lo),some (.obj hd),none,none] _ _ _
 unfold fd_root_lists
 k_ownIn
 refine AnyK.mk (.tmp 510) ?_
 refine EVs.go ?_
 conv=>whnf
 refine NewY.intro ?_
 intro i T1 hn_1 h_1 c_1
 k_ownIn
 refine HandS.intro (SV.forI (fun j ρ T'=>∃ x:Option V,ρ=[some (.obj h.hp),some (.obj lo),some (.obj hd),some (.obj i),x]∧T'[i]?=some (.tmp 510,.list ((rows.take j).map .obj))∧Chg (oneX i) T1 T') ?_)
 k_ownIn
 refine⟨⟨none,rfl,by simpa using h_1,.refl _ _⟩,?_,?_⟩
 ·rintro j v ρ T' hv ⟨x,rfl,hi,c'⟩ ho
  rw [gM] at hv
  obtain⟨r,hr',rfl⟩:=Option.map_eq_some_iff.mp hv
  refine GetY.mk rfl ?_
  k_ownIn
  refine⟨by simp;unfold limit;omega,?_⟩
  refine PutY.intro ?_
  intro T2 h_2 c_2
  k_ownIn
  refine⟨⟨_,rfl,?_,c'.tr c_2⟩,c_2.otherK ho h_2⟩
  rw [h_2,tO,hr',mP]
  rfl
 ·rintro ρ T' ⟨x,rfl,hi,c'⟩ ho
  rw [lM,tL] at hi
  have c1':Chg noX T T':=c'.fresh c_1 hn_1
  have hb':=hb.keep0 c1'
  have H':=H.chg c1' fun _=>⟨id,id⟩
  have hh:=hb'.hp
  unfold hpObj at hh
  k_ownIn
  refine⟨by simp;unfold limit;omega,?_⟩
  refine PutY.intro ?_
  intro T2 h_2 c_2
  have c2':Chg noX T T2:=c_2.fresh c1' hn_1
  have H2:=H.chg c2' fun _=>⟨id,id⟩
  k_ownIn
  refine sp_strong (by omega) H2 fun sv T3 hn3 h_3 c_3=>?_
  have h_2':=c_3.keep h_2
  k_ownIn
  refine⟨by simp;unfold limit;omega,?_⟩
  refine PutY.intro ?_
  intro T4 h_4 c4
  k_ownIn
  refine k i sv T4 hn_1 ?_ (c4.otherK h_3 h_4) (c4.fresh (c2'.tr c_3) hn_1)
  rw [h_4]
  simp
theorem sp_more {h:Hid} {ts:List Th} {f:Hn} {mk lo:Nat} {ms:List Th} {gen:Nat} {P:Th→Prop} (hn:5≤n) (hb:HB h ts f T) (hmk:T[mk]?=some (.tmp 280,.di (marksL ms))) (hlo:T[lo]?=some (.tmp 371,.list [])) (S:SL ts T) (hp:Packed 16 ts) (hsr:Sers ts)
  (hlim:ts.length≤30000) (hok:∀ t∈ts,∀ s∈t.specs,s.Ok ts) (hP:Closed P ts) (h1:Mk1 gen ts P (ms,[])) (h2:∀ u∈ms,∀ s∈u.specs,ClS gen ts ms s)
  (k:∀ ms' T',T'[mk]?=some (.tmp 280,.di (marksL ms'))→Mk1 gen ts P (ms',[])→(∀ u∈ms',∀ s∈u.specs,ClS gen ts ms' s)→(∀ m∈ms,m∈ms')→Chg (oneX mk) T T'→Q .none T'):Y (CN n 29 [.obj h.hp,.obj mk,.obj lo,.int gen] (hpOf T)) Q:=by
 obtain⟨n,rfl,_⟩:=down hn
 refine call_fn (fd:=fd_reach_more) (by rfl) (by rfl) ?_
 show SV _ [some (.obj h.hp),some (.obj mk),some (.obj lo),some (.int gen),none,none] _ _ _
 unfold fd_reach_more
 k_ownIn
 refine AnyK.mk (.tmp 291) ?_
 refine EVs.go ?_
 conv=>whnf
 refine NewY.intro ?_
 intro wk T1 hn_1 h_1 c_1
 have M1:MK h ts f mk wk (ms,[]) T1:=⟨hb.keep0 c_1,c_1.keep hmk,_,.inr rfl,h_1⟩
 have S1:SL ts T1:=fun t ht=>c_1.keep (S t ht)
 k_ownIn
 refine HandS.intro (SV.forU ?_)
 k_ownIn
 refine FV.done (by k_caughtNB) rfl ?_
 k_ownIn
 refine sp_drain (by omega) M1 S1 hp hsr hlim hok hP h1 (fun u hu _=>h2 u hu) fun p T2 M2 e_2 g1 g2 g3 c_2=>?_
 obtain⟨p1,p2⟩:=p
 dsimp only at e_2
 subst e_2
 k_ownIn
 refine k p1 T2 M2.mks g1 g2 g3 (c_1.trans c_2 (fun _ _ _ _ q=>q.elim) fun j kk o hj q=>?_)
 rcases q with q|q
 ·exact q
 ·rw [q,hn_1] at hj;cases hj
set_option maxHeartbeats 1000000 in
theorem sp_living {h:Hid} {ts:List Th} {f:Hn} {hd hr lo:Nat} {rows:List (Nat×List Spec)} {gen:Nat} {P:Th→Prop} (hn:6≤n) (hb:HB h ts f T) (H:Hds hd hr T) (S:SL ts T) (hp:Packed 16 ts) (hsr:Sers ts) (hlim:ts.length≤30000) (hok:∀ t∈ts,∀ s∈t.specs,s.Ok ts) (hlen:∀ t∈ts,t.specs.length≤1000)
  (R:RowsAt ts rows T) (hlo:T[lo]?=some (.tmp 540,.list (rows.map fun r=>.obj r.1))) (hrl:rows.length≤50000) (hP:Closed P ts) (hP0:∀ r∈rows,∀ s∈r.2,∀ v,tgt ts s=some v→P v)
  (k:∀ mk ms j T',T[mk]?=none→T'[mk]?=some (.tmp 280,.di (marksL ms))→Mk1 gen ts P (ms,[])→(∀ u∈ms,∀ s∈u.specs,ClS gen ts ms s)→(∀ r∈rows,∀ s∈r.2,ClS gen ts ms s)→HB {h with fin:=j} ts f T'→Chg (ksX [.hp]) T T'→Q (.obj mk) T') :
  Y (CN n 52 [.obj h.hp,.obj lo,.obj hd,.int gen] (hpOf T)) Q:=by
 obtain⟨n,rfl,_⟩:=down hn
 refine call_fn (fd:=fd_find_living) (by rfl) (by rfl) ?_
 show SV _ [some (.obj h.hp),some (.obj lo),some (.obj hd),some (.int gen),none,none] _ _ _
 unfold fd_find_living
 k_ownIn
 refine sp_rootl (rows:=rows.map (·.1)) (by omega) hb H (by rw [hlo,mQ];rfl) (by simpa using hrl) fun i sv T1 hn_1 h_1 hsv c_1=>?_
 k_ownIn
 have hb1:=hb.keep0 c_1
 have S1:SL ts T1:=fun t ht=>c_1.keep (S t ht)
 have R1:RowsAt ts (rows++[(h.rdy,[]),(sv,[])]) T1:=by
  refine⟨fun r hr'=>?_,fun r hr'=>?_⟩
  ·rcases mA.mp hr' with q|q
   ·exact c_1.keep (R.at_ r q)
   ·simp only [mK,nM,or_false] at q
    rcases q with rfl|rfl
    ·exact hb1.rdy
    ·exact hsv
  ·rcases mA.mp hr' with q|q
   ·exact R.ok r q
   ·simp only [mK,nM,or_false] at q
    rcases q with rfl|rfl<;>exact fun _ q=>nomatch q
 refine sp_mark (by omega) hb1 S1 hp hsr hlim hok hlen R1 (lo:=i) (by rw [h_1];simp) hP (fun r hr' s hs v hv=>?_) fun mk ms T2 hn_2 h_2 g1 g2 g3 c_2=>?_
 ·rcases mA.mp hr' with q|q
  ·exact hP0 r q s hs v hv
  ·simp only [mK,nM,or_false] at q
   rcases q with rfl|rfl<;>cases hs
 ·have c12:=c_1.tr c_2
  have hb2:=hb1.keep0 c_2
  have H2:=H.chg c12 fun _=>⟨id,id⟩
  have hmk1:T[mk]?=none:=none_back hn_2 (c_1.weaken fun _ _ q=>q.elim)
  k_ownIn
  refine sp_clear (by omega) H2 ?_
  k_ownIn
  refine sp_pick (by omega) hb2 fun i_3 j_3 T3 hn3 h_3 hb3 c_3=>?_
  have hmk3:=c_3.get h_2 nk
  have S3:SL ts T3:=fun t ht=>c_3.get (c_2.keep (S1 t ht)) nk
  have H3:=H2.chg c_3 fun _=>⟨nk,nk⟩
  k_ownIn
  refine sp_more (h:={h with fin:=j_3}) (by omega) hb3 hmk3 h_3 S3 hp hsr hlim hok hP g1 g2 fun ms' T4 h_4 f1 f2 f3 c4=>?_
  have H_4:=Hds.mk (c4.otherK H3.hd h_4) (c4.otherK H3.hr h_4)
  k_ownIn
  refine sp_clear (by omega) H_4 ?_
  k_ownIn
  exact k mk ms' j_3 T4 hmk1 h_4 f1 f2 (fun r hr' s hs=>(g3 r (mL _ hr') s hs).more f3) (hb3.off hmk3 (by decide) c4) (c4.fresh (c12.trans c_3 (fun _ _ _ _ q=>q.elim) fun _ _ _ _ q=>q) hmk1)
structure MV (h:Hid) (ts:List Th) (f:Hn) (mv wo:Nat) (ml:List (Int×V)) (T:TH):Prop where
 hb:HB h ts f T
 mvs:T[mv]?=some (.tmp 390,.di ml)
 wos:T[wo]?=some (.tmp 500,.inst 3 [.obj h.hp,.obj mv])
def mvd (ml:List (Int×V)) (a a':Nat):Prop:=(dget ml (a:Int)).getD (.int a)=.int a'
theorem sp_mword {h:Hid} {ts:List Th} {f:Hn} {mv wo:Nat} {ml:List (Int×V)} {t:Th} {d a':Nat} {word:Int} (hn:2≤n) (M:MV h ts f mv wo ml T) (hp:Packed 16 ts) (hlim:ts.length≤50000) (ht:t∈ts) (hd:d<t.size) (hw:word=((t.addr+d:Nat):Int)) (ha:mvd ml t.addr a')
  (k:Q (.int ((a'+d:Nat):Int)) T):Y (CN n 42 [.obj h.hp,.obj mv,.int word] (hpOf T)) Q:=by
 obtain⟨n,rfl,_⟩:=down hn
 obtain⟨hb,hm,hw'⟩:=M
 have hth:=hb.th t ht
 unfold Th.obj at hth
 refine call_fn (fd:=fd_moved_word) (by rfl) (by rfl) ?_
 show SV _ [some (.obj h.hp),some (.obj mv),some (.int word),none] _ _ _
 unfold fd_moved_word
 k_ownIn
 refine sp_find (by omega) hb hp.apart ht hd hw hlim ?_
 k_ownIn
 refine CmpY.nmem_di hm ?_
 unfold mvd at ha
 cases q:dget ml (t.addr:Int) with
 | none =>
  rw [q] at ha
  have ha:(t.addr:Int)=a':=by cases ha;rfl
  k_ownIn
  rw [hw,show t.addr=a' by omega]
  exact k
 | some v =>
  rw [q] at ha
  have ha:v=.int a':=ha
  subst ha
  k_ownIn
  refine IdxY.di hm q ?_
  k_ownIn
  rw [hw,show ((t.addr+d:Nat):Int)-(t.addr:Int)+(a':Int)=((a'+d:Nat):Int) by omega]
  exact k
theorem sp_nword {h:Hid} {ts:List Th} {f:Hn} {mv wo:Nat} {ml:List (Int×V)} {t:Th} {d a':Nat} {word:Int} (hn:3≤n) (M:MV h ts f mv wo ml T) (hp:Packed 16 ts) (hlim:ts.length≤50000) (ht:t∈ts) (hd:d<t.size) (hw:word=((t.addr+d:Nat):Int)) (ha:mvd ml t.addr a')
  (k:Q (.int ((a'+d:Nat):Int)) T):Y (CN n 41 [.obj wo,.int word] (hpOf T)) Q:=by
 obtain⟨n,rfl,_⟩:=down hn
 have hw':=M.wos
 refine call_fn (fd:=fd_Words_new_word) (by rfl) (by rfl) ?_
 show SV _ [some (.obj wo),some (.int word)] _ _ _
 unfold fd_Words_new_word
 k_ownIn
 refine sp_mword (by omega) M hp hlim ht hd hw ha ?_
 k_ownIn
 exact k
theorem sp_plain_ref {mv wo:Nat} {ml:List (Int×V)} {a a':Nat} (hn:1≤n) (hm:T[mv]?=some (.tmp 390,.di ml)) (ha:mvd ml a a') (k:Q (refV a') T):Y (CN n 21 [refV a,.obj mv,.obj wo] (hpOf T)) Q:=by
 obtain⟨n,rfl,_⟩:=down hn
 refine call_fn (fd:=fd_move_plain) (by rfl) (by rfl) ?_
 show SV _ [some (.tup [.int 4,.int a]),some (.obj mv),some (.obj wo),none] _ _ _
 unfold fd_move_plain
 k_ownIn
 refine HandE.intro (EV.get2 ?_)
 k_ownIn
 rw [ha]
 exact k
theorem sp_plain_no {mv wo:Nat} {c:Int} {l:List V} (hn:1≤n) (hc:c≠4∧c≠6) (k:Q (.tup (.int c::l)) T):Y (CN n 21 [.tup (.int c::l),.obj mv,.obj wo] (hpOf T)) Q:=by
 obtain⟨n,rfl,_⟩:=down hn
 refine call_fn (fd:=fd_move_plain) (by rfl) (by rfl) ?_
 show SV _ [some (.tup (.int c::l)),some (.obj mv),some (.obj wo),none] _ _ _
 unfold fd_move_plain
 have:=hc.1
 have:=hc.2
 k_ownIn
 exact k
theorem sp_plain_loc {mv wo:Nat} {l:List V} (hn:1≤n) (k:Q (.tup [.int 6,.tup (.int 1::l)]) T):Y (CN n 21 [.tup [.int 6,.tup (.int 1::l)],.obj mv,.obj wo] (hpOf T)) Q:=by
 obtain⟨n,rfl,_⟩:=down hn
 refine call_fn (fd:=fd_move_plain) (by rfl) (by rfl) ?_
 show SV _ [some (.tup [.int 6,.tup (.int 1::l)]),some (.obj mv),some (.obj wo),none] _ _ _
 unfold fd_move_plain
 k_ownIn
 exact k
theorem sp_plain_place {h:Hid} {ts:List Th} {f:Hn} {mv wo:Nat} {ml:List (Int×V)} {t:Th} {m a':Nat} (hn:4≤n) (M:MV h ts f mv wo ml T) (hp:Packed 16 ts) (hlim:ts.length≤50000) (ht:t∈ts) (hd:2+m<t.size) (ha:mvd ml t.addr a')
  (k:Q (placeV m a') T):Y (CN n 21 [placeV m t.addr,.obj mv,.obj wo] (hpOf T)) Q:=by
 obtain⟨n,rfl,_⟩:=down hn
 have hwo:=M.wos
 refine call_fn (fd:=fd_move_plain) (by rfl) (by rfl) ?_
 show SV _ [some (placeV m t.addr),some (.obj mv),some (.obj wo),none] _ _ _
 unfold fd_move_plain placeV
 k_ownIn
 refine sp_nword (by omega) M hp hlim ht hd (by omega) ha ?_
 k_ownIn
 unfold placeV at k
 rw [show ((a':Int)+2+m)=((a'+(2+m):Nat):Int) by omega] at k
 exact k
set_option maxHeartbeats 1000000 in
theorem sp_mstruct_pair {mv wo:Nat} {ml:List (Int×V)} {m a a':Nat} (hn:2≤n) (hm:T[mv]?=some (.tmp 390,.di ml)) (ha:mvd ml a a') (k:∀ T',Chg noX T T'→Q (pairV m a') T'):Y (CN n 22 [pairV m a,.obj mv,.obj wo] (hpOf T)) Q:=by
 obtain⟨n,rfl,_⟩:=down hn
 refine call_fn (fd:=fd_move_struct) (by rfl) (by rfl) ?_
 show SV _ [some (pairV m a),some (.obj mv),some (.obj wo),none,none,none,none,none] _ _ _
 unfold fd_move_struct pairV
 k_updF
 refine AnyK.mk (.tmp 220) ?_
 k_updF
 refine AnyK.mk (.tmp 221) ?_
 k_updF
 refine sp_plain_no (by omega) (by decide) ?_
 k_updF
 refine sp_plain_ref (ml:=ml) (by omega) (by k_caughtNB) ha ?_
 k_updF
 exact k _ (by k_caughtB)
set_option maxHeartbeats 1000000 in
theorem sp_mstruct_outer {mv wo:Nat} {ml:List (Int×V)} {m a a':Nat} (hn:2≤n) (hm:T[mv]?=some (.tmp 390,.di ml)) (ha:mvd ml a a') (k:∀ T',Chg noX T T'→Q (outerV m a') T'):Y (CN n 22 [outerV m a,.obj mv,.obj wo] (hpOf T)) Q:=by
 obtain⟨n,rfl,_⟩:=down hn
 refine call_fn (fd:=fd_move_struct) (by rfl) (by rfl) ?_
 show SV _ [some (outerV m a),some (.obj mv),some (.obj wo),none,none,none,none,none] _ _ _
 unfold fd_move_struct outerV pairV
 k_updF
 refine AnyK.mk (.tmp 220) ?_
 k_updF
 refine AnyK.mk (.tmp 221) ?_
 k_updF
 refine AnyK.mk (.tmp 222) ?_
 k_updF
 refine sp_plain_no (by omega) (by decide) ?_
 k_updF
 refine sp_plain_ref (ml:=ml) (by omega) (by k_caughtNB) ha ?_
 k_updF
 refine sp_plain_no (by omega) (by decide) ?_
 k_updF
 exact k _ (by k_caughtB)
theorem sp_move {h:Hid} {ts:List Th} {f:Hn} {mv wo:Nat} {ml:List (Int×V)} {s:Spec} {a':Nat} (hn:5≤n) (M:MV h ts f mv wo ml T) (hp:Packed 16 ts) (hsr:Sers ts) (hlim:ts.length≤50000) (hs:s.Ok ts) (ha:mvd ml ((tgt ts s).elim 0 Th.addr) a')
  (k:∀ T',Chg noX T T'→Q (s.valA a') T'):Y (CN n 20 [s.val (whOf ts),.obj mv,.obj wo] (hpOf T)) Q:=by
 obtain⟨n,rfl,_⟩:=down hn
 rw [val_tgt]
 refine call_fn (fd:=fd_move_value) (by rfl) (by rfl) ?_
 show SV _ [some (s.valA ((tgt ts s).elim 0 Th.addr)),some (.obj mv),some (.obj wo)] _ _ _
 unfold fd_move_value
 have hm:=M.mvs
 have hpl:s.form=1→∃ t∈ts,tgt ts s=some t∧2+s.n<t.size:=fun q=>by
  obtain⟨_,t,ht,e,h⟩:=hs.one (hs.place q)
  exact⟨t,ht,tgt_of hsr (hs.place q) ht e,by unfold Th.size;have:=h q;omega⟩
 generalize hA:(tgt ts s).elim 0 Th.addr=A at *
 have hpl':s.form=1→∃ t∈ts,t.addr=A∧2+s.n<t.size:=fun q=>by
  obtain⟨t,ht,e,h⟩:=hpl q
  rw [e] at hA
  exact⟨t,ht,hA,h⟩
 clear hpl hA hs
 obtain⟨form,one,m⟩:=s
 unfold Spec.valA at k ⊢
 rcases form with _|_|_|_|_|_|_|form
 ·show SV _ [some (refV A),some (.obj mv),some (.obj wo)] _ _ _
  unfold refV
  k_ownIn
  exact sp_plain_ref (by omega) hm ha (k _ (.refl _ _))
 ·obtain⟨t,ht,rfl,h⟩:=hpl' rfl
  show SV _ [some (placeV m t.addr),some (.obj mv),some (.obj wo)] _ _ _
  unfold placeV
  k_ownIn
  exact sp_plain_place (by omega) M hp hlim ht h ha (k _ (.refl _ _))
 ·show SV _ [some (pairV m A),some (.obj mv),some (.obj wo)] _ _ _
  unfold pairV
  k_ownIn
  exact sp_mstruct_pair (by omega) hm ha k
 ·show SV _ [some (outerV m A),some (.obj mv),some (.obj wo)] _ _ _
  unfold outerV
  k_ownIn
  exact sp_mstruct_outer (by omega) hm ha k
 ·show SV _ [some (.tup [.int 1,.int (16+m)]),some (.obj mv),some (.obj wo)] _ _ _
  k_ownIn
  exact sp_plain_no (by omega) (by decide) (k _ (.refl _ _))
 ·show SV _ [some (.tup [.int 6,.tup [.int 1,.int 1,.int m,.tup []]]),some (.obj mv),some (.obj wo)] _ _ _
  k_ownIn
  exact sp_plain_loc (by omega) (k _ (.refl _ _))
 ·show SV _ [some (.tup [.int 7,.tup [.int 16,.int (1+m),.tup []]]),some (.obj mv),some (.obj wo)] _ _ _
  k_ownIn
  exact sp_plain_no (by omega) (by decide) (k _ (.refl _ _))
 ·show SV _ [some (.tup [.int 8,.str (words m)]),some (.obj mv),some (.obj wo)] _ _ _
  k_ownIn
  exact sp_plain_no (by omega) (by decide) (k _ (.refl _ _))
theorem Packed.split:∀ {a:List Th} {t:Th} {b:List Th} {g:Nat},Packed g (a++t::b)→t.addr=g+(a.map Th.size).sum
 | [],t,b,g,h=>h.1
 | u::a,t,b,g,h=>by
  have:=h.2.split
  rw [this,mC,List.sum_cons];omega
theorem sp_endold {h:Hid} {os rs:List Th} {f:Hn} {gen:Nat} (hn:1≤n) (hb:HB h (os++rs) f T) (hp:Packed 16 (os++rs)) (ho:∀ t∈os,gen<t.age) (hr:∀ t∈rs,t.age≤gen) (k:Q (.int (endOf os:Nat)) T):Y (CN n 38 [.obj h.hp,.int gen] (hpOf T)) Q:=by
 obtain⟨n,rfl,_⟩:=down hn
 have b1:=hb.hp
 have b2:=hb.tl
 refine call_fn (fd:=fd_end_of_older) (by rfl) (by rfl) ?_
 show SV _ [some (.obj h.hp),some (.int gen),none,none] _ _ _
 unfold fd_end_of_older
 unfold hpObj at b1
 k_ownIn
 refine HandS.intro (SV.forI (fun j ρ T'=>T'=T∧∃ x:Option V,ρ=[some (.obj h.hp),some (.int gen),some (.int (endOf (os.take j):Nat)),x]) ?_)
 k_ownIn
 refine⟨⟨rfl,none,rfl⟩,?_,?_⟩
 ·rintro j v ρ T' hv ⟨rfl,x,rfl⟩ ho'
  rw [gM] at hv
  obtain⟨t,ht,rfl⟩:=Option.map_eq_some_iff.mp hv
  have htm:=mG ht
  have hth:=hb.th t htm
  unfold Th.obj at hth
  refine GetY.mk rfl ?_
  k_ownIn
  rcases Nat.lt_or_ge j os.length with hj|hj
  ·rw [gL hj] at ht
   have hto:=ho t (mG ht)
   have hta:t.addr=endOf (os.take j):=by
    have e:os=os.take j++t::os.drop (j+1):=by
     obtain⟨h1,h2⟩:=gS.mp ht
     rw [←h2,←List.drop_eq_getElem_cons h1,List.take_append_drop]
    have h2:=hp
    rw [e,aA,cA] at h2
    rw [h2.split];rfl
   have hsz:=t.size_pos
   k_ownIn
   refine⟨⟨rfl,some (.obj t.tid),?_⟩,ho'⟩
   rw [tO,ht]
   have e2:endOf (os.take j++(some t).toList)=t.addr+t.size:=by
    rw [show (some t).toList=[t] from rfl,endOf_snoc,hta]
   rw [e2]
   rfl
  ·have htr:t∈rs:=by
    rw [gR hj] at ht
    exact mG ht
   have hto:=hr t htr
   k_ownIn
   refine⟨⟨rfl,some (.obj t.tid),?_⟩,ho'⟩
   rw [List.take_of_length_le hj,List.take_of_length_le (show os.length≤j+1 by omega)]
   rfl
 ·rintro ρ T' ⟨rfl,x,rfl⟩ ho'
  k_ownIn
  rw [List.take_of_length_le (by simp)]
  exact k
def mov:Nat→List Th→List (Int×V)
 | _,[]=>[]
 | g,t::r=>((t.addr:Int),.int g)::mov (g+t.size) r
theorem mov_snoc:∀ {ys:List Th} {g:Nat} {t:Th},mov g (ys++[t])=mov g ys++[((t.addr:Int),.int (g+(ys.map Th.size).sum:Nat))]
 | [],g,t=>by simp [mov]
 | u::ys,g,t=>by
  show (_,_)::mov (g+u.size) (ys++[t])=_
  rw [mov_snoc,mC,List.sum_cons]
  show _=((u.addr:Int),V.int g)::(mov (g+u.size) ys++_)
  rw [show g+u.size+(ys.map Th.size).sum=g+(u.size+(ys.map Th.size).sum) by omega]
theorem mov_mem:∀ {ys:List Th} {g:Nat} {p:Int×V},p∈mov g ys→∃ t∈ys,p.1=(t.addr:Int)
 | u::ys,g,p,h=>by
  rcases mK.mp h with rfl|h
  ·exact⟨u,.head _,rfl⟩
  ·obtain⟨t,ht,e⟩:=mov_mem h
   exact⟨t,.tail _ ht,e⟩
theorem mov_length:∀ {ys:List Th} {g:Nat},(mov g ys).length=ys.length
 | [],_=>rfl
 | _::ys,g=>congrArg (·+1) mov_length
def inY (gen:Nat) (ms:List Th) (t:Th):Bool:=decide (t.age≤gen)&&decide (t∈ms)
theorem sp_plan {h:Hid} {os rs ms:List Th} {f:Hn} {gen mk:Nat} (hn:2≤n) (hb:HB h (os++rs) f T) (hp:Packed 16 (os++rs)) (ho:∀ t∈os,gen<t.age) (hr:∀ t∈rs,t.age≤gen) (hlim:(os++rs).length≤50000)
  (hmk:T[mk]?=some (.tmp 280,.di (marksL ms))) (hms:∀ m∈ms,m∈os++rs) (k:∀ i T',T[i]?=none→T'[i]?=some (.tmp 390,.di (mov (endOf os) ((os++rs).filter (inY gen ms))))→Chg noX T T'→Q (.obj i) T') :
  Y (CN n 39 [.obj h.hp,.obj mk,.int gen] (hpOf T)) Q:=by
 obtain⟨n,rfl,_⟩:=down hn
 refine call_fn (fd:=fd_plan_moves) (by rfl) (by rfl) ?_
 show SV _ [some (.obj h.hp),some (.obj mk),some (.int gen),none,none,none] _ _ _
 unfold fd_plan_moves
 k_ownIn
 refine AnyK.mk (.tmp 390) ?_
 refine NewY.intro ?_
 intro i T1 hn_1 h_1 c_1
 k_ownIn
 have hb1:=hb.keep0 c_1
 refine sp_endold (by omega) hb1 hp ho hr ?_
 have b1:=hb1.hp
 unfold hpObj at b1
 have b2:=hb1.tl
 have hmk1:=c_1.keep hmk
 k_ownIn
 refine HandS.intro (SV.forI (fun j ρ T'=>∃ x:Option V,ρ=[some (.obj h.hp),some (.obj mk),some (.int gen),some (.obj i),some (.int (endOf os+((((os++rs).take j).filter (inY gen ms)).map Th.size).sum:Nat)),x] ∧
  T'[i]?=some (.tmp 390,.di (mov (endOf os) (((os++rs).take j).filter (inY gen ms))))∧Chg noX T T') ?_)
 k_ownIn
 refine⟨⟨none,by simp,by simpa [mov] using h_1,c_1⟩,?_,?_⟩
 ·rintro j v ρ T' hv ⟨x,rfl,hi,c'⟩ ho'
  rw [gM] at hv
  obtain⟨t,ht,rfl⟩:=Option.map_eq_some_iff.mp hv
  have htm:=mG ht
  have hth:=c'.keep (hb.th t htm)
  have hth':=hth
  unfold Th.obj at hth
  have hmk':=c'.keep hmk
  have htk:(os++rs).take (j+1)=(os++rs).take j++[t]:=by rw [tO,ht];rfl
  refine GetY.mk rfl ?_
  k_ownIn
  by_cases h1:t.age≤gen
  ·refine⟨fun _=>?_,fun hb'=>by simp at hb';omega⟩
   k_ownIn
   refine CmpY.mem_di hmk' ?_
   rw [dget_marks hp.apart htm hms]
   by_cases h2:t∈ms
   ·rw [decide_eq_true h2]
    have hy:inY gen ms t=true:=by simp [inY,h1,h2]
    k_ownIn
    refine IdxPut.di hi (by rw [mov_length];have:=List.length_filter_le (inY gen ms) ((os++rs).take j);have:=(tS j (os++rs)).length_le;unfold limit;omega) ?_
    rw [dput_new fun p hp'=>by
     obtain⟨u,hu,e⟩:=mov_mem hp'
     rw [e]
     intro q
     have q:u.addr=t.addr:=by omega
     have hu':=(List.mem_filter.mp hu).1
     obtain⟨a,ha⟩:=gO hu'
     have halt:a<j:=by
      have:=(gS.mp ha).1
      rw [lT] at this;omega
     rw [List.getElem?_take_of_lt halt] at ha
     have:=apart_lt hp.apart ha ht halt
     have:=u.size_pos
     omega]
    refine PutY.intro ?_
    intro T2 h_2 c_2
    have hth2:=c_2.otherK hth h_2
    k_ownIn
    refine⟨⟨some (.obj t.tid),?_,?_,c_2.fresh c' hn_1⟩,c_2.otherK ho' h_2⟩
    ·rw [htk,fA,mP,List.sum_append]
     simp [hy]
     omega
    ·rw [h_2,htk,fA]
     have:List.filter (inY gen ms) [t]=[t]:=by simp [hy]
     rw [this,mov_snoc]
   ·rw [decide_eq_false h2]
    have hy:inY gen ms t=false:=by simp [inY,h2]
    k_ownIn
    refine⟨⟨some (.obj t.tid),?_,?_,c'⟩,ho'⟩
    ·rw [htk,fA];simp [hy]
    ·rw [hi,htk,fA];simp [hy]
  ·have hy:inY gen ms t=false:=by simp [inY,h1]
   k_ownIn
   refine⟨⟨some (.obj t.tid),?_,?_,c'⟩,ho'⟩
   ·rw [htk,fA];simp [hy]
   ·rw [hi,htk,fA];simp [hy]
 ·rintro ρ T' ⟨x,rfl,hi,c'⟩ ho'
  rw [lM,tL] at hi
  k_ownIn
  exact k i T' hn_1 hi c'
theorem MV.keep0 {h:Hid} {ts:List Th} {f:Hn} {mv wo:Nat} {ml:List (Int×V)} {T T':TH} (M:MV h ts f mv wo ml T) (c:Chg noX T T'):MV h ts f mv wo ml T':=⟨M.hb.keep0 c,c.keep M.mvs,c.keep M.wos⟩
def newV (na:Spec→Nat) (l:List Spec):List V:=l.map fun s=>s.valA (na s)
theorem sp_mvals {h:Hid} {ts:List Th} {f:Hn} {mv wo vl:Nat} {kk:K} {ml:List (Int×V)} {specs:List Spec} {na:Spec→Nat} (hn:6≤n) (M:MV h ts f mv wo ml T) (hp:Packed 16 ts) (hsr:Sers ts) (hlim:ts.length≤50000) (hs:∀ s∈specs,s.Ok ts) (hsl:specs.length≤1000)
  (hvl:T[vl]?=some (kk,.list (specs.map (Spec.val (whOf ts))))) (ha:∀ s∈specs,mvd ml ((tgt ts s).elim 0 Th.addr) (na s)) (k:∀ i T',T[i]?=none→T'[i]?=some (.tmp 440,.list (newV na specs))→Chg noX T T'→Q (.obj i) T') :
  Y (CN n 44 [.obj vl,.obj mv,.obj wo] (hpOf T)) Q:=by
 obtain⟨n,rfl,_⟩:=down hn
 refine call_fn (fd:=fd_moved_values) (by rfl) (by rfl) ?_
 show SV _ [some (.obj vl),some (.obj mv),some (.obj wo),none,none] _ _ _
 unfold fd_moved_values
 k_ownIn
 refine AnyK.mk (.tmp 440) ?_
 refine EVs.go ?_
 conv=>whnf
 refine NewY.intro ?_
 intro i T1 hn_1 h_1 c_1
 k_ownIn
 refine HandS.intro (SV.forI (fun j ρ T'=>∃ x:Option V,ρ=[some (.obj vl),some (.obj mv),some (.obj wo),some (.obj i),x]∧T'[i]?=some (.tmp 440,.list (newV na (specs.take j)))∧Chg noX T T') ?_)
 k_ownIn
 refine⟨⟨none,rfl,by simpa [newV] using h_1,c_1⟩,?_,?_⟩
 ·rintro j v ρ T' hv ⟨x,rfl,hi,c'⟩ ho'
  rw [gM] at hv
  obtain⟨s,hs',rfl⟩:=Option.map_eq_some_iff.mp hv
  have hsm:=mG hs'
  refine GetY.mk rfl ?_
  k_ownIn
  refine sp_move (by omega) (M.keep0 c') hp hsr hlim (hs s hsm) (ha s hsm) fun T2 c_2=>?_
  have hi2:=c_2.keep hi
  k_ownIn
  refine⟨by have:=List.length_take_le j specs;have:=(tS j specs).length_le;simp [newV];unfold limit;omega,?_⟩
  refine PutY.intro ?_
  intro T3 h_3 c_3
  have c3':Chg noX T T3:=c_3.fresh (c'.tr c_2) hn_1
  k_ownIn
  refine⟨⟨_,rfl,?_,c3'⟩,c3'.keep hvl⟩
  rw [h_3,tO,hs']
  simp [newV]
 ·rintro ρ T' ⟨x,rfl,hi,c'⟩ ho'
  rw [lM,tL] at hi
  k_ownIn
  exact k i T' hn_1 hi c'
abbrev Row:=Nat×K×List Spec
def RowsIs (wh:Nat→Nat) (rows:List Row) (T:TH):Prop:=∀ r∈rows,T[r.1]?=some (r.2.1,.list (r.2.2.map (Spec.val wh)))
theorem sp_nlists {h:Hid} {ts:List Th} {f:Hn} {mv wo lo:Nat} {kk:K} {ml:List (Int×V)} {rows:List Row} {na:Spec→Nat} (hn:7≤n) (M:MV h ts f mv wo ml T) (hp:Packed 16 ts) (hsr:Sers ts) (hlim:ts.length≤50000) (hs:∀ r∈rows,∀ s∈r.2.2,s.Ok ts) (hsl:∀ r∈rows,r.2.2.length≤1000)
  (hrl:rows.length≤50000) (R:RowsIs (whOf ts) rows T) (hlo:T[lo]?=some (kk,.list (rows.map fun r=>.obj r.1))) (ha:∀ r∈rows,∀ s∈r.2.2,mvd ml ((tgt ts s).elim 0 Th.addr) (na s))
  (k:∀ (i:Nat) (is:List Nat) (T':TH),T[i]?=none→T'[i]?=some (.tmp 450,.list (is.map .obj))→is.length=rows.length→(∀ (j:Nat) r i',rows[j]?=some r→is[j]?=some i'→T'[i']?=some (.tmp 440,.list (newV na r.2.2)))→Chg noX T T'→Q (.obj i) T') :
  Y (CN n 45 [.obj lo,.obj mv,.obj wo] (hpOf T)) Q:=by
 obtain⟨n,rfl,_⟩:=down hn
 refine call_fn (fd:=fd_new_lists) (by rfl) (by rfl) ?_
 show SV _ [some (.obj lo),some (.obj mv),some (.obj wo),none,none] _ _ _
 unfold fd_new_lists
 k_ownIn
 refine AnyK.mk (.tmp 450) ?_
 refine EVs.go ?_
 conv=>whnf
 refine NewY.intro ?_
 intro i T1 hn_1 h_1 c_1
 k_ownIn
 refine HandS.intro (SV.forI (fun j ρ T'=>∃ (x:Option V) (is:List Nat),ρ=[some (.obj lo),some (.obj mv),some (.obj wo),some (.obj i),x]∧T'[i]?=some (.tmp 450,.list (is.map .obj))∧is.length=(rows.take j).length ∧
  (∀ (j':Nat) r i',(rows.take j)[j']?=some r→is[j']?=some i'→T'[i']?=some (.tmp 440,.list (newV na r.2.2)))∧Chg noX T T') ?_)
 k_ownIn
 refine⟨⟨none,[],rfl,h_1,by simp,fun j' r i' h _=>by simp at h,c_1⟩,?_,?_⟩
 ·rintro j v ρ T' hv ⟨x,is,rfl,hi,hil,hall,c'⟩ ho'
  rw [gM] at hv
  obtain⟨r,hr,rfl⟩:=Option.map_eq_some_iff.mp hv
  have hrm:=mG hr
  have hjl:=(gS.mp hr).1
  refine GetY.mk rfl ?_
  k_ownIn
  refine sp_mvals (by omega) (M.keep0 c') hp hsr hlim (hs r hrm) (hsl r hrm) (c'.keep (R r hrm)) (ha r hrm) fun i_2 T2 hn_2 h_2 c_2=>?_
  have hi2:=c_2.keep hi
  k_ownIn
  have hle:is.length=j:=by rw [hil,lT];omega
  refine⟨by simp;unfold limit;omega,?_⟩
  refine PutY.intro ?_
  intro T3 h_3 c_3
  have c3':Chg noX T T3:=c_3.fresh (c'.tr c_2) hn_1
  have htk:rows.take (j+1)=rows.take j++[r]:=by rw [tO,hr];rfl
  k_ownIn
  refine⟨⟨_,is++[i_2],rfl,?_,?_,fun j' r' i' h1 h2=>?_,c3'⟩,c3'.keep hlo⟩
  ·rw [h_3,mP];rfl
  ·rw [htk,lA,lA,hil];rfl
  ·rw [htk] at h1
   have hj':j'<j∨j'=j:=by
    have:=(gS.mp h2).1
    rw [lA,lS] at this;omega
   rcases hj' with q|q
   ·rw [gL (by rw [lT];omega)] at h1
    rw [gL (by omega)] at h2
    exact c_3.otherK (c_2.keep (hall j' r' i' h1 h2)) h_3
   ·subst q
    rw [gR (by rw [lT];omega)] at h1
    rw [gR (by omega)] at h2
    rw [show j'-(rows.take j').length=0 by rw [lT];omega] at h1
    rw [show j'-is.length=0 by omega] at h2
    simp at h1 h2
    subst h1;subst h2
    exact c_3.otherK h_2 h_3
 ·rintro ρ T' ⟨x,is,rfl,hi,hil,hall,c'⟩ ho'
  rw [lM,tL] at hil hall
  k_ownIn
  exact k i is T' hn_1 hi hil hall c'
theorem set_mid {α:Type} {a b:List α} {i:Nat} {v:α} (hl:a.length=b.length) (hv:a[i]?=some v):(a.take i++b.drop i).set i v=a.take (i+1)++b.drop (i+1):=by
 have hi:i<a.length:=(gS.mp hv).1
 have h1:(a.take i).length=i:=by rw [lT];omega
 rw [List.set_append_right _ _ (by omega),h1,Nat.sub_self,tO,hv]
 rw [List.drop_eq_getElem_cons (l:=b) (show i<b.length by omega),List.set_cons_zero]
 simp
abbrev rowX (rows:List Row):Nat→K→Prop:=fun i _=>∃ r∈rows,i=r.1
def rowNow (wh:Nat→Nat) (na:Spec→Nat) (new:Bool) (r:Row):O:=.list (if new then newV na r.2.2 else r.2.2.map (Spec.val wh))
theorem rowX_off {rows:List Row} {wh:Nat→Nat} {i:Nat} {k:K} {o:O} (R:RowsIs wh rows T) (hk:∀ r∈rows,r.2.1=.real∨r.2.1=.slots) (hi:T[i]?=some (k,o)) (h:k≠.real∧k≠.slots):¬ rowX rows i k:=by
 rintro⟨r,hr,rfl⟩
 have:=R r hr
 rw [this] at hi
 have e:r.2.1=k:=congrArg Prod.fst (Option.some.inj hi)
 rcases hk r hr with q|q<;>rw [q] at e
 ·exact h.1 e.symm
 ·exact h.2 e.symm
set_option maxHeartbeats 1000000 in
theorem sp_put {lo fo:Nat} {klo:K} {rows:List Row} {is:List Nat} {wh:Nat→Nat} {na:Spec→Nat} (hn:1≤n) (R:RowsIs wh rows T) (hk:∀ r∈rows,r.2.1=.real∨r.2.1=.slots) (hnd:(rows.map (·.1)).Nodup) (hrl:rows.length≤50000) (hsl:∀ r∈rows,r.2.2.length≤1000)
  (hlo:T[lo]?=some (klo,.list (rows.map fun r=>.obj r.1))) (hklo:klo≠.real∧klo≠.slots) (hfo:T[fo]?=some (.tmp 450,.list (is.map .obj))) (hil:is.length=rows.length) (hall:∀ (j:Nat) r i',rows[j]?=some r→is[j]?=some i'→T[i']?=some (.tmp 440,.list (newV na r.2.2)))
  (k:∀ T',(∀ r∈rows,T'[r.1]?=some (r.2.1,.list (newV na r.2.2)))→Chg (rowX rows) T T'→Q .none T'):Y (CN n 46 [.obj lo,.obj fo] (hpOf T)) Q:=by
 obtain⟨n,rfl,_⟩:=down hn
 refine call_fn (fd:=fd_put_lists) (by rfl) (by rfl) ?_
 show SV _ [some (.obj lo),some (.obj fo),none,none,none] _ _ _
 unfold fd_put_lists
 have keep:∀ {T':TH} {i:Nat} {k:K} {o:O},Chg (rowX rows) T T'→T[i]?=some (k,o)→k≠.real∧k≠.slots→T'[i]?=some (k,o):=fun c hi h=>c.get hi (rowX_off R hk hi h)
 refine SV.go ?_
 conv=>whnf
 refine HandS.intro (SV.forR (fun j ρ T'=>∃ x y z:Option V,ρ=[some (.obj lo),some (.obj fo),x,y,z]∧(∀ (j':Nat) r,rows[j']?=some r→T'[r.1]?=some (r.2.1,rowNow wh na (decide (j'<j)) r))∧Chg (rowX rows) T T') ?_)
 k_ownIn
 refine LenY.list hlo (by simp;unfold limit;omega) ?_
 k_ownIn
 refine⟨⟨by simp,by simp;unfold limit;omega⟩,⟨none,none,none,rfl,fun j' r hr=>R r (mG hr),.refl _ _⟩,?_,?_⟩
 ·rintro j ρ T' hj ⟨x,y,z,rfl,hrow,c'⟩
  have hj:j<rows.length:=by simpa using hj
  obtain⟨r,hr⟩:∃ r,rows[j]?=some r:=⟨_,gE hj⟩
  obtain⟨i',hi'⟩:∃ i',is[j]?=some i':=⟨_,gE (by omega)⟩
  have hrm:=mG hr
  have hrs:=hsl r hrm
  have hlo':=keep c' hlo hklo
  have hfo':=keep c' hfo (by decide)
  have hi1:=keep c' (hall j r i' hr hi') (by decide)
  have hr':=hrow j r hr
  rw [show decide (j<j)=false by simp] at hr'
  have hr':T'[r.1]?=some (r.2.1,.list (r.2.2.map (Spec.val wh))):=hr'
  refine⟨Nat.le_of_ble_eq_true rfl,?_⟩
  show SV _ [some (.obj lo),some (.obj fo),some (.int j),y,z] _ _ _
  k_ownIn
  refine IdxY.list hlo' (at_nat (v:=.obj r.1) (by rw [gM,hr];rfl) (by omega)) ?_
  k_ownIn
  refine HandS.intro (SV.forR (fun i ρ T''=>∃ z:Option V,ρ=[some (.obj lo),some (.obj fo),some (.int j),some (.obj r.1),z]∧T''[r.1]?=some (r.2.1,.list ((newV na r.2.2).take i++(r.2.2.map (Spec.val wh)).drop i))∧Chg (oneX r.1) T' T'') ?_)
  k_ownIn
  refine LenY.list hr' (by simp;unfold limit;omega) ?_
  k_ownIn
  have hne:∀ {i:Nat} {k:K} {o:O},T'[i]?=some (k,o)→k≠.real∧k≠.slots→i≠r.1:=by
   intro i k o hi h q
   rw [q,hr'] at hi
   have e:r.2.1=k:=congrArg Prod.fst (Option.some.inj hi)
   rcases hk r hrm with q|q<;>rw [q] at e
   ·exact h.1 e.symm
   ·exact h.2 e.symm
  refine⟨⟨by simp,by simp;unfold limit;omega⟩,⟨z,rfl,by simpa using hr',.refl _ _⟩,?_,?_⟩
  ·rintro i ρ T'' hi ⟨z,rfl,hcur,c''⟩
   have hi:i<r.2.2.length:=by simpa using hi
   obtain⟨v,hv⟩:∃ v,(newV na r.2.2)[i]?=some v:=⟨_,gE (by simpa [newV] using hi)⟩
   have hfo'':=c''.other hfo' (hne hfo' (by decide))
   have hi'':=c''.other hi1 (hne hi1 (by decide))
   refine⟨Nat.le_of_ble_eq_true rfl,?_⟩
   show SV _ [some (.obj lo),some (.obj fo),some (.int j),some (.obj r.1),some (.int i)] _ _ _
   k_ownIn
   refine IdxY.list hfo'' (at_nat (v:=.obj i') (by rw [gM,hi'];rfl) (by omega)) ?_
   k_ownIn
   refine IdxY.list hi'' (at_nat hv (by omega)) ?_
   k_ownIn
   refine IdxPut.list hcur (by simp [newV];omega) ?_
   refine PutY.intro ?_
   intro T3 h_3 c_3
   k_ownIn
   refine⟨_,rfl,?_,c''.tr c_3⟩
   rw [h_3,Int.toNat_natCast,set_mid (by simp [newV]) hv]
  ·rintro ρ T'' ⟨z,rfl,hcur,c''⟩
   k_ownIn
   rw [Int.toNat_natCast,lM] at hcur
   have hcur:T''[r.1]?=some (r.2.1,.list (newV na r.2.2)):=by
    rw [hcur,List.take_of_length_le (by simp [newV]),List.drop_eq_nil_of_le (by simp),aN]
   refine⟨_,_,_,rfl,fun j' r' hr''=>?_,c'.trans c'' (fun _ _ _ _ q=>q) fun _ _ _ _ q=>⟨r,hrm,q⟩⟩
   by_cases q:j'=j
   ·subst q
    rw [hr] at hr''
    cases hr''
    rw [hcur]
    simp [rowNow]
   ·have hne':r'.1≠r.1:=fun e=>by
     have h1:(rows.map (·.1))[j']?=some r.1:=by rw [gM,hr''];exact congrArg some e
     have h2:(rows.map (·.1))[j]?=some r.1:=by rw [gM,hr];rfl
     obtain⟨p1,e1⟩:=gS.mp h1
     obtain⟨p2,e2⟩:=gS.mp h2
     have hp:=List.pairwise_iff_getElem.mp hnd
     rcases Nat.lt_trichotomy j' j with h|h|h
     ·exact hp j' j p1 p2 h (e1.trans e2.symm)
     ·exact q h
     ·exact hp j j' p2 p1 h (e2.trans e1.symm)
    have:=c''.other (hrow j' r' hr'') hne'
    rw [this]
    have e:decide (j'<j+1)=decide (j'<j):=by
     by_cases h:j'<j
     ·rw [decide_eq_true h,decide_eq_true (by omega)]
     ·rw [decide_eq_false h,decide_eq_false (by omega)]
    rw [e]
 ·rintro ρ T' ⟨x,y,z,rfl,hrow,c'⟩
  k_ownIn
  refine k T' (fun r hr=>?_) c'
  obtain⟨j,hj⟩:=gO hr
  have:=hrow j r hj
  rw [show decide (j<_)=true by rw [decide_eq_true];have:=(gS.mp hj).1;simpa using this] at this
  exact this
theorem sp_maddrs {fo mv:Nat} {kk:K} (hn:1≤n) (hf:T[fo]?=some (kk,.list [])) (k:∀ i T',T[i]?=none→T'[i]?=some (.fin,.list [])→Chg noX T T'→Q (.obj i) T'):Y (CN n 47 [.obj fo,.obj mv] (hpOf T)) Q:=by
 obtain⟨n,rfl,_⟩:=down hn
 refine call_fn (fd:=fd_moved_addrs) (by rfl) (by rfl) ?_
 show SV _ [some (.obj fo),some (.obj mv),none,none] _ _ _
 unfold fd_moved_addrs
 k_ownIn
 refine AnyK.mk .fin ?_
 refine EVs.go ?_
 conv=>whnf
 refine NewY.intro ?_
 intro i T1 hn_1 h_1 c_1
 have hf1:=c_1.keep hf
 k_ownIn
 refine HandS.intro (SV.forU ?_)
 k_ownIn
 refine FV.done hf1 rfl ?_
 k_ownIn
 exact k i T1 hn_1 h_1 c_1
theorem sp_stays {t:Th} {mv gen:Nat} {ml:List (Int×V)} (hn:1≤n) (ht:T[t.tid]?=some (.th,t.obj)) (hm:T[mv]?=some (.tmp 390,.di ml)) (k:Q (.bool (decide (gen<t.age)||(dget ml (t.addr:Int)).isSome)) T):Y (CN n 43 [.obj t.tid,.obj mv,.int gen] (hpOf T)) Q:=by
 obtain⟨n,rfl,_⟩:=down hn
 refine call_fn (fd:=fd_stays) (by rfl) (by rfl) ?_
 show SV _ [some (.obj t.tid),some (.obj mv),some (.int gen)] _ _ _
 unfold fd_stays
 unfold Th.obj at ht
 k_ownIn
 by_cases h:gen<t.age
 ·rw [decide_eq_true h] at k
  k_ownIn
  exact k
 ·rw [decide_eq_false h] at k
  refine⟨fun _=>?_,fun hb=>by simp at hb;omega⟩
  k_ownIn
  refine CmpY.mem_di hm ?_
  k_ownIn
  exact k
def Th.aged (t:Th) (a:Nat):Th:={t with addr:=a,age:=if t.age<2 then t.age+1 else t.age}
abbrev thX (t:Nat):Nat→K→Prop:=fun i k=>k=.hp∨i=t
theorem sp_settle_old {hp:Nat} {t:Th} {mv gen:Nat} (hn:1≤n) (ht:T[t.tid]?=some (.th,t.obj)) (ha:gen<t.age) (k:Q .none T):Y (CN n 48 [.obj hp,.obj t.tid,.obj mv,.int gen] (hpOf T)) Q:=by
 obtain⟨n,rfl,_⟩:=down hn
 refine call_fn (fd:=fd_settle_thing) (by rfl) (by rfl) ?_
 show SV _ [some (.obj hp),some (.obj t.tid),some (.obj mv),some (.int gen),none] _ _ _
 unfold fd_settle_thing
 unfold Th.obj at ht
 k_ownIn
 exact k
theorem sp_settle_young {h:Hid} {f:Hn} {top:Nat} {t:Th} {mv gen a:Nat} {ml:List (Int×V)} (hn:1≤n) (hh:T[h.hp]?=some (.hp,hpObj h f top)) (ht:T[t.tid]?=some (.th,t.obj)) (hm:T[mv]?=some (.tmp 390,.di ml)) (ha:t.age≤gen) (hg:dget ml (t.addr:Int)=some (.int a))
  (k:∀ m T',T'[h.hp]?=some (.hp,hpObj h {f with moved:=m} top)→T'[t.tid]?=some (.th,(t.aged a).obj)→Chg (thX t.tid) T T'→Q .none T'):Y (CN n 48 [.obj h.hp,.obj t.tid,.obj mv,.int gen] (hpOf T)) Q:=by
 obtain⟨n,rfl,_⟩:=down hn
 refine call_fn (fd:=fd_settle_thing) (by rfl) (by rfl) ?_
 show SV _ [some (.obj h.hp),some (.obj t.tid),some (.obj mv),some (.int gen),none] _ _ _
 unfold fd_settle_thing
 unfold Th.obj at ht
 unfold hpObj at hh k
 k_ownIn
 refine IdxY.di hm hg ?_
 conv=>whnf
 have ne:h.hp≠t.tid:=ne_kind hh ht (by decide)
 by_cases e:a=t.addr
 ·by_cases hlt:t.age<2
  ·k_ownIn
   refine k f.moved _ (by k_caughtNB) ?_ ?_
   ·refine Eq.trans (by k_caughtNB) ?_
    simp [Th.obj,Th.aged,Th.size,hlt]
   ·exact Chg.weaken (X:=oneX t.tid) (by assumption) fun _ _ q=>.inr q
  ·k_ownIn
   refine k f.moved _ (by k_caughtNB) ?_ ?_
   ·refine Eq.trans (by k_caughtNB) ?_
    simp [Th.obj,Th.aged,Th.size,hlt]
   ·exact Chg.weaken (X:=oneX t.tid) (by assumption) fun _ _ q=>.inr q
 ·by_cases hlt:t.age<2
  ·k_ownIn
   refine k (f.moved+1) _ (by k_caughtNB) ?_ ?_
   ·refine Eq.trans (by k_caughtNB) ?_
    simp [Th.obj,Th.aged,Th.size,hlt]
   ·exact Chg.trans (X:=oneX h.hp) (Y:=oneX t.tid) (by assumption) (by assumption) (fun i kk o hi q=>.inl (by have q:i=h.hp:=q;rw [q,hh] at hi;cases hi;rfl)) fun _ _ _ _ q=>.inr q
  ·k_ownIn
   refine k (f.moved+1) _ (by k_caughtNB) ?_ ?_
   ·refine Eq.trans (by k_caughtNB) ?_
    simp [Th.obj,Th.aged,Th.size,hlt]
   ·exact Chg.trans (X:=oneX h.hp) (Y:=oneX t.tid) (by assumption) (by assumption) (fun i kk o hi q=>.inl (by have q:i=h.hp:=q;rw [q,hh] at hi;cases hi;rfl)) fun _ _ _ _ q=>.inr q
def agedL:Nat→List Th→List Th
 | _,[]=>[]
 | g,t::r=>t.aged g::agedL (g+t.size) r
theorem agedL_length:∀ {ys:List Th} {g:Nat},(agedL g ys).length=ys.length
 | [],_=>rfl
 | _::ys,g=>congrArg (·+1) agedL_length
theorem aged_size {t:Th} {a:Nat}:(t.aged a).size=t.size:=rfl
theorem agedL_packed:∀ {ys:List Th} {g:Nat},Packed g (agedL g ys)
 | [],_=>trivial
 | t::ys,g=>⟨rfl,agedL_packed (ys:=ys) (g:=g+t.size)⟩
theorem agedL_get:∀ {ys:List Th} {g j:Nat} {t:Th},ys[j]?=some t→(agedL g ys)[j]?=some (t.aged (g+((ys.take j).map Th.size).sum))
 | t::ys,g,0,_,h=>by simp at h;subst h;simp [agedL]
 | u::ys,g,j+1,t,h=>by
  show (agedL (g+u.size) ys)[j]?=_
  rw [agedL_get (ys:=ys) (by simpa using h),List.take_succ_cons,mC,List.sum_cons]
  rw [show g+u.size+((ys.take j).map Th.size).sum=g+(u.size+((ys.take j).map Th.size).sum) by omega]
theorem mov_get:∀ {ys:List Th} {g j:Nat} {t:Th},Apart ys→ys[j]?=some t→dget (mov g ys) (t.addr:Int)=some (.int (g+((ys.take j).map Th.size).sum:Nat))
 | t::ys,g,0,_,ha,h=>by simp at h;subst h;simp [mov,dget]
 | u::ys,g,j+1,t,ha,h=>by
  have hlt:=apart_lt ha (i:=0) (j:=j+1) rfl h (by omega)
  have:=u.size_pos
  show dget (((u.addr:Int),V.int g)::mov (g+u.size) ys) _=_
  unfold dget
  rw [if_neg (by simp;omega),mov_get (List.Pairwise.of_cons ha) (by simpa using h),List.take_succ_cons,mC,List.sum_cons]
  rw [show g+u.size+((ys.take j).map Th.size).sum=g+(u.size+((ys.take j).map Th.size).sum) by omega]
theorem mov_none:∀ {ys:List Th} {g:Nat} {x:Int},(∀ t∈ys,(t.addr:Int)≠x)→dget (mov g ys) x=none
 | [],_,_,_=>rfl
 | u::ys,g,x,h=>by
  show dget (((u.addr:Int),V.int g)::mov (g+u.size) ys) _=_
  unfold dget
  rw [if_neg (by simpa using h u (.head _))]
  exact mov_none fun t ht=>h t (.tail _ ht)
theorem Packed.append:∀ {x y:List Th} {a:Nat},Packed a (x++y) ↔ Packed a x∧Packed (a+(x.map Th.size).sum) y
 | [],y,a=>by simp [Packed]
 | t::x,y,a=>by
  rw [cA]
  show t.addr=a∧Packed (a+t.size) (x++y) ↔ (t.addr=a∧Packed (a+t.size) x)∧_
  rw [Packed.append,mC,List.sum_cons,and_assoc,Nat.add_assoc]
def youngL (gen:Nat) (ms ts:List Th):List Th:=ts.filter (inY gen ms)
def nextL (gen:Nat) (ms os rs:List Th):List Th:=os++agedL (endOf os) (youngL gen ms (os++rs))
def keptL (gen:Nat) (ms os rs:List Th):List Th:=os++youngL gen ms (os++rs)
theorem nextL_packed {gen:Nat} {ms os rs:List Th} (hp:Packed 16 (os++rs)):Packed 16 (nextL gen ms os rs):=Packed.append.mpr ⟨(Packed.append.mp hp).1,agedL_packed⟩
theorem young_apart {gen:Nat} {ms ts:List Th} (ha:Apart ts):Apart (youngL gen ms ts):=List.Pairwise.sublist List.filter_sublist ha
theorem mem_young {gen:Nat} {ms ts:List Th} {t:Th}:t∈youngL gen ms ts ↔ t∈ts∧t.age≤gen∧t∈ms:=by
 unfold youngL inY;rw [List.mem_filter];simp
theorem stay_iff {gen:Nat} {ms ts:List Th} {g:Nat} (ha:Apart ts) {t:Th} (ht:t∈ts):(decide (gen<t.age)||(dget (mov g (youngL gen ms ts)) (t.addr:Int)).isSome)=(decide (gen<t.age)||inY gen ms t):=by
 congr 1
 by_cases h:inY gen ms t=true
 ·have hm:t∈youngL gen ms ts:=List.mem_filter.mpr ⟨ht,h⟩
  obtain⟨j,hj⟩:=gO hm
  rw [mov_get (young_apart ha) hj,h];rfl
 ·rw [mov_none,Bool.eq_false_iff.mpr h]
  ·rfl
  ·intro u hu e
   have hu':=List.mem_filter.mp hu
   have:u=t:=addr_inj ha hu'.1 ht (by omega)
   subst this
   exact h hu'.2
theorem filter_stay {gen:Nat} {ms os rs:List Th} (ho:∀ t∈os,gen<t.age) (hr:∀ t∈rs,t.age≤gen):(os++rs).filter (fun t=>decide (gen<t.age)||inY gen ms t)=keptL gen ms os rs:=by
 unfold keptL youngL
 have e1:os.filter (fun t=>decide (gen<t.age)||inY gen ms t)=os:=List.filter_eq_self.mpr fun t ht=>by simp [ho t ht]
 have e2:os.filter (inY gen ms)=[]:=List.filter_eq_nil_iff.mpr fun t ht=>by have:=ho t ht;simp [inY];omega
 have e3:rs.filter (fun t=>decide (gen<t.age)||inY gen ms t)=rs.filter (inY gen ms):=List.filter_congr fun t ht=>by have:=hr t ht;simp;omega
 rw [fA,fA,e1,e2,e3,nA]
theorem kept_get {gen:Nat} {ms os rs:List Th} (hp:Packed 16 (os++rs)) (ho:∀ t∈os,gen<t.age) {j:Nat} {t:Th} (h:(keptL gen ms os rs)[j]?=some t) :
  (gen<t.age∧(nextL gen ms os rs)[j]?=some t)∨(t.age≤gen∧∃ a,dget (mov (endOf os) (youngL gen ms (os++rs))) (t.addr:Int)=some (.int (a:Nat))∧(nextL gen ms os rs)[j]?=some (t.aged a)):=by
 unfold keptL at h
 unfold nextL
 rcases Nat.lt_or_ge j os.length with hj|hj
 ·rw [gL hj] at h ⊢
  exact .inl ⟨ho t (mG h),h⟩
 ·rw [gR hj] at h ⊢
  exact .inr ⟨(mem_young.mp (mG h)).2.1,_,mov_get (young_apart hp.apart) h,agedL_get h⟩
theorem kept_mem {gen:Nat} {ms os rs:List Th} {t:Th} (h:t∈keptL gen ms os rs):t∈os++rs:=by
 rcases mA.mp h with h|h
 ·exact mL _ h
 ·exact (mem_young.mp h).1
theorem next_length {gen:Nat} {ms os rs:List Th}:(nextL gen ms os rs).length=(keptL gen ms os rs).length:=by
 unfold nextL keptL;rw [lA,lA,agedL_length]
theorem kept_le {gen:Nat} {ms os rs:List Th} (ho:∀ t∈os,gen<t.age) (hr:∀ t∈rs,t.age≤gen):(keptL gen ms os rs).length≤(os++rs).length:=by
 rw [←filter_stay ho hr];exact List.length_filter_le _ _
theorem sp_settle_any {h:Hid} {f:Hn} {top:Nat} {t t':Th} {mv gen:Nat} {ml:List (Int×V)} (hn:1≤n) (hh:T[h.hp]?=some (.hp,hpObj h f top)) (ht:T[t.tid]?=some (.th,t.obj)) (hm:T[mv]?=some (.tmp 390,.di ml))
  (hc:(gen<t.age∧t'=t)∨(t.age≤gen∧∃ a,dget ml (t.addr:Int)=some (.int (a:Nat))∧t'=t.aged a)) (k:∀ m T',T'[h.hp]?=some (.hp,hpObj h {f with moved:=m} top)→T'[t.tid]?=some (.th,t'.obj)→Chg (thX t.tid) T T'→Q .none T'):Y (CN n 48 [.obj h.hp,.obj t.tid,.obj mv,.int gen] (hpOf T)) Q:=by
 rcases hc with ⟨h1,rfl⟩|⟨h1,a,h2,rfl⟩
 ·exact sp_settle_old hn ht h1 (k f.moved T hh ht (.refl _ _))
 ·exact sp_settle_young hn hh ht hm h1 h2 k
theorem map_get_ne {α β:Type} {l:List α} {f:α→β} (hn:(l.map f).Nodup) {i j:Nat} {a b:α} (hi:l[i]?=some a) (hj:l[j]?=some b) (h:i≠j):f a≠f b:=fun e=>by
 have h1:(l.map f)[i]?=some (f b):=by rw [gM,hi];exact congrArg some e
 have h2:(l.map f)[j]?=some (f b):=by rw [gM,hj];rfl
 obtain⟨p1,e1⟩:=gS.mp h1
 obtain⟨p2,e2⟩:=gS.mp h2
 have hp:=List.pairwise_iff_getElem.mp hn
 rcases Nat.lt_trichotomy i j with q|q|q
 ·exact hp i j p1 p2 q (e1.trans e2.symm)
 ·exact h q
 ·exact hp j i p2 p1 q (e2.trans e1.symm)
theorem kept_sub {gen:Nat} {ms os rs:List Th} (ho:∀ t∈os,gen<t.age) (hr:∀ t∈rs,t.age≤gen):(keptL gen ms os rs).Sublist (os++rs):=by
 rw [←filter_stay ho hr];exact List.filter_sublist
set_option maxHeartbeats 1000000 in
theorem sp_settle {h:Hid} {os rs ms:List Th} {f:Hn} {gen mv:Nat} (hn:2≤n) (hb:HB h (os++rs) f T) (hp:Packed 16 (os++rs)) (ho:∀ t∈os,gen<t.age) (hr:∀ t∈rs,t.age≤gen) (hlim:(os++rs).length≤50000) (htid:((os++rs).map Th.tid).Nodup)
  (hmv:T[mv]?=some (.tmp 390,.di (mov (endOf os) (youngL gen ms (os++rs))))) (k:∀ tl' at' m T',HB {h with tl:=tl',at_:=at'} (nextL gen ms os rs) {f with moved:=m} T'→Chg (ksX [.hp,.th]) T T'→Q .none T') :
  Y (CN n 49 [.obj h.hp,.obj mv,.int gen] (hpOf T)) Q:=by
 obtain⟨n,rfl,_⟩:=down hn
 refine call_fn (fd:=fd_settle_things) (by rfl) (by rfl) ?_
 show SV _ [some (.obj h.hp),some (.obj mv),some (.int gen),none,none] _ _ _
 unfold fd_settle_things
 k_ownIn
 refine AnyK.mk .tl ?_
 refine EVs.go ?_
 conv=>whnf
 refine NewY.intro ?_
 intro lv T1 hn_1 h_1 c_1
 have hb1:=hb.keep0 c_1
 have b1:=hb1.hp
 unfold hpObj at b1
 have b2:=hb1.tl
 have nlv:∀ {i:Nat} {x:K×O},T[i]?=some x→i≠lv:=fun hi=>ne_none hi hn_1
 k_ownIn
 refine HandS.intro (SV.forI (fun j ρ T'=>∃ x:Option V,ρ=[some (.obj h.hp),some (.obj mv),some (.int gen),some (.obj lv),x] ∧
  T'[lv]?=some (.tl,.list ((((os++rs).take j).filter (fun t=>decide (gen<t.age)||inY gen ms t)).map fun t=>.obj t.tid))∧Chg (oneX lv) T1 T') ?_)
 k_ownIn
 refine⟨⟨none,rfl,by simpa using h_1,.refl _ _⟩,?_,?_⟩
 ·rintro j v ρ T' hv ⟨x,rfl,hl,c'⟩ ho'
  rw [gM] at hv
  obtain⟨t,ht,rfl⟩:=Option.map_eq_some_iff.mp hv
  have htm:=mG ht
  have c_0:Chg noX T T':=c'.fresh c_1 hn_1
  have htk:(os++rs).take (j+1)=(os++rs).take j++[t]:=by rw [tO,ht];rfl
  refine GetY.mk rfl ?_
  k_ownIn
  refine sp_stays (by omega) (c_0.keep (hb.th t htm)) (c_0.keep hmv) ?_
  rw [stay_iff hp.apart htm]
  have hlen:=List.length_filter_le (fun t=>decide (gen<t.age)||inY gen ms t) ((os++rs).take j)
  have hlen2:=(tS j (os++rs)).length_le
  cases hst:(decide (gen<t.age)||inY gen ms t) with
  | true =>
   k_ownIn
   refine⟨by rw [lM];unfold limit;omega,?_⟩
   refine PutY.intro ?_
   intro T2 h_2 c_2
   have ho2:=c_2.other ho' (nlv hb.tl)
   k_ownIn
   refine⟨⟨_,rfl,?_,c'.tr c_2⟩,ho2⟩
   rw [h_2,htk,fA,mP]
   simp [hst]
  | false =>
   k_ownIn
   refine⟨⟨_,rfl,?_,c'⟩,ho'⟩
   rw [hl,htk,fA,mP]
   simp [hst]
 ·rintro ρ T' ⟨x,rfl,hl,c'⟩ ho'
  rw [lM,tL,filter_stay ho hr] at hl
  have c_0:Chg noX T T':=c'.fresh c_1 hn_1
  have b1':=(hb.keep0 c_0).hp
  unfold hpObj at b1'
  k_ownIn
  refine AnyK.mk .at_ ?_
  refine NewY.intro ?_
  intro at' T3 hn3 h_3 c_3
  k_ownIn
  rename_i T2 h_2 c_2 T4 h_4 c4
  have nat':T[at']?=none:=none_back hn3 (by k_caughtB)
  have hl4:T4[lv]?=some (.tl,.list ((keptL gen ms os rs).map fun t=>.obj t.tid)):=by k_caughtNB
  have ha4:T4[at']?=some (.at_,.di []):=by k_caughtNB
  have hth4:∀ t∈os++rs,T4[t.tid]?=some (.th,t.obj):=fun t ht=>by
   have:=c_0.keep (hb.th t ht)
   k_caughtNB
  have cc:Chg (ksX [.hp,.th]) T T4:=by
   have hh:=hb.hp
   k_caughtB
  have hkn:((keptL gen ms os rs).map Th.tid).Nodup:=List.Pairwise.sublist ((kept_sub ho hr).map _) htid
  have hle:=kept_le (ms:=ms) ho hr
  have hnp:=nextL_packed (gen:=gen) (ms:=ms) hp
  refine HandS.intro (SV.forI (fun j ρ T'=>∃ (m:Int) (x:Option V),ρ=[some (.obj h.hp),some (.obj mv),some (.int gen),some (.obj lv),x]∧T'[h.hp]?=some (.hp,hpObj {h with tl:=lv,at_:=at'} {f with moved:=m} (endOf ((nextL gen ms os rs).take j))) ∧
   T'[at']?=some (.at_,.di (atOf ((nextL gen ms os rs).take j)))∧(∀ (j':Nat) t t',(keptL gen ms os rs)[j']?=some t→(nextL gen ms os rs)[j']?=some t'→T'[t.tid]?=some (.th,(if j'<j then t' else t).obj))∧Chg (ksX [.hp,.th]) T T') ?_)
  k_ownIn
  refine⟨⟨f.moved,x,rfl,by simpa [hpObj,endOf] using h_4,by simpa [atOf] using ha4,fun j' t t' ht _=>?_,cc⟩,?_,?_⟩
  ·rw [if_neg (by omega)]
   exact hth4 t (kept_mem (mG ht))
  ·rintro j v ρ T5 hv ⟨m,x,rfl,e1,e2,e3,c_5⟩ ho5
   rw [gM] at hv
   obtain⟨t,ht,rfl⟩:=Option.map_eq_some_iff.mp hv
   obtain⟨t',ht'⟩:∃ t',(nextL gen ms os rs)[j]?=some t':=⟨_,gE (by rw [next_length];exact (gS.mp ht).1)⟩
   have hth:=e3 j t t' ht ht'
   rw [if_neg (by omega)] at hth
   have hcase:(gen<t.age∧t'=t)∨(t.age≤gen∧∃ a,dget (mov (endOf os) (youngL gen ms (os++rs))) (t.addr:Int)=some (.int (a:Nat))∧t'=t.aged a):=by
    rcases kept_get hp ho ht with ⟨q1,q2⟩|⟨q1,a,q2,q3⟩
    ·rw [ht'] at q2;cases q2;exact .inl ⟨q1,rfl⟩
    ·rw [ht'] at q3;cases q3;exact .inr ⟨q1,a,q2,rfl⟩
   have htk:(nextL gen ms os rs).take (j+1)=(nextL gen ms os rs).take j++[t']:=by rw [tO,ht'];rfl
   have htid':t'.tid=t.tid:=by rcases hcase with ⟨_,q⟩|⟨_,a,_,q⟩<;>rw [q]<;>rfl
   have haddr:t'.addr=endOf ((nextL gen ms os rs).take j):=by
    have e:nextL gen ms os rs=(nextL gen ms os rs).take j++t'::(nextL gen ms os rs).drop (j+1):=by
     obtain⟨p1,p2⟩:=gS.mp ht'
     rw [←p2,←List.drop_eq_getElem_cons p1,List.take_append_drop]
    have h2:=hnp
    rw [e] at h2
    rw [h2.split];rfl
   refine GetY.mk rfl ?_
   k_ownIn
   refine sp_settle_any (h:={h with tl:=lv,at_:=at'}) (by omega) e1 hth (c_5.get hmv nk) hcase fun m' T6 g1 g2 c_6=>?_
   have ha6:T6[at']?=some (.at_,.di (atOf ((nextL gen ms os rs).take j))):=c_6.get e2 fun q=>by
    rcases q with q|q
    ·cases q
    ·rw [q,hth] at e2;cases e2
   have hl6:T6[lv]?=some (.tl,.list ((keptL gen ms os rs).map fun t=>.obj t.tid)):=c_6.get ho5 fun q=>by
    rcases q with q|q
    ·cases q
    ·rw [q,hth] at ho5;cases ho5
   have g1':=g1
   have g2':=g2
   unfold hpObj at g1'
   unfold Th.obj at g2'
   k_ownIn
   refine IdxPut.di ha6 (by simp [atOf];have:=(tS j (nextL gen ms os rs)).length_le;have:=next_length (gen:=gen) (ms:=ms) (os:=os) (rs:=rs);unfold limit;omega) ?_
   rw [dput_new fun p hp'=>by
    obtain⟨u,hu,rfl⟩:=mM.mp hp'
    obtain⟨i,hi⟩:=gO hu
    have hij:i<j:=by
     have:=(gS.mp hi).1
     rw [lT] at this;omega
    rw [List.getElem?_take_of_lt hij] at hi
    have:=apart_lt hnp.apart hi ht' hij
    have:=u.size_pos
    simp;omega]
   refine PutY.intro ?_
   intro T7 h_7 c_7
   have g17:=c_7.otherK g1' h_7
   have g27:=c_7.otherK g2' h_7
   k_ownIn
   rename_i T8 h_8 c_8
   have ne1:∀ {i:Nat} {x:K×O},T[i]?=some x→i≠at':=fun hi=>ne_none hi nat'
   refine⟨⟨m',_,rfl,?_,?_,fun j' u u' hu hu'=>?_,?_⟩,?_⟩
   ·refine Eq.trans h_8 ?_
    rw [htk,endOf_snoc,←haddr]
    simp [hpObj]
   ·refine Eq.trans (c_8.otherK h_7 h_8) ?_
    rw [htk]
    simp [atOf,htid']
   ·have hne:j'≠j→u.tid≠t.tid:=map_get_ne hkn hu ht
    by_cases q:j'=j
    ·subst q
     rw [ht] at hu;cases hu
     rw [ht'] at hu';cases hu'
     rw [if_pos (by omega)]
     exact c_8.otherK (c_7.otherK g2 h_7) h_8
    ·have hu6:=c_6.get (e3 j' u u' hu hu') fun q'=>by
      rcases q' with q'|q'
      ·cases q'
      ·exact hne q q'
     have e:(if j'<j+1 then u' else u)=if j'<j then u' else u:=by
      by_cases q':j'<j
      ·rw [if_pos q',if_pos (by omega)]
      ·rw [if_neg q',if_neg (by omega)]
     rw [e]
     exact c_8.otherK (c_7.otherK hu6 h_7) h_8
   ·have hh:=hb.hp
    refine c_8.back (c_7.fresh (c_6.back c_5 fun i kk o hi q=>?_) nat') (side_kind hh)
    rcases q with q|q
    ·rw [q];exact List.Mem.head _
    ·have:=hb.th t (kept_mem (mG ht))
     rw [q,this] at hi;cases hi;exact List.Mem.tail _ (List.Mem.head _)
   ·exact c_8.otherK (c_7.otherK hl6 h_7) h_8
  ·rintro ρ T5 ⟨m,x,rfl,e1,e2,e3,c_5⟩ ho5
   rw [lM,List.take_of_length_le (by rw [next_length];exact Nat.le_refl _)] at e1 e2
   k_ownIn
   refine k lv at' m T5 ⟨e1,?_,e2,c_5.get hb.cd nk,c_5.get hb.fin nk,c_5.get hb.rdy nk,fun t' ht'=>?_⟩ c_5
   ·rw [ho5]
    have e:(keptL gen ms os rs).map (fun t=>V.obj t.tid)=(nextL gen ms os rs).map fun t=>V.obj t.tid:=by
     refine List.ext_getElem? fun j=>?_
     rw [gM,gM]
     cases q:(keptL gen ms os rs)[j]? with
     | none=>rw [List.getElem?_eq_none (by rw [next_length];exact List.getElem?_eq_none_iff.mp q)]
     | some t=>rcases kept_get hp ho q with ⟨_,q2⟩|⟨_,a,_,q2⟩<;>rw [q2]<;>rfl
    rw [e]
   ·obtain⟨j,hj⟩:=gO ht'
    obtain⟨t,ht⟩:∃ t,(keptL gen ms os rs)[j]?=some t:=⟨_,gE (by rw [←next_length];exact (gS.mp hj).1)⟩
    have:=e3 j t t' ht hj
    rw [if_pos (by rw [lM];exact (gS.mp ht).1)] at this
    have htid':t'.tid=t.tid:=by rcases kept_get hp ho ht with ⟨_,q2⟩|⟨_,a,_,q2⟩<;>rw [hj] at q2<;>cases q2<;>rfl
    rw [htid'];exact this
theorem sers_of {ts:List Th} (h:(ts.map Th.ser).Nodup):Sers ts:=by
 intro a ha b hb e
 obtain⟨i,hi⟩:=gO ha
 obtain⟨j,hj⟩:=gO hb
 by_cases q:i=j
 ·subst q;rw [hi] at hj;cases hj;rfl
 ·exact absurd e (map_get_ne h hi hj q)
theorem next_map {α:Type} {g:Th→α} (hg:∀ t a,g (Th.aged t a)=g t) {gen:Nat} {ms os rs:List Th}:(nextL gen ms os rs).map g=(keptL gen ms os rs).map g:=by
 unfold nextL keptL
 rw [mP,mP]
 congr 1
 generalize endOf os=n
 generalize youngL gen ms (os++rs)=ys
 induction ys generalizing n with
 | nil=>rfl
 | cons t ys ih=>show g (t.aged n)::(agedL (n+t.size) ys).map g=g t::_;rw [hg,ih]
theorem next_sers {gen:Nat} {ms os rs:List Th} (ho:∀ t∈os,gen<t.age) (hr:∀ t∈rs,t.age≤gen) (h:((os++rs).map Th.ser).Nodup):((nextL gen ms os rs).map Th.ser).Nodup:=by
 rw [next_map fun _ _=>rfl]
 exact List.Pairwise.sublist ((kept_sub ho hr).map _) h
def newA (next:List Th) (s:Spec):Nat:=(tgt next s).elim 0 Th.addr
theorem newV_val {next:List Th} {l:List Spec}:newV (newA next) l=l.map (Spec.val (whOf next)):=by
 unfold newV newA
 exact mJ fun s _=>by rw [val_tgt]
theorem mvd_of {gen:Nat} {ms os rs:List Th} (hp:Packed 16 (os++rs)) (ho:∀ t∈os,gen<t.age) (hr:∀ t∈rs,t.age≤gen) (hsr:((os++rs).map Th.ser).Nodup) {s:Spec} (hs:s.Ok (os++rs)) (hk:∀ v,tgt (os++rs) s=some v→v∈keptL gen ms os rs) :
  mvd (mov (endOf os) (youngL gen ms (os++rs))) ((tgt (os++rs) s).elim 0 Th.addr) (newA (nextL gen ms os rs) s):=by
 unfold newA
 cases q:tgt (os++rs) s with
 | none =>
  have h0:=tgt_none hs q
  have e:tgt (nextL gen ms os rs) s=none:=by unfold tgt;rw [if_neg (by omega)]
  rw [e]
  unfold mvd
  rw [mov_none fun t ht=>by have:=hp.mem t (mem_young.mp ht).1;simp;omega]
  rfl
 | some v =>
  obtain⟨hv,h0,hvs⟩:=tgt_mem q
  obtain⟨j,hj⟩:=gO (hk v q)
  have hns:=sers_of (next_sers (ms:=ms) ho hr hsr)
  rcases kept_get hp ho hj with ⟨h1,h2⟩|⟨h1,a,h2,h3⟩
  ·rw [tgt_of hns h0 (mG h2) hvs]
   unfold mvd
   dsimp only [Option.elim]
   rw [mov_none fun t ht=>fun e=>by
    have ht':=mem_young.mp ht
    have:t=v:=addr_inj hp.apart ht'.1 hv (by omega)
    subst this;omega]
   rfl
  ·rw [tgt_of hns h0 (mG h3) hvs]
   unfold mvd
   dsimp only [Option.elim]
   rw [h2];rfl
theorem sp_Words {wo:Nat} {a b:V} (hn:1≤n) (h0:T[wo]?=some (.tmp 500,.inst 3 [])) (k:∀ T',T'[wo]?=some (.tmp 500,.inst 3 [a,b])→Chg (oneX wo) T T'→Q .none T'):Y (CN n 40 [.obj wo,a,b] (hpOf T)) Q:=by
 obtain⟨n,rfl,_⟩:=down hn
 refine call_fn (fd:=fd_Words_init) (by rfl) (by rfl) ?_
 show SV _ [some (.obj wo),some a,some b] _ _ _
 unfold fd_Words_init
 k_ownIn
 exact k _ (by k_caughtNB) (by k_caughtB)
def realR (r:Nat×List Spec):Row:=(r.1,.real,r.2)
def slotR (t:Th):Row:=(t.sid,.slots,t.specs)
theorem HB.rows {h:Hid} {ts:List Th} {f:Hn} {rows:List Row} {wh:Nat→Nat} {T T':TH} (b:HB h ts f T) (R:RowsIs wh rows T) (hk:∀ r∈rows,r.2.1=.real∨r.2.1=.slots) (c:Chg (rowX rows) T T') (hr:T'[h.rdy]?=some (.real,.list [])):HB h ts f T' :=
 ⟨c.get b.hp (rowX_off R hk b.hp (by decide)),c.get b.tl (rowX_off R hk b.tl (by decide)),c.get b.at_ (rowX_off R hk b.at_ (by decide)),c.get b.cd (rowX_off R hk b.cd (by decide)),c.get b.fin (rowX_off R hk b.fin (by decide)),hr,fun t ht=>c.get (b.th t ht) (rowX_off R hk (b.th t ht) (by decide))⟩
set_option maxHeartbeats 2000000 in
theorem sp_moveall {h:Hid} {os rs ms:List Th} {f:Hn} {gen mv lo:Nat} {rows:List (Nat×List Spec)} (hn:8≤n) (hb:HB h (os++rs) f T) (S:SL (os++rs) T) (hp:Packed 16 (os++rs)) (ho:∀ t∈os,gen<t.age) (hr:∀ t∈rs,t.age≤gen) (hlim:(os++rs).length≤20000)
  (htid:((os++rs).map Th.tid).Nodup) (hsid:((os++rs).map Th.sid).Nodup) (hser:((os++rs).map Th.ser).Nodup) (hok:∀ t∈os++rs,∀ s∈t.specs,s.Ok (os++rs)) (hlen:∀ t∈os++rs,t.specs.length≤1000)
  (R:RowsAt (os++rs) rows T) (hrl:rows.length≤20000) (hrs:∀ r∈rows,r.2.length≤1000) (hrn:(rows.map (·.1)).Nodup) (hrd:h.rdy∉rows.map (·.1)) (hlo:T[lo]?=some (.tmp 540,.list (rows.map fun r=>.obj r.1)))
  (hk1:∀ r∈rows,∀ s∈r.2,∀ v,tgt (os++rs) s=some v→v∈keptL gen ms os rs) (hk2:∀ t∈keptL gen ms os rs,∀ s∈t.specs,∀ v,tgt (os++rs) s=some v→v∈keptL gen ms os rs)
  (hmv:T[mv]?=some (.tmp 390,.di (mov (endOf os) (youngL gen ms (os++rs)))))
  (k:∀ tl' at' fin' m T',HB {h with tl:=tl',at_:=at',fin:=fin'} (nextL gen ms os rs) {f with moved:=m} T'→(∀ r∈rows,T'[r.1]?=some (.real,.list (r.2.map (Spec.val (whOf (nextL gen ms os rs))))))→SL (nextL gen ms os rs) T'→Chg (ksX [.hp,.th,.real,.slots]) T T'→Q .none T') :
  Y (CN n 50 [.obj h.hp,.obj lo,.obj mv,.int gen] (hpOf T)) Q:=by
 obtain⟨n,rfl,_⟩:=down hn
 refine call_fn (fd:=fd_move_all) (by rfl) (by rfl) ?_
 show SV _ [some (.obj h.hp),some (.obj lo),some (.obj mv),some (.int gen),none,none,none,none] _ _ _
 unfold fd_move_all
 have hsub:=kept_sub (ms:=ms) ho hr
 have hkl:=kept_le (ms:=ms) ho hr
 k_ownIn
 refine AnyK.mk (.tmp 500) ?_
 refine EVs.go ?_
 conv=>whnf
 repeat o_fieldsN
 rename_i wo T_0 hn0 h_0 c_0
 refine sp_Words (by omega) h_0 fun T1 h_1 c_1=>⟨rfl,?_⟩
 have c1':Chg noX T T1:=c_1.fresh c_0 hn0
 k_ownIn
 refine AnyK.mk (.tmp 501) ?_
 refine EVs.go ?_
 conv=>whnf
 refine NewY.intro ?_
 intro ev T2 hn_2 h_2 c_2
 have c2':Chg noX T T2:=c1'.tr c_2
 have hev:T[ev]?=none:=none_back hn_2 (c1'.weaken fun _ _ q=>q.elim)
 have hwo:T[wo]?=none:=hn0
 have wo2:=c_2.keep h_1
 have ne0:wo≠ev:=ne_none h_1 hn_2
 k_ownIn
 refine HandS.intro (SV.forI (fun j ρ T'=>∃ x:Option V,ρ=[some (.obj h.hp),some (.obj lo),some (.obj mv),some (.int gen),some (.obj wo),some (.obj ev),x,none]∧T'[ev]?=some (.tmp 501,.list ((rows.take j).map fun r=>.obj r.1))∧Chg (oneX ev) T2 T') ?_)
 k_ownIn
 refine⟨⟨none,rfl,by simpa using h_2,.refl _ _⟩,?_,?_⟩
 ·rintro j v ρ T' hv ⟨x,rfl,he,c'⟩ ho'
  rw [gM] at hv
  obtain⟨r,hr',rfl⟩:=Option.map_eq_some_iff.mp hv
  have hl2:=(tS j rows).length_le
  refine GetY.mk rfl ?_
  k_ownIn
  refine⟨by rw [lM];unfold limit;omega,?_⟩
  refine PutY.intro ?_
  intro T3 h_3 c_3
  k_ownIn
  refine⟨⟨_,rfl,?_,c'.tr c_3⟩,c_3.otherK ho' h_3⟩
  rw [h_3,tO,hr',mP];rfl
 ·rintro ρ T' ⟨x,rfl,he,c'⟩ ho'
  rw [lM,tL] at he
  have c'':Chg noX T T':=c'.fresh c2' hev
  have b1:=(hb.keep0 c'').hp
  unfold hpObj at b1
  k_ownIn
  refine⟨by rw [lM];unfold limit;omega,?_⟩
  refine PutY.intro ?_
  intro T3 h_3 c_3
  have c3':Chg noX T T3:=c_3.fresh c'' hev
  have b2:=(hb.keep0 c3').hp
  unfold hpObj at b2
  have b3:=(hb.keep0 c3').tl
  k_ownIn
  refine HandS.intro (SV.forI (fun j ρ T'=>∃ y:Option V,ρ=[some (.obj h.hp),some (.obj lo),some (.obj mv),some (.int gen),some (.obj wo),some (.obj ev),x,y] ∧
   T'[ev]?=some (.tmp 501,.list (((rows.map fun r=>V.obj r.1)++[V.obj h.rdy])++(((os++rs).take j).filter (fun t=>decide (gen<t.age)||inY gen ms t)).map fun t=>.obj t.sid))∧Chg (oneX ev) T2 T') ?_)
  k_ownIn
  refine⟨⟨none,rfl,by simpa using h_3,c'.tr c_3⟩,?_,?_⟩
  ·rintro j v ρ T4 hv ⟨y,rfl,he_4,c4⟩ ho4
   rw [gM] at hv
   obtain⟨t,ht,rfl⟩:=Option.map_eq_some_iff.mp hv
   have htm:=mG ht
   have c4':Chg noX T T4:=c4.fresh c2' hev
   have htk:(os++rs).take (j+1)=(os++rs).take j++[t]:=by rw [tO,ht];rfl
   have hth:=c4'.keep (hb.th t htm)
   refine GetY.mk rfl ?_
   k_ownIn
   refine sp_stays (by omega) hth (c4'.keep hmv) ?_
   rw [stay_iff hp.apart htm]
   have hl1:=List.length_filter_le (fun t=>decide (gen<t.age)||inY gen ms t) ((os++rs).take j)
   have hl2:=(tS j (os++rs)).length_le
   unfold Th.obj at hth
   cases hst:(decide (gen<t.age)||inY gen ms t) with
   | true =>
    k_ownIn
    refine⟨by rw [lA,lA,lM,lM,lS];unfold limit;omega,?_⟩
    refine PutY.intro ?_
    intro T5 h_5 c_5
    k_ownIn
    refine⟨⟨_,rfl,?_,c4.tr c_5⟩,c_5.otherK ho4 h_5⟩
    rw [h_5,htk,fA,mP]
    simp [hst]
   | false =>
    k_ownIn
    refine⟨⟨_,rfl,?_,c4⟩,ho4⟩
    rw [he_4,htk,fA,mP]
    simp [hst]
  ·rintro ρ T4 ⟨y,rfl,he_4,c4⟩ ho4
   rw [lM,tL,filter_stay ho hr] at he_4
   have c4':Chg noX T T4:=c4.fresh c2' hev
   have M4:MV h (os++rs) f mv wo (mov (endOf os) (youngL gen ms (os++rs))) T4:=⟨hb.keep0 c4',c4'.keep hmv,c4.other wo2 ne0⟩
   have hall:∀ r:Row,r∈rows.map realR++[(h.rdy,.real,[])]++(keptL gen ms os rs).map slotR→(∃ r'∈rows,r=realR r')∨r=(h.rdy,.real,[])∨∃ t∈keptL gen ms os rs,r=slotR t:=by
    intro r hr'
    rcases mA.mp hr' with q|q
    ·rcases mA.mp q with q|q
     ·obtain⟨r',h1,h2⟩:=mM.mp q;exact .inl ⟨r',h1,h2.symm⟩
     ·exact .inr (.inl (mS.mp q))
    ·obtain⟨t,h1,h2⟩:=mM.mp q;exact .inr (.inr ⟨t,h1,h2.symm⟩)
   generalize hA:rows.map realR++[(h.rdy,.real,[])]++(keptL gen ms os rs).map slotR=A at hall
   have RA:RowsIs (whOf (os++rs)) A T4:=fun r hr'=>by
    rcases hall r hr' with ⟨r',h1,rfl⟩|rfl|⟨t,h1,rfl⟩
    ·exact c4'.keep (R.at_ r' h1)
    ·exact c4'.keep hb.rdy
    ·exact c4'.keep (S t (kept_mem h1))
   have kA:∀ r∈A,r.2.1=.real∨r.2.1=.slots:=fun r hr'=>by
    rcases hall r hr' with ⟨r',h1,rfl⟩|rfl|⟨t,h1,rfl⟩
    ·exact .inl rfl
    ·exact .inl rfl
    ·exact .inr rfl
   have okA:∀ r∈A,∀ s∈r.2.2,s.Ok (os++rs):=fun r hr'=>by
    rcases hall r hr' with ⟨r',h1,rfl⟩|rfl|⟨t,h1,rfl⟩
    ·exact R.ok r' h1
    ·exact fun _ q=>nomatch q
    ·exact hok t (kept_mem h1)
   have lenA:∀ r∈A,r.2.2.length≤1000:=fun r hr'=>by
    rcases hall r hr' with ⟨r',h1,rfl⟩|rfl|⟨t,h1,rfl⟩
    ·exact hrs r' h1
    ·exact Nat.zero_le _
    ·exact hlen t (kept_mem h1)
   have mvA:∀ r∈A,∀ s∈r.2.2,mvd (mov (endOf os) (youngL gen ms (os++rs))) ((tgt (os++rs) s).elim 0 Th.addr) (newA (nextL gen ms os rs) s):=fun r hr' s hs=>by
    refine mvd_of hp ho hr hser (okA r hr' s hs) ?_
    rcases hall r hr' with ⟨r',h1,rfl⟩|rfl|⟨t,h1,rfl⟩
    ·exact hk1 r' h1 s hs
    ·cases hs
    ·exact hk2 t h1 s hs
   have lA:A.length≤50000:=by
    rw [←hA];simp only [lA,lM,lS];omega
   have listA:T4[ev]?=some (.tmp 501,.list (A.map fun r=>.obj r.1)):=by
    rw [he_4,←hA,mP,mP,mQ,mQ];rfl
   have ndA:(A.map (·.1)).Nodup:=by
    rw [←hA,mP,mP,mQ,mQ]
    have e1:rows.map ((fun r:Row=>r.1) ∘ realR)=rows.map (·.1):=rfl
    have e2:(keptL gen ms os rs).map ((fun r:Row=>r.1) ∘ slotR)=(keptL gen ms os rs).map Th.sid:=rfl
    rw [e1,e2]
    refine nD.mpr ⟨nD.mpr ⟨hrn,by simp,fun a ha b hb' e=>?_⟩,List.Pairwise.sublist (hsub.map _) hsid,fun a ha b hb' e=>?_⟩
    ·simp at hb';rw [e,hb'] at ha;exact hrd ha
    ·obtain⟨t,ht,rfl⟩:=mM.mp hb'
     have h1:=S t (kept_mem ht)
     rcases mA.mp ha with q|q
     ·obtain⟨r,hr',rfl⟩:=mM.mp q
      have h2:=R.at_ r hr'
      rw [e,h1] at h2
      cases congrArg Prod.fst (Option.some.inj h2)
     ·simp at q
      have h2:=hb.rdy
      rw [←q,e,h1] at h2
      cases congrArg Prod.fst (Option.some.inj h2)
   k_ownIn
   refine sp_nlists (by omega) M4 hp (sers_of hser) (by omega) okA lenA lA RA listA mvA fun i is T5 hn5 h_5 hil hall5 c_5=>?_
   k_ownIn
   have R5:RowsIs (whOf (os++rs)) A T5:=fun r hr'=>c_5.keep (RA r hr')
   refine sp_put (by omega) R5 kA ndA lA lenA (c_5.keep listA) (by decide) h_5 hil hall5 fun T6 h_6 c_6=>?_
   have hrdy6:T6[h.rdy]?=some (.real,.list []):=h_6 (h.rdy,.real,[]) (by rw [←hA];simp)
   have hb6:HB h (os++rs) f T6:=(hb.keep0 (c4'.tr c_5)).rows R5 kA c_6 hrdy6
   have hmv6:T6[mv]?=some (.tmp 390,.di (mov (endOf os) (youngL gen ms (os++rs)))):=c_6.get ((c4'.tr c_5).keep hmv) (rowX_off R5 kA ((c4'.tr c_5).keep hmv) (by decide))
   have b6:=hb6.hp
   unfold hpObj at b6
   k_ownIn
   refine sp_maddrs (by omega) hb6.fin fun fi T7 hn7 h_7 c_7=>?_
   have hb7:=hb6.keep0 c_7
   have b7:=hb7.hp
   unfold hpObj at b7
   k_ownIn
   rename_i T8 h_8 c_8
   have hb8:HB {h with fin:=fi} (os++rs) f T8:=hb7.hpPut c_8 (by simpa [hpObj] using h_8) rfl (c_8.otherK hb7.tl h_8) (c_8.otherK hb7.at_ h_8) (c_8.otherK hb7.cd h_8) (c_8.otherK h_7 h_8) (c_8.otherK hb7.rdy h_8)
   refine sp_settle (h:={h with fin:=fi}) (by omega) hb8 hp ho hr (by omega) htid (c_8.otherK (c_7.keep hmv6) h_8) fun tl' at' m T9 hb9 c9=>?_
   k_ownIn
   have fin:∀ r∈A,T9[r.1]?=some (r.2.1,.list (r.2.2.map (Spec.val (whOf (nextL gen ms os rs))))):=fun r hr'=>by
    have h1:=h_6 r hr'
    rw [newV_val] at h1
    have hkr:=kA r hr'
    refine c9.get (c_8.otherK (c_7.keep h1) h_8 (by rcases hkr with q|q<;>rw [q]<;>decide)) (nk (by rcases hkr with q|q<;>rw [q]<;>decide))
   refine k tl' at' fi m T9 hb9 (fun r hr'=>fin (realR r) (by rw [←hA];exact mL _ (mL _ (mO hr')))) (fun t' ht'=>?_) ?_
   ·obtain⟨j,hj⟩:=gO ht'
    obtain⟨t,ht⟩:∃ t,(keptL gen ms os rs)[j]?=some t:=⟨_,gE (by rw [←next_length];exact (gS.mp hj).1)⟩
    have:=fin (slotR t) (by rw [←hA];exact mR _ (mO (mG ht)))
    rcases kept_get hp ho ht with ⟨_,q2⟩|⟨_,a,_,q2⟩<;>rw [hj] at q2<;>cases q2<;>exact this
   ·refine c9.back (c_8.back (c_7.back (c_6.back (c_5.back (c4'.weaken fun _ _ q=>q.elim) side_no) fun i' kk o hi q=>?_) side_no) (side_kind hb.hp)) (side_ks (by decide))
    obtain⟨r,hr',rfl⟩:=q
    have h1:=c4'.keep hi
    rw [RA r hr'] at h1
    have e:r.2.1=kk:=congrArg Prod.fst (Option.some.inj h1)
    rw [←e]
    rcases kA r hr' with q|q<;>rw [q]
    ·exact List.Mem.tail _ (List.Mem.tail _ (List.Mem.head _))
    ·exact List.Mem.tail _ (List.Mem.tail _ (List.Mem.tail _ (List.Mem.head _)))
theorem sp_younger {h:Hid} {ts:List Th} {f:Hn} {t:Th} {s:Spec} (hn:2≤n) (hb:HB h ts f T) (hp:Packed 16 ts) (hsr:Sers ts) (ht:t∈ts) (hs:s.Ok ts) (hage:∀ v,tgt ts s=some v→v.age=t.age)
  (k:∀ T',Chg noX T T'→Q (.bool false) T'):Y (CN n 30 [.obj h.hp,.obj t.tid,s.val (whOf ts)] (hpOf T)) Q:=by
 obtain⟨n,rfl,_⟩:=down hn
 rw [val_tgt]
 refine call_fn (fd:=fd_refers_younger) (by rfl) (by rfl) ?_
 show SV _ [some (.obj h.hp),some (.obj t.tid),some (s.valA ((tgt ts s).elim 0 Th.addr)),none,none] _ _ _
 unfold fd_refers_younger
 refine SV.go ?_
 conv=>whnf
 refine HandS.intro (SV.forU ?_)
 k_ownIn
 refine sp_refs (by omega) fun i T1 hn_1 h_1 c_1=>?_
 have hb1:=hb.keep0 c_1
 have b1:=hb1.hp
 unfold hpObj at b1
 have b3:=hb1.at_
 have bt:=hb1.th t ht
 unfold Th.obj at bt
 k_ownIn
 have hcase:s.refsA ((tgt ts s).elim 0 Th.addr)=[]∨∃ v,tgt ts s=some v∧s.refsA ((tgt ts s).elim 0 Th.addr)=[.int v.addr]:=by
  cases q:tgt ts s with
  | none =>
   left
   unfold Spec.refsA oneL
   dsimp only [Option.elim]
   split<;>rfl
  | some v =>
   have:=hp.mem v (tgt_mem q).1
   have e:oneL v.addr=[.int v.addr]:=by unfold oneL;rw [if_neg (by omega)]
   unfold Spec.refsA
   dsimp only [Option.elim]
   split
   ·exact .inr ⟨v,rfl,e⟩
   ·exact .inr ⟨v,rfl,e⟩
   ·exact .inr ⟨v,rfl,e⟩
   ·exact .inl rfl
 rcases hcase with e|⟨v,hv,e⟩
 ·rw [e] at h_1 ⊢
  refine FV.done h_1 rfl ?_
  k_ownIn
  exact k _ c_1
 ·rw [e] at h_1 ⊢
  have hvm:=(tgt_mem hv).1
  have bv:=hb1.th v hvm
  unfold Th.obj at bv
  have hva:=hage v hv
  refine FV.step h_1 rfl ?_
  refine GetY.mk rfl ?_
  k_ownIn
  rw [dget_at hp.apart hvm]
  k_ownIn
  refine FV.done h_1 rfl ?_
  k_ownIn
  exact k _ c_1
def SameAge (ts:List Th):Prop:=∀ t∈ts,∀ s∈t.specs,∀ v,tgt ts s=some v→v.age=t.age
theorem sp_yslots {h:Hid} {ts:List Th} {f:Hn} (hn:3≤n) (hb:HB h ts f T) (S:SL ts T) (hp:Packed 16 ts) (hsr:Sers ts) (hok:∀ t∈ts,∀ s∈t.specs,s.Ok ts) (hlen:∀ t∈ts,t.specs.length≤1000) (hage:SameAge ts)
  (k:∀ i T',T[i]?=none→T'[i]?=some (.tmp 310,.list [])→Chg noX T T'→Q (.obj i) T'):Y (CN n 31 [.obj h.hp] (hpOf T)) Q:=by
 obtain⟨n,rfl,_⟩:=down hn
 refine call_fn (fd:=fd_younger_slots) (by rfl) (by rfl) ?_
 show SV _ [some (.obj h.hp),none,none,none] _ _ _
 unfold fd_younger_slots
 k_ownIn
 refine AnyK.mk (.tmp 310) ?_
 refine EVs.go ?_
 conv=>whnf
 refine NewY.intro ?_
 intro i T1 hn_1 h_1 c_1
 have b1:=(hb.keep0 c_1).hp
 unfold hpObj at b1
 have b2:=(hb.keep0 c_1).tl
 k_ownIn
 refine HandS.intro (SV.forI (fun j ρ T'=>∃ x y:Option V,ρ=[some (.obj h.hp),some (.obj i),x,y]∧Chg noX T1 T') ?_)
 k_ownIn
 refine⟨⟨_,_,rfl,.refl _ _⟩,?_,?_⟩
 ·rintro j v ρ T' hv ⟨x,y,rfl,c'⟩ ho
  rw [gM] at hv
  obtain⟨t,ht,rfl⟩:=Option.map_eq_some_iff.mp hv
  have htm:=mG ht
  have c'':=c_1.tr c'
  have hth':=c''.keep (hb.th t htm)
  unfold Th.obj at hth'
  refine GetY.mk rfl ?_
  k_ownIn
  refine⟨fun hb'=>?_,fun hb'=>?_⟩
  ·dsimp only [cA,nA]
   refine SV.go ?_
   conv=>whnf
   refine HandS.intro (SV.forR (fun j ρ T''=>∃ y:Option V,ρ=[some (.obj h.hp),some (.obj i),some (.obj t.tid),y]∧Chg noX T' T'') ?_)
   k_ownIn
   have hlt:=hlen t htm
   refine LenY.list (c''.keep (S t htm)) (by simp;unfold limit;omega) ?_
   k_ownIn
   refine⟨⟨by simp,by simp;unfold limit;omega⟩,⟨_,rfl,.refl _ _⟩,?_,?_⟩
   ·rintro j' ρ T3 hj' ⟨y,rfl,c_3⟩
    have hj':j'<t.specs.length:=by simpa using hj'
    obtain⟨s,hs⟩:∃ s,t.specs[j']?=some s:=⟨_,gE hj'⟩
    have hsm:=mG hs
    have c3':=c''.tr c_3
    have hth3:=c3'.keep (hb.th t htm)
    unfold Th.obj at hth3
    refine⟨Nat.le_of_ble_eq_true rfl,?_⟩
    show SV _ [some (.obj h.hp),some (.obj i),some (.obj t.tid),some (.int j')] _ _ _
    k_ownIn
    refine IdxY.list (c3'.keep (S t htm)) (at_nat (v:=s.val (whOf ts)) (by rw [gM,hs];rfl) (by omega)) ?_
    k_ownIn
    refine sp_younger (by omega) (hb.keep0 c3') hp hsr htm (hok t htm s hsm) (hage t htm s hsm) fun T4 c4=>?_
    k_ownIn
    exact⟨_,rfl,c_3.tr c4⟩
   ·rintro ρ T3 ⟨y,rfl,c_3⟩
    k_ownIn
    exact⟨⟨_,_,rfl,c'.tr c_3⟩,c_3.keep ho⟩
  ·dsimp only [cA,nA]
   k_ownIn
   exact⟨⟨_,_,rfl,c'⟩,ho⟩
 ·rintro ρ T' ⟨x,y,rfl,c'⟩ ho
  k_ownIn
  exact k _ _ hn_1 (c'.keep h_1) (c_1.tr c')
theorem sp_renew {h:Hid} {ts:List Th} {f:Hn} (hn:4≤n) (hb:HB h ts f T) (S:SL ts T) (hp:Packed 16 ts) (hsr:Sers ts) (hok:∀ t∈ts,∀ s∈t.specs,s.Ok ts) (hlen:∀ t∈ts,t.specs.length≤1000) (hage:SameAge ts)
  (k:∀ cd' T',HB {h with cd:=cd'} ts f T'→Chg (ksX [.hp]) T T'→Q .none T'):Y (CN n 32 [.obj h.hp] (hpOf T)) Q:=by
 obtain⟨n,rfl,_⟩:=down hn
 refine call_fn (fd:=fd_renew_cards) (by rfl) (by rfl) ?_
 show SV _ [some (.obj h.hp),none,none] _ _ _
 unfold fd_renew_cards
 refine SV.go ?_
 conv=>whnf
 refine EV.go ?_
 conv=>whnf
 refine AnyK.mk .cd ?_
 refine NewY.intro ?_
 intro i T1 hn_1 h_1 c_1
 have hb1:=hb.keep0 c_1
 have b1:=hb1.hp
 unfold hpObj at b1
 k_ownIn
 rename_i T2 h_2 c_2
 have hb2:HB {h with cd:=i} ts f T2:=hb1.hpPut c_2 (by simpa [hpObj] using h_2) rfl (c_2.otherK hb1.tl h_2) (c_2.otherK hb1.at_ h_2) (c_2.otherK h_1 h_2) (c_2.otherK hb1.fin h_2) (c_2.otherK hb1.rdy h_2)
 have S2:SL ts T2:=fun t ht=>c_2.otherK (c_1.keep (S t ht)) h_2
 refine HandS.intro (SV.forU ?_)
 k_ownIn
 refine sp_yslots (h:={h with cd:=i}) (by omega) hb2 S2 hp hsr hok hlen hage fun l T3 hn3 h_3 c_3=>?_
 k_ownIn
 refine FV.done h_3 rfl ?_
 k_ownIn
 exact k i T3 (hb2.keep0 c_3) (c_3.back (c_2.back (c_1.weaken fun _ _ q=>q.elim) (side_kind hb.hp)) side_no)
theorem sp_used {h:Hid} {ts:List Th} {f:Hn} (hn:1≤n) (hb:HB h ts f T) (k:Q (.int ((endOf ts:Nat)-16)) T):Y (CN n 4 [.obj h.hp] (hpOf T)) Q:=by
 obtain⟨n,rfl,_⟩:=down hn
 have b1:=hb.hp
 unfold hpObj at b1
 refine call_fn (fd:=fd_used_words) (by rfl) (by rfl) ?_
 show SV _ [some (.obj h.hp)] _ _ _
 unfold fd_used_words
 k_ownIn
 exact k
theorem sp_note {h:Hid} {ts:List Th} {f:Hn} {gen:Nat} (hn:2≤n) (hb:HB h ts f T) (k:∀ l fr T',HB h ts {f with limit:=l,fresh:=fr} T'→Chg (ksX [.hp]) T T'→Q .none T'):Y (CN n 5 [.obj h.hp,.int gen] (hpOf T)) Q:=by
 obtain⟨n,rfl,_⟩:=down hn
 have b1:=hb.hp
 unfold hpObj at b1
 refine call_fn (fd:=fd_note_collected) (by rfl) (by rfl) ?_
 show SV _ [some (.obj h.hp),some (.int gen)] _ _ _
 unfold fd_note_collected
 have done:∀ {T':TH} {l fr:Int},T'[h.hp]?=some (.hp,hpObj h {f with limit:=l,fresh:=fr} (endOf ts))→Chg (oneX h.hp) T T'→HB h ts {f with limit:=l,fresh:=fr} T'∧Chg (ksX [.hp]) T T':=fun hh c =>
  ⟨hb.hpPut c hh rfl (c.otherK hb.tl hh) (c.otherK hb.at_ hh) (c.otherK hb.cd hh) (c.otherK hb.fin hh) (c.otherK hb.rdy hh),c.back (.refl _ _) (side_kind hb.hp)⟩
 k_ownIn
 rename_i T1 h_1 c_1
 have d_1:=done (l:=f.limit) (fr:=0) (by simpa [hpObj] using h_1) c_1
 by_cases hg:2≤gen
 ·refine⟨fun _=>?_,fun hb'=>by simp at hb';omega⟩
  k_ownIn
  refine sp_used (by omega) d_1.1 ?_
  k_ownIn
  refine⟨fun hb'=>?_,fun hb'=>?_⟩
  ·dsimp only [cA,nA]
   k_ownIn
   refine sp_used (by omega) d_1.1 ?_
   k_ownIn
   rename_i T2 h_2 c_2
   have d_2:=done (l:=2*((endOf ts:Nat)-16)) (fr:=0) (by simpa [hpObj] using h_2) c_2
   exact k _ _ _ d_2.1 d_2.2
  ·dsimp only [cA,nA]
   k_ownIn
   exact k _ _ _ d_1.1 d_1.2
 ·k_ownIn
  exact k _ _ _ d_1.1 d_1.2
inductive Reach (ts:List Th) (rows:List (List Spec)):Th→Prop
 | root {r s v}:r∈rows→s∈r→tgt ts s=some v→Reach ts rows v
 | step {u s v}:Reach ts rows u→s∈u.specs→tgt ts s=some v→Reach ts rows v
theorem reach_mem {ts:List Th} {rows:List (List Spec)} {t:Th} (h:Reach ts rows t):t∈ts:=by
 cases h with
 | root _ _ e=>exact (tgt_mem e).1
 | step _ _ e=>exact (tgt_mem e).1
def bumpA (gen a:Nat):Nat:=if gen<a then a else if a<2 then a+1 else a
theorem kept_image {gen:Nat} {ms os rs:List Th} (hp:Packed 16 (os++rs)) (ho:∀ t∈os,gen<t.age) {v:Th} (h:v∈keptL gen ms os rs):∃ v'∈nextL gen ms os rs,v'.ser=v.ser∧v'.specs=v.specs∧v'.age=bumpA gen v.age∧v'.kind=v.kind∧v'.tid=v.tid∧v'.sid=v.sid∧v'.pid=v.pid:=by
 obtain⟨j,hj⟩:=gO h
 rcases kept_get hp ho hj with ⟨h1,h2⟩|⟨h1,a,_,h2⟩
 ·exact⟨v,mG h2,rfl,rfl,by unfold bumpA;rw [if_pos h1],rfl,rfl,rfl,rfl⟩
 ·exact⟨_,mG h2,rfl,rfl,by unfold bumpA;rw [if_neg (by omega)];rfl,rfl,rfl,rfl,rfl⟩
theorem next_image {gen:Nat} {ms os rs:List Th} (hp:Packed 16 (os++rs)) (ho:∀ t∈os,gen<t.age) {v':Th} (h:v'∈nextL gen ms os rs):∃ v∈keptL gen ms os rs,v'.ser=v.ser∧v'.specs=v.specs∧v'.age=bumpA gen v.age∧v'.kind=v.kind∧v'.tid=v.tid∧v'.sid=v.sid∧v'.pid=v.pid:=by
 obtain⟨j,hj⟩:=gO h
 obtain⟨v,hv⟩:∃ v,(keptL gen ms os rs)[j]?=some v:=⟨_,gE (by rw [←next_length];exact (gS.mp hj).1)⟩
 rcases kept_get hp ho hv with ⟨h1,h2⟩|⟨h1,a,_,h2⟩
 ·rw [hj] at h2;cases h2
  exact⟨_,mG hv,rfl,rfl,by unfold bumpA;rw [if_pos h1],rfl,rfl,rfl,rfl⟩
 ·rw [hj] at h2;cases h2
  exact⟨v,mG hv,rfl,rfl,by unfold bumpA;rw [if_neg (by omega)];rfl,rfl,rfl,rfl,rfl⟩
structure Good (ts:List Th):Prop where
 packed:Packed 16 ts
 ser:ts.Pairwise fun a b=>a.ser<b.ser
 aged:ts.Pairwise fun a b=>b.age≤a.age
 age2:∀ t∈ts,t.age≤2
 pos:∀ t∈ts,0<t.ser
 ok:∀ t∈ts,∀ s∈t.specs,s.Ok ts
 same:SameAge ts
 len:∀ t∈ts,t.specs.length≤10
 tid:(ts.map Th.tid).Nodup
 sid:(ts.map Th.sid).Nodup
theorem Good.sers {ts:List Th} (G:Good ts):(ts.map Th.ser).Nodup:=by
 unfold List.Nodup
 rw [List.pairwise_map]
 exact G.ser.imp fun h=>Nat.ne_of_lt h
theorem Good.split {ts:List Th} (G:Good ts) (gen:Nat):∃ os rs,ts=os++rs∧(∀ t∈os,gen<t.age)∧∀ t∈rs,t.age≤gen:=by
 have h:=G.aged
 clear G
 induction ts with
 | nil=>exact⟨[],[],rfl,fun _ h=>(nomatch h),fun _ h=>(nomatch h)⟩
 | cons a r ih =>
  rw [List.pairwise_cons] at h
  obtain⟨os,rs,e,h1,h2⟩:=ih h.2
  by_cases q:gen<a.age
  ·refine⟨a::os,rs,by rw [e];rfl,fun t ht=>?_,h2⟩
   rcases mK.mp ht with rfl|ht
   ·exact q
   ·exact h1 t ht
  ·refine⟨[],a::r,rfl,fun _ h=>(nomatch h),fun t ht=>?_⟩
   rcases mK.mp ht with rfl|ht
   ·omega
   ·have:=h.1 t ht;omega
structure Keeps (gen:Nat) (ms os rs:List Th):Prop where
 ho:∀ t∈os,gen<t.age
 hr:∀ t∈rs,t.age≤gen
 cl:∀ t∈keptL gen ms os rs,∀ s∈t.specs,∀ v,tgt (os++rs) s=some v→v∈keptL gen ms os rs
theorem tgt_next {gen:Nat} {ms os rs:List Th} (G:Good (os++rs)) (ho:∀ t∈os,gen<t.age) (hr:∀ t∈rs,t.age≤gen) {s:Spec} (hs:s.Ok (os++rs)) (hk:∀ v,tgt (os++rs) s=some v→v∈keptL gen ms os rs) :
  s.Ok (nextL gen ms os rs)∧∀ v',tgt (nextL gen ms os rs) s=some v'→∃ v,tgt (os++rs) s=some v∧v'.age=bumpA gen v.age:=by
 have hns:=sers_of (next_sers (ms:=ms) ho hr G.sers)
 refine⟨⟨hs.form,hs.n,fun h0=>?_,hs.place⟩,fun v' hv'=>?_⟩
 ·obtain⟨h1,t,ht,e,h2⟩:=hs.one h0
  obtain⟨v',hv',e1,e2,_⟩:=kept_image G.packed ho (hk t (tgt_of (sers_of G.sers) h0 ht e))
  exact⟨h1,v',hv',e1.trans e,by rw [e2];exact h2⟩
 ·obtain⟨hm,h0,e⟩:=tgt_mem hv'
  obtain⟨h1,t,ht,e',h2⟩:=hs.one h0
  have ht':=tgt_of (sers_of G.sers) h0 ht e'
  obtain⟨w,hw,e1,e2,e3,_⟩:=kept_image G.packed ho (hk t ht')
  have:v'=w:=hns v' hm w hw (by rw [e,e1,e'])
  subst this
  exact⟨t,ht',e3⟩
theorem Keeps.next {gen:Nat} {ms os rs:List Th} (G:Good (os++rs)) (Kp:Keeps gen ms os rs):Good (nextL gen ms os rs):=by
 obtain⟨ho,hr,cl⟩:=Kp
 have hsub:=kept_sub (ms:=ms) ho hr
 refine⟨nextL_packed G.packed,?_,?_,fun t' ht'=>?_,fun t' ht'=>?_,fun t' ht' s hs=>?_,fun t' ht' s hs v' hv'=>?_,fun t' ht'=>?_,?_,?_⟩
 ·have:(keptL gen ms os rs).Pairwise fun a b=>a.ser<b.ser:=List.Pairwise.sublist hsub G.ser
  rw [←List.pairwise_map (f:=Th.ser)] at this ⊢
  rw [next_map fun _ _=>rfl];exact this
 ·have h1:(keptL gen ms os rs).Pairwise fun a b=>b.age≤a.age:=List.Pairwise.sublist hsub G.aged
  have e:(nextL gen ms os rs).map Th.age=(keptL gen ms os rs).map fun t=>bumpA gen t.age:=by
   refine List.ext_getElem? fun j=>?_
   rw [gM,gM]
   cases q:(keptL gen ms os rs)[j]? with
   | none=>rw [List.getElem?_eq_none (by rw [next_length];exact List.getElem?_eq_none_iff.mp q)];rfl
   | some t =>
    rcases kept_get G.packed ho q with ⟨h1,h2⟩|⟨h1,a,_,h2⟩<;>rw [h2]
    ·show some t.age=some (bumpA gen t.age);unfold bumpA;rw [if_pos h1]
    ·show some (t.aged a).age=some (bumpA gen t.age);unfold bumpA;rw [if_neg (by omega)];rfl
  rw [←List.pairwise_map (f:=Th.age) (R:=fun a b=>b≤a),e,List.pairwise_map]
  refine h1.imp fun {a b} h=>?_
  unfold bumpA
  split<;>split<;>(try split)<;>(try split)<;>omega
 ·obtain⟨v,hv,_,_,e,_⟩:=next_image G.packed ho ht'
  have:=G.age2 v (kept_mem hv)
  rw [e];unfold bumpA;split<;>(try split)<;>omega
 ·obtain⟨v,hv,e,_⟩:=next_image G.packed ho ht'
  rw [e];exact G.pos v (kept_mem hv)
 ·obtain⟨v,hv,_,e,_⟩:=next_image G.packed ho ht'
  rw [e] at hs
  exact (tgt_next G ho hr (G.ok v (kept_mem hv) s hs) (cl v hv s hs)).1
 ·obtain⟨v,hv,_,e,e2,_⟩:=next_image G.packed ho ht'
  rw [e] at hs
  obtain⟨w,hw,e3⟩:=(tgt_next G ho hr (G.ok v (kept_mem hv) s hs) (cl v hv s hs)).2 v' hv'
  rw [e3,e2,G.same v (kept_mem hv) s hs w hw]
 ·obtain⟨v,hv,_,e,_⟩:=next_image G.packed ho ht'
  rw [e];exact G.len v (kept_mem hv)
 ·rw [next_map fun _ _=>rfl];exact List.Pairwise.sublist (hsub.map _) G.tid
 ·rw [next_map fun _ _=>rfl];exact List.Pairwise.sublist (hsub.map _) G.sid
theorem marked_iff {ts:List Th} {gen:Nat} {rows:List (Nat×List Spec)} {ms:List Th} (G:Good ts) (h1:Mk1 gen ts (Reach ts (rows.map (·.2))) (ms,[])) (h2:∀ u∈ms,∀ s∈u.specs,ClS gen ts ms s) (h3:∀ r∈rows,∀ s∈r.2,ClS gen ts ms s) {t:Th} (ha:t.age≤gen) :
  t∈ms ↔ Reach ts (rows.map (·.2)) t:=by
 refine⟨fun h=>(h1.sub t h).2.2,fun h=>?_⟩
 induction h with
 | root hr hs e =>
  obtain⟨r,hr',rfl⟩:=mM.mp hr
  rcases h3 r hr' _ hs _ e with q|q
  ·omega
  ·exact q
 | step hu hs e ih =>
  have:=G.same _ (reach_mem hu) _ hs _ e
  rcases h2 _ (ih (by omega)) _ hs _ e with q|q
  ·omega
  ·exact q
theorem next_congr {gen:Nat} {ms sn os rs:List Th} (h:∀ t∈os++rs,t.age≤gen→(t∈ms ↔ t∈sn)):youngL gen ms (os++rs)=youngL gen sn (os++rs):=by
 unfold youngL
 refine List.filter_congr fun t ht=>?_
 unfold inY
 by_cases q:t.age≤gen
 ·have:=h t ht q
  by_cases q':t∈ms
  ·rw [decide_eq_true q',decide_eq_true (this.mp q')]
  ·rw [decide_eq_false q',decide_eq_false fun x=>q' (this.mpr x)]
 ·rw [decide_eq_false q];rfl
set_option maxHeartbeats 2000000 in
theorem sp_collect {h:Hid} {hd hr' lo:Nat} {os rs sn:List Th} {f:Hn} {gen:Nat} {rows:List (Nat×List Spec)} (hn:9≤n) (hb:HB h (os++rs) f T) (H:Hds hd hr' T) (S:SL (os++rs) T) (G:Good (os++rs)) (ho:∀ t∈os,gen<t.age) (hr:∀ t∈rs,t.age≤gen) (hlim:(os++rs).length≤20000)
  (R:RowsAt (os++rs) rows T) (hrl:rows.length≤20000) (hrs:∀ r∈rows,r.2.length≤1000) (hrn:(rows.map (·.1)).Nodup) (hrd:h.rdy∉rows.map (·.1)) (hlo:T[lo]?=some (.tmp 540,.list (rows.map fun r=>.obj r.1)))
  (hsn:∀ t∈os++rs,t.age≤gen→(t∈sn ↔ Reach (os++rs) (rows.map (·.2)) t))
  (k:∀ h' f' T',h'.hp=h.hp→h'.rdy=h.rdy→f'.made=f.made→Keeps gen sn os rs→HB h' (nextL gen sn os rs) f' T'→(∀ r∈rows,T'[r.1]?=some (.real,.list (r.2.map (Spec.val (whOf (nextL gen sn os rs))))))→SL (nextL gen sn os rs) T'→Chg (ksX [.hp,.th,.real,.slots]) T T' →
   (∀ r∈rows,∀ s∈r.2,s.Ok (nextL gen sn os rs))→Q (.int (((os++rs).length:Int)-((nextL gen sn os rs).length:Int))) T') :
  Y (CN n 53 [.obj h.hp,.obj lo,.obj hd,.int gen] (hpOf T)) Q:=by
 obtain⟨n,rfl,_⟩:=down hn
 refine call_fn (fd:=fd_collect) (by rfl) (by rfl) ?_
 show SV _ [some (.obj h.hp),some (.obj lo),some (.obj hd),some (.int gen),none,none,none] _ _ _
 unfold fd_collect
 have b1:=hb.hp
 unfold hpObj at b1
 k_ownIn
 refine LenY.list hb.tl (by rw [lM];unfold limit;omega) ?_
 k_ownIn
 refine sp_living (P:=Reach (os++rs) (rows.map (·.2))) (by omega) hb H S G.packed (sers_of G.sers) (by omega) G.ok (fun t ht=>Nat.le_trans (G.len t ht) (by decide)) R hlo (by omega) (fun u v s _ hu hs e=>.step hu hs e) (fun r hr s hs v e=>.root (mO hr) hs e) fun mk ms fi T1 hn_1 h_1 g1 g2 g3 hb1 c_1=>?_
 have hiff:∀ t∈os++rs,t.age≤gen→(t∈ms ↔ t∈sn):=fun t ht ha=>(marked_iff G g1 g2 g3 ha).trans (hsn t ht ha).symm
 have hyo:=next_congr hiff
 have hne:nextL gen ms os rs=nextL gen sn os rs:=by unfold nextL;rw [hyo]
 have hke:keptL gen ms os rs=keptL gen sn os rs:=by unfold keptL;rw [hyo]
 have hkept:∀ v∈os++rs,gen<v.age∨v∈ms→v∈keptL gen ms os rs:=fun v hv q=>by
  rcases mA.mp hv with hv'|hv'
  ·exact mL _ hv'
  ·have:=hr v hv'
   rcases q with q|q
   ·omega
   ·exact mR _ (mem_young.mpr ⟨hv,this,q⟩)
 have hk1:∀ r∈rows,∀ s∈r.2,∀ v,tgt (os++rs) s=some v→v∈keptL gen ms os rs:=fun r hr' s hs v e=>hkept v (tgt_mem e).1 (g3 r hr' s hs v e)
 have hk2:∀ t∈keptL gen ms os rs,∀ s∈t.specs,∀ v,tgt (os++rs) s=some v→v∈keptL gen ms os rs:=fun t ht s hs v e=>by
  refine hkept v (tgt_mem e).1 ?_
  rcases mA.mp ht with ht'|ht'
  ·have:=G.same t (kept_mem ht) s hs v e
   have:=ho t ht'
   exact .inl (by omega)
  ·exact g2 t (mem_young.mp ht').2.2 s hs v e
 have Kp:Keeps gen ms os rs:=⟨ho,hr,hk2⟩
 have hms:∀ m∈ms,m∈os++rs:=fun m hm=>(g1.sub m hm).1
 have S1:SL (os++rs) T1:=fun t ht=>c_1.get (S t ht) nk
 have R1:RowsAt (os++rs) rows T1:=⟨fun r hr'=>c_1.get (R.at_ r hr') nk,R.ok⟩
 have H1:=H.chg c_1 fun _=>⟨nk,nk⟩
 have hlo1:=c_1.get hlo nk
 k_ownIn
 refine sp_plan (h:={h with fin:=fi}) (by omega) hb1 G.packed ho hr (by omega) h_1 hms fun mv T2 hn_2 h_2 c_2=>?_
 have hb2:=hb1.keep0 c_2
 k_ownIn
 refine sp_moveall (h:={h with fin:=fi}) (by omega) hb2 (fun t ht=>c_2.keep (S1 t ht)) G.packed ho hr hlim G.tid G.sid G.sers G.ok (fun t ht=>Nat.le_trans (G.len t ht) (by decide)) ⟨fun r hr'=>c_2.keep (R1.at_ r hr'),R.ok⟩ hrl hrs hrn hrd (c_2.keep hlo1) hk1 hk2 h_2 fun tl' at' fi' m T3 hb3 R3 S3 c_3=>?_
 have H3:=(H1.chg c_2 fun _=>⟨id,id⟩).chg c_3 fun _=>⟨nk,nk⟩
 have G':=Kp.next G
 k_ownIn
 refine sp_moveh (by omega) H3 ?_
 k_ownIn
 refine sp_renew (h:={h with tl:=tl',at_:=at',fin:=fi'}) (by omega) hb3 S3 G'.packed (sers_of G'.sers) G'.ok (fun t ht=>Nat.le_trans (G'.len t ht) (by decide)) G'.same fun cd' T4 hb4 c4=>?_
 k_ownIn
 refine sp_note (h:={h with tl:=tl',at_:=at',fin:=fi',cd:=cd'}) (by omega) hb4 fun l fr T5 hb5 c_5=>?_
 have b5:=hb5.hp
 unfold hpObj at b5
 have hl5:(nextL gen ms os rs).length≤20000:=by have:=kept_le (ms:=ms) ho hr;rw [next_length];omega
 k_ownIn
 refine LenY.list hb5.tl (by rw [lM];unfold limit;omega) ?_
 k_ownIn
 rw [lM,lM,hne]
 rw [hne] at hb5 R3 S3
 refine k _ _ T5 ?_ ?_ ?_ ⟨ho,hr,by rw [←hke];exact hk2⟩ hb5 (fun r hr'=>c_5.get (c4.get (R3 r hr') nk) nk) (fun t ht=>c_5.get (c4.get (S3 t ht) nk) nk) ?_ fun r hr' s hs=>?_
 ·rfl
 ·rfl
 ·rfl
 ·exact c_5.back (c4.back (c_3.back (c_2.back (c_1.weaken fun _ _ q=>by
   have q:_∈[K.hp]:=q
   rw [mS] at q;rw [q];exact List.Mem.head _) side_no) side_same) (side_ks (by decide))) (side_ks (by decide))
 ·rw [←hne]
  exact (tgt_next G ho hr (R.ok r hr' s hs) (hk1 r hr' s hs)).1
end Mine
namespace Mine
open PySem
open _root_.List renaming length_map → lM, append_nil → aN, append_assoc → aA, map_append → mP, mem_of_getElem? → mG, length_append → lA, getElem?_eq_some_iff → gS, getElem?_map → gM, mem_append → mA, mem_map → mM, map_cons → mC, cons_append → cA, mem_singleton → mS, mem_cons → mK, nil_append → nA, getElem?_eq_getElem → gE, mem_append_left → mL, length_cons → lC, mem_map_of_mem → mO, not_mem_nil → nM, getElem?_of_mem → gO, zip_cons_cons → zC, lookup_cons → kC, take_add_one → tO, mem_append_right → mR, take_length → tL, nodup_append → nD, map_map → mQ, filter_append → fA, length_nil → lN, take_sublist → tS, getElem?_append_left → gL, getElem?_append_right → gR, nodup_cons → nC, length_take → lT, length_singleton → lS, flatMap_cons → fC, map_congr_left → mJ, perm_append_singleton → pS, getElem?_cons_zero → gZ
variable {n:Nat} {T:TH} {Q:V→TH→Prop}
theorem fdiv_nat (a b:Nat):Int.fdiv (a:Int) (b:Int)=((a/b:Nat):Int):=by
 rw [Int.fdiv_eq_ediv_of_nonneg _ (by omega)];omega
theorem fmod_nat (a b:Nat):Int.fmod (a:Int) (b:Int)=((a%b:Nat):Int):=by
 rw [Int.fmod_eq_emod_of_nonneg _ (by omega)];omega
theorem BinY.addN {a b:Nat} {Q:V→Prop} (h:Q (.int ((a+b:Nat):Int))):BinY .add (.int (a:Int)) (.int (b:Int)) Q:=⟨_,rfl,h⟩
theorem BinY.fdivN {a b:Nat} {Q:V→Prop} (hb:0<b∧b<1000000000) (h:Q (.int ((a/b:Nat):Int))):BinY .fdiv (.int (a:Int)) (.int (b:Int)) Q:=by
 refine⟨_,?_,h⟩
 simp only [binV,intOp]
 rw [if_pos ⟨by omega,by omega⟩,fdiv_nat];rfl
theorem BinY.modN {a b:Nat} {Q:V→Prop} (hb:0<b) (h:Q (.int ((a%b:Nat):Int))):BinY .mod (.int (a:Int)) (.int (b:Int)) Q:=by
 refine⟨_,?_,h⟩
 simp only [binV,intOp]
 rw [if_pos (by omega),fmod_nat];rfl
local macro_rules | `(tactic| k_caughtN0) => `(tactic| first
 | exact off_no|exact off_one (by assumption) (by first|decide|assumption|exact Ne.symm (by assumption))|exact off_ne (by first|assumption|exact Ne.symm (by assumption))|exact off_not (by intro h;simp at h;done)|exact off_not (by assumption))
local macro_rules | `(tactic| k_caughtNB) => `(tactic| first
 | assumption
 | exact Chg.look (by assumption) (by k_caughtNB) (by k_caughtN0))
local macro_rules | `(tactic| o_fieldsN) => `(tactic| first
 | (apply EV.go;conv=>whnf)
 | (apply SV.go;conv=>whnf)
 | (apply EVs.go;conv=>whnf)
 | (apply InstY.mk;(focus k_caughtNB);conv=>whnf)
 | (apply BinY.addN;conv=>whnf)|(apply BinY.fdivN;(focus exact⟨by decide,by decide⟩);conv=>whnf)|(apply BinY.modN;(focus decide);conv=>whnf)
 | (apply BinY.mk;(focus rfl);(try simp only [Int.reduceSub,Int.reduceAdd,Int.reduceMul,Int.reduceNeg]);conv=>whnf)
 | (apply CmpY.mk;(focus rfl);conv=>whnf)
 | (with_reducible apply IdxY.tup0;conv=>whnf)|(with_reducible apply IdxY.tup1;conv=>whnf)|(with_reducible apply IdxY.tup2;conv=>whnf)|(with_reducible apply IdxY.list0;(focus k_caughtNB);conv=>whnf)|(with_reducible apply IdxY.list1;(focus k_caughtNB);conv=>whnf)
 | (apply WdY.mk;(focus k_caughtNB);conv=>whnf)
 | (apply ListY.mk;(focus k_caughtNB);conv=>whnf)
 | (apply DiY.mk;(focus k_caughtNB);conv=>whnf)
 | (apply LenY.tup;(focus exact Nat.le_of_ble_eq_true rfl);(try simp only [lC,lN,Nat.zero_add,Nat.reduceAdd,Int.cast_ofNat_Int,Int.ofNat_zero,Int.ofNat_one]);conv=>whnf)
 | (apply LenY.list;(focus k_caughtNB);(focus exact Nat.le_of_ble_eq_true rfl);(try simp only [lC,lN,Nat.zero_add,Nat.reduceAdd,Int.cast_ofNat_Int,Int.ofNat_zero,Int.ofNat_one]);conv=>whnf)
 | (apply AttrPut.mk;(focus k_caughtNB);(focus exact Nat.le_of_ble_eq_true rfl))|(apply WdPut.mk;(focus k_caughtNB);(focus exact Nat.le_of_ble_eq_true rfl))
 | (apply PutY.intro;intro T' hT' hC';(try simp only [putAt,lC,lN,Nat.zero_add,Nat.reduceAdd,Nat.reduceSub,Nat.add_one_sub_one,List.eraseIdx_zero,List.eraseIdx_cons_zero,List.eraseIdx_cons_succ,List.tail_cons,cA,nA,Nat.sub_self] at hT');(try (have hC'':=Chg.tr (by assumption) hC';clear hC';have hC':=hC'';clear hC''));conv=>whnf)
 | (apply NewY.intro;intro i T' hn' hT' hC';conv=>whnf)
 | (apply AugY.add;(try simp only [Int.reduceSub,Int.reduceAdd,Int.reduceNeg]);conv=>whnf)|(apply AugY.sub;(try simp only [Int.reduceSub,Int.reduceAdd,Int.reduceNeg]);conv=>whnf)
 | (apply BoolY.mk;conv=>whnf)|(apply ObjY.mk;conv=>whnf)|(apply IntY.mk;conv=>whnf)|(apply TupY.mk;conv=>whnf)
 | (refine And.intro (by exact Nat.le_of_ble_eq_true rfl) ?_;conv=>whnf)
 | (apply GetY.mk;(focus rfl);conv=>whnf))
local macro_rules | `(tactic| k_caughtB) => `(tactic| first
 | exact Chg.refl _ _
 | assumption
 | exact Chg.back (by assumption) (by k_caughtB) (by first|exact side_any|exact side_no|exact side_same|exact side_fresh (by assumption)|exact side_fresh (none_back (by assumption) (by k_caughtB))|exact side_kind (by assumption)|exact side_ks (by decide)|assumption))
local macro_rules | `(tactic| k_caught0) => `(tactic| (first
 | refine⟨fun _=>?_,fun hb=>absurd hb (by decide)⟩
 | refine⟨fun hb=>absurd hb (by decide),fun _=>?_⟩
 | refine⟨fun _=>?_,fun hb=>False.elim (by first|(simp at hb;done)|(simp at hb;omega))⟩
 | refine⟨fun hb=>False.elim (by first|(simp at hb;done)|(simp at hb;omega)),fun _=>?_⟩);(try dsimp only [cA,nA]))
local macro_rules | `(tactic| k_ownIn) => `(tactic| repeat first | o_fieldsN | k_caught0)
local macro_rules | `(tactic| k_updF) => `(tactic| repeat first | o_fieldsN | k_caught0 | refine HandS.intro (SV.whileU ?_) | refine WV.step (by decide) ?_)
local macro_rules | `(tactic| k_subL) => `(tactic| (refine ⟨by (simp only [lA, lM, lC, lN]; unfold limit; omega), ?_⟩; refine PutY.intro ?_; intro T' hT' hC'; (try (have hC'' := Chg.tr (by assumption) hC'; clear hC'; have hC' := hC''; clear hC'')); conv => whnf))
structure Scr (i:WId) (ns:List Int) (T:TH):Prop where
 at_:T[i.scr]?=some (.scr,.list (ns.map .int))
 len:ns.length≤16
theorem sp_number {i:WId} {f:WN} {ns:List Int} (hn:1≤n) (hw:T[i.w]?=some (.w,i.obj f)) (S:Scr i ns T) (hb:f.at_≤50000) (k:∀ (z:Nat) T',z<99991→T'[i.w]?=some (.w,i.obj {f with at_:=f.at_+1})→Chg (oneX i.w) T T'→Q (.int z) T'):Y (CN n 69 [.obj i.w] (hpOf T)) Q:=by
 obtain⟨n,rfl,_⟩:=down hn
 refine call_fn (fd:=fd_law_number) (by rfl) (by rfl) ?_
 show SV _ [some (.obj i.w)] _ _ _
 unfold fd_law_number
 unfold WId.obj at hw
 k_ownIn
 rename_i T1 h_1 c_1
 have hs1:=c_1.otherK S.at_ h_1
 have hl:=S.len
 refine LenY.list hs1 (by rw [lM];unfold limit;omega) ?_
 k_ownIn
 refine⟨fun hb'=>?_,fun hb'=>?_⟩
 ·dsimp only [cA,nA]
  k_ownIn
  exact k _ T1 (Nat.mod_lt _ (by decide)) (by simpa [WId.obj] using h_1) c_1
 ·dsimp only [cA,nA]
  rw [lM] at hb'
  have hat:f.at_<ns.length:=by simp at hb';omega
  obtain⟨v,hv⟩:∃ v,ns[f.at_]?=some v:=⟨_,gE hat⟩
  k_ownIn
  rw [show (((f.at_+1:Nat):Int)-1)=(f.at_:Int) by omega]
  refine IdxY.list hs1 (at_nat (v:=.int v) (by rw [gM,hv];rfl) (by omega)) ?_
  k_ownIn
  have e:Int.fmod v 99991=((Int.fmod v 99991).toNat:Int):=by
   have:=Int.fmod_nonneg_of_pos v (b:=99991) (by decide)
   omega
  have e2:Int.fmod v 99991<99991:=Int.fmod_lt_of_pos v (by decide)
  rw [e]
  exact k _ T1 (by omega) (by simpa [WId.obj] using h_1) c_1
structure Bk (i:WId) (f:WN) (ts:List Th) (T:TH):Prop where
 w:T[i.w]?=some (.w,i.obj f)
 ag:T[i.ag]?=some (.ag,.di (ts.map fun t=>((t.ser:Int),.int t.age)))
 wh:T[i.wh]?=some (.wh,.di (whL ts))
 wt:∃ wl,T[i.wt]?=some (.wt,.di wl)∧(∀ p∈wl,p.1≤f.made)∧wl.length≤f.made∧∀ t∈ts,dget wl (t.ser:Int)=some (.tup [.int t.kind,.obj t.pid])
 pid:∀ t∈ts,T[t.pid]?=some (.tspec,.list (t.specs.map Spec.v))
 top:f.top=endOf ts
 made:∀ t∈ts,t.ser≤f.made
theorem Bk.chg {i:WId} {f:WN} {ts:List Th} {T T':TH} {X:Nat→K→Prop} (b:Bk i f ts T) (c:Chg X T T') (n:∀ i,¬ X i .w∧¬ X i .ag∧¬ X i .wh∧¬ X i .wt∧¬ X i .tspec):Bk i f ts T':=by
 obtain⟨b1,b2,b3,⟨wl,b4,b4'⟩,b5,b6,b7⟩:=b
 exact⟨c.get b1 (n _).1,c.get b2 (n _).2.1,c.get b3 (n _).2.2.1,⟨wl,c.get b4 (n _).2.2.2.1,b4'⟩,fun t ht=>c.get (b5 t ht) (n _).2.2.2.2,b6,b7⟩
theorem dget_app {l:List (Int×V)} {k k':Int} {v:V} (h:k'≠k):dget (l++[(k,v)]) k'=dget l k':=by
 induction l with
 | nil=>simp [dget,Ne.symm h]
 | cons p r ih =>
  show dget (p::(r++[(k,v)])) k'=dget (p::r) k'
  unfold dget
  split
  ·rfl
  ·exact ih
theorem dget_new {l:List (Int×V)} {k:Int} {v:V} (h:∀ p∈l,p.1≠k):dget (l++[(k,v)]) k=some v:=by
 induction l with
 | nil=>simp [dget]
 | cons p r ih =>
  show dget (p::(r++[(k,v)])) k=_
  unfold dget
  rw [if_neg (h p (.head _))]
  exact ih fun q hq=>h q (.tail _ hq)
theorem sp_noted {i:WId} {f:WN} {ts:List Th} {t:Th} (hn:1≤n) (B:Bk i f ts T) (hb:f.made≤50000) (hlim:ts.length≤50000) (h1:t.ser=f.made+1) (h2:t.addr=f.top) (h3:t.age=0) (hp:T[t.pid]?=some (.tspec,.list (t.specs.map Spec.v))) (hsl:t.specs.length≤1000)
  (k:∀ T',Bk i {f with made:=f.made+1,top:=f.top+t.size} (ts++[t]) T'→Chg (ksX [.w,.ag,.wh,.wt]) T T'→Q (.int (f.made+1:Nat)) T'):Y (CN n 71 [.obj i.w,.int t.kind,.obj t.pid] (hpOf T)) Q:=by
 obtain⟨n,rfl,_⟩:=down hn
 obtain⟨b1,b2,b3,⟨wl,b4,b41,b42,b43⟩,b5,b6,b7⟩:=B
 refine call_fn (fd:=fd_law_noted) (by rfl) (by rfl) ?_
 show SV _ [some (.obj i.w),some (.int t.kind),some (.obj t.pid)] _ _ _
 unfold fd_law_noted
 have bw:=b1
 unfold WId.obj at bw
 k_ownIn
 rename_i T1 h_1 c_1
 refine IdxPut.di (c_1.otherK b4 h_1) (by unfold limit;omega) ?_
 rw [dput_new fun p hp'=>by have:=b41 p hp';omega]
 refine PutY.intro ?_
 intro T2 h_2 c_2
 have h_12:=c_2.otherK h_1 h_2
 have ag2:=c_2.otherK (c_1.otherK b2 h_1) h_2
 have wh2:=c_2.otherK (c_1.otherK b3 h_1) h_2
 k_ownIn
 refine IdxPut.di ag2 (by rw [lM];unfold limit;omega) ?_
 rw [dput_new fun p hp'=>by
  obtain⟨u,hu,rfl⟩:=mM.mp hp'
  have:=b7 u hu
  simp;omega]
 refine PutY.intro ?_
 intro T3 h_3 c_3
 have h_13:=c_3.otherK h_12 h_3
 have wh3:=c_3.otherK wh2 h_3
 k_ownIn
 refine IdxPut.di wh3 (by unfold whL;rw [lM];unfold limit;omega) ?_
 rw [dput_new fun p hp'=>by
  obtain⟨u,hu,rfl⟩:=mM.mp hp'
  have:=b7 u hu
  simp;omega]
 refine PutY.intro ?_
 intro T4 h_4 c4
 have h_14:=c4.otherK h_13 h_4
 k_ownIn
 have hp4:T4[t.pid]?=some (.tspec,.list (t.specs.map Spec.v)):=c4.otherK (c_3.otherK (c_2.otherK (c_1.otherK hp h_1) h_2) h_3) h_4
 refine LenY.list hp4 (by rw [lM];unfold limit;omega) ?_
 k_ownIn
 rename_i T5 h_5 c_5
 have cc:Chg (ksX [.w,.ag,.wh,.wt]) T T5:=c_5.back (c4.back (c_3.back (c_2.back (c_1.back (.refl _ _) (side_kind b1)) (side_kind b4)) (side_kind b2)) (side_kind b3)) (side_kind b1)
 refine k T5 ⟨?_,?_,?_,⟨wl++[(((f.made+1:Nat):Int),.tup [.int t.kind,.obj t.pid])],?_,fun p hp'=>?_,?_,fun u hu=>?_⟩,fun u hu=>?_,?_,fun u hu=>?_⟩ cc
 ·refine Eq.trans h_5 ?_
  rw [lM]
  simp [WId.obj,Th.size]
  omega
 ·refine Eq.trans (c_5.otherK (c4.otherK h_3 h_4) h_5) ?_
  simp [h1,h3]
 ·refine Eq.trans (c_5.otherK h_4 h_5) ?_
  simp [whL,h1,h2]
 ·exact c_5.otherK (c4.otherK (c_3.otherK h_2 h_3) h_4) h_5
 ·rcases mA.mp hp' with q|q
  ·have:=b41 p q;simp;omega
  ·rw [mS] at q;subst q;exact Int.le_refl _
 ·rw [lA,lS];exact Nat.succ_le_succ b42
 ·rcases mA.mp hu with q|q
  ·rw [dget_app (by have:=b7 u q;omega)];exact b43 u q
  ·rw [mS] at q;subst q
   rw [h1]
   exact dget_new fun p hp'=>by have:=b41 p hp';omega
 ·rcases mA.mp hu with q|q
  ·exact cc.get (b5 u q) nk
  ·rw [mS] at q;subst q
   exact cc.get hp nk
 ·show f.top+t.size=_;rw [endOf_snoc,b6]
 ·rcases mA.mp hu with q|q
  ·have:=b7 u q;show u.ser≤f.made+1;omega
  ·rw [mS] at q;subst q;exact Nat.le_of_eq h1
structure HW (i:WId) (f:WN) (h:Hid) (hf:Hn) (ts:List Th) (T:TH):Prop where
 hb:HB h ts hf T
 sl:SL ts T
 good:Good ts
 bk:Bk i f ts T
 made:hf.made=f.made
 sh:∃ fs,T[i.m]?=some (.m,.inst 10 fs)∧fs[2]?=some (.obj h.hp)
theorem HW.chg {i:WId} {f:WN} {h:Hid} {hf:Hn} {ts:List Th} {T T':TH} {X:Nat→K→Prop} (b:HW i f h hf ts T) (c:Chg X T T') (n:∀ i,¬ X i .w∧¬ X i .ag∧¬ X i .wh∧¬ X i .wt∧¬ X i .tspec) (n2:∀ i,¬ X i .hp∧¬ X i .tl∧¬ X i .at_∧¬ X i .cd∧¬ X i .fin∧¬ X i .th) (n3:∀ i,¬ X i .slots∧¬ X i .m) (nr:¬ X h.rdy .real):HW i f h hf ts T':=by
 obtain⟨b1,b2,b3,b4,b5,fs,b6,b7⟩:=b
 exact⟨b1.keep c n2 nr,fun t ht=>c.get (b2 t ht) (n3 _).1,b3,b4.chg c n,b5,fs,c.get b6 (n3 _).2,b7⟩
theorem HW.chg0 {i:WId} {f:WN} {h:Hid} {hf:Hn} {ts:List Th} {T T':TH} (b:HW i f h hf ts T) (c:Chg noX T T'):HW i f h hf ts T':=b.chg c (fun _=>⟨id,id,id,id,id⟩) (fun _=>⟨id,id,id,id,id,id⟩) (fun _=>⟨id,id⟩) id
theorem find_append {ts:List Th} {t:Th} {x:Nat} (h:∃ u∈ts,u.ser=x):(ts++[t]).find? (fun t=>t.ser==x)=ts.find? (fun t=>t.ser==x):=by
 rw [List.find?_append]
 cases q:ts.find? (fun t=>t.ser==x) with
 | some u=>rfl
 | none =>
  obtain⟨u,hu,e⟩:=h
  have:=List.find?_eq_none.mp q u hu
  simp [e] at this
theorem ok_has {ts:List Th} {s:Spec} (hs:s.Ok ts) (h:0<s.one):∃ u∈ts,u.ser=s.one:=by
 obtain⟨_,t,ht,e,_⟩:=hs.one h;exact⟨t,ht,e⟩
theorem tgt_append {ts:List Th} {t:Th} {s:Spec} (hs:s.Ok ts):tgt (ts++[t]) s=tgt ts s:=by
 unfold tgt
 split
 ·exact find_append (ok_has hs (by assumption))
 ·rfl
theorem val_append {ts:List Th} {t:Th} {s:Spec} (hs:s.Ok ts):s.val (whOf (ts++[t]))=s.val (whOf ts):=by
 rw [val_tgt,val_tgt,tgt_append hs]
theorem Spec.Ok.append {ts:List Th} {t:Th} {s:Spec} (hs:s.Ok ts):s.Ok (ts++[t]):=⟨hs.form,hs.n,fun h=>by obtain⟨a,u,hu,b⟩:=hs.one h;exact⟨a,u,mL _ hu,b⟩,hs.place⟩
theorem Good.snoc {ts:List Th} {t:Th} (G:Good ts) (h1:t.addr=endOf ts) (h2:∀ u∈ts,u.ser<t.ser) (h3:t.age=0) (hok:∀ s∈t.specs,s.Ok ts) (hage:∀ s∈t.specs,∀ v,tgt ts s=some v→v.age=0) (hlen:t.specs.length≤10)
  (htid:∀ u∈ts,u.tid≠t.tid) (hsid:∀ u∈ts,u.sid≠t.sid) (hpos:0<t.ser):Good (ts++[t]):=by
 have one:∀ {P:Th→Prop},(∀ u∈ts,P u)→P t→∀ u∈ts++[t],P u:=fun h h' u hu=>by
  rcases mA.mp hu with q|q
  ·exact h u q
  ·rw [mS] at q;rw [q];exact h'
 refine⟨G.packed.snoc h1,?_,?_,one G.age2 (by omega),one G.pos hpos,one (fun u hu s hs=>(G.ok u hu s hs).append) fun s hs=>(hok s hs).append,one (fun u hu s hs v hv=>?_) fun s hs v hv=>?_,one G.len hlen,?_,?_⟩
 ·refine List.pairwise_append.mpr ⟨G.ser,by simp,fun a ha b hb=>?_⟩
  rw [mS] at hb;rw [hb];exact h2 a ha
 ·refine List.pairwise_append.mpr ⟨G.aged,by simp,fun a ha b hb=>?_⟩
  rw [mS] at hb;rw [hb,h3];exact Nat.zero_le _
 ·rw [tgt_append (G.ok u hu s hs)] at hv
  exact G.same u hu s hs v hv
 ·rw [tgt_append (hok s hs)] at hv
  rw [hage s hs v hv,h3]
 ·rw [mP]
  refine nD.mpr ⟨G.tid,by simp,fun a ha b hb e=>?_⟩
  obtain⟨u,hu,rfl⟩:=mM.mp ha
  simp at hb
  exact htid u hu (e.trans hb)
 ·rw [mP]
  refine nD.mpr ⟨G.sid,by simp,fun a ha b hb e=>?_⟩
  obtain⟨u,hu,rfl⟩:=mM.mp ha
  simp at hb
  exact hsid u hu (e.trans hb)
theorem HW.more {i:WId} {f:WN} {h:Hid} {hf hf':Hn} {ts:List Th} {t:Th} {T T':TH} (b:HW i f h hf ts T) (hb':HB h (ts++[t]) hf' T') (bk':Bk i {f with made:=f.made+1,top:=f.top+t.size} (ts++[t]) T') (c:Chg (ksX [.hp,.tl,.at_,.w,.ag,.wh,.wt]) T T') (hm:hf'.made=hf.made+1)
  (h1:t.addr=endOf ts) (h2:t.ser=f.made+1) (h3:t.age=0) (hok:∀ s∈t.specs,s.Ok ts) (hage:∀ s∈t.specs,∀ v,tgt ts s=some v→v.age=0) (hlen:t.specs.length≤10) (htid:T[t.tid]?=none) (hsid:T[t.sid]?=none) (hsl:T'[t.sid]?=some (.slots,.list (t.specs.map (Spec.val (whOf ts))))) :
  HW i {f with made:=f.made+1,top:=f.top+t.size} h hf' (ts++[t]) T':=by
 refine⟨hb',fun u hu=>?_,b.good.snoc h1 (fun u hu=>by have:=b.bk.made u hu;omega) h3 hok hage hlen (fun u hu=>ne_none (b.hb.th u hu) htid) (fun u hu=>ne_none (b.sl u hu) hsid) (by omega),bk',by rw [hm,b.made],?_⟩
 ·rcases mA.mp hu with q|q
  ·rw [mJ fun s hs=>val_append (b.good.ok u q s hs)]
   exact c.get (b.sl u q) nk
  ·rw [mS] at q;subst q
   rw [mJ fun s hs=>val_append (hok s hs)]
   exact hsl
 ·obtain⟨fs,e,e'⟩:=b.sh
  exact⟨fs,c.get e nk,e'⟩
theorem filterMap_some {α β:Type} {l:List α} {g:α→β}:l.filterMap (fun x=>some (g x))=l.map g:=by
 show List.filterMap (some ∘ g) l=_
 rw [List.filterMap_eq_map]
theorem vals_items {i:WId} {f:WN} {ts:List Th} {specs:List Spec} {ρ:Rho} {cap:List Nat} (hn:1≤n) (hw:T[i.w]?=some (.w,i.obj f)) (hwh:T[i.wh]?=some (.wh,.di (whL ts))) (hok:∀ s∈specs,s.Ok ts) (hc:cap.map (fun i=>(ρ[i]?).join)=[some (.obj i.w)]) :
  ∃ g:V→Option V,(specs.map Spec.v).filterMap g=specs.map (Spec.val (whOf ts))∧∀ x T',x∈specs.map Spec.v→Chg noX T T'→ItemC (CN n) (capOf ρ cap x) (.call 70 [(.loc 0),(.loc 1)]) [] T' x (g x):=by
 have inj:∀ a b:Spec,a.v=b.v→a=b:=by
  rintro⟨a1,a2,a3⟩ ⟨b1,b2,b3⟩ e
  simp [Spec.v] at e
  obtain⟨e1,e2,e3⟩:=e
  rw [show a1=b1 by omega,show a2=b2 by omega,show a3=b3 by omega]
 classical
 refine⟨fun x=>some (if h:∃ s∈specs,s.v=x then (Classical.choose h).val (whOf ts) else .none),?_,fun x T' hx c=>?_⟩
 ·rw [filterMap_some,mQ]
  refine mJ fun s hs=>?_
  have hex:∃ s'∈specs,s'.v=s.v:=⟨s,hs,rfl⟩
  show (if h:∃ s'∈specs,s'.v=s.v then (Classical.choose h).val (whOf ts) else .none)=_
  rw [dif_pos hex]
  rw [inj _ _ (Classical.choose_spec hex).2]
 ·obtain⟨s,hs,rfl⟩:=mM.mp hx
  have hex:∃ s'∈specs,s'.v=s.v:=⟨s,hs,rfl⟩
  refine⟨?_,.inl rfl⟩
  rw [dif_pos hex,inj _ _ (Classical.choose_spec hex).2]
  unfold capOf
  rw [hc]
  refine Pure.of ?_
  k_ownIn
  refine sp_value hn (c.keep hw) (c.keep hwh) (hok s hs) ?_
  exact⟨rfl,rfl⟩
def freshB:List S:=match fd_law_fresh.body with
 | [_,.forR _ _ b,_]=>b
 | _=>[]
theorem IdxY.three {a b c:V} {j:Nat} {Q:V→Prop} (h0:j%3=0→Q a) (h1:j%3=1→Q b) (h2:j%3=2→Q c):IdxY T (.tup [a,b,c]) (.int (j%3:Nat)) Q:=by
 have:j%3<3:=Nat.mod_lt _ (by decide)
 rcases hj:j%3 with _|_|_|x
 ·exact .tupN rfl (by decide) (h0 hj)
 ·exact .tupN rfl (by decide) (h1 hj)
 ·exact .tupN rfl (by decide) (h2 hj)
 ·omega
theorem IdxY.two {a b:V} {j:Nat} {Q:V→Prop} (h0:j%2=0→Q a) (h1:j%2=1→Q b):IdxY T (.tup [a,b]) (.int (j%2:Nat)) Q:=by
 have:j%2<2:=Nat.mod_lt _ (by decide)
 rcases hj:j%2 with _|_|x
 ·exact .tupN rfl (by decide) (h0 hj)
 ·exact .tupN rfl (by decide) (h1 hj)
 ·omega
set_option maxHeartbeats 1000000 in
theorem fresh_turn {i:WId} {f:WN} {h:Hid} {hf:Hn} {ts:List Th} {z one j:Nat} {x y:Option V} {Q:Option V×Rho→TH→Prop} (hn:3≤n) (W:HW i f h hf ts T) (hb:f.made≤20000) (hlim:ts.length≤20000) (hj:j≤1)
  (hone:0<one→∃ u∈ts,u.ser=one∧u.age=0)
  (k:∀ hf' t T' ρ,HW i {f with made:=f.made+1,top:=f.top+t.size} h hf' (ts++[t]) T'→Chg (ksX [.hp,.tl,.at_,.w,.ag,.wh,.wt]) T T'→t.ser=f.made+1→t.age=0→t.specs.length=2→ρ=[some (.obj i.w),some (.int z),some (.int (f.made+1:Nat)),some (.int j),some (.obj t.pid),some (.int t.kind)]→Q (none,ρ) T') :
  SV (CN n) [some (.obj i.w),some (.int z),some (.int one),some (.int j),x,y] freshB T Q:=by
 have bw:=W.bk.w
 unfold WId.obj at bw
 obtain⟨fs,sh1,sh2⟩:=W.sh
 have bh:=W.hb.hp
 unfold hpObj at bh
 unfold freshB fd_law_fresh
 dsimp only
 have forms:∀ {Q:V→Prop},(∀ form:Nat,(form=0∨form=2∨form=3)→Q (.int form))→IdxY T (.tup [.int 0,.int 2,.int 3]) (.int ((z/2+j)%3:Nat)) Q:=fun h=>.three (fun _=>h 0 (.inl rfl)) (fun _=>h 2 (.inr (.inl rfl))) (fun _=>h 3 (.inr (.inr rfl)))
 k_ownIn
 refine AnyK.mk .tspec ?_
 k_ownIn
 refine forms fun form hform=>?_
 k_ownIn
 rename_i pid T1 hn_1 h_1 c_1
 have kinds:∀ {T:TH} {Q:V→Prop},(∀ kd:Int,Q (.int kd))→IdxY T kindsV (.int ((z+j)%2:Nat)) Q:=fun h=>.two (fun _=>h 16) (fun _=>h 17)
 refine kinds fun kd=>?_
 let specs:List Spec:=[⟨4,0,j⟩,⟨form,one,j⟩]
 have hok:∀ s∈specs,s.Ok ts:=by
  intro s hs
  simp only [specs,mK,nM,or_false] at hs
  rcases hs with rfl|rfl
  ·exact⟨show 4≤7 by decide,show j≤2 by omega,fun h=>absurd (show 0<0 from h) (by decide),fun h=>absurd (show 4=1 from h) (by decide)⟩
  ·refine⟨by show form≤7;omega,by show j≤2;omega,fun h=>?_,fun h=>by have h:form=1:=h;omega⟩
   obtain⟨u,hu,e,_⟩:=hone h
   exact⟨by show form<4;omega,u,hu,e,fun h=>by have h:form=1:=h;omega⟩
 have hage:∀ s∈specs,∀ v,tgt ts s=some v→v.age=0:=by
  intro s hs v hv
  obtain⟨hv1,hv2,hv3⟩:=tgt_mem hv
  simp only [specs,mK,nM,or_false] at hs
  rcases hs with rfl|rfl
  ·exact absurd (show 0<0 from hv2) (by decide)
  ·obtain⟨u,hu,e,e'⟩:=hone hv2
   rw [sers_of W.good.sers v hv1 u hu (hv3.trans e.symm)];exact e'
 have hp1:T1[pid]?=some (.tspec,.list (specs.map Spec.v)):=h_1
 k_ownIn
 obtain⟨g,hg1,hg2⟩:=vals_items (n:=n) (ρ:=[some (.obj i.w),some (.int z),some (.int one),some (.int j),some (.obj pid),some (.int kd)]) (cap:=[0]) (by omega) (c_1.keep W.bk.w) (c_1.keep W.bk.wh) hok rfl
 rw [sh2]
 k_ownIn
 refine HandE.intro (EV.comp .slots g ?_)
 k_ownIn
 refine⟨rfl,hg2,?_⟩
 refine NewY.intro ?_
 intro sid T2 hn_2 h_2 c_2
 have h_2:T2[sid]?=some (.slots,.list (specs.map (Spec.val (whOf ts)))):=by rw [h_2,←hg1]
 have W2:=W.chg0 (c_1.tr c_2)
 k_ownIn
 refine sp_alloc (pid:=pid) (specs:=specs) (by omega) W2.hb W2.good.packed (by omega) h_2 ⟨by simp [specs],by simp [specs,limit]⟩ (by simp) fun tid T3 hn3 hb3 c_3=>?_
 have hlenm:(specs.map (Spec.val (whOf ts))).length=2:=by simp [specs]
 rw [hlenm] at hb3
 have bk3:=W2.bk.chg c_3 fun _=>⟨nk,nk,nk,nk,nk⟩
 have hp3:T3[pid]?=some (.tspec,.list (specs.map Spec.v)):=c_3.get (c_2.keep hp1) nk
 k_ownIn
 refine sp_noted (t:=⟨hf.made+1,kd,specs,0,endOf ts,tid,sid,pid⟩) (by omega) bk3 (by omega) (by omega) (by rw [←W.made]) W.bk.top.symm rfl hp3 (by simp [specs]) fun T4 bk4 c4=>?_
 k_ownIn
 have cc:Chg (ksX [.hp,.tl,.at_,.w,.ag,.wh,.wt]) T T4:=c4.back (c_3.back (c_2.back (c_1.weaken fun _ _ q=>q.elim) side_no) (side_ks (by decide))) (side_ks (by decide))
 refine k _ ⟨hf.made+1,kd,specs,0,endOf ts,tid,sid,pid⟩ T4 _ (W.more (hb3.keep c4 (fun _=>⟨nk,nk,nk,nk,nk,nk⟩) nk) bk4 cc rfl rfl (by rw [W.made]) rfl hok hage (by simp [specs]) (none_back hn3 ((c_1.tr c_2).weaken fun _ _ q=>q.elim)) (none_back hn_2 (c_1.weaken fun _ _ q=>q.elim)) (c4.get (c_3.get h_2 nk) nk)) cc (by rw [←W.made]) rfl rfl rfl
structure Grow (ts ts':List Th):Prop where
 ok:∀ s:Spec,s.Ok ts→s.Ok ts'
 val:∀ s:Spec,s.Ok ts→s.val (whOf ts')=s.val (whOf ts)
 sub:∀ t∈ts,t∈ts'
theorem Grow.refl (ts:List Th):Grow ts ts:=⟨fun _ h=>h,fun _ _=>rfl,fun _ h=>h⟩
theorem Grow.trans {a b c:List Th} (x:Grow a b) (y:Grow b c):Grow a c:=⟨fun s h=>y.ok s (x.ok s h),fun s h=>(y.val s (x.ok s h)).trans (x.val s h),fun t h=>y.sub t (x.sub t h)⟩
theorem Grow.snoc (ts:List Th) (t:Th):Grow ts (ts++[t]):=⟨fun _ h=>h.append,fun _ h=>val_append h,fun _ h=>mL _ h⟩
abbrev freshX:Nat→K→Prop:=ksX [.hp,.tl,.at_,.w,.ag,.wh,.wt]
structure NGrow (f f':WN) (k:Nat):Prop where
 at_:f'.at_=f.at_
 count:f'.count=f.count
 made:f'.made≤f.made+k
 le:f.made≤f'.made
theorem NGrow.refl (f:WN) (k:Nat):NGrow f f k:=⟨rfl,rfl,by omega,Nat.le_refl _⟩
theorem NGrow.trans {f f' f'':WN} {a b:Nat} (x:NGrow f f' a) (y:NGrow f' f'' b):NGrow f f'' (a+b):=⟨y.at_.trans x.at_,y.count.trans x.count,by have:=x.made;have:=y.made;omega,Nat.le_trans x.le y.le⟩
theorem NGrow.mono {f f':WN} {a b:Nat} (x:NGrow f f' a) (h:a≤b):NGrow f f' b:=⟨x.at_,x.count,by have:=x.made;omega,x.le⟩
theorem good_len {i:WId} {f:WN} {h:Hid} {hf:Hn} {ts:List Th} (W:HW i f h hf ts T):ts.length≤f.made:=by
 have h1:=W.good.ser
 have h2:=W.good.pos
 have h3:=W.bk.made
 clear W
 have:∀ (l:List Th) (m:Nat),l.Pairwise (fun a b=>a.ser<b.ser)→(∀ t∈l,m<t.ser)→(∀ t∈l,t.ser≤f.made)→m≤f.made→l.length+m≤f.made:=by
  intro l
  induction l with
  | nil=>intro m _ _ _ h;simpa using h
  | cons a r ih =>
   intro m hp hm hf' hmf
   rw [List.pairwise_cons] at hp
   have:=ih a.ser hp.2 hp.1 (fun t ht=>hf' t (.tail _ ht)) (hf' a (.head _))
   have:=hm a (.head _)
   simp only [lC];omega
 have:=this ts 0 h1 h2 h3 (Nat.zero_le _)
 omega
set_option maxHeartbeats 1000000 in
theorem sp_fresh {i:WId} {f:WN} {h:Hid} {hf:Hn} {ts:List Th} {z:Nat} (hn:4≤n) (W:HW i f h hf ts T) (hb:f.made≤10000)
  (k:∀ f' hf' ts' T',HW i f' h hf' ts' T'→NGrow f f' 2→Grow ts ts'→0<f'.made→(∃ t∈ts',t.ser=f'.made∧t.specs.length=2)→Chg freshX T T'→Q (.int f'.made) T'):Y (CN n 72 [.obj i.w,.int z] (hpOf T)) Q:=by
 obtain⟨n,rfl,_⟩:=down hn
 have hl:=good_len W
 refine call_fn (fd:=fd_law_fresh) (by rfl) (by rfl) ?_
 show SV _ [some (.obj i.w),some (.int z),none,none,none,none] _ _ _
 unfold fd_law_fresh
 k_ownIn
 refine HandS.intro (SV.forRU ?_)
 k_ownIn
 have hz:z%2<2:=Nat.mod_lt _ (by decide)
 have hh:((1+z%2:Nat):Int)≤(limit:Nat):=by unfold limit;omega
 refine⟨⟨by omega,hh⟩,?_⟩
 show RV _ _ _ _ (1+z%2) _ _ _ _
 have e:1+z%2=1∨1+z%2=2:=by omega
 rcases e with e|e
 ·rw [e]
  refine RV.step ?_
  refine GetY.mk rfl ?_
  refine fresh_turn (one:=0) (by omega) W (by omega) (by omega) (by omega) (fun h=>absurd h (by decide)) fun hf' t T' ρ W' c' h1 h2 h3 hρ=>?_
  subst hρ
  refine RV.done ?_
  k_ownIn
  exact k _ _ _ T' W' ⟨rfl,rfl,by simp,by simp⟩ (.snoc _ _) (by simp) ⟨t,by simp,h1,h3⟩ c'
 ·rw [e]
  refine RV.step ?_
  refine GetY.mk rfl ?_
  refine fresh_turn (one:=0) (by omega) W (by omega) (by omega) (by omega) (fun h=>absurd h (by decide)) fun hf' t T' ρ W' c' h1 h2 h3 hρ=>?_
  subst hρ
  refine RV.step ?_
  refine GetY.mk rfl ?_
  refine fresh_turn (one:=f.made+1) (j:=1) (by omega) W' (by simp;omega) (by simp;omega) (by omega) (fun _=>⟨t,by simp,h1,h2⟩) fun hf'' t' T'' ρ W'' c'' g1 g2 g3 hρ=>?_
  subst hρ
  refine RV.done ?_
  k_ownIn
  exact k _ _ _ T'' W'' ⟨rfl,rfl,by simp,by simp;omega⟩ ((Grow.snoc _ _).trans (.snoc _ _)) (by simp) ⟨t',by simp,g1,g3⟩ (c'.tr c'')
structure Ce where
 tag:Str
 specs:List Spec
 rid:Nat
 pid:Nat
def Ce.v (c:Ce):V:=.tup [.str c.tag,.obj c.rid,.obj c.pid]
structure CL (i:WId) (ts:List Th) (cells:List Ce) (T:TH):Prop where
 ce:T[i.ce]?=some (.ce,.list (cells.map Ce.v))
 row:∀ c∈cells,T[c.rid]?=some (.real,.list (c.specs.map (Spec.val (whOf ts))))
 spec:∀ c∈cells,T[c.pid]?=some (.cspec,.list (c.specs.map Spec.v))
 ok:∀ c∈cells,∀ s∈c.specs,s.Ok ts
 rn:(cells.map Ce.rid).Nodup
 pn:(cells.map Ce.pid).Nodup
 len:∀ c∈cells,c.specs.length≤10
theorem CL.grow {i:WId} {ts ts':List Th} {cells:List Ce} {T T':TH} {X:Nat→K→Prop} (C:CL i ts cells T) (g:Grow ts ts') (c:Chg X T T') (n:∀ i,¬ X i .ce∧¬ X i .real∧¬ X i .cspec):CL i ts' cells T':=by
 refine⟨c.get C.ce (n _).1,fun x hx=>?_,fun x hx=>c.get (C.spec x hx) (n _).2.2,fun x hx s hs=>g.ok s (C.ok x hx s hs),C.rn,C.pn,C.len⟩
 rw [mJ fun s hs=>g.val s (C.ok x hx s hs)]
 exact c.get (C.row x hx) (n _).2.1
theorem CL.fresh {i:WId} {ts ts':List Th} {cells:List Ce} {T T':TH} (C:CL i ts cells T) (g:Grow ts ts') (c:Chg freshX T T'):CL i ts' cells T':=C.grow g c fun _=>⟨nk,nk,nk⟩
theorem CL.chg0 {i:WId} {ts:List Th} {cells:List Ce} {T T':TH} (C:CL i ts cells T) (c:Chg noX T T'):CL i ts cells T':=C.grow (.refl _) c fun _=>⟨id,id,id⟩
abbrev rowX1 (r c:Nat):Nat→K→Prop:=fun i _=>i=r∨i=c
set_option maxHeartbeats 1000000 in
theorem sp_lput {i:WId} {f:WN} {h:Hid} {hf:Hn} {ts:List Th} {cells:List Ce} {tag:Str} {rid pid:Nat} {specs:List Spec} (hn:2≤n) (W:HW i f h hf ts T) (C:CL i ts cells T) (hcl:cells.length≤50000) (hr:T[rid]?=some (.real,.list [])) (hp:T[pid]?=some (.cspec,.list (specs.map Spec.v)))
  (hok:∀ s∈specs,s.Ok ts) (hl:specs.length≤10) (hrn:rid∉cells.map Ce.rid) (hpn:pid∉cells.map Ce.pid) (hrd:rid≠h.rdy)
  (k:∀ T',HW i f h hf ts T'→CL i ts (cells++[⟨tag,specs,rid,pid⟩]) T'→Chg (rowX1 rid i.ce) T T'→Q .none T'):Y (CN n 73 [.obj i.w,.str tag,.obj rid,.obj pid] (hpOf T)) Q:=by
 obtain⟨n,rfl,_⟩:=down hn
 refine call_fn (fd:=fd_law_put) (by rfl) (by rfl) ?_
 show SV _ [some (.obj i.w),some (.str tag),some (.obj rid),some (.obj pid),none] _ _ _
 unfold fd_law_put
 refine SV.go ?_
 conv=>whnf
 refine HandS.intro (SV.forI (fun j ρ T'=>∃ x:Option V,ρ=[some (.obj i.w),some (.str tag),some (.obj rid),some (.obj pid),x]∧T'[rid]?=some (.real,.list ((specs.take j).map (Spec.val (whOf ts))))∧Chg (oneX rid) T T') ?_)
 k_ownIn
 refine⟨⟨none,rfl,by simpa using hr,.refl _ _⟩,?_,?_⟩
 ·rintro j v ρ T' hv ⟨x,rfl,hr',c'⟩ ho
  rw [gM] at hv
  obtain⟨s,hs,rfl⟩:=Option.map_eq_some_iff.mp hv
  have hw:=c'.otherK W.bk.w hr'
  have hwh:=c'.otherK W.bk.wh hr'
  have hl2:=(tS j specs).length_le
  refine GetY.mk rfl ?_
  k_ownIn
  refine sp_value (by omega) hw hwh (hok s (mG hs)) ?_
  k_ownIn
  refine⟨by rw [lM];unfold limit;omega,?_⟩
  refine PutY.intro ?_
  intro T2 h_2 c_2
  k_ownIn
  refine⟨⟨_,rfl,?_,c'.tr c_2⟩,c_2.otherK ho h_2⟩
  rw [h_2,tO,hs,mP];rfl
 ·rintro ρ T' ⟨x,rfl,hr',c'⟩ ho
  rw [lM,tL] at hr'
  have hw:=c'.otherK W.bk.w hr'
  unfold WId.obj at hw
  have hce:=c'.otherK C.ce hr'
  k_ownIn
  refine⟨by rw [lM];unfold limit;omega,?_⟩
  refine PutY.intro ?_
  intro T2 h_2 c_2
  k_ownIn
  have cc:Chg (rowX1 rid i.ce) T T2:=c'.trans c_2 (fun _ _ _ _ q=>.inl q) fun _ _ _ _ q=>.inr q
  have off:∀ {i':Nat} {k':K} {o':O},T[i']?=some (k',o')→k'≠.real→k'≠.ce→T2[i']?=some (k',o'):=fun hi h1 h2=>cc.get hi fun q=>by
   rcases q with q|q
   ·rw [q,hr] at hi;cases hi;exact h1 rfl
   ·rw [q,C.ce] at hi;cases hi;exact h2 rfl
  refine k T2 ?_ ⟨?_,fun c hc=>?_,fun c hc=>?_,fun c hc=>?_,?_,?_,fun c hc=>?_⟩ cc
  ·obtain⟨b1,b2,b3,b4,b5,fs,b6,b7⟩:=W
   obtain⟨a1,a2,a3,a4,a5,a6,a7⟩:=b1
   obtain⟨d1,d2,d3,⟨wl,d4,d4'⟩,d5,d6,d7⟩:=b4
   refine⟨⟨off a1 (by decide) (by decide),off a2 (by decide) (by decide),off a3 (by decide) (by decide),off a4 (by decide) (by decide),off a5 (by decide) (by decide),cc.get a6 fun q=>?_,fun t ht=>off (a7 t ht) (by decide) (by decide)⟩,fun t ht=>off (b2 t ht) (by decide) (by decide),b3,
    ⟨off d1 (by decide) (by decide),off d2 (by decide) (by decide),off d3 (by decide) (by decide),⟨wl,off d4 (by decide) (by decide),d4'⟩,fun t ht=>off (d5 t ht) (by decide) (by decide),d6,d7⟩,b5,fs,off b6 (by decide) (by decide),b7⟩
   rcases q with q|q
   ·exact hrd q.symm
   ·have:=C.ce;rw [←q,a6] at this;cases this
  ·rw [h_2,mP];rfl
  ·rcases mA.mp hc with q|q
   ·refine cc.get (C.row c q) fun q'=>?_
    rcases q' with q'|q'
    ·exact hrn (q'▸mO q)
    ·have:=C.ce;rw [←q',C.row c q] at this;cases congrArg Prod.fst (Option.some.inj this)
   ·rw [mS] at q;subst q
    exact c_2.otherK hr' h_2
  ·rcases mA.mp hc with q|q
   ·exact off (C.spec c q) (by decide) (by decide)
   ·rw [mS] at q;subst q
    exact off hp (by decide) (by decide)
  ·rcases mA.mp hc with q|q
   ·exact C.ok c q
   ·rw [mS] at q;subst q;exact hok
  ·rw [mP]
   refine nD.mpr ⟨C.rn,by simp,fun a ha b hb e=>?_⟩
   simp at hb;rw [e,hb] at ha;exact hrn ha
  ·rw [mP]
   refine nD.mpr ⟨C.pn,by simp,fun a ha b hb e=>?_⟩
   simp at hb;rw [e,hb] at ha;exact hpn ha
  ·rcases mA.mp hc with q|q
   ·exact C.len c q
   ·rw [mS] at q;subst q;exact hl
abbrev fillX (r c:Nat):Nat→K→Prop:=fun i k=>freshX i k∨i=r∨i=c
theorem IdxY.four {z:Nat} {Q:V→Prop} (h:∀ c:Nat,c≤2→Q (.int c)):IdxY T (.tup [.int 1,.int 1,.int 2,.int 0]) (.int (z%4:Nat)) Q:=by
 have:z%4<4:=Nat.mod_lt _ (by decide)
 rcases hj:z%4 with _|_|_|_|x
 ·exact .tupN rfl (by decide) (h 1 (by decide))
 ·exact .tupN rfl (by decide) (h 1 (by decide))
 ·exact .tupN rfl (by decide) (h 2 (by decide))
 ·exact .tupN rfl (by decide) (h 0 (by decide))
 ·omega
theorem CL.free {i:WId} {ts:List Th} {cells:List Ce} (C:CL i ts cells T) {p:Nat} (hn:T[p]?=none):p∉cells.map Ce.rid∧p∉cells.map Ce.pid:=by
 refine⟨fun h=>?_,fun h=>?_⟩
 ·obtain⟨c,hc,rfl⟩:=mM.mp h
  rw [C.row c hc] at hn;cases hn
 ·obtain⟨c,hc,rfl⟩:=mM.mp h
  rw [C.spec c hc] at hn;cases hn
set_option maxHeartbeats 1000000 in
theorem sp_fill {i:WId} {f:WN} {h:Hid} {hf:Hn} {ts:List Th} {cells:List Ce} {tag:Str} {rid z:Nat} {fs:List Nat} (hn:5≤n) (W:HW i f h hf ts T) (C:CL i ts cells T) (hb:f.made≤9000) (hcl:cells.length≤50000) (hr:T[rid]?=some (.real,.list []))
  (hrn:rid∉cells.map Ce.rid) (hrd:rid≠h.rdy) (hfs:∀ x∈fs,x≤6) (hfl:0<fs.length∧fs.length≤10)
  (k:∀ f' hf' ts' specs pid T',HW i f' h hf' ts' T'→CL i ts' (cells++[⟨tag,specs,rid,pid⟩]) T'→NGrow f f' 4→Grow ts ts'→specs.length≤2→Chg (fillX rid i.ce) T T'→Q .none T'):Y (CN n 74 [.obj i.w,.str tag,.obj rid,.int z,.tup (fs.map fun x:Nat=>.int (x:Int))] (hpOf T)) Q:=by
 obtain⟨n,rfl,_⟩:=down hn
 refine call_fn (fd:=fd_law_fill) (by rfl) (by rfl) ?_
 show SV _ [some (.obj i.w),some (.str tag),some (.obj rid),some (.int z),some (.tup (fs.map fun x:Nat=>.int (x:Int))),none,none,none,none] _ _ _
 unfold fd_law_fill
 k_ownIn
 refine AnyK.mk .cspec ?_
 refine EVs.go ?_
 conv=>whnf
 refine NewY.intro ?_
 intro pid T1 hn_1 h_1 c_1
 have W1:=W.chg0 c_1
 have C1:=C.chg0 c_1
 k_ownIn
 refine HandS.intro (SV.forR (fun j ρ T'=>∃ (f':WN) (hf':Hn) (ts':List Th) (specs:List Spec) (x y u:Option V),ρ=[some (.obj i.w),some (.str tag),some (.obj rid),some (.int z),some (.tup (fs.map fun x:Nat=>.int (x:Int))),some (.obj pid),x,y,u] ∧
  HW i f' h hf' ts' T'∧CL i ts' cells T'∧NGrow f f' (2*j)∧Grow ts ts'∧T'[pid]?=some (.cspec,.list (specs.map Spec.v))∧(∀ s∈specs,s.Ok ts')∧specs.length=j∧Chg (fun i k=>freshX i k∨i=pid) T1 T') ?_)
 k_ownIn
 refine IdxY.four fun c hc=>?_
 k_ownIn
 refine⟨⟨by omega,by show (c:Int)≤(limit:Nat);unfold limit;omega⟩,⟨f,hf,ts,[],none,none,none,rfl,W1,C1,.refl _ _,.refl _,h_1,fun _ q=>(nomatch q),rfl,.refl _ _⟩,?_,?_⟩
 ·rintro j ρ T' hj ⟨f',hf',ts',specs,x,y,u,rfl,W',C',g1,g2,hp,hok,hsl,c'⟩
  have hj:j<c:=by simpa using hj
  have hmade:=g1.made
  refine⟨Nat.le_of_ble_eq_true rfl,?_⟩
  show SV _ [some (.obj i.w),some (.str tag),some (.obj rid),some (.int z),some (.tup (fs.map fun x:Nat=>.int (x:Int))),some (.obj pid),some (.int j),y,u] _ _ _
  k_ownIn
  refine LenY.tup (by rw [lM];unfold limit;omega) ?_
  conv=>whnf
  rw [lM]
  refine BinY.modN (by omega) ?_
  have hlt:(z/4+j)%fs.length<fs.length:=Nat.mod_lt _ (by omega)
  obtain⟨form,hform⟩:∃ form,fs[(z/4+j)%fs.length]?=some form:=⟨_,gE hlt⟩
  have hform6:=hfs form (mG hform)
  refine IdxY.tupN (v:=.int form) (by rw [gM,hform];rfl) (Nat.lt_trans hlt (by omega)) ?_
  k_ownIn
  refine⟨fun hb'=>?_,fun hb'=>?_⟩
  ·have hf4:form<4:=by simp at hb';omega
   dsimp only [cA,nA]
   k_ownIn
   refine sp_fresh (by omega) W' (by omega) fun f_2 hf2 ts2 T2 W2 m1 m2 m3 ⟨t,ht,m4,m5⟩ c_2=>?_
   have hp2:=c_2.get hp nk
   k_ownIn
   refine⟨by rw [lM];unfold limit;omega,?_⟩
   refine PutY.intro ?_
   intro T3 h_3 c_3
   k_ownIn
   have W3:HW i f_2 h hf2 ts2 T3:=by
    have ne:∀ {k':K} {o':O} {i':Nat},T2[i']?=some (k',o')→k'≠.cspec→¬ oneX pid i' k':=fun hi hk q=>by
     have q:_=pid:=q
     rw [q,hp2] at hi;cases hi;exact hk rfl
    obtain⟨b1,b2,b3,b4,b5,gs,b6,b7⟩:=W2
    obtain⟨d1,d2,d3,⟨wl,d4,d4'⟩,d5,d6,d7⟩:=b4
    exact⟨b1.off hp2 (by decide) c_3,fun t ht=>c_3.get (b2 t ht) (ne (b2 t ht) (by decide)),b3,⟨c_3.get d1 (ne d1 (by decide)),c_3.get d2 (ne d2 (by decide)),c_3.get d3 (ne d3 (by decide)),⟨wl,c_3.get d4 (ne d4 (by decide)),d4'⟩,fun t ht=>c_3.get (d5 t ht) (ne (d5 t ht) (by decide)),d6,d7⟩,b5,gs,c_3.get b6 (ne b6 (by decide)),b7⟩
   have C2:=C'.fresh m2 c_2
   have hfree:=C.free hn_1
   have C3:CL i ts2 cells T3:=by
    obtain⟨a1,a2,a3,a4,a5,a6,a7⟩:=C2
    exact⟨c_3.otherK a1 h_3,fun c hc=>c_3.otherK (a2 c hc) h_3,fun c hc=>c_3.other (a3 c hc) fun q=>hfree.2 (q▸mO hc),a4,a5,a6,a7⟩
   refine⟨f_2,hf2,ts2,specs++[⟨form,f_2.made,(z+j)%2⟩],_,_,_,rfl,W3,C3,(g1.trans m1).mono (by omega),g2.trans m2,?_,fun s hs=>?_,by simp [hsl],?_⟩
   ·rw [h_3,mP];rfl
   ·rcases mA.mp hs with q|q
    ·exact m2.ok s (hok s q)
    ·rw [mS] at q;subst q
     have hz2:(z+j)%2<2:=Nat.mod_lt _ (by decide)
     exact⟨show form≤7 by omega,show (z+j)%2≤2 by omega,fun _=>⟨hf4,t,ht,m4,fun _=>by show (z+j)%2<t.specs.length;omega⟩,fun _=>m3⟩
   ·exact c_3.back (c_2.back c' fun _ _ _ _ q=>.inl q) fun _ _ _ _ q=>.inr q
  ·have hf4:4≤form:=by simp at hb';omega
   dsimp only [cA,nA]
   k_ownIn
   refine⟨by rw [lM];unfold limit;omega,?_⟩
   refine PutY.intro ?_
   intro T3 h_3 c_3
   k_ownIn
   have W3:HW i f' h hf' ts' T3:=by
    have ne:∀ {k':K} {o':O} {i':Nat},T'[i']?=some (k',o')→k'≠.cspec→¬ oneX pid i' k':=fun hi hk q=>by
     have q:_=pid:=q
     rw [q,hp] at hi;cases hi;exact hk rfl
    obtain⟨b1,b2,b3,b4,b5,gs,b6,b7⟩:=W'
    obtain⟨d1,d2,d3,⟨wl,d4,d4'⟩,d5,d6,d7⟩:=b4
    exact⟨b1.off hp (by decide) c_3,fun t ht=>c_3.get (b2 t ht) (ne (b2 t ht) (by decide)),b3,⟨c_3.get d1 (ne d1 (by decide)),c_3.get d2 (ne d2 (by decide)),c_3.get d3 (ne d3 (by decide)),⟨wl,c_3.get d4 (ne d4 (by decide)),d4'⟩,fun t ht=>c_3.get (d5 t ht) (ne (d5 t ht) (by decide)),d6,d7⟩,b5,gs,c_3.get b6 (ne b6 (by decide)),b7⟩
   have hfree:=C.free hn_1
   have C3:CL i ts' cells T3:=by
    obtain⟨a1,a2,a3,a4,a5,a6,a7⟩:=C'
    exact⟨c_3.otherK a1 h_3,fun c hc=>c_3.otherK (a2 c hc) h_3,fun c hc=>c_3.other (a3 c hc) fun q=>hfree.2 (q▸mO hc),a4,a5,a6,a7⟩
   refine⟨f',hf',ts',specs++[⟨form,0,(z+j)%2⟩],_,_,_,rfl,W3,C3,g1.mono (by omega),g2,?_,fun s hs=>?_,by simp [hsl],c_3.back c' fun _ _ _ _ q=>.inr q⟩
   ·rw [h_3,mP];rfl
   ·rcases mA.mp hs with q|q
    ·exact hok s q
    ·rw [mS] at q;subst q
     have hz2:(z+j)%2<2:=Nat.mod_lt _ (by decide)
     exact⟨show form≤7 by omega,show (z+j)%2≤2 by omega,fun q=>absurd (show 0<0 from q) (by decide),fun q=>by have q:form=1:=q;omega⟩
 ·rintro ρ T' ⟨f',hf',ts',specs,x,y,u,rfl,W',C',g1,g2,hp,hok,hsl,c'⟩
  have hsl:specs.length≤2:=by rw [hsl];simpa using hc
  have hr':T'[rid]?=some (.real,.list []):=c'.get (c_1.keep hr) fun q=>by
   rcases q with q|q
   ·exact nk (i:=rid) (by decide) q
   ·rw [q] at hr;rw [hr] at hn_1;cases hn_1
  k_ownIn
  refine sp_lput (by omega) W' C' hcl hr' hp hok (by omega) hrn (C.free hn_1).2 hrd fun T2 W2 C2 c_2=>?_
  k_ownIn
  refine k f' hf' ts' specs pid T2 W2 C2 (g1.mono (by simp;omega)) g2 hsl ?_
  refine c_2.back (c'.back (c_1.weaken fun _ _ q=>q.elim) fun j k' o hi q=>?_) fun _ _ _ _ q=>.inr q
  rcases q with q|q
  ·exact .inl q
  ·rw [q,hn_1] at hi;cases hi
structure Fr where
 id:Nat
 number:Nat
 home:Nat
 args:Nat
 locals_:Nat
 stack:Nat
 keep:Nat
 caughtv:Nat
 xs:V×V×V×V×V×V×V×V
def Fr.obj (f:Fr):O:=.inst 6 [.int f.number,f.xs.1,f.xs.2.1,f.xs.2.2.1,.obj f.args,.obj f.locals_,.obj f.stack,f.xs.2.2.2.1,f.xs.2.2.2.2.1,.obj f.caughtv,.obj f.keep,f.xs.2.2.2.2.2.1,.int f.home,f.xs.2.2.2.2.2.2.1,f.xs.2.2.2.2.2.2.2]
def Fr.rows (f:Fr):List Nat:=(if f.home=f.number then [f.args,f.locals_] else [])++[f.stack,f.keep,f.caughtv]
structure Chs where
 id:Nat
 rid:Nat
 num:V
 xs:List V
def Chs.obj (c:Chs):O:=.inst 11 (c.num::.obj c.rid::c.xs)
structure MId where
 kt:Nat
 frs:Nat
 sts:Nat
 fas:Nat
 chs:Nat
 inn:Nat
 iv:Nat
 hes:Nat
 un:Nat
 sw:Nat
 x0:V
 xa:V×V×V×V×V×V
 xb:V
 xc:V
 xd:V×V×V×V×V×V×V
 xe:V×V
 xf:V×V×V
def MId.obj (i:MId) (hp:Nat) (hd:V):O:=.inst 10 [i.x0,.obj i.kt,.obj hp,i.xa.1,i.xa.2.1,i.xa.2.2.1,i.xa.2.2.2.1,i.xa.2.2.2.2.1,i.xa.2.2.2.2.2,.obj i.frs,i.xb,.obj i.sts,i.xc,.obj i.fas,i.xd.1,i.xd.2.1,i.xd.2.2.1,i.xd.2.2.2.1,i.xd.2.2.2.2.1,i.xd.2.2.2.2.2.1,i.xd.2.2.2.2.2.2,
 .obj i.chs,.obj i.inn,.obj i.iv,.obj i.hes,i.xe.1,i.xe.2,.obj i.un,hd,i.xf.1,i.xf.2.1,i.xf.2.2,.obj i.sw]
structure MG where
 frames:List Fr
 chases:List Chs
 statics:List (Int×Nat)
 fails:List (Int×Nat)
 held:List Nat
def diOf (l:List (Int×Nat)):List (Int×V):=l.map fun p=>(p.1,.obj p.2)
structure MW (m:Nat) (i:MId) (hp:Nat) (hd:V) (g:MG) (T:TH):Prop where
 m:T[m]?=some (.m,i.obj hp hd)
 frs:T[i.frs]?=some (.frs,.list (g.frames.map fun f=>.obj f.id))
 fr:∀ f∈g.frames,T[f.id]?=some (.fr,f.obj)
 chs:T[i.chs]?=some (.chs,.list (g.chases.map fun c=>.obj c.id))
 ch:∀ c∈g.chases,T[c.id]?=some (.ch,c.obj)
 sts:T[i.sts]?=some (.sts,.di (diOf g.statics))
 fas:T[i.fas]?=some (.fas,.di (diOf g.fails))
 hes:T[i.hes]?=some (.hes,.list (g.held.map .obj))
 fk:g.fails.Pairwise fun a b=>a.1<b.1
 len:g.frames.length≤1000∧g.chases.length≤1000∧g.fails.length≤1000∧g.held.length≤1000
theorem MW.chg {m:Nat} {i:MId} {hp:Nat} {hd:V} {g:MG} {T T':TH} {X:Nat→K→Prop} (M:MW m i hp hd g T) (c:Chg X T T') (n:∀ i,¬ X i .m∧¬ X i .frs∧¬ X i .fr∧¬ X i .chs∧¬ X i .ch∧¬ X i .sts∧¬ X i .fas∧¬ X i .hes):MW m i hp hd g T' :=
 ⟨c.get M.m (n _).1,c.get M.frs (n _).2.1,fun f hf=>c.get (M.fr f hf) (n _).2.2.1,c.get M.chs (n _).2.2.2.1,fun x hx=>c.get (M.ch x hx) (n _).2.2.2.2.1,c.get M.sts (n _).2.2.2.2.2.1,c.get M.fas (n _).2.2.2.2.2.2.1,c.get M.hes (n _).2.2.2.2.2.2.2,M.fk,M.len⟩
theorem MW.chg0 {m:Nat} {i:MId} {hp:Nat} {hd:V} {g:MG} {T T':TH} (M:MW m i hp hd g T) (c:Chg noX T T'):MW m i hp hd g T':=M.chg c fun _=>⟨id,id,id,id,id,id,id,id⟩
def rootsL (i:MId) (g:MG) (a b:Nat):List Nat:=g.frames.flatMap Fr.rows++[a,b]++g.chases.map Chs.rid++[i.iv]++g.held++g.fails.map (·.2)++[i.un]
theorem dget_diOf:∀ {l:List (Int×Nat)} {j:Nat} {p:Int×Nat},l.Pairwise (fun a b=>a.1<b.1)→l[j]?=some p→dget (diOf l) p.1=some (.obj p.2)
 | q::l,0,p,_,h=>by simp at h;subst h;simp [diOf,dget]
 | q::l,j+1,p,hp,h=>by
  rw [List.pairwise_cons] at hp
  have h:l[j]?=some p:=by simpa using h
  have:=hp.1 p (mG h)
  show dget ((q.1,V.obj q.2)::diOf l) p.1=_
  unfold dget
  rw [if_neg (by simp;omega)]
  exact dget_diOf hp.2 h
theorem sort_two:([17,16]:List Int).mergeSort (fun a b=>decide (a≤b))=[16,17]:=by simp [List.mergeSort,List.MergeSort.Internal.splitInTwo]
theorem sort_asc {l:List Int} (h:l.Pairwise (·≤·)):l.mergeSort (fun a b=>decide (a≤b))=l:=by
 refine List.mergeSort_of_pairwise ?_
 exact h.imp fun h=>by simpa using h
set_option maxHeartbeats 4000000 in
theorem sp_roots {n m:Nat} {i:MId} {hp:Nat} {hd:V} {g:MG} {a b:Nat} (hn:1≤n) (M:MW m i hp hd g T) (hst:g.statics=[(17,b),(16,a)])
  (k:∀ o T',T[o]?=none→T'[o]?=some (.tmp 540,.list ((rootsL i g a b).map .obj))→Chg noX T T'→Q (.obj o) T'):Y (CN n 54 [.obj m] (hpOf T)) Q:=by
 obtain⟨n,rfl,_⟩:=down hn
 refine call_fn (fd:=fd_roots) (by rfl) (by rfl) ?_
 show SV _ [some (.obj m),none,none,none,none,none] _ _ _
 unfold fd_roots
 obtain⟨l1,l2,l3,l4⟩:=M.len
 k_ownIn
 refine AnyK.mk (.tmp 540) ?_
 refine EVs.go ?_
 conv=>whnf
 refine NewY.intro ?_
 intro o T1 hn_1 h_1 c_1
 have mm:=(M.chg0 c_1).m
 unfold MId.obj at mm
 have mf:=(M.chg0 c_1).frs
 k_ownIn
 have hflen:∀ j,((g.frames.take j).flatMap Fr.rows).length≤5000:=fun j=>by
  have:∀ l:List Fr,(l.flatMap Fr.rows).length≤5*l.length:=by
   intro l
   induction l with
   | nil=>simp
   | cons f l ih =>
    rw [fC,lA]
    have:f.rows.length≤5:=by unfold Fr.rows;split<;>simp
    simp only [lC];omega
  have h1:=this (g.frames.take j)
  have h2:=(tS j g.frames).length_le
  omega
 refine HandS.intro (SV.forI (fun j ρ T'=>∃ x:Option V,ρ=[some (.obj m),some (.obj o),x,none,none,none]∧T'[o]?=some (.tmp 540,.list (((g.frames.take j).flatMap Fr.rows).map .obj))∧Chg (oneX o) T1 T') ?_)
 k_ownIn
 refine⟨⟨none,rfl,by simpa using h_1,.refl _ _⟩,?_,?_⟩
 ·rintro j v ρ T' hv ⟨x,rfl,hO,c'⟩ ho
  rw [gM] at hv
  obtain⟨f,hf,rfl⟩:=Option.map_eq_some_iff.mp hv
  have hfm:=mG hf
  have c_0:Chg noX T T':=c'.fresh c_1 hn_1
  have hfo:=(M.chg0 c_0).fr f hfm
  have hfo1:=(M.chg0 c_1).fr f hfm
  unfold Fr.obj at hfo hfo1
  have htk:(g.frames.take (j+1)).flatMap Fr.rows=(g.frames.take j).flatMap Fr.rows++f.rows:=by rw [tO,hf];simp
  have hl:=hflen j
  refine GetY.mk rfl ?_
  by_cases e:f.home=f.number
  ·k_ownIn
   k_subL
   k_ownIn
   k_subL
   k_ownIn
   k_subL
   k_ownIn
   k_subL
   k_ownIn
   k_subL
   k_ownIn
   rename_i T2 h_2 c_2
   refine⟨⟨_,rfl,?_,c_2⟩,c_2.otherK mf h_2⟩
   rw [h_2,htk]
   simp [Fr.rows,e]
  ·k_ownIn
   k_subL
   k_ownIn
   k_subL
   k_ownIn
   k_subL
   k_ownIn
   rename_i T2 h_2 c_2
   refine⟨⟨_,rfl,?_,c_2⟩,c_2.otherK mf h_2⟩
   rw [h_2,htk]
   simp [Fr.rows,e]
 ·rintro ρ T' ⟨x,rfl,hO,c'⟩ ho
  rw [lM,tL] at hO
  have hfl:=hflen g.frames.length
  rw [tL] at hfl
  have ms1:=(M.chg0 c_1).sts
  rw [hst] at ms1
  have mm':=c'.otherK mm hO
  have ms':=c'.otherK ms1 hO
  refine SV.go ?_
  conv=>whnf
  refine HandS.intro (SV.forU ?_)
  refine EV.go ?_
  conv=>whnf
  refine HandE.intro (EV.sorted (.tmp 541) ?_)
  k_ownIn
  refine⟨⟨Nat.le_of_ble_eq_true rfl,.inl (Nat.le_of_ble_eq_true rfl)⟩,?_⟩
  refine NewY.intro ?_
  intro so T2 hn_2 h_2 c_2
  have hs2:T2[so]?=some (.tmp 541,.list [.int 16,.int 17]):=by
   rw [h_2]
   show some (K.tmp 541,O.list ((([17,16]:List Int).mergeSort fun a b=>decide (a≤b)).map V.int))=_
   rw [sort_two];rfl
  have O2:=c_2.keep hO
  have mm2:=c_2.keep mm'
  have ms2:=c_2.keep ms'
  k_ownIn
  refine FV.step hs2 rfl ?_
  refine GetY.mk rfl ?_
  k_ownIn
  refine IdxY.di ms2 (v:=.obj a) (by simp [diOf,dget]) ?_
  k_ownIn
  k_subL
  k_ownIn
  rename_i T3 h_3 c_3
  have hs3:=c_3.otherK hs2 h_3
  have mm3:=c_3.otherK mm2 h_3
  have ms3:=c_3.otherK ms2 h_3
  refine FV.step hs3 rfl ?_
  refine GetY.mk rfl ?_
  k_ownIn
  refine IdxY.di ms3 (v:=.obj b) (by simp [diOf,dget]) ?_
  k_ownIn
  k_subL
  k_ownIn
  rename_i T4 h_4 c4
  refine FV.done (c4.otherK hs2 h_4) rfl ?_
  have O4:T4[o]?=some (.tmp 540,.list ((g.frames.flatMap Fr.rows++[a,b]).map .obj)):=by rw [h_4];simp
  have d_4:Chg noX T T4:=Chg.fresh c4 ((c'.fresh c_1 hn_1).tr c_2) hn_1
  clear h_3 h_4 c_3 c4 hs3 mm3 ms3 h_2 hs2 mm2 ms2 c_2 hn_2 O2 mm' ms' hO
  have M4:=M.chg0 d_4
  have mm4:=M4.m
  unfold MId.obj at mm4
  have mc4:=M4.chs
  refine SV.go ?_
  conv=>whnf
  refine HandS.intro (SV.forI (fun j ρ T'=>∃ y:Option V,ρ=[some (.obj m),some (.obj o),x,some (.int 17),y,none]∧T'[o]?=some (.tmp 540,.list ((g.frames.flatMap Fr.rows++[a,b]++(g.chases.take j).map Chs.rid).map .obj))∧Chg (oneX o) T4 T') ?_)
  k_ownIn
  refine⟨⟨none,rfl,by simpa using O4,.refl _ _⟩,?_,?_⟩
  ·rintro j v ρ T5 hv ⟨y,rfl,hO,c_5⟩ ho
   rw [gM] at hv
   obtain⟨c,hc,rfl⟩:=Option.map_eq_some_iff.mp hv
   have hco:=M4.ch c (mG hc)
   unfold Chs.obj at hco
   have hco:=c_5.otherK hco hO
   have hl2:=(tS j g.chases).length_le
   refine GetY.mk rfl ?_
   k_ownIn
   refine⟨by simp only [lA,lM,lC,lN];unfold limit;omega,?_⟩
   refine PutY.intro ?_
   intro T6 h_6 c_6
   k_ownIn
   refine⟨⟨_,rfl,?_,c_5.tr c_6⟩,c_6.otherK ho h_6⟩
   rw [h_6,tO,hc]
   simp
  ·rintro ρ T5 ⟨y,rfl,hO,c_5⟩ ho
   rw [lM,tL] at hO
   have mm5:=c_5.otherK mm4 hO
   k_ownIn
   k_subL
   rename_i T6 h_6 c_6
   have d_6:Chg noX T T6:=c_6.fresh d_4 hn_1
   have O6:T6[o]?=some (.tmp 540,.list ((g.frames.flatMap Fr.rows++[a,b]++g.chases.map Chs.rid++[i.iv]).map .obj)):=by rw [h_6];simp
   clear h_6 c_6 hO c_5 mm5 ho
   have M6:=M.chg0 d_6
   have mm6:=M6.m
   unfold MId.obj at mm6
   have mh6:=M6.hes
   refine SV.go ?_
   conv=>whnf
   refine HandS.intro (SV.forI (fun j ρ T'=>∃ u:Option V,ρ=[some (.obj m),some (.obj o),x,some (.int 17),y,u]∧T'[o]?=some (.tmp 540,.list ((g.frames.flatMap Fr.rows++[a,b]++g.chases.map Chs.rid++[i.iv]++g.held.take j).map .obj))∧Chg (oneX o) T6 T') ?_)
   k_ownIn
   refine⟨⟨none,rfl,by simpa using O6,.refl _ _⟩,?_,?_⟩
   ·rintro j v ρ T7 hv ⟨u,rfl,hO,c_7⟩ ho
    rw [gM] at hv
    obtain⟨r,hr,rfl⟩:=Option.map_eq_some_iff.mp hv
    have hl2:=(tS j g.held).length_le
    refine GetY.mk rfl ?_
    k_ownIn
    refine⟨by simp only [lA,lM,lC,lN];unfold limit;omega,?_⟩
    refine PutY.intro ?_
    intro T8 h_8 c_8
    k_ownIn
    refine⟨⟨_,rfl,?_,c_7.tr c_8⟩,c_8.otherK ho h_8⟩
    rw [h_8,tO,hr]
    simp
   ·rintro ρ T7 ⟨u,rfl,hO,c_7⟩ ho
    rw [lM,tL] at hO
    have d_7:Chg noX T T7:=c_7.fresh d_6 hn_1
    have M7:=M.chg0 d_7
    have mm7:=M7.m
    unfold MId.obj at mm7
    have mf7:=M7.fas
    have hks:(g.fails.map (·.1)).Pairwise (·≤·):=by
     rw [List.pairwise_map];exact M.fk.imp fun h=>Int.le_of_lt h
    refine SV.go ?_
    conv=>whnf
    refine HandS.intro (SV.forI (fun j ρ T'=>∃ v:Option V,ρ=[some (.obj m),some (.obj o),x,v,y,u]∧T'[o]?=some (.tmp 540,.list ((g.frames.flatMap Fr.rows++[a,b]++g.chases.map Chs.rid++[i.iv]++g.held++(g.fails.take j).map (·.2)).map .obj))∧Chg noX T T') ?_)
    refine EV.go ?_
    conv=>whnf
    refine HandE.intro (EV.sorted (.tmp 542) ?_)
    k_ownIn
    have e1:(diOf g.fails).map (·.1)=g.fails.map (·.1):=by unfold diOf;rw [mQ];rfl
    rw [e1]
    refine⟨⟨by unfold diOf;rw [lM];unfold limit;omega,.inr hks⟩,?_⟩
    refine NewY.intro ?_
    intro so T8 hn8 h_8 c_8
    rw [sort_asc hks] at h_8
    refine ObjY.mk (ListY.mk h_8 ⟨⟨_,rfl,by simpa using c_8.keep hO,d_7.tr c_8⟩,?_,?_⟩)
    ·rintro j v ρ T9 hv ⟨w,rfl,hO,d9⟩ ho
     rw [mQ,gM] at hv
     obtain⟨p,hp',rfl⟩:=Option.map_eq_some_iff.mp hv
     have M9:=M.chg0 d9
     have mm9:=M9.m
     unfold MId.obj at mm9
     have mf9:=M9.fas
     have hl2:=(tS j g.fails).length_le
     refine GetY.mk rfl ?_
     k_ownIn
     refine IdxY.di mf9 (dget_diOf M.fk hp') ?_
     k_ownIn
     refine⟨by simp only [lA,lM,lC,lN];unfold limit;omega,?_⟩
     refine PutY.intro ?_
     intro Ta ha ca
     k_ownIn
     refine⟨⟨_,rfl,?_,ca.fresh d9 hn_1⟩,ca.otherK ho ha⟩
     rw [ha,tO,hp']
     simp
    ·rintro ρ T9 ⟨w,rfl,hO,d9⟩ ho
     rw [lM,lM,tL] at hO
     have mm9:=(M.chg0 d9).m
     unfold MId.obj at mm9
     k_ownIn
     refine⟨by simp only [lA,lM,lC,lN];unfold limit;omega,?_⟩
     refine PutY.intro ?_
     intro Ta ha ca
     k_ownIn
     refine k o Ta hn_1 ?_ (ca.fresh d9 hn_1)
     rw [ha]
     simp [rootsL]
def specsOf (cells:List Ce) (r:Nat):List Spec:=((cells.find? fun c=>c.rid==r).map Ce.specs).getD []
theorem specsOf_cell {cells:List Ce} (hn:(cells.map Ce.rid).Nodup) {c:Ce} (hc:c∈cells):specsOf cells c.rid=c.specs:=by
 unfold specsOf
 cases q:cells.find? fun x=>x.rid==c.rid with
 | none=>have:=List.find?_eq_none.mp q c hc;simp at this
 | some d =>
  have h1:=List.mem_of_find?_eq_some q
  have h2:d.rid=c.rid:=by simpa using List.find?_some q
  obtain⟨i,hi⟩:=gO h1
  obtain⟨j,hj⟩:=gO hc
  by_cases e:i=j
  ·subst e;rw [hi] at hj;cases hj;rfl
  ·exact absurd h2 (map_get_ne hn hi hj e)
theorem specsOf_none {cells:List Ce} {r:Nat} (h:r∉cells.map Ce.rid):specsOf cells r=[]:=by
 unfold specsOf
 rw [List.find?_eq_none.mpr fun c hc=>by
  intro q
  have q:c.rid=r:=by simpa using q
  exact h (q▸mO hc)]
 rfl
structure Rts (mi:MId) (g:MG) (a b:Nat) (h:Hid) (cells:List Ce) (ex:List Nat) (T:TH):Prop where
 perm:(rootsL mi g a b).Perm (cells.map Ce.rid++ex)
 exs:∀ r∈ex,T[r]?=some (.real,.list [])
 nd:(cells.map Ce.rid++ex).Nodup
 rdy:h.rdy∉cells.map Ce.rid++ex
 st:g.statics=[(17,b),(16,a)]
 cl:cells.length≤5000
 exl:ex.length≤1
theorem reach_congr {ts:List Th} {r1 r2:List (List Spec)} (h:∀ l∈r1,∀ s∈l,∃ l'∈r2,s∈l') {t:Th} (x:Reach ts r1 t):Reach ts r2 t:=by
 induction x with
 | root hr hs e=>obtain⟨l',h1,h2⟩:=h _ hr _ hs;exact .root h1 h2 e
 | step _ hs e ih=>exact .step ih hs e
def rowsR (mi:MId) (g:MG) (a b:Nat) (cells:List Ce):List (Nat×List Spec):=(rootsL mi g a b).map fun r=>(r,specsOf cells r)
theorem Rts.cases {mi:MId} {g:MG} {a b:Nat} {h:Hid} {cells:List Ce} {ex:List Nat} (R:Rts mi g a b h cells ex T) {r:Nat×List Spec} (hr:r∈rowsR mi g a b cells):(∃ c∈cells,r=(c.rid,c.specs))∨(r.1∈ex∧r.2=[]):=by
 obtain⟨x,hx,rfl⟩:=mM.mp hr
 have hn:(cells.map Ce.rid).Nodup:=(nD.mp R.nd).1
 rcases mA.mp (R.perm.mem_iff.mp hx) with q|q
 ·obtain⟨c,hc,rfl⟩:=mM.mp q
  exact .inl ⟨c,hc,by rw [specsOf_cell hn hc]⟩
 ·exact .inr ⟨q,specsOf_none fun h'=>(nD.mp R.nd).2.2 _ h' _ q rfl⟩
theorem Rts.cell {mi:MId} {g:MG} {a b:Nat} {h:Hid} {cells:List Ce} {ex:List Nat} (R:Rts mi g a b h cells ex T) {c:Ce} (hc:c∈cells):(c.rid,c.specs)∈rowsR mi g a b cells:=by
 have hn:(cells.map Ce.rid).Nodup:=(nD.mp R.nd).1
 refine mM.mpr ⟨c.rid,R.perm.mem_iff.mpr (mL _ (mO hc)),by rw [specsOf_cell hn hc]⟩
theorem sp_Handles {n hd:Nat} (hn:1≤n) (h0:T[hd]?=some (.hd,.inst 4 [])) (k:∀ hr T',Hds hd hr T'→Chg (oneX hd) T T'→Q .none T'):Y (CN n 33 [.obj hd] (hpOf T)) Q:=by
 obtain⟨n,rfl,_⟩:=down hn
 refine call_fn (fd:=fd_Handles_init) (by rfl) (by rfl) ?_
 show SV _ [some (.obj hd)] _ _ _
 unfold fd_Handles_init
 k_ownIn
 refine AnyK.mk .hr ?_
 refine EVs.go ?_
 conv=>whnf
 refine NewY.intro ?_
 intro hr T1 hn_1 h_1 c_1
 k_ownIn
 rename_i T2 h_2 c_2
 exact k hr T2 ⟨h_2,c_2.otherK h_1 h_2⟩ (c_2.back (c_1.weaken fun _ _ q=>q.elim) fun _ _ _ _ q=>q)
abbrev collX:Nat→K→Prop:=ksX [.hp,.th,.real,.slots,.m]
set_option maxHeartbeats 2000000 in
theorem sp_collfor {i:WId} {mi:MId} {h:Hid} {hd:V} {g:MG} {a b:Nat} {os rs sn:List Th} {f:Hn} {gen:Nat} {cells:List Ce} {ex:List Nat} (hn:10≤n) (hb:HB h (os++rs) f T) (S:SL (os++rs) T) (G:Good (os++rs)) (ho:∀ t∈os,gen<t.age) (hr:∀ t∈rs,t.age≤gen) (hlim:(os++rs).length≤20000)
  (M:MW i.m mi h.hp hd g T) (H:hd=.none∨∃ hdo hr,hd=.obj hdo∧Hds hdo hr T) (R:Rts mi g a b h cells ex T) (hrow:∀ c∈cells,T[c.rid]?=some (.real,.list (c.specs.map (Spec.val (whOf (os++rs)))))) (hok:∀ c∈cells,∀ s∈c.specs,s.Ok (os++rs)) (hlen:∀ c∈cells,c.specs.length≤10)
  (hsn:∀ t∈os++rs,t.age≤gen→(t∈sn ↔ Reach (os++rs) (cells.map Ce.specs) t))
  (k:∀ h' f' hdo hr' T',h'.hp=h.hp→h'.rdy=h.rdy→f'.made=f.made→Keeps gen sn os rs→HB h' (nextL gen sn os rs) f' T'→SL (nextL gen sn os rs) T'→(∀ c∈cells,T'[c.rid]?=some (.real,.list (c.specs.map (Spec.val (whOf (nextL gen sn os rs))))))→(∀ c∈cells,∀ s∈c.specs,s.Ok (nextL gen sn os rs)) →
   MW i.m mi h.hp (.obj hdo) g T'→Hds hdo hr' T'→(∀ r∈ex,T'[r]?=some (.real,.list []))→Chg collX T T'→Q (.int (((os++rs).length:Int)-((nextL gen sn os rs).length:Int))) T') :
  Y (CN n 55 [.obj i.m,.int gen] (hpOf T)) Q:=by
 obtain⟨n,rfl,_⟩:=down hn
 have hrl:(rootsL mi g a b).length≤6000:=by
  rw [R.perm.length_eq,lA,lM];have:=R.cl;have:=R.exl;omega
 have main:∀ T1 hdo hr',Chg (ksX [.m]) T T1→MW i.m mi h.hp (.obj hdo) g T1→Hds hdo hr' T1→SV (CN n) [some (.obj i.m),some (.int gen)] [.ret (.call 53 [(.attr (.loc 0) 10 2),(.call 54 [(.loc 0)]),(.attr (.loc 0) 10 28),(.loc 1)])] T1 fun r T=>Q (r.1.getD .none) T:=by
  intro T1 hdo hr' c_1 M1 H1
  have mm:=M1.m
  unfold MId.obj at mm
  k_ownIn
  refine sp_roots (by omega) M1 R.st fun o T2 hn_2 h_2 c_2=>?_
  have mm2:=c_2.keep mm
  k_ownIn
  have c12:Chg (ksX [.m]) T T2:=c_2.back c_1 side_no
  have hb2:HB h (os++rs) f T2:=hb.keep c12 (fun _=>⟨nk,nk,nk,nk,nk,nk⟩) nk
  have S2:SL (os++rs) T2:=fun t ht=>c12.get (S t ht) nk
  have H2:=H1.chg c_2 fun _=>⟨id,id⟩
  have RA:RowsAt (os++rs) (rowsR mi g a b cells) T2:=by
   refine⟨fun r hr=>?_,fun r hr s hs=>?_⟩
   ·rcases R.cases hr with ⟨c,hc,rfl⟩|⟨q1,q2⟩
    ·exact c12.get (hrow c hc) nk
    ·rw [q2];exact c12.get (R.exs _ q1) nk
   ·rcases R.cases hr with ⟨c,hc,rfl⟩|⟨q1,q2⟩
    ·exact hok c hc s hs
    ·rw [q2] at hs;cases hs
  have e1:(rowsR mi g a b cells).map (·.1)=rootsL mi g a b:=by unfold rowsR;rw [mQ];exact List.map_id _
  refine sp_collect (rows:=rowsR mi g a b cells) (sn:=sn) (by omega) hb2 H2 S2 G ho hr hlim RA (by unfold rowsR;rw [lM];omega) (fun r hr=>?_) (by rw [e1];exact R.perm.nodup_iff.mpr R.nd) (by rw [e1];exact fun q=>R.rdy (R.perm.mem_iff.mp q)) (by rw [h_2,←e1,mQ];rfl) (fun t ht ha=>(hsn t ht ha).trans ⟨reach_congr fun l hl s hs=>?_,reach_congr fun l hl s hs=>?_⟩) fun h' f' T3 g1 g2 g3 Kp hb3 R3 S3 c_3 ok3=>?_
  ·rcases R.cases hr with ⟨c,hc,rfl⟩|⟨q1,q2⟩
   ·have:=hlen c hc;show c.specs.length≤1000;omega
   ·rw [q2];exact Nat.zero_le _
  ·obtain⟨c,hc,rfl⟩:=mM.mp hl
   exact⟨c.specs,mM.mpr ⟨_,R.cell hc,rfl⟩,hs⟩
  ·obtain⟨r,hr,rfl⟩:=mM.mp hl
   rcases R.cases hr with ⟨c,hc,rfl⟩|⟨q1,q2⟩
   ·exact⟨c.specs,mO hc,hs⟩
   ·rw [q2] at hs;cases hs
  ·have M3:MW i.m mi h.hp (.obj hdo) g T3:=(M1.chg0 c_2).chg c_3 fun _=>⟨nk,nk,nk,nk,nk,nk,nk,nk⟩
   have H3:=H2.chg c_3 fun _=>⟨nk,nk⟩
   conv=>whnf
   refine k h' f' hdo hr' T3 g1 g2 g3 Kp hb3 S3 (fun c hc=>R3 _ (R.cell hc)) (fun c hc=>ok3 _ (R.cell hc)) M3 H3 (fun r hr=>?_) (c_3.back (c12.weaken fun _ _ q=>?_) (side_ks (by decide)))
   ·have hx:r∈rootsL mi g a b:=R.perm.mem_iff.mpr (mR _ hr)
    have e2:specsOf cells r=[]:=specsOf_none fun h'=>(nD.mp R.nd).2.2 _ h' _ hr rfl
    have:=R3 (r,specsOf cells r) (mO hx)
    rw [e2] at this
    exact this
   ·have q:_∈[K.m]:=q
    rw [mS] at q;rw [q];exact (by decide:K.m∈([.hp,.th,.real,.slots,.m]:List K))
 refine call_fn (fd:=fd_collect_for) (by rfl) (by rfl) ?_
 show SV _ [some (.obj i.m),some (.int gen)] _ _ _
 unfold fd_collect_for
 have mm:=M.m
 unfold MId.obj at mm
 rcases H with rfl|⟨hdo,hr',rfl,H⟩
 ·k_ownIn
  refine AnyK.mk .hd ?_
  refine EVs.go ?_
  conv=>whnf
  refine NewY.intro ?_
  intro hdo T1 hn_1 h_1 c_1
  refine sp_Handles (by omega) h_1 fun hr' T2 H2 c_2=>⟨rfl,?_⟩
  have c12:Chg noX T T2:=c_2.fresh c_1 hn_1
  have mm2:=c12.keep mm
  refine EV.go ?_
  conv=>whnf
  refine AttrPut.mk mm2 (Nat.le_of_ble_eq_true rfl) ?_
  refine PutY.intro ?_
  intro T3 h_3 c_3
  refine main T3 hdo hr' (c_3.back (c12.weaken fun _ _ q=>q.elim) (side_kind M.m)) ?_ (Hds.mk (c_3.otherK H2.hd h_3) (c_3.otherK H2.hr h_3))
  have M2:=M.chg0 c12
  exact⟨h_3,c_3.otherK M2.frs h_3,fun x hx=>c_3.otherK (M2.fr x hx) h_3,c_3.otherK M2.chs h_3,fun x hx=>c_3.otherK (M2.ch x hx) h_3,c_3.otherK M2.sts h_3,c_3.otherK M2.fas h_3,c_3.otherK M2.hes h_3,M.fk,M.len⟩
 ·refine SV.go ?_
  conv=>whnf
  repeat o_fieldsN
  refine⟨fun hb=>(nomatch hb),fun _=>?_⟩
  exact main T hdo hr' (.refl _ _) M H
def DOk (H:Hp) (n:Nat) (v:V):Prop:=∃ d,dataV n H v=some d∧PyData.eqv d d=true
theorem mapM_ok {f:V→Option PyData}:∀ {l:List V},(∀ x∈l,∃ d,f x=some d∧PyData.eqv d d=true)→∃ ds,l.mapM f=some ds∧PyData.eqvAll ds ds=true
 | [],_=>⟨[],rfl,rfl⟩
 | a::l,h=>by
  obtain⟨d,e,r⟩:=h a (.head _)
  obtain⟨ds,e',r'⟩:=mapM_ok (l:=l) fun x hx=>h x (.tail _ hx)
  refine⟨d::ds,by rw [List.mapM_cons,e,e'];rfl,?_⟩
  show (PyData.eqv d d&&PyData.eqvAll ds ds)=true
  rw [r,r'];rfl
theorem DOk.int {H:Hp} {i:Int}:DOk H n (.int i):=⟨.int i,by cases n<;>rfl,by show (i==i)=true;simp⟩
theorem DOk.str {H:Hp} {x:Str} (h:PyData.strOk x=true):DOk H n (.str x):=⟨.str x,by cases n<;>simp [dataV,h],by show (x==x)=true;simp⟩
theorem DOk.tup {H:Hp} {l:List V} (h:∀ x∈l,DOk H n x):DOk H (n+1) (.tup l):=by
 obtain⟨ds,e,r⟩:=mapM_ok h
 exact⟨.tuple ds,by simp only [dataV,e,Option.map_some],r⟩
theorem DOk.list {n o:Nat} {k:K} {l:List V} (ho:T[o]?=some (k,.list l)) (h:∀ x∈l,DOk (hpOf T) n x):∃ ds,dataV (n+1) (hpOf T) (.obj o)=some (.list ds)∧PyData.eqvAll ds ds=true∧l.mapM (dataV n (hpOf T))=some ds:=by
 obtain⟨ds,e,r⟩:=mapM_ok h
 exact⟨ds,by simp only [dataV,hp_get ho,e,Option.map_some],r,e⟩
theorem strOk_words (n:Nat):PyData.strOk (words n)=true:=by
 unfold words;split<;>decide +kernel
theorem mapM_mono {f g:V→Option PyData} (h:∀ x d,f x=some d→g x=some d):∀ {l:List V} {ds:List PyData},l.mapM f=some ds→l.mapM g=some ds
 | [],_,e=>e
 | a::l,ds,e=>by
  rw [List.mapM_cons] at e ⊢
  cases q:f a with
  | none=>rw [q] at e;cases e
  | some b =>
   cases q':l.mapM f with
   | none=>rw [q,q'] at e;cases e
   | some bs =>
    rw [q,q'] at e
    rw [h a b q,mapM_mono h q']
    exact e
theorem dataV_mono {H:Hp}:∀ (n:Nat) (v:V) (d:PyData),dataV n H v=some d→dataV (n+1) H v=some d
 | n,.none,d,e=>by cases n<;>exact e
 | n,.bool _,d,e=>by cases n<;>exact e
 | n,.int _,d,e=>by cases n<;>exact e
 | n,.str _,d,e=>by cases n<;>(simp only [dataV] at e ⊢;exact e)
 | n,.frz _,d,e=>by cases n<;>(simp [dataV] at e)
 | 0,.tup l,d,e=>by simp [dataV] at e
 | n+1,.tup l,d,e=>by
  simp only [dataV,Option.map_eq_some_iff] at e ⊢
  obtain⟨ds,e1,e2⟩:=e
  exact⟨ds,mapM_mono (dataV_mono n) e1,e2⟩
 | 0,.obj o,d,e=>by simp [dataV] at e
 | n+1,.obj o,d,e=>by
  simp only [dataV] at e ⊢
  split at e
  ·rename_i l hl
   rw [Option.map_eq_some_iff] at e
   obtain⟨ds,e1,e2⟩:=e
   rw [mapM_mono (dataV_mono n) e1]
   exact congrArg some e2
  ·cases e
theorem DOk.val {H:Hp} {s:Spec} {a:Nat}:DOk H (n+5) (s.valA a):=by
 have hi:∀ {n:Nat} {l:List V},(∀ x∈l,∃ i,x=.int i)→DOk H (n+1) (.tup l):=fun h=>.tup fun x hx=>by obtain⟨i,rfl⟩:=h x hx;exact .int
 have ref:∀ {n a:Nat},DOk H (n+1) (refV a):=fun {n a}=>hi fun x hx=>by
  simp only [mK,nM,or_false] at hx
  rcases hx with rfl|rfl<;>exact⟨_,rfl⟩
 have pair:∀ {n m a:Nat},DOk H (n+3) (pairV m a):=fun {n m a}=>.tup fun x hx=>by
  simp only [mK,nM,or_false] at hx
  rcases hx with rfl|rfl|rfl
  ·exact .int
  ·exact .int
  ·refine .tup fun x hx=>?_
   simp only [mK,nM,or_false] at hx
   rcases hx with rfl|rfl
   ·exact hi fun x hx=>by
     simp only [mK,nM,or_false] at hx
     rcases hx with rfl|rfl<;>exact⟨_,rfl⟩
   ·exact ref
 have emp:∀ {n:Nat},DOk H (n+1) (.tup []):=hi fun x hx=>nomatch hx
 unfold Spec.valA
 split
 ·exact ref
 ·unfold placeV
  refine .tup fun x hx=>?_
  simp only [mK,nM,or_false] at hx
  rcases hx with rfl|rfl
  ·exact .int
  ·refine .tup fun x hx=>?_
   simp only [mK,nM,or_false] at hx
   rcases hx with rfl|rfl|rfl
   ·exact .int
   ·exact .int
   ·exact hi fun x hx=>by rw [mS] at hx;exact⟨_,hx⟩
 ·exact pair
 ·unfold outerV
  refine .tup fun x hx=>?_
  simp only [mK,nM,or_false] at hx
  rcases hx with rfl|rfl|rfl
  ·exact .int
  ·exact .int
  ·refine .tup fun x hx=>?_
   simp only [mK,nM,or_false] at hx
   rcases hx with rfl|rfl
   ·exact pair
   ·exact hi fun x hx=>by
     simp only [mK,nM,or_false] at hx
     rcases hx with rfl|rfl<;>exact⟨_,rfl⟩
 ·exact hi fun x hx=>by
   simp only [mK,nM,or_false] at hx
   rcases hx with rfl|rfl<;>exact⟨_,rfl⟩
 ·refine .tup fun x hx=>?_
  simp only [mK,nM,or_false] at hx
  rcases hx with rfl|rfl
  ·exact .int
  ·refine .tup fun x hx=>?_
   simp only [mK,nM,or_false] at hx
   rcases hx with rfl|rfl|rfl|rfl
   ·exact .int
   ·exact .int
   ·exact .int
   ·exact emp
 ·refine .tup fun x hx=>?_
  simp only [mK,nM,or_false] at hx
  rcases hx with rfl|rfl
  ·exact .int
  ·refine .tup fun x hx=>?_
   simp only [mK,nM,or_false] at hx
   rcases hx with rfl|rfl|rfl
   ·exact .int
   ·exact .int
   ·exact emp
 ·refine .tup fun x hx=>?_
  simp only [mK,nM,or_false] at hx
  rcases hx with rfl|rfl
  ·exact .int
  ·exact .str (strOk_words _)
theorem CmpY.ne_same {o1 o2:Nat} {k_1 k_2:K} {l:List V} {Q:Bool→Prop} (h1:T[o1]?=some (k_1,.list l)) (h2:T[o2]?=some (k_2,.list l)) (h:∀ x∈l,DOk (hpOf T) 7 x) (q:Q false):CmpY T .ne (.obj o1) (.obj o2) Q:=by
 obtain⟨ds,e,r,e'⟩:=DOk.list h1 h
 obtain⟨ds',e2,r2,e2'⟩:=DOk.list h2 h
 rw [e'] at e2';cases e2'
 refine⟨false,?_,q⟩
 have e3:dataV deep (hpOf T) (.obj o1)=some (.list ds):=e
 have e4:dataV deep (hpOf T) (.obj o2)=some (.list ds):=e2
 have r':PyData.eqv (.list ds) (.list ds)=true:=r
 simp only [cmpV,eqV,e3,e4,Option.bind_some,r',Option.map_some]
 rfl
theorem CmpY.eq_tup {l:List V} {Q:Bool→Prop} (h:DOk (hpOf T) 8 (.tup l)) (q:Q true):CmpY T .eq (.tup l) (.tup l) Q:=by
 obtain⟨d,e,r⟩:=h
 refine⟨true,?_,q⟩
 have e3:dataV deep (hpOf T) (.tup l)=some d:=e
 simp only [cmpV,eqV,e3,Option.bind_some,r]
theorem any_of_mapM {f:V→Option PyData} {p:PyData→Bool}:∀ {l:List V} {ds:List PyData} {x:V} {d:PyData},l.mapM f=some ds→x∈l→f x=some d→p d=true→ds.any p=true
 | a::l,ds,x,d,e,hx,hd,hp=>by
  rw [List.mapM_cons] at e
  cases q:f a with
  | none=>rw [q] at e;cases e
  | some b =>
   cases q':l.mapM f with
   | none=>rw [q,q'] at e;cases e
   | some bs =>
    rw [q,q'] at e
    cases e
    rw [List.any_cons]
    rcases mK.mp hx with rfl|hx
    ·rw [q] at hd;cases hd;rw [hp];rfl
    ·rw [any_of_mapM q' hx hd hp];simp
theorem CmpY.nmem_in {o r:Nat} {k:K} {l:List V} {Q:Bool→Prop} (h1:T[o]?=some (k,.list l)) (hr:V.obj r∈l) (h:∀ x∈l,DOk (hpOf T) 7 x) (q:Q false):CmpY T .nmem (.obj r) (.obj o) Q:=by
 obtain⟨ds,e,_,e'⟩:=DOk.list h1 h
 obtain⟨d,e7,r8⟩:=h _ hr
 refine⟨false,?_,q⟩
 have e3:dataV deep (hpOf T) (.obj o)=some (.list ds):=e
 have e4:dataV deep (hpOf T) (.obj r)=some d:=dataV_mono 7 _ _ e7
 have ha:ds.any (fun y=>PyData.eqv y d)=true:=any_of_mapM e' hr e7 r8
 simp only [cmpV,memV,hp_get h1,e3,e4,Option.bind_some,ha,Option.map_some]
 rfl
theorem filterMap_if {α β γ:Type} {l:List α} {g:α→β} {f:β→Option γ} {p:α→Bool} {k:α→γ} (h:∀ a∈l,f (g a)=if p a then some (k a) else none):(l.map g).filterMap f=(l.filter p).map k:=by
 induction l with
 | nil=>rfl
 | cons a l ih =>
  have ih:=ih fun x hx=>h x (.tail _ hx)
  have ha:=h a (.head _)
  rw [mC,List.filterMap_cons,ha,List.filter_cons]
  by_cases q:p a=true
  ·rw [if_pos q,if_pos q,mC,ih]
  ·rw [if_neg q,if_neg q,ih]
theorem ok_rows {ts:List Th} {cells:List Ce} {r:Nat} (h:T[r]?=some (.real,.list ((specsOf cells r).map (Spec.val (whOf ts))))):DOk (hpOf T) 7 (.obj r):=by
 obtain⟨ds,e1,e2,_⟩:=DOk.list (n:=6) h fun x hx=>by
  obtain⟨s,_,rfl⟩:=mM.mp hx
  rw [val_tgt];exact DOk.val (n:=1)
 exact⟨_,e1,e2⟩
set_option maxHeartbeats 2000000 in
theorem sp_named {i:WId} {mi:MId} {f:WN} {h:Hid} {hd:V} {g:MG} {a b:Nat} {ts:List Th} {cells:List Ce} {ex:List Nat} (hn:2≤n) (hw:T[i.w]?=some (.w,i.obj f)) (C:CL i ts cells T) (M:MW i.m mi h.hp hd g T) (R:Rts mi g a b h cells ex T)
  (k:∀ T',Chg noX T T'→Q (.bool true) T'):Y (CN n 82 [.obj i.w] (hpOf T)) Q:=by
 obtain⟨n,rfl,_⟩:=down hn
 have hn':(cells.map Ce.rid).Nodup:=(nD.mp R.nd).1
 have hcl:=R.cl
 have hrl:(rootsL mi g a b).length≤6000:=by
  rw [R.perm.length_eq,lA,lM];have:=R.exl;omega
 have row:∀ {T'},Chg noX T T'→∀ r∈rootsL mi g a b,T'[r]?=some (.real,.list ((specsOf cells r).map (Spec.val (whOf ts))))∧(specsOf cells r).length≤10:=by
  intro T' c r hr
  rcases mA.mp (R.perm.mem_iff.mp hr) with q|q
  ·obtain⟨x,hx,rfl⟩:=mM.mp q
   rw [specsOf_cell hn' hx];exact⟨c.keep (C.row x hx),C.len x hx⟩
  ·have e2:specsOf cells r=[]:=specsOf_none fun h'=>(nD.mp R.nd).2.2 _ h' _ q rfl
   rw [e2];exact⟨c.keep (R.exs r q),Nat.zero_le _⟩
 let P:Nat→Bool:=fun r=>decide (0<(specsOf cells r).length)
 refine call_fn (fd:=fd_law_named) (by rfl) (by rfl) ?_
 show SV _ [some (.obj i.w),none,none,none] _ _ _
 unfold fd_law_named
 unfold WId.obj at hw
 refine SV.go ?_
 conv=>whnf
 refine (EV.comp (.tmp 820) (fun x=>match x with|.obj r=>if P r then some (.obj r) else none|_=>none) ?_)
 k_ownIn
 refine sp_roots (by omega) M R.st fun o T1 hn_1 h_1 c_1=>?_
 k_ownIn
 refine⟨by rw [lM];unfold limit;omega,rfl,fun x T' hx c=>?_,?_⟩
 ·obtain⟨r,hr,rfl⟩:=mM.mp hx
  obtain⟨e1,e2⟩:=row (c_1.tr c) r hr
  show ItemC _ _ _ _ _ _ (if P r then some (.obj r) else none)
  have hc:Pure (CN n) (capOf [some (V.obj i.w),none,none,none] [] (.obj r)) (.cmp .gt (.len (.loc 0)) (.lit (.int 0))) T' (.bool (P r)):=by
   refine Pure.of ?_
   k_ownIn
   refine LenY.list e1 (by rw [lM];unfold limit;omega) ?_
   k_ownIn
   rw [lM]
   exact⟨by simp only [P];congr 1;by_cases q:0<(specsOf cells r).length<;>simp [q]<;>omega,rfl⟩
  cases hP:P r with
  | true =>
   rw [hP] at hc
   refine⟨?_,.inr ⟨_,_,rfl,hc⟩⟩
   refine Pure.of ?_
   k_ownIn
   exact⟨rfl,rfl⟩
  | false=>rw [hP] at hc;exact⟨_,_,rfl,hc⟩
 ·refine NewY.intro ?_
  intro gi T2 hn_2 h_2 c_2
  rw [filterMap_if (p:=P) (k:=V.obj) fun r _=>rfl] at h_2
  have c12:=c_1.tr c_2
  have hw_2:=c12.keep hw
  have hce2:=c12.keep C.ce
  k_ownIn
  refine HandE.intro (EV.comp (.tmp 821) (fun x=>match x with|.tup [_,.obj r,_]=>if P r then some (.obj r) else none|_=>none) ?_)
  k_ownIn
  refine⟨by rw [lM];unfold limit;omega,rfl,fun x T' hx c=>?_,?_⟩
  ·obtain⟨y,hy,rfl⟩:=mM.mp hx
   have hyr:y.rid∈rootsL mi g a b:=R.perm.mem_iff.mpr (mL _ (mO hy))
   obtain⟨e1,e2⟩:=row (c12.tr c) y.rid hyr
   show ItemC _ _ _ _ _ _ (if P y.rid then some (.obj y.rid) else none)
   unfold Ce.v
   have hc:Pure (CN n) (capOf [some (V.obj i.w),some (.obj gi),none,none] [] (.tup [.str y.tag,.obj y.rid,.obj y.pid])) (.cmp .gt (.len (.idx (.loc 0) (.lit (.int 1)))) (.lit (.int 0))) T' (.bool (P y.rid)):=by
    refine Pure.of ?_
    k_ownIn
    refine LenY.list e1 (by rw [lM];unfold limit;omega) ?_
    k_ownIn
    rw [lM]
    exact⟨by simp only [P];congr 1;by_cases q:0<(specsOf cells y.rid).length<;>simp [q]<;>omega,rfl⟩
   cases hP:P y.rid with
   | true =>
    rw [hP] at hc
    refine⟨?_,.inr ⟨_,_,rfl,hc⟩⟩
    refine Pure.of ?_
    k_ownIn
    exact⟨rfl,rfl⟩
   | false=>rw [hP] at hc;exact⟨_,_,rfl,hc⟩
  ·refine NewY.intro ?_
   intro wi T3 hn3 h_3 c_3
   rw [filterMap_if (p:=fun y:Ce=>P y.rid) (k:=fun y=>V.obj y.rid) fun r _=>rfl] at h_3
   have c13:=c12.tr c_3
   have h23:=c_3.keep h_2
   k_ownIn
   have hln:((rootsL mi g a b).filter P).length=(cells.filter fun y=>P y.rid).length:=by
    have h1:=(R.perm.filter P).length_eq
    rw [fA,lA] at h1
    have h2:ex.filter P=[]:=List.filter_eq_nil_iff.mpr fun r hr=>by
     have e2:specsOf cells r=[]:=specsOf_none fun h'=>(nD.mp R.nd).2.2 _ h' _ hr rfl
     simp [P,e2]
    have h3:((cells.map Ce.rid).filter P).length=(cells.filter fun y=>P y.rid).length:=by
     rw [List.filter_map,lM];rfl
    rw [h2,h3] at h1
    simpa using h1
   have hl1:((rootsL mi g a b).filter P).length≤6000:=Nat.le_trans (List.length_filter_le _ _) hrl
   refine HandS.intro (SV.forI (fun j ρ T'=>T'=T3∧∃ x:Option V,ρ=[some (.obj i.w),some (.obj gi),some (.obj wi),x]) ?_)
   k_ownIn
   refine⟨⟨rfl,none,rfl⟩,?_,?_⟩
   ·rintro j v ρ T' hv ⟨rfl,x,rfl⟩ ho
    rw [gM] at hv
    obtain⟨y,hy,rfl⟩:=Option.map_eq_some_iff.mp hv
    have hym:=mG hy
    obtain⟨hy1,hy2⟩:=List.mem_filter.mp hym
    have hyr:y.rid∈rootsL mi g a b:=R.perm.mem_iff.mpr (mL _ (mO hy1))
    refine GetY.mk rfl ?_
    k_ownIn
    refine CmpY.nmem_in h23 (mM.mpr ⟨y.rid,List.mem_filter.mpr ⟨hyr,hy2⟩,rfl⟩) (fun x hx=>?_) ?_
    ·obtain⟨r,hr,rfl⟩:=mM.mp hx
     exact ok_rows (row c13 r (List.mem_filter.mp hr).1).1
    ·k_ownIn
     exact⟨⟨rfl,_,rfl⟩,ho⟩
   ·rintro ρ T' ⟨rfl,x,rfl⟩ ho
    k_ownIn
    refine LenY.list h23 (by rw [lM];unfold limit;omega) ?_
    k_ownIn
    refine LenY.list ho (by rw [lM];unfold limit;omega) ?_
    k_ownIn
    rw [lM,lM,hln]
    have e:((((cells.filter fun y=>P y.rid).length:Int))==(((cells.filter fun y=>P y.rid).length:Int)))=true:=by simp
    rw [e]
    exact k _ c13
def seenL (ss:List Nat):List (Int×V):=ss.map fun (x:Nat)=>((x:Int),V.int 1)
def todoL (ns:List Nat):List V:=ns.map fun (x:Nat)=>V.int (x:Int)
theorem seen_get {ss:List Nat} {x:Nat}:(dget (seenL ss) (x:Int)).isSome=decide (x∈ss):=by
 induction ss with
 | nil=>simp [seenL,dget]
 | cons a l ih =>
  show (dget (((a:Int),V.int 1)::seenL l) (x:Int)).isSome=_
  unfold dget
  by_cases q:(a:Int)=x
  ·have q2:x=a:=by omega
   simp [q2]
  ·have q2:x≠a:=by omega
   simp only [q,↓reduceIte,ih,mK,q2,false_or]
structure RI (ts:List Th) (rows:List (List Spec)) (ns ss:List Nat):Prop where
 sub:∀ x∈ss,∃ t,t.ser=x∧Reach ts rows t
 todo:∀ x∈ns,0<x→∃ t,t.ser=x∧Reach ts rows t
 root:∀ r∈rows,∀ s∈r,∀ v,tgt ts s=some v→v.ser∈ss∨v.ser∈ns
 step:∀ u∈ts,u.ser∈ss→∀ s∈u.specs,∀ v,tgt ts s=some v→v.ser∈ss∨v.ser∈ns
 nd:ss.Nodup
theorem RI.le {ts:List Th} {rows:List (List Spec)} {ns ss:List Nat} (h:RI ts rows ns ss):ss.length≤ts.length:=by
 have:=nodup_le (ts:=ts.map Th.ser) h.nd fun x hx=>by
  obtain⟨t,e,r⟩:=h.sub x hx
  exact mM.mpr ⟨t,reach_mem r,e⟩
 rwa [lM] at this
theorem RI.skip {ts:List Th} {rows:List (List Spec)} {ws ss:List Nat} {x:Nat} (h:RI ts rows (ws++[x]) ss) (q:x=0∨x∈ss):RI ts rows ws ss:=by
 have aux:∀ {s:Spec} {v:Th},tgt ts s=some v→(v.ser∈ss∨v.ser∈ws++[x])→v.ser∈ss∨v.ser∈ws:=by
  intro s v e h'
  rcases h' with h'|h'
  ·exact .inl h'
  ·rcases mA.mp h' with h'|h'
   ·exact .inr h'
   ·have h':=mS.mp h'
    obtain⟨_,e1,e2⟩:=tgt_mem e
    rcases q with q|q
    ·omega
    ·exact .inl (h'▸q)
 exact⟨h.sub,fun y hy=>h.todo y (mL _ hy),fun r hr s hs v e=>aux e (h.root r hr s hs v e),fun u hu hus s hs v e=>aux e (h.step u hu hus s hs v e),h.nd⟩
theorem RI.go {ts:List Th} {rows:List (List Spec)} {ws ss:List Nat} {x:Nat} {u:Th} (G:Good ts) (h:RI ts rows (ws++[x]) ss) (hx:x∉ss) (hu:Reach ts rows u) (e:u.ser=x):RI ts rows (ws++u.specs.map Spec.one) (ss++[x]):=by
 have aux:∀ {v:Th},(v.ser∈ss∨v.ser∈ws++[x])→v.ser∈ss++[x]∨v.ser∈ws++u.specs.map Spec.one:=by
  intro v h'
  rcases h' with h'|h'
  ·exact .inl (mL _ h')
  ·rcases mA.mp h' with h'|h'
   ·exact .inr (mL _ h')
   ·exact .inl (mR _ h')
 have hum:=reach_mem hu
 refine⟨fun y hy=>?_,fun y hy h0=>?_,fun r hr s hs v e=>aux (h.root r hr s hs v e),fun w hw hws s hs v e'=>?_,?_⟩
 ·rcases mA.mp hy with hy|hy
  ·exact h.sub y hy
  ·exact⟨u,by rw [mS.mp hy];exact e,hu⟩
 ·rcases mA.mp hy with hy|hy
  ·exact h.todo y (mL _ hy) h0
  ·obtain⟨s,hs,rfl⟩:=mM.mp hy
   obtain⟨_,v,hv,hv2,_⟩:=(G.ok u hum s hs).one h0
   exact⟨v,hv2,.step hu hs (tgt_of (sers_of G.sers) h0 hv hv2)⟩
 ·rcases mA.mp hws with q|q
  ·exact aux (h.step w hw q s hs v e')
  ·have:w=u:=sers_of G.sers w hw u hum (by rw [mS.mp q,e])
   subst this
   obtain⟨_,e1,e2⟩:=tgt_mem e'
   exact .inr (mR _ (mM.mpr ⟨s,hs,e2.symm⟩))
 ·rw [nD]
  refine⟨h.nd,by simp,fun a ha b hb=>?_⟩
  rw [mS.mp hb]
  intro q;exact hx (q▸ha)
theorem RI.done {ts:List Th} {rows:List (List Spec)} {ss:List Nat} (h:RI ts rows [] ss) (t:Th) (r:Reach ts rows t):t.ser∈ss:=by
 induction r with
 | root hr hs e=>rcases h.root _ hr _ hs _ e with q|q;exact q;exact (nomatch q)
 | step hu hs e ih=>rcases h.step _ (reach_mem hu) ih _ hs _ e with q|q;exact q;exact (nomatch q)
def restN:List Th→List Nat→Nat
 | [],_=>0
 | t::r,ss=>(if t.ser∈ss then 0 else t.specs.length)+restN r ss
theorem restN_le:∀ {ts:List Th} {ss:List Nat},(∀ t∈ts,t.specs.length≤10)→restN ts ss≤10*ts.length
 | [],_,_=>Nat.zero_le _
 | t::r,ss,h=>by
  have:=restN_le (ts:=r) (ss:=ss) fun t ht=>h t (.tail _ ht)
  have:=h t (.head _)
  unfold restN
  rw [lC]
  split<;>omega
theorem restN_mono:∀ {ts:List Th} {ss:List Nat} {x:Nat},restN ts (ss++[x])≤restN ts ss
 | [],_,_=>Nat.le_refl _
 | t::r,ss,x=>by
  have:=restN_mono (ts:=r) (ss:=ss) (x:=x)
  unfold restN
  by_cases q:t.ser∈ss
  ·rw [if_pos q,if_pos (mL _ q)];omega
  ·rw [if_neg q];split<;>omega
theorem restN_go:∀ {ts:List Th} {ss:List Nat} {u:Th},u∈ts→u.ser∉ss→restN ts (ss++[u.ser])+u.specs.length≤restN ts ss
 | t::r,ss,u,hu,hn=>by
  unfold restN
  rcases mK.mp hu with rfl|hu
  ·rw [if_neg hn,if_pos (mR _ (mS.mpr rfl))]
   have:=restN_mono (ts:=r) (ss:=ss) (x:=u.ser)
   omega
  ·have:=restN_go (ts:=r) (ss:=ss) hu hn
   by_cases q:t.ser∈ss
   ·rw [if_pos q,if_pos (mL _ q)];omega
   ·rw [if_neg q];split<;>omega
theorem flat_le {α:Type} {l:List α} {f:α→List V} {m:Nat} (h:∀ x∈l,(f x).length≤m):(l.flatMap f).length≤m*l.length:=by
 induction l with
 | nil=>simp
 | cons a l ih =>
  have:=ih fun x hx=>h x (.tail _ hx)
  have:=h a (.head _)
  rw [fC,lA,lC,Nat.mul_succ];omega
theorem flat_congr {α:Type} {l:List α} {f g:α→List V} (h:∀ x∈l,f x=g x):l.flatMap f=l.flatMap g:=by
 induction l with
 | nil=>rfl
 | cons a l ih=>rw [fC,fC,h a (.head _),ih fun x hx=>h x (.tail _ hx)]
theorem flat_map' {α β:Type} {l:List α} {g:α→β} {f:β→List V}:(l.map g).flatMap f=l.flatMap fun x=>f (g x):=by
 induction l with
 | nil=>rfl
 | cons a l ih=>rw [mC,fC,ih,fC]
set_option maxHeartbeats 2000000 in
theorem sp_reached {i:WId} {f:WN} {h:Hid} {hf:Hn} {ts:List Th} {cells:List Ce} (hn:1≤n) (W:HW i f h hf ts T) (C:CL i ts cells T) (hcl:cells.length≤2000) (htl:ts.length≤5000)
  (k:∀ (o:Nat) (ss:List Nat) T',T'[o]?=some (.tmp 831,.di (seenL ss))→(∀ t∈ts,t.ser∈ss ↔ Reach ts (cells.map Ce.specs) t)→Chg noX T T'→Q (.obj o) T'):Y (CN n 83 [.obj i.w] (hpOf T)) Q:=by
 obtain⟨n,rfl,_⟩:=down hn
 have hw:=W.bk.w
 have hce:=C.ce
 unfold WId.obj at hw
 refine call_fn (fd:=fd_law_reached) (by rfl) (by rfl) ?_
 show SV _ [some (.obj i.w),none,none,none,none] _ _ _
 unfold fd_law_reached
 let ns0:List Nat:=cells.flatMap fun c=>c.specs.map Spec.one
 classical
 let fc:V→List V:=fun x=>if h:∃ c∈cells,c.v=x then todoL ((Classical.choose h).specs.map Spec.one) else []
 have hfc:∀ c∈cells,fc c.v=todoL (c.specs.map Spec.one):=by
  intro c hc
  have hex:∃ c'∈cells,c'.v=c.v:=⟨c,hc,rfl⟩
  show (if h:∃ c'∈cells,c'.v=c.v then todoL ((Classical.choose h).specs.map Spec.one) else [])=_
  rw [dif_pos hex]
  obtain⟨q1,q2⟩:=Classical.choose_spec hex
  generalize Classical.choose hex=c' at q1 q2 ⊢
  have e:c'.rid=c.rid:=by
   unfold Ce.v at q2
   simp only [V.tup.injEq,List.cons.injEq,V.str.injEq,V.obj.injEq] at q2
   exact q2.2.1
  have e1:=specsOf_cell C.rn q1
  rw [e,specsOf_cell C.rn hc] at e1
  rw [e1]
 have hflat:(cells.map Ce.v).flatMap fc=todoL ns0:=by
  rw [flat_map']
  show _=List.map _ (cells.flatMap fun c=>c.specs.map Spec.one)
  rw [List.map_flatMap]
  exact flat_congr fun c hc=>hfc c hc
 have hns:(todoL ns0).length≤10*cells.length:=by
  show (List.map _ (cells.flatMap fun c=>c.specs.map Spec.one)).length≤_
  rw [List.map_flatMap]
  exact flat_le fun c hc=>by rw [lM,lM];exact C.len c hc
 have hns':ns0.length≤20000:=by
  have:(todoL ns0).length=ns0.length:=lM _
  omega
 refine SV.go ?_
 conv=>whnf
 refine EV.comp2 (.tmp 830) fc ?_
 k_ownIn
 refine⟨by rw [hflat];unfold limit;omega,fun x T' hx c=>?_,?_⟩
 ·obtain⟨y,hy,rfl⟩:=mM.mp hx
  refine⟨y.pid,.cspec,y.specs.map Spec.v,fun v=>match v with|.tup [_,b,_]=>b|_=>.none,C.spec y hy,?_,?_,?_⟩
  ·rw [hfc y hy];unfold todoL;rw [mQ,mQ];rfl
  ·refine Pure.of ?_
   unfold Ce.v
   k_ownIn
   exact⟨rfl,rfl⟩
  ·intro v T'' hv c'
   obtain⟨s,hs,rfl⟩:=mM.mp hv
   refine Pure.of ?_
   unfold Spec.v
   k_ownIn
   exact⟨rfl,rfl⟩
 rw [hflat]
 refine NewY.intro ?_
 intro to T1 hn_1 h_1 c_1
 have hw_1:=c_1.keep hw
 k_ownIn
 refine AnyK.mk (.tmp 831) ?_
 refine NewY.intro ?_
 intro se T2 hn_2 h_2 c_2
 have h1':=c_2.keep h_1
 have c12:=c_1.tr c_2
 k_ownIn
 refine HandS.intro (SV.while (fun m ρ T'=>∃ (ns ss:List Nat) (x y:Option V),ρ=[some (.obj i.w),some (.obj to),some (.obj se),x,y]∧T'[to]?=some (.tmp 830,.list (todoL ns))∧T'[se]?=some (.tmp 831,.di (seenL ss))∧RI ts (cells.map Ce.specs) ns ss∧ns.length+restN ts ss=m∧m≤80000∧Chg noX T T') (ns0.length+restN ts []) ?_ ⟨ns0,[],none,none,rfl,h1',h_2,⟨fun _ h=>(nomatch h),fun x hx h0=>?_,fun r hr s hs v e=>?_,fun _ _ h=>(nomatch h),List.nodup_nil⟩,rfl,?_,c12⟩ ?_)
 ·have:=restN_le (ss:=[]) W.good.len;unfold limit;omega
 ·obtain⟨c,hc,hx⟩:=List.mem_flatMap.mp hx
  obtain⟨s,hs,rfl⟩:=mM.mp hx
  obtain⟨_,v,hv,hv2,_⟩:=(C.ok c hc s hs).one h0
  exact⟨v,hv2,.root (mO hc) hs (tgt_of (sers_of W.good.sers) h0 hv hv2)⟩
 ·obtain⟨c,hc,rfl⟩:=mM.mp hr
  obtain⟨_,_,e2⟩:=tgt_mem e
  exact .inr (List.mem_flatMap.mpr ⟨c,hc,mM.mpr ⟨s,hs,e2.symm⟩⟩)
 ·have:=restN_le (ss:=[]) W.good.len;omega
 rintro m ρ T3 ⟨ns,ss,x,y,rfl,h_3,g_3,I,hm,hmb,c_3⟩
 have hnl:(todoL ns).length=ns.length:=lM _
 k_ownIn
 refine LenY.list h_3 (by rw [hnl];unfold limit;omega) ?_
 rw [hnl]
 k_ownIn
 refine⟨fun hb'=>?_,fun hb'=>?_⟩
 ·have hne:ns≠[]:=by intro q;rw [q] at hb';simp at hb'
  obtain⟨ws,x1,rfl⟩:∃ ws u,ns=ws++[u]:=⟨_,_,(List.dropLast_concat_getLast hne).symm⟩
  rw [lA] at hm
  have hm:ws.length+1+restN ts ss=m:=hm
  have e_3:todoL (ws++[x1])=todoL ws++[.int (x1:Int)]:=mP
  rw [e_3] at h_3
  k_ownIn
  refine⟨by rw [lA];show (todoL ws).length+1≤_;rw [show (todoL ws).length=ws.length from lM _];unfold limit;omega,?_⟩
  refine GetY.mk (v:=.int (x1:Int)) (by simp) ?_
  rw [show (todoL ws++[V.int (x1:Int)]).eraseIdx ((todoL ws++[V.int (x1:Int)]).length-1)=todoL ws by simp [List.eraseIdx_append_of_length_le]]
  refine PutY.intro ?_
  intro T4 h_4 c4
  have g_4:=c4.otherK g_3 h_4
  have hn1':T[to]?=none:=hn_1
  have c34:Chg noX T T4:=c4.fresh c_3 hn1'
  have hse:T[se]?=none:=none_back hn_2 (c_1.weaken fun _ _ _=>trivial)
  have hw4:=c34.keep hw
  k_ownIn
  refine⟨fun hz=>?_,fun hz=>?_⟩
  ·have hz':0<x1:=by have:=of_decide_eq_true hz;omega
   k_ownIn
   refine CmpY.nmem_di g_4 ?_
   rw [seen_get]
   by_cases hx:x1∈ss
   ·rw [decide_eq_true hx]
    k_ownIn
    exact⟨ws.length+restN ts ss,by omega,ws,ss,_,_,rfl,h_4,g_4,I.skip (.inr hx),rfl,by omega,c34⟩
   ·rw [decide_eq_false hx]
    obtain⟨u,hue,hur⟩:=I.todo x1 (mR _ (mS.mpr rfl)) hz'
    have hum:=reach_mem hur
    have hss:=I.le
    obtain⟨wl,hwt,hw1,hw2,hw3⟩:=W.bk.wt
    have hgo:=restN_go hum (ss:=ss) (by rw [hue];exact hx)
    rw [hue] at hgo
    have hpid:=W.bk.pid u hum
    have hu10:=W.good.len u hum
    k_ownIn
    refine IdxPut.di g_4 (by show (List.map _ ss).length<_;rw [lM];unfold limit;omega) ?_
    rw [dput_new (by
     intro p hp
     obtain⟨z,hz,rfl⟩:=mM.mp hp
     intro q;have:z=x1:=by exact Int.ofNat.inj q
     exact hx (this▸hz))]
    rw [show seenL ss++[((x1:Int),V.int 1)]=seenL (ss++[x1]) by unfold seenL;rw [mP];rfl]
    refine PutY.intro ?_
    intro T5 h_5 c_5
    have h4q:=c_5.otherK h_4 h_5
    have c35:Chg noX T T5:=c_5.fresh c34 hse
    have hw5:=c35.keep hw
    have hwt5:=c35.keep hwt
    k_ownIn
    refine HandS.intro (SV.forI (fun j ρ T'=>∃ (x y:Option V),ρ=[some (.obj i.w),some (.obj to),some (.obj se),x,y]∧T'[to]?=some (.tmp 830,.list (todoL (ws++(u.specs.take j).map Spec.one)))∧T'[se]?=some (.tmp 831,.di (seenL (ss++[x1])))∧Chg noX T T') ?_)
    k_ownIn
    refine IdxY.di hwt5 (hue▸hw3 u hum) ?_
    k_ownIn
    refine⟨⟨_,_,rfl,by simpa using h4q,h_5,c35⟩,?_,?_⟩
    ·rintro j v ρ T6 hv ⟨x6,y6,rfl,h_6,g_6,c_6⟩ ho
     rw [gM] at hv
     obtain⟨s,hs,rfl⟩:=Option.map_eq_some_iff.mp hv
     refine GetY.mk rfl ?_
     unfold Spec.v
     k_ownIn
     have hl:(todoL (ws++List.map Spec.one (List.take j u.specs))).length≤ws.length+10:=by
      unfold todoL
      rw [lM,lA,lM,lT];omega
     refine⟨by unfold limit;omega,?_⟩
     refine PutY.intro ?_
     intro T7 h_7 c_7
     have g_7:=c_7.otherK g_6 h_7
     have c37:Chg noX T T7:=c_7.fresh c_6 hn_1
     have ho7:=c_7.otherK ho h_7
     k_ownIn
     refine⟨⟨_,_,rfl,?_,g_7,c37⟩,ho7⟩
     rw [h_7,tO,hs,mP,←aA]
     rw [show todoL (ws++List.map Spec.one (List.take j u.specs)++List.map Spec.one (some s).toList)=todoL (ws++List.map Spec.one (List.take j u.specs))++[V.int (s.one:Int)] by unfold todoL;rw [mP];rfl]
    ·rintro ρ T6 ⟨x6,y6,rfl,h_6,g_6,c_6⟩ ho
     rw [lM,tL] at h_6
     k_ownIn
     exact⟨ws.length+u.specs.length+restN ts (ss++[x1]),by omega,_,_,_,_,rfl,h_6,g_6,I.go W.good hx hur hue,by rw [lA,lM],by omega,c_6⟩
  ·have hz':x1=0:=by have:=of_decide_eq_false hz;omega
   k_ownIn
   exact⟨ws.length+restN ts ss,by omega,ws,ss,_,_,rfl,h_4,g_4,I.skip (.inl hz'),rfl,by omega,c34⟩
 ·have hne:ns=[]:=by
   cases ns with
   | nil=>rfl
   | cons a l=>rw [lC] at hb';simp at hb'
  subst hne
  k_ownIn
  exact k _ ss _ g_3 (fun t ht=>⟨fun q=>by
   obtain⟨t',e,r⟩:=I.sub _ q
   exact sers_of W.good.sers t' (reach_mem r) t ht e▸r,fun r=>I.done t r⟩) c_3
theorem filterMap_one {α β γ:Type} {l:List α} {g:α→β} {f:β→Option γ} {k:α→γ} (h:∀ a∈l,f (g a)=some (k a)):(l.map g).filterMap f=l.map k:=by
 induction l with
 | nil=>rfl
 | cons a l ih=>rw [mC,List.filterMap_cons,h a (.head _),ih fun x hx=>h x (.tail _ hx)];rfl
theorem map_inj {α β:Type} {f:α→β}:∀ {l:List α},(l.map f).Nodup→∀ a∈l,∀ b∈l,f a=f b→a=b
 | x::r,h,a,ha,b,hb,e=>by
  rw [mC,nC] at h
  rcases mK.mp ha with q|q
  ·rcases mK.mp hb with q'|q'
   ·rw [q,q']
   ·refine absurd ?_ h.1
    rw [←q,e];exact mO q'
  ·rcases mK.mp hb with q'|q'
   ·refine absurd ?_ h.1
    rw [←q',←e];exact mO q
   ·exact map_inj h.2 a q b q' e
theorem dget_ser {ts:List Th} (hs:Sers ts) {g:Th→V} {t:Th} (ht:t∈ts):dget (ts.map fun t=>((t.ser:Int),g t)) (t.ser:Int)=some (g t):=by
 induction ts with
 | nil=>cases ht
 | cons a r ih =>
  show dget (((a.ser:Int),g a)::r.map fun t=>((t.ser:Int),g t)) _=_
  unfold dget
  by_cases q:a.ser=t.ser
  ·have:=hs a (.head _) t ht q
   subst this
   simp
  ·rw [if_neg (by omega)]
   rcases mK.mp ht with rfl|ht
   ·exact absurd rfl q
   ·exact ih (fun a ha b hb=>hs a (.tail _ ha) b (.tail _ hb)) ht
theorem vals_dok {ts:List Th} {specs:List Spec}:∀ x∈specs.map (Spec.val (whOf ts)),DOk (hpOf T) 7 x:=by
 intro x hx
 obtain⟨s,_,rfl⟩:=mM.mp hx
 rw [val_tgt];exact DOk.val (n:=2)
set_option maxHeartbeats 2000000 in
theorem sp_same {i:WId} {f:WN} {mi:MId} {hd:V} {g:MG} {h:Hid} {hf:Hn} {ts:List Th} {cells:List Ce} (hn:2≤n) (W:HW i f h hf ts T) (C:CL i ts cells T) (M:MW i.m mi h.hp hd g T) (hcl:cells.length≤5000) (htl:ts.length≤5000)
  (k:∀ T',Chg noX T T'→Q (.bool true) T'):Y (CN n 84 [.obj i.w] (hpOf T)) Q:=by
 obtain⟨n,rfl,_⟩:=down hn
 have hw:=W.bk.w
 unfold WId.obj at hw
 have mm:=M.m
 unfold MId.obj at mm
 have hh:=W.hb.hp
 unfold hpObj at hh
 have htl':=W.hb.tl
 have hag:=W.bk.ag
 have hwh:=W.bk.wh
 obtain⟨wl,hwt,hw1,hw2,hw3⟩:=W.bk.wt
 have G:=W.good
 have hsr:=sers_of G.sers
 classical
 let fs:V→Option V:=fun x=>if h:∃ t∈ts,V.obj t.tid=x then some (.int ((Classical.choose h).ser:Int)) else none
 have hfs:∀ t∈ts,fs (.obj t.tid)=some (.int (t.ser:Int)):=by
  intro t ht
  have hex:∃ t'∈ts,V.obj t'.tid=V.obj t.tid:=⟨t,ht,rfl⟩
  show (if h:∃ t'∈ts,V.obj t'.tid=V.obj t.tid then some (V.int ((Classical.choose h).ser:Int)) else none)=_
  rw [dif_pos hex]
  obtain⟨q1,q2⟩:=Classical.choose_spec hex
  generalize Classical.choose hex=c' at q1 q2 ⊢
  have e:c'.tid=t.tid:=by simpa using q2
  have:c'=t:=map_inj G.tid _ q1 _ ht e
  rw [this]
 refine call_fn (fd:=fd_law_same) (by rfl) (by rfl) ?_
 show SV _ [some (.obj i.w),none,none,none,none,none,none] _ _ _
 unfold fd_law_same
 k_ownIn
 refine HandE.intro (EV.comp (.tmp 840) fs ?_)
 k_ownIn
 refine⟨by rw [lM];unfold limit;omega,rfl,fun x T' hx c=>?_,?_⟩
 ·obtain⟨t,ht,rfl⟩:=mM.mp hx
  show ItemC _ _ _ _ _ _ (fs (.obj t.tid))
  rw [hfs t ht]
  refine⟨?_,.inl rfl⟩
  refine Pure.of ?_
  have hth:=c.keep (W.hb.th t ht)
  unfold Th.obj at hth
  k_ownIn
  exact⟨rfl,rfl⟩
 rw [filterMap_one (g:=fun t:Th=>V.obj t.tid) (k:=fun t:Th=>V.int (t.ser:Int)) fun t ht=>hfs t ht]
 refine NewY.intro ?_
 intro li T1 hn_1 h_1 c_1
 have hw':=c_1.keep hw
 have hag':=c_1.keep hag
 k_ownIn
 refine HandE.intro (EV.sorted (.tmp 841) ?_)
 k_ownIn
 have e1:(List.map (fun x:Int×V=>x.fst) (List.map (fun t:Th=>((t.ser:Int),V.int t.age)) ts))=ts.map fun t=>(t.ser:Int):=by rw [mQ];rfl
 have asc:(ts.map fun t=>(t.ser:Int)).Pairwise (·≤·):=by
  rw [List.pairwise_map];exact G.ser.imp fun h=>by omega
 rw [e1]
 refine⟨⟨by rw [lM];unfold limit;omega,.inr asc⟩,?_⟩
 rw [sort_asc asc,mQ]
 refine NewY.intro ?_
 intro lj T2 hn_2 h_2 c_2
 have h1':=c_2.keep h_1
 have c12:=c_1.tr c_2
 have hw_2:=c12.keep hw
 have hh2:=c12.keep hh
 have htl2:=c12.keep htl'
 refine CmpY.ne_same h1' h_2 (fun x hx=>?_) ?_
 ·obtain⟨t,_,rfl⟩:=mM.mp hx
  exact DOk.int
 have htop:=W.bk.top
 k_ownIn
 refine HandS.intro (SV.forI (fun j ρ T'=>Chg noX T T'∧∃ x y z u v:Option V,ρ=[some (.obj i.w),some (.obj h.hp),x,y,z,u,v]) ?_)
 k_ownIn
 refine⟨⟨c12,none,none,none,none,none,rfl⟩,?_,?_⟩
 ·rintro j v ρ T' hv ⟨c',x,y,z,u,v',rfl⟩ ho
  rw [gM] at hv
  obtain⟨t,ht',rfl⟩:=Option.map_eq_some_iff.mp hv
  have ht:=mG ht'
  have hth:=c'.keep (W.hb.th t ht)
  unfold Th.obj at hth
  have hw':=c'.keep hw
  have hwt':=c'.keep hwt
  have hag':=c'.keep hag
  have hwh':=c'.keep hwh
  have hsl':=c'.keep (W.sl t ht)
  have hpid':=c'.keep (W.bk.pid t ht)
  refine GetY.mk rfl ?_
  k_ownIn
  refine IdxY.di hwt' (hw3 t ht) ?_
  k_ownIn
  refine IdxY.di hwh' (dget_ser hsr (g:=fun t=>V.int t.addr) ht) ?_
  k_ownIn
  refine IdxY.di hag' (dget_ser hsr (g:=fun t=>V.int t.age) ht) ?_
  k_ownIn
  obtain⟨gv,hg1,hg2⟩:=vals_items (n:=n) (T:=T') (cap:=[0]) (ρ:=((([some (V.obj i.w),some (V.obj h.hp),x,y,z,u,v'].set 2 (some (V.obj t.tid))).set 3 (some (V.int t.kind))).set 4 (some (V.obj t.pid)))) (by omega) (c'.keep W.bk.w) hwh' (G.ok t ht) rfl
  refine HandE.intro (EV.comp (.tmp 842) gv ?_)
  k_ownIn
  have h10:=G.len t ht
  refine⟨by rw [lM];unfold limit;omega,rfl,hg2,?_⟩
  rw [hg1]
  refine NewY.intro ?_
  intro o T3 hn3 h_3 c_3
  refine CmpY.ne_same (c_3.keep hsl') h_3 vals_dok ?_
  k_ownIn
  exact⟨⟨c'.tr c_3,_,_,_,_,_,rfl⟩,c_3.keep ho⟩
 ·rintro ρ T' ⟨c',x,y,z,u,v',rfl⟩ ho
  have hw':=c'.keep hw
  have hce':=c'.keep C.ce
  refine (SV.forI (fun j ρ T'=>Chg noX T T'∧∃ x y z u v:Option V,ρ=[some (.obj i.w),some (.obj h.hp),x,y,z,u,v]) ?_)
  k_ownIn
  refine⟨⟨c',_,_,_,_,_,rfl⟩,?_,?_⟩
  ·rintro j v ρ T4 hv ⟨c4,x,y,z,u,v',rfl⟩ ho
   rw [gM] at hv
   obtain⟨c,hc,rfl⟩:=Option.map_eq_some_iff.mp hv
   have hcm:=mG hc
   have hw4:=c4.keep hw
   have hsp:=c4.keep (C.spec c hcm)
   have hrw:=c4.keep (C.row c hcm)
   refine GetY.mk rfl ?_
   k_ownIn
   obtain⟨gv,hg1,hg2⟩:=vals_items (n:=n) (T:=T4) (cap:=[0]) (ρ:=[some (V.obj i.w),some (V.obj h.hp),x,y,some (.obj c.pid),some (.str c.tag),some (.obj c.rid)]) (by omega) (c4.keep W.bk.w) (c4.keep hwh) (C.ok c hcm) rfl
   refine HandE.intro (EV.comp (.tmp 843) gv ?_)
   k_ownIn
   have h10:=C.len c hcm
   refine⟨by rw [lM];unfold limit;omega,rfl,hg2,?_⟩
   rw [hg1]
   refine NewY.intro ?_
   intro o T5 hn5 h_5 c_5
   refine CmpY.ne_same (c_5.keep hrw) h_5 vals_dok ?_
   k_ownIn
   exact⟨⟨c4.tr c_5,_,_,_,_,_,rfl⟩,c_5.keep ho⟩
  ·rintro ρ T4 ⟨c4,x,y,z,u,v',rfl⟩ ho
   k_ownIn
   exact k _ c4
def nxt (gen:Nat):Nat→List Th→List Th
 | _,[]=>[]
 | g,t::r=>{t with addr:=g,age:=bumpA gen t.age}::nxt gen (g+t.size) r
theorem nxt_snoc {gen:Nat}:∀ {l:List Th} {g:Nat} {t:Th},nxt gen g (l++[t])=nxt gen g l++[{t with addr:=g+(l.map Th.size).sum,age:=bumpA gen t.age}]
 | [],g,t=>rfl
 | a::l,g,t=>by
  rw [cA]
  show _::nxt gen (g+a.size) (l++[t])=_
  rw [nxt_snoc,mC,List.sum_cons,Nat.add_assoc]
  rfl
theorem nxt_length {gen:Nat}:∀ {l:List Th} {g:Nat},(nxt gen g l).length=l.length
 | [],_=>rfl
 | _::l,_=>congrArg (·+1) nxt_length
theorem nxt_ser {gen:Nat}:∀ {l:List Th} {g:Nat},(nxt gen g l).map Th.ser=l.map Th.ser
 | [],_=>rfl
 | _::l,_=>congrArg (_::·) nxt_ser
theorem nxt_size {gen:Nat}:∀ {l:List Th} {g:Nat},(nxt gen g l).map Th.size=l.map Th.size
 | [],_=>rfl
 | _::l,_=>congrArg (_::·) nxt_size
theorem nxt_append {gen:Nat}:∀ {l r:List Th} {g:Nat},nxt gen g (l++r)=nxt gen g l++nxt gen (g+(l.map Th.size).sum) r
 | [],r,g=>by simp [nxt]
 | a::l,r,g=>by
  rw [cA]
  show _::nxt gen (g+a.size) (l++r)=_
  rw [nxt_append,mC,List.sum_cons,Nat.add_assoc]
  rfl
theorem nxt_old {gen:Nat}:∀ {l:List Th} {g:Nat},Packed g l→(∀ t∈l,gen<t.age)→nxt gen g l=l
 | [],_,_,_=>rfl
 | t::l,g,hp,h=>by
  have h1:=h t (.head _)
  show _::nxt gen (g+t.size) l=_
  rw [nxt_old hp.2 fun t ht=>h t (.tail _ ht)]
  have e1:bumpA gen t.age=t.age:=by unfold bumpA;rw [if_pos h1]
  rw [e1]
  have:=hp.1
  subst this
  rfl
theorem nxt_young {gen:Nat}:∀ {l:List Th} {g:Nat},(∀ t∈l,t.age≤gen)→nxt gen g l=agedL g l
 | [],_,_=>rfl
 | t::l,g,h=>by
  have h1:=h t (.head _)
  show _::nxt gen (g+t.size) l=t.aged g::_
  rw [nxt_young fun t ht=>h t (.tail _ ht)]
  have e1:bumpA gen t.age=if t.age<2 then t.age+1 else t.age:=by unfold bumpA;rw [if_neg (by omega)]
  rw [e1]
  rfl
theorem nxt_kept {gen:Nat} {ms os rs:List Th} (hp:Packed 16 (os++rs)) (ho:∀ t∈os,gen<t.age):nxt gen 16 (keptL gen ms os rs)=nextL gen ms os rs:=by
 unfold keptL nextL
 rw [nxt_append,nxt_old (Packed.append.mp hp).1 ho,nxt_young fun t ht=>(mem_young.mp ht).2.1]
 rfl
def agL (ts:List Th):List (Int×V):=ts.map fun t=>((t.ser:Int),.int t.age)
abbrev goneX:Nat→K→Prop:=ksX [.w,.hp,.th,.real,.slots,.m]
set_option maxHeartbeats 4000000 in
theorem sp_gone {i:WId} {f:WN} {mi:MId} {hd:V} {g:MG} {a b gen:Nat} {h:Hid} {hf:Hn} {ts:List Th} {cells:List Ce} {ex:List Nat} (hn:11≤n) (W:HW i f h hf ts T) (C:CL i ts cells T) (M:MW i.m mi h.hp hd g T) (H:hd=.none∨∃ hdo hr,hd=.obj hdo∧Hds hdo hr T) (R:Rts mi g a b h cells ex T)
  (hcl:cells.length≤2000) (htl:ts.length≤5000) (hgen:gen≤2)
  (k:∀ i' f' h' hf' ts' hdo hr' T',HW i' f' h' hf' ts' T'→CL i' ts' cells T'→MW i.m mi h'.hp (.obj hdo) g T'→Hds hdo hr' T'→Rts mi g a b h' cells ex T'→h'.hp=h.hp→h'.rdy=h.rdy→(∃ ag wh,i'={i with ag:=ag,wh:=wh})→(∃ top,f'={f with top:=top})→Chg goneX T T'→Q (.bool true) T'):Y (CN n 85 [.obj i.w,.int gen] (hpOf T)) Q:=by
 obtain⟨n,rfl,_⟩:=down hn
 have hw:=W.bk.w
 have G:=W.good
 have hsr:=sers_of G.sers
 refine call_fn (fd:=fd_law_gone) (by rfl) (by rfl) ?_
 show SV _ [some (.obj i.w),some (.int gen),none,none,none,none,none] _ _ _
 unfold fd_law_gone
 unfold WId.obj at hw
 k_ownIn
 refine sp_named (by omega) W.bk.w C M R fun T1 c_1=>?_
 have hw_1:=c_1.keep hw
 k_ownIn
 refine sp_reached (by omega) (W.chg0 c_1) (C.chg0 c_1) hcl htl fun so ss T2 hs2 hss c_2=>?_
 have c12:=c_1.tr c_2
 have hw_2:=c12.keep hw
 have hag2:=c12.keep W.bk.ag
 k_ownIn
 refine LenY.di hag2 (by rw [lM];unfold limit;omega) ?_
 rw [lM]
 k_ownIn
 refine AnyK.mk .ag ?_
 refine NewY.intro ?_
 intro ao T3 hn3 h_3 c_3
 have c13:=c12.tr c_3
 have hw_3:=c_3.keep hw_2
 k_ownIn
 refine AnyK.mk .wh ?_
 refine NewY.intro ?_
 intro wo T4 hn4 h_4 c4
 have c14:=c13.tr c4
 have hw4:=c4.keep hw_3
 have h34:=c4.keep h_3
 have hnao:T[ao]?=none:=none_back hn3 (c12.weaken fun _ _ _=>trivial)
 have hnwo:T[wo]?=none:=none_back hn4 (c13.weaken fun _ _ _=>trivial)
 k_ownIn
 rename_i T5 h_5 c_5 T6 h_6 c_6
 have c16:Chg (ksX [.w]) T T6:=c_6.back (c14.weaken fun _ _ q=>q.elim) (side_kind hw)
 have a_6:=c_6.otherK h34 h_6
 have w_6:=c_6.otherK h_4 h_6
 have hag6:=c16.get W.bk.ag nk
 have hs6:=c_6.otherK (c4.keep (c_3.keep hs2)) h_6
 obtain⟨wl,hwt,hw1,hw2,hw3⟩:=W.bk.wt
 let p:Th→Bool:=fun t=>decide (gen<t.age)||decide (t.ser∈ss)
 let nx:Nat→List Th:=fun j=>nxt gen 16 ((ts.take j).filter p)
 let iw:WId:={i with wh:=wo}
 let Inv:Nat→Rho→TH→Prop:=fun j ρ T'=>(∃ x y:Option V,ρ=[some (.obj i.w),some (.int gen),some (.obj so),some (.int (ts.length:Nat)),some (.obj ao),x,y])∧T'[ao]?=some (.ag,.di (agL (nx j)))∧T'[wo]?=some (.wh,.di (whL (nx j)))∧T'[i.w]?=some (.w,iw.obj {f with top:=endOf (nx j)})∧T'[so]?=some (.tmp 831,.di (seenL ss))∧Chg (ksX [.w]) T T'
 refine HandS.intro (SV.forI Inv ?_)
 refine EV.sorted (.tmp 851) ?_
 k_ownIn
 have e1:(List.map (fun x:Int×V=>x.fst) (List.map (fun t:Th=>((t.ser:Int),V.int t.age)) ts))=ts.map fun t=>(t.ser:Int):=by rw [mQ];rfl
 have asc:(ts.map fun t=>(t.ser:Int)).Pairwise (·≤·):=by
  rw [List.pairwise_map];exact G.ser.imp fun h=>by omega
 rw [e1]
 refine⟨⟨by rw [lM];unfold limit;omega,.inr asc⟩,?_⟩
 rw [sort_asc asc,mQ]
 refine NewY.intro ?_
 intro lj T7 hn7 h_7 c_7
 k_ownIn
 refine⟨⟨⟨_,_,rfl⟩,c_7.keep a_6,c_7.keep w_6,c_7.keep h_6,c_7.keep hs6,c_7.back c16 side_no⟩,?_,?_⟩
 ·rintro j v ρ T' hv ⟨⟨x,y,rfl⟩,ha,hwo,hww,hso,c'⟩ ho
  rw [gM] at hv
  obtain⟨t,ht',rfl⟩:=Option.map_eq_some_iff.mp hv
  have ht:=mG ht'
  have hag':=c'.get W.bk.ag nk
  have hwt':=c'.get hwt nk
  have hpid':=c'.get (W.bk.pid t ht) nk
  have hww':=hww
  unfold WId.obj at hww'
  have htk:ts.take (j+1)=ts.take j++[t]:=by rw [tO,ht'];rfl
  have hnl:(nx j).length≤5000:=by
   show (nxt gen 16 ((ts.take j).filter p)).length≤_
   rw [nxt_length]
   have:=List.length_filter_le p (ts.take j)
   have:=(tS j ts).length_le
   omega
  have stop:p t=false→nx (j+1)=nx j:=fun q=>by
   show nxt gen 16 ((ts.take (j+1)).filter p)=_
   rw [htk,fA,List.filter_cons,q]
   simp [nx]
  have hlt:∀ u∈nx j,u.ser<t.ser:=by
   intro u hu
   have h1:u.ser∈(nx j).map Th.ser:=mO hu
   rw [nxt_ser] at h1
   obtain⟨u',hu',e⟩:=mM.mp h1
   rw [←e]
   have h2:=(List.mem_filter.mp hu').1
   have hp:=G.ser
   rw [←List.take_append_drop j ts,List.pairwise_append] at hp
   exact hp.2.2 u' h2 t (by rw [List.mem_iff_getElem?];exact⟨0,by rw [List.getElem?_drop];exact ht'⟩)
  have go:∀ A:Nat,A=bumpA gen t.age→p t=true→IdxPut T' ao (.int (t.ser:Nat)) (.int A) fun T1=>SV (CN n) [some (.obj i.w),some (.int gen),some (.obj so),some (.int (ts.length:Nat)),some (.obj ao),some (.int (t.ser:Nat)),some (.int A)] [.assign (.idx (.wk (.loc 0) 6) (.loc 5)) (.wk (.loc 0) 7),.assign (.wk (.loc 0) 7) (.bin .add (.bin .add (.wk (.loc 0) 7) (.lit (.int 2))) (.len (.idx (.idx (.wk (.loc 0) 4) (.loc 5)) (.lit (.int 1)))))] T1 (TurnQ (fun ρ T'=>Inv (j+1) ρ T'∧T'[lj]?=some (.tmp 851,.list (ts.map (V.int ∘ fun t=>(t.ser:Int))))) fun r T=>Q (r.1.getD .none) T):=by
   intro A hA hp
   have hnx:nx (j+1)=nx j++[{t with addr:=endOf (nx j),age:=A}]:=by
    show nxt gen 16 ((ts.take (j+1)).filter p)=_
    rw [htk,fA,List.filter_cons,hp,if_pos rfl,List.filter_nil,nxt_snoc,hA]
    show _=nxt gen 16 ((ts.take j).filter p)++[{t with addr:=16+((nxt gen 16 ((ts.take j).filter p)).map Th.size).sum,age:=bumpA gen t.age}]
    rw [nxt_size]
   refine IdxPut.di ha (by show (List.map _ (nx j)).length<_;rw [lM];unfold limit;omega) ?_
   rw [dput_new (by
    intro p hp
    obtain⟨u,hu,rfl⟩:=mM.mp hp
    have:=hlt u hu
    show (u.ser:Int)≠_
    omega)]
   refine PutY.intro ?_
   intro T8 h_8 c_8
   have hw8:=c_8.otherK hww' h_8
   have hwo8:=c_8.otherK hwo h_8
   have hso8:=c_8.otherK hso h_8
   have ho8:=c_8.otherK ho h_8
   have cc8:Chg (ksX [.w]) T T8:=c_8.fresh c' hnao
   k_ownIn
   refine IdxPut.di hwo8 (by show (List.map _ (nx j)).length<_;rw [lM];unfold limit;omega) ?_
   rw [dput_new (by
    intro p hp
    obtain⟨u,hu,rfl⟩:=mM.mp hp
    have:=hlt u hu
    show (u.ser:Int)≠_
    omega)]
   refine PutY.intro ?_
   intro T9 h_9 c9
   have hw9:=c9.otherK hw8 h_9
   have h89:=c9.otherK h_8 h_9
   have hso9:=c9.otherK hso8 h_9
   have ho9:=c9.otherK ho8 h_9
   have cc9:Chg (ksX [.w]) T T9:=c9.fresh cc8 hnwo
   have hwt9:=cc9.get hwt nk
   have hpid9:=cc9.get (W.bk.pid t ht) nk
   k_ownIn
   refine IdxY.di hwt9 (hw3 t ht) ?_
   k_ownIn
   refine LenY.list hpid9 (by rw [lM];have:=G.len t ht;unfold limit;omega) ?_
   k_ownIn
   rename_i T10 h_10 c10
   refine⟨⟨⟨_,_,rfl⟩,?_,?_,?_,c10.otherK hso9 h_10,c10.back cc9 (side_kind W.bk.w)⟩,c10.otherK ho9 h_10⟩
   ·rw [c10.otherK h89 h_10,hnx];unfold agL;rw [mP];rfl
   ·rw [c10.otherK h_9 h_10,hnx];unfold whL;rw [mP];rfl
   ·have e:endOf (nx j++[{t with addr:=endOf (nx j),age:=A}])=endOf (nx j)+2+(t.specs.map Spec.v).length:=by
     unfold endOf;rw [mP,List.sum_append,lM];simp [Th.size];omega
    rw [h_10,hnx,e];rfl
  refine GetY.mk rfl ?_
  k_ownIn
  refine IdxY.di hag' (dget_ser hsr (g:=fun t=>V.int t.age) ht) ?_
  by_cases q1:gen<t.age
  ·k_ownIn
   exact go t.age (by unfold bumpA;rw [if_pos q1]) (by simp [p,q1])
  ·k_ownIn
   refine CmpY.mem_di hso ?_
   rw [seen_get]
   by_cases q2:t.ser∈ss
   ·rw [decide_eq_true q2]
    by_cases q3:t.age<2
    ·k_ownIn
     exact go (t.age+1) (by unfold bumpA;rw [if_neg q1,if_pos q3]) (by simp [p,q2])
    ·k_ownIn
     exact go t.age (by unfold bumpA;rw [if_neg q1,if_neg q3]) (by simp [p,q2])
   ·rw [decide_eq_false q2]
    k_ownIn
    have st:=stop (by simp [p,q2];omega)
    refine⟨⟨⟨_,_,rfl⟩,?_,?_,?_,hso,c'⟩,ho⟩<;>rw [st]<;>assumption
 ·rintro ρ T' ⟨⟨x,y,rfl⟩,ha,hwo,hww,hso,c'⟩ ho
  have hww':=hww
  unfold WId.obj at hww'
  obtain⟨os,rs,hts,hos,hrs⟩:=G.split gen
  subst hts
  have hin:∀ t∈os++rs,t.age≤gen→(t∈(os++rs).filter (fun t=>decide (t.ser∈ss)) ↔ Reach (os++rs) (cells.map Ce.specs) t):=fun t ht _=>by
   rw [List.mem_filter,←hss t ht];simp;intro _;simpa using ht
  let sn:=(os++rs).filter (fun t=>decide (t.ser∈ss))
  have hfin:nx (List.map (V.int ∘ fun t:Th=>(t.ser:Int)) (os++rs)).length=nextL gen sn os rs:=by
   show nxt gen 16 (((os++rs).take _).filter p)=_
   rw [lM,tL,←nxt_kept G.packed hos,←filter_stay hos hrs]
   congr 1
   refine List.filter_congr fun t ht=>?_
   show (decide (gen<t.age)||decide (t.ser∈ss))=(decide (gen<t.age)||inY gen sn t)
   by_cases q:gen<t.age
   ·simp [q]
   ·have:t∈sn ↔ t.ser∈ss:=by
     show t∈(os++rs).filter _ ↔ _
     rw [List.mem_filter];simp;intro _;simpa using ht
    unfold inY
    simp [q,this];omega
  rw [hfin] at ha hwo hww hww'
  k_ownIn
  rename_i T8 h_8 c_8
  have cc8:Chg (ksX [.w]) T T8:=c_8.back c' (side_kind W.bk.w)
  have a8:=c_8.otherK ha h_8
  have w8:=c_8.otherK hwo h_8
  let j':WId:={i with ag:=ao,wh:=wo}
  let f':WN:={f with top:=endOf (nextL gen sn os rs)}
  have hh8:T8[i.w]?=some (.w,j'.obj f'):=h_8
  have hb8:HB h (os++rs) hf T8:=W.hb.keep cc8 (fun _=>⟨nk,nk,nk,nk,nk,nk⟩) nk
  have M8:MW i.m mi h.hp hd g T8:=M.chg cc8 fun _=>⟨nk,nk,nk,nk,nk,nk,nk,nk⟩
  have R8:Rts mi g a b h cells ex T8:=⟨R.perm,fun r hr=>cc8.get (R.exs r hr) nk,R.nd,R.rdy,R.st,R.cl,R.exl⟩
  refine sp_collfor (i:=i) (sn:=sn) (ex:=ex) (by omega) hb8 (fun t ht=>cc8.get (W.sl t ht) nk) G hos hrs (by omega) M8 (H.imp id fun ⟨hdo,hr,e,H⟩=>⟨hdo,hr,e,H.chg cc8 fun _=>⟨nk,nk⟩⟩) R8 (fun c hc=>cc8.get (C.row c hc) nk) C.ok C.len hin fun h' hf' hdo hr' T10 g1 g2 g3 Kp hb' S' row' ok' M' H' exs' c10=>?_
  have hw10:=c10.get hh8 nk
  have a10:=c10.get a8 nk
  have w10:=c10.get w8 nk
  have cc10:Chg goneX T T10:=c10.back (cc8.weaken fun _ k' q=>(by
   have q:k'∈[K.w]:=q
   rw [mS] at q;rw [q];exact (by decide:K.w∈([.w,.hp,.th,.real,.slots,.m]:List K)))) (side_ks (by decide))
  have hnl:(nextL gen sn os rs).length≤(os++rs).length:=by rw [next_length];exact kept_le hos hrs
  have W':HW j' f' h' hf' (nextL gen sn os rs) T10:=by
   refine⟨hb',S',Kp.next G,⟨hw10,a10,w10,⟨wl,cc10.get hwt nk,hw1,hw2,fun t ht=>?_⟩,fun t ht=>?_,rfl,fun t ht=>?_⟩,g3.trans W.made,_,M'.m,?_⟩
   ·obtain⟨v,hv,e1,e2,e3,e4,_,_,e5⟩:=next_image G.packed hos ht
    rw [e1,e4,e5];exact hw3 v (kept_mem hv)
   ·obtain⟨v,hv,e1,e2,e3,e4,_,_,e5⟩:=next_image G.packed hos ht
    rw [e2,e5];exact cc10.get (W.bk.pid v (kept_mem hv)) nk
   ·obtain⟨v,hv,e1,_⟩:=next_image G.packed hos ht
    rw [e1];exact W.bk.made v (kept_mem hv)
   ·rw [g1];rfl
  have C':CL j' (nextL gen sn os rs) cells T10:=⟨cc10.get C.ce nk,row',fun c hc=>cc10.get (C.spec c hc) nk,ok',C.rn,C.pn,C.len⟩
  have M'':MW j'.m mi h'.hp (.obj hdo) g T10:=g1▸M'
  k_ownIn
  refine LenY.di a10 (by show (List.map _ (nextL gen sn os rs)).length≤_;rw [lM];unfold limit;omega) ?_
  k_ownIn
  have hal:(agL (nextL gen sn os rs)).length=(nextL gen sn os rs).length:=lM _
  rw [hal]
  refine⟨fun _=>?_,fun q=>absurd q (by simp)⟩
  k_ownIn
  refine sp_same (i:=j') (ts:=nextL gen sn os rs) (by omega) W' C' M'' (by omega) (by omega) fun T11 c11=>?_
  exact k j' f' h' hf' _ hdo hr' T11 (W'.chg0 c11) (C'.chg0 c11) (M''.chg0 c11) (H'.chg c11 fun _=>⟨id,id⟩) ⟨R.perm,fun r hr=>c11.keep (exs' r hr),R.nd,g2▸R.rdy,R.st,R.cl,R.exl⟩ g1 g2 ⟨ao,wo,rfl⟩ ⟨_,rfl⟩ (c11.back cc10 side_no)
inductive Tg where
 | tx|st|fa|un
 | ch (m:Nat)
 | fr (m:Nat)
 | he (m:Nat)
 deriving DecidableEq
def Tg.s:Tg→Str
 | .tx=>sO "texts"
 | .st=>sO "statics"
 | .fa=>sO "fail"
 | .un=>sO "unhandled"
 | .ch m=>sO "chase "++sO (toString (m:Int))
 | .fr m=>sO "frame "++sO (toString (m:Int))
 | .he m=>sO "held "++sO (toString (m:Int))
def Tg.Ok:Tg→Prop
 | .ch m|.fr m|.he m=>m<64
 | _=>True
def tgAll:List Tg:=[.tx,.st,.fa,.un]++(List.range 64).map .ch++(List.range 64).map .fr++(List.range 64).map .he
theorem tg_nodup:(tgAll.map Tg.s).Nodup:=by decide +kernel
theorem Tg.Ok.mem {t:Tg} (h:t.Ok):t∈tgAll:=by
 unfold tgAll
 cases t with
 | ch m|fr m|he m=>simp;exact h
 | _=>simp
theorem Tg.inj {a b:Tg} (ha:a.Ok) (hb:b.Ok) (e:a.s=b.s):a=b:=map_inj tg_nodup a ha.mem b hb.mem e
def rowsOf (cells:List Ce) (t:Tg):List Nat:=(cells.filter fun c=>decide (c.tag=t.s)).map Ce.rid
theorem rows_snoc {cells:List Ce} {c:Ce} {t t':Tg} (h:t.Ok) (h':t'.Ok) (e:c.tag=t.s):rowsOf (cells++[c]) t'=rowsOf cells t'++if t=t' then [c.rid] else []:=by
 unfold rowsOf
 rw [fA,mP]
 congr 1
 by_cases q:t=t'
 ·subst q;simp [e]
 ·have:¬ c.tag=t'.s:=fun q'=>q (Tg.inj h h' (e.symm.trans q'))
  simp [this,q]
def dropC (cells:List Ce) (t:Tg):List Ce:=cells.filter fun c=>!decide (c.tag=t.s)
theorem rows_drop {cells:List Ce} {t t':Tg} (h:t.Ok) (h':t'.Ok):rowsOf (dropC cells t) t'=if t=t' then [] else rowsOf cells t':=by
 unfold rowsOf dropC
 rw [List.filter_filter]
 by_cases q:t=t'
 ·subst q
  rw [if_pos rfl,List.filter_eq_nil_iff.mpr (fun c _=>by simp)];rfl
 ·rw [if_neg q]
  congr 1
  refine List.filter_congr fun c _=>?_
  by_cases q':c.tag=t'.s
  ·have:¬ c.tag=t.s:=fun q''=>q (Tg.inj h h' (q''.symm.trans q'))
   have h2:¬ t'.s=t.s:=fun q''=>this (q'.trans q'')
   simp [q',h2]
  ·simp [q']
theorem rows_perm {cells:List Ce} {t:Tg}:(cells.map Ce.rid).Perm (rowsOf cells t++(dropC cells t).map Ce.rid):=by
 unfold rowsOf dropC
 rw [←mP]
 exact ((List.filter_append_perm (fun c:Ce=>decide (c.tag=t.s)) cells).symm).map _
structure KTL (kt len x0:Nat) (T:TH):Prop where
 ex:∃ ro ix de we op rl il dl wl ol,T[kt]?=some (.kt,.inst 2 [.obj ro,.obj ix,.obj de,.obj we,.obj op])∧[ro,ix,de,we,op].Nodup ∧
  T[ro]?=some (.ktl,.list rl)∧T[ix]?=some (.ktl,.dt il)∧T[de]?=some (.ktl,.list dl)∧T[we]?=some (.ktl,.list wl)∧T[op]?=some (.ktl,.list ol) ∧
  rl.length=len∧il.length=len∧dl.length=len∧wl.length=len∧ol.length=len∧∀ sx x:Nat,x0≤x→dget il ((sx:Int),(x:Int),true)=none
abbrev KTW (kt nf:Nat) (T:TH):Prop:=KTL kt (20+nf) (70+nf) T
theorem KTL.chg {kt len x0:Nat} {T T':TH} {X:Nat→K→Prop} (h:KTL kt len x0 T) (c:Chg X T T') (n:∀ i,¬ X i .kt∧¬ X i .ktl):KTL kt len x0 T':=by
 obtain⟨ro,ix,de,we,op,rl,il,dl,wl,ol,h1,h2,h3,h4,h5,h6,h7,h8⟩:=h.ex
 exact⟨ro,ix,de,we,op,rl,il,dl,wl,ol,c.get h1 (n _).1,h2,c.get h3 (n _).2,c.get h4 (n _).2,c.get h5 (n _).2,c.get h6 (n _).2,c.get h7 (n _).2,h8⟩
def txD (tx:List Nat):List (Int×V):=tx.zipIdx.map fun p=>((p.1:Int),.int (p.2:Int))
def txS (tx:List Nat):List (Str×V):=tx.zipIdx.map fun p=>(words p.1,.int (p.2:Int))
structure Gs where
 i:WId
 f:WN
 mi:MId
 g:MG
 h:Hid
 hf:Hn
 ts:List Th
 cells:List Ce
 ex:List Nat
 pend:List Nat
 ns:List Int
 cm:List (Nat×Chs)
 tx:List Nat
def rootsW (mi:MId) (g:MG):List Nat:=g.frames.flatMap Fr.rows++g.statics.map (·.2)++g.chases.map Chs.rid++[mi.iv]++g.held++g.fails.map (·.2)++[mi.un]
structure Mem (k:Nat) (s:Gs) (T:TH):Prop where
 W:HW s.i s.f s.h s.hf s.ts T
 C:CL s.i s.ts s.cells T
 M:∃ hd,MW s.i.m s.mi s.h.hp hd s.g T∧(hd=.none∨∃ hdo hr,hd=.obj hdo∧Hds hdo hr T)
 perm:(rootsW s.mi s.g++s.pend).Perm (s.cells.map Ce.rid++s.ex)
 exs:∀ r∈s.ex,T[r]?=some (.real,.list [])
 nd:(s.cells.map Ce.rid++s.ex).Nodup
 rdy:s.h.rdy∉s.cells.map Ce.rid++s.ex
 swp:T[s.mi.sw]?=some (.oth,.inst 8 [])
 scr:Scr s.i s.ns T
 fl:T[s.i.fl]?=some (.fl,.list (s.cm.map fun p=>.str (Tg.ch p.1).s))
 txd:T[s.i.tx]?=some (.tx,.di (txD s.tx))
 txs:T[s.mi.inn]?=some (.inn,.ds (txS s.tx))
 txn:s.tx.Nodup∧∀ n∈s.tx,n≤2
 kt:KTW s.mi.kt s.g.fails.length T
 fks:s.g.fails.map (·.1)=(List.range s.g.fails.length).map fun j=>((20+j:Nat):Int)
 made:s.f.made≤30*k
 at_:s.f.at_≤k
 cnt:3*s.f.count≤k
 cel:s.cells.length≤8*k
 len:s.g.frames.length≤k∧s.g.chases.length≤k∧s.g.fails.length≤k∧3*s.g.held.length≤k
structure TgW (count iv:Nat) (g:MG) (cells:List Ce) (cm:List (Nat×Chs)) (tx:List Nat):Prop where
 chm:g.chases=cm.map (·.2)
 chr:∀ p∈cm,p.1≤count∧rowsOf cells (.ch p.1)=[p.2.rid]
 chd:(cm.map (·.1)).Nodup
 che:∀ c∈cells,∀ p∈cm,c.tag=(Tg.ch p.1).s→0<c.specs.length
 frr:∀ f∈g.frames,∃ m:Nat,f.number=(m:Int)∧(m≤count∧f.home≤m)∧(rowsOf cells (.fr m)).Perm f.rows
 frd:(g.frames.map Fr.number).Nodup
 her:∀ j r,g.held[j]?=some r→rowsOf cells (.he (j+1))=[r]
 new:∀ m,count<m→m<64→rowsOf cells (.ch m)=[]∧rowsOf cells (.fr m)=[]
 hew:∀ m,g.held.length<m→m<64→rowsOf cells (.he m)=[]
 hd0:∃ ct rest,cells=ct::rest∧ct.tag=Tg.tx.s∧ct.rid=iv∧ct.specs.length=tx.length
abbrev Gs.Tgs (s:Gs):Prop:=TgW s.f.count s.mi.iv s.g s.cells s.cm s.tx
theorem Mem.mono {k k':Nat} {s:Gs} (w:Mem k s T) (h:k≤k'):Mem k' s T:=by
 obtain⟨W,C,M,perm,exs,nd,rdy,swp,scr,fl,txd,txs,txn,kt,fks,made,at_,cnt,cel,len⟩:=w
 exact⟨W,C,M,perm,exs,nd,rdy,swp,scr,fl,txd,txs,txn,kt,fks,by omega,by omega,by omega,by omega,by omega⟩
theorem Mem.chg0 {k:Nat} {s:Gs} {T T':TH} (w:Mem k s T) (c:Chg noX T T'):Mem k s T':=by
 obtain⟨W,C,⟨hd,M,H⟩,perm,exs,nd,rdy,swp,scr,fl,txd,txs,txn,kt,fks,made,at_,cnt,cel,len⟩:=w
 exact⟨W.chg0 c,C.chg0 c,⟨hd,M.chg0 c,by
  rcases H with H|⟨a,b,e,h⟩
  ·exact .inl H
  ·exact .inr ⟨a,b,e,h.chg c fun _=>⟨id,id⟩⟩⟩,perm,fun r hr=>c.keep (exs r hr),nd,rdy,c.keep swp,⟨c.keep scr.at_,scr.len⟩,c.keep fl,c.keep txd,c.keep txs,txn,kt.chg c fun _=>⟨id,id⟩,fks,made,at_,cnt,cel,len⟩
theorem Mem.fresh {k m:Nat} {s:Gs} {T T':TH} {f':WN} {hf':Hn} {ts':List Th} (w:Mem k s T) (W':HW s.i f' s.h hf' ts' T') (g1:NGrow s.f f' m) (hm:m≤30) (g2:Grow s.ts ts') (c:Chg freshX T T'):Mem (k+1) {s with f:=f',hf:=hf',ts:=ts'} T':=by
 obtain⟨W,C,⟨hd,M,H⟩,perm,exs,nd,rdy,swp,scr,fl,txd,txs,txn,kt,fks,made,at_,cnt,cel,len⟩:=w
 have h1:=g1.made
 have h2:=g1.at_
 have h3:=g1.count
 exact⟨W',C.fresh g2 c,⟨hd,M.chg c fun _=>⟨nk,nk,nk,nk,nk,nk,nk,nk⟩,by
  rcases H with H|⟨a,b,e,h⟩
  ·exact .inl H
  ·exact .inr ⟨a,b,e,h.chg c fun _=>⟨nk,nk⟩⟩⟩,perm,fun r hr=>c.get (exs r hr) nk,nd,rdy,c.get swp nk,⟨c.get scr.at_ nk,scr.len⟩,c.get fl nk,c.get txd nk,c.get txs nk,txn,kt.chg c fun _=>⟨nk,nk⟩,fks,by show f'.made≤_;omega,by show f'.at_≤_;omega,by show 3*f'.count≤_;omega,by show s.cells.length≤_;omega,by show s.g.frames.length≤_∧s.g.chases.length≤_∧s.g.fails.length≤_∧3*s.g.held.length≤_;omega⟩
theorem perm_erase {A B ex:List Nat} {r:Nat} (p:A.Perm (B++ex)) (hr:r∈ex):A.Perm ((B++[r])++ex.erase r):=by
 refine p.trans ?_
 rw [aA]
 exact List.Perm.append_left _ (List.perm_cons_erase hr)
theorem Mem.add {k m:Nat} {s:Gs} {T T':TH} {f':WN} {hf':Hn} {ts':List Th} {tag:Str} {specs:List Spec} {r pid:Nat} (w:Mem k s T) (hr:r∈s.ex) (W':HW s.i f' s.h hf' ts' T') (C':CL s.i ts' (s.cells++[⟨tag,specs,r,pid⟩]) T') (g1:NGrow s.f f' m) (hm:m≤30) (c:Chg (fillX r s.i.ce) T T') :
  Mem (k+1) {s with f:=f',hf:=hf',ts:=ts',cells:=s.cells++[⟨tag,specs,r,pid⟩],ex:=s.ex.erase r} T':=by
 obtain⟨W,C,⟨hd,M,H⟩,perm,exs,nd,rdy,swp,scr,fl,txd,txs,txn,kt,fks,made,at_,cnt,cel,len⟩:=w
 have h1:=g1.made
 have h2:=g1.at_
 have h3:=g1.count
 have er:=exs r hr
 have off:∀ {i':Nat} {k':K} {o':O},T[i']?=some (k',o')→k'≠.real→k'≠.ce→k'∉([.hp,.tl,.at_,.w,.ag,.wh,.wt]:List K)→T'[i']?=some (k',o'):=fun hi q1 q2 q3=>c.get hi fun q=>by
  rcases q with q|q|q
  ·exact q3 q
  ·rw [q,er] at hi;cases hi;exact q1 rfl
  ·rw [q,C.ce] at hi;cases hi;exact q2 rfl
 have pe:(s.cells.map Ce.rid++s.ex).Perm (((s.cells++[(⟨tag,specs,r,pid⟩:Ce)]).map Ce.rid)++s.ex.erase r):=by
  rw [mP];exact perm_erase (List.Perm.refl _) hr
 have hnd:s.ex.Nodup:=(nD.mp nd).2.1
 have sub:∀ {P:Nat→K→Prop},True:=trivial
 refine⟨W',C',⟨hd,?_,by
  rcases H with H|⟨a,b,e,h⟩
  ·exact .inl H
  ·exact .inr ⟨a,b,e,Hds.mk (off h.hd (by decide) (by decide) (by decide)) (off h.hr (by decide) (by decide) (by decide))⟩⟩,perm.trans pe,fun x hx=>?_,pe.nodup_iff.mp nd,fun q=>rdy (pe.mem_iff.mpr q),off swp (by decide) (by decide) (by decide),⟨off scr.at_ (by decide) (by decide) (by decide),scr.len⟩,off fl (by decide) (by decide) (by decide),off txd (by decide) (by decide) (by decide),off txs (by decide) (by decide) (by decide),txn,?_,fks,?_,?_,?_,?_,?_⟩
 ·exact⟨off M.m (by decide) (by decide) (by decide),off M.frs (by decide) (by decide) (by decide),fun f hf=>off (M.fr f hf) (by decide) (by decide) (by decide),off M.chs (by decide) (by decide) (by decide),fun x hx=>off (M.ch x hx) (by decide) (by decide) (by decide),off M.sts (by decide) (by decide) (by decide),off M.fas (by decide) (by decide) (by decide),off M.hes (by decide) (by decide) (by decide),M.fk,M.len⟩
 ·have hx':=exs x (List.mem_of_mem_erase hx)
  refine c.get hx' fun q=>?_
  rcases q with q|q|q
  ·exact nk (i:=x) (by decide:K.real∉_) q
  ·rw [q] at hx;exact (List.Nodup.not_mem_erase hnd) hx
  ·have:=C.ce;rw [←q,hx'] at this;cases this
 ·obtain⟨ro,ix,de,we,op,rl,il,dl,wl,ol,k1,k2,k3,k4,k5,k6,k7,k8⟩:=kt.ex
  exact⟨ro,ix,de,we,op,rl,il,dl,wl,ol,off k1 (by decide) (by decide) (by decide),k2,off k3 (by decide) (by decide) (by decide),off k4 (by decide) (by decide) (by decide),off k5 (by decide) (by decide) (by decide),off k6 (by decide) (by decide) (by decide),off k7 (by decide) (by decide) (by decide),k8⟩
 ·show f'.made≤_;omega
 ·show f'.at_≤_;omega
 ·show 3*f'.count≤_;omega
 ·show (s.cells++[_]).length≤_;rw [lA];show s.cells.length+1≤_;omega
 ·show s.g.frames.length≤_∧s.g.chases.length≤_∧s.g.fails.length≤_∧3*s.g.held.length≤_;omega
structure Gs.Rd (s:Gs):Prop where
 pend:s.pend=[]
 st:∃ a b,s.g.statics=[(17,b),(16,a)]
 exl:s.ex.length≤1
theorem rootsL_perm {mi:MId} {g:MG} {a b:Nat} (h:g.statics=[(17,b),(16,a)]):(rootsL mi g a b).Perm (rootsW mi g):=by
 unfold rootsL rootsW
 rw [h]
 refine List.Perm.append_right _ (List.Perm.append_right _ (List.Perm.append_right _ (List.Perm.append_right _ (List.Perm.append_right _ (List.Perm.append_left _ ?_)))))
 exact List.Perm.swap ..
theorem wld_gone {n k gen:Nat} {s:Gs} (hn:11≤n) (w:Mem k s T) (tg:s.Tgs) (hk:k≤166) (r:s.Rd) (hg:gen≤2)
  (q:∀ s' T',Mem k s' T'→s'.Tgs→s'.Rd→s'.i.w=s.i.w→s'.i.m=s.i.m→Q (.bool true) T'):Y (CN n 85 [.obj s.i.w,.int gen] (hpOf T)) Q:=by
 obtain⟨hd,M,H⟩:=w.M
 obtain⟨a,b,st⟩:=r.st
 have cel:=w.cel
 have made:=w.made
 have gl:=good_len w.W
 have p:=w.perm
 rw [r.pend,aN] at p
 refine sp_gone hn w.W w.C M H ⟨(rootsL_perm st).trans p,w.exs,w.nd,w.rdy,st,by omega,r.exl⟩ (by omega) (by omega) hg fun i' f' h' hf' ts' hdo hr' T' W' C' M' H' R' g1 g2 ⟨ag,wh,ei⟩ ⟨top,ef⟩ c=>?_
 subst ei ef
 refine q {s with i:={s.i with ag:=ag,wh:=wh},f:={s.f with top:=top},h:=h',hf:=hf',ts:=ts'} T' ?_ tg ⟨r.pend,r.st,r.exl⟩ rfl rfl
 exact⟨W',C',⟨_,M',.inr ⟨hdo,hr',rfl,H'⟩⟩,w.perm,R'.exs,w.nd,R'.rdy,c.get w.swp nk,⟨c.get w.scr.at_ nk,w.scr.len⟩,c.get w.fl nk,c.get w.txd nk,c.get w.txs nk,w.txn,w.kt.chg c fun _=>⟨nk,nk⟩,w.fks,w.made,w.at_,w.cnt,w.cel,w.len⟩
set_option maxHeartbeats 2000000 in
theorem sp_drop {i:WId} {f:WN} {ts:List Th} {cells:List Ce} {t:Tg} (hn:1≤n) (hw:T[i.w]?=some (.w,i.obj f)) (hce:T[i.ce]?=some (.ce,.list (cells.map Ce.v))) (hcl:cells.length≤5000)
  (k:∀ ce' T',T[ce']?=none→T'[ce']?=some (.ce,.list ((dropC cells t).map Ce.v))→T'[i.w]?=some (.w,WId.obj {i with ce:=ce'} f)→Chg (oneX i.w) T T'→Q .none T'):Y (CN n 75 [.obj i.w,.str t.s] (hpOf T)) Q:=by
 obtain⟨n,rfl,_⟩:=down hn
 refine call_fn (fd:=fd_law_drop) (by rfl) (by rfl) ?_
 show SV _ [some (.obj i.w),some (.str t.s)] _ _ _
 unfold fd_law_drop
 have hw':=hw
 unfold WId.obj at hw'
 refine SV.go ?_
 conv=>whnf
 refine EV.comp .ce (fun x=>match x with|.tup [.str a,_,_]=>if (!decide (a=t.s)) then some x else none|_=>none) ?_
 k_ownIn
 refine⟨by rw [lM];unfold limit;omega,rfl,fun x T' hx c=>?_,?_⟩
 ·obtain⟨c,hc,rfl⟩:=mM.mp hx
  show ItemC _ _ _ _ _ _ (if (!decide (c.tag=t.s)) then some c.v else none)
  have hc:Pure (CN n) (capOf [some (V.obj i.w),some (.str t.s)] [1] c.v) (.cmp .ne (.idx (.loc 1) (.lit (.int 0))) (.loc 0)) T' (.bool (!decide (c.tag=t.s))):=by
   refine Pure.of ?_
   unfold Ce.v
   k_ownIn
   exact⟨by by_cases q:c.tag=t.s<;>simp [q],rfl⟩
  cases hP:(!decide (c.tag=t.s)) with
  | true =>
   rw [hP] at hc
   refine⟨?_,.inr ⟨_,_,rfl,hc⟩⟩
   refine Pure.of ?_
   k_ownIn
   exact⟨rfl,rfl⟩
  | false=>rw [hP] at hc;exact⟨_,_,rfl,hc⟩
 rw [filterMap_if (p:=fun c:Ce=>!decide (c.tag=t.s)) (k:=Ce.v) fun r _=>rfl]
 refine NewY.intro ?_
 intro ce' T1 hn_1 h_1 c_1
 have hw_1:=c_1.keep hw'
 k_ownIn
 rename_i T2 h_2 c_2
 exact k ce' T2 hn_1 (c_2.otherK h_1 h_2) h_2 (c_2.back (c_1.weaken fun _ _ q=>q.elim) fun _ _ _ _ q=>q)
theorem Mem.setw {k:Nat} {s:Gs} {T T':TH} {f':WN} (w:Mem k s T) (h:T'[s.i.w]?=some (.w,s.i.obj f')) (c:Chg (oneX s.i.w) T T') (h1:f'.made=s.f.made) (h2:f'.top=s.f.top) (h3:f'.at_≤s.f.at_+1) (h4:3*f'.count≤k+1):Mem (k+1) {s with f:=f'} T':=by
 obtain⟨W,C,⟨hd,M,H⟩,perm,exs,nd,rdy,swp,scr,fl,txd,txs,txn,kt,fks,made,at_,cnt,cel,len⟩:=w
 have c:Chg (ksX [.w]) T T':=c.back (.refl _ _) (side_kind W.bk.w)
 obtain⟨b1,b2,b3,⟨d1,d2,d3,⟨wl,d4,d4'⟩,d5,d6,d7⟩,b5,gs,b6,b7⟩:=W
 refine⟨⟨b1.keep c (fun _=>⟨nk,nk,nk,nk,nk,nk⟩) nk,fun t ht=>c.get (b2 t ht) nk,b3,⟨h,c.get d2 nk,c.get d3 nk,⟨wl,c.get d4 nk,?_⟩,fun t ht=>c.get (d5 t ht) nk,h2.trans d6,fun t ht=>by rw [h1];exact d7 t ht⟩,b5.trans h1.symm,gs,c.get b6 nk,b7⟩,C.grow (.refl _) c fun _=>⟨nk,nk,nk⟩,⟨hd,M.chg c fun _=>⟨nk,nk,nk,nk,nk,nk,nk,nk⟩,by
  rcases H with H|⟨a,b,e,h⟩
  ·exact .inl H
  ·exact .inr ⟨a,b,e,h.chg c fun _=>⟨nk,nk⟩⟩⟩,perm,fun r hr=>c.get (exs r hr) nk,nd,rdy,c.get swp nk,⟨c.get scr.at_ nk,scr.len⟩,c.get fl nk,c.get txd nk,c.get txs nk,txn,kt.chg c fun _=>⟨nk,nk⟩,fks,by show f'.made≤_;omega,by show f'.at_≤_;omega,by show 3*f'.count≤_;omega,by show s.cells.length≤_;omega,by show s.g.frames.length≤_∧s.g.chases.length≤_∧s.g.fails.length≤_∧3*s.g.held.length≤_;omega⟩
 rw [h1];exact d4'
theorem roots_chase {mi:MId} {g:MG} {c:Chs}:(rootsW mi {g with chases:=g.chases++[c]}).Perm (rootsW mi g++[c.rid]):=by
 unfold rootsW
 show (g.frames.flatMap Fr.rows++g.statics.map (·.2)++(g.chases++[c]).map Chs.rid++[mi.iv]++g.held++g.fails.map (·.2)++[mi.un]).Perm _
 rw [mP]
 generalize g.frames.flatMap Fr.rows++g.statics.map (·.2)=A
 generalize g.chases.map Chs.rid=B
 generalize g.held=D
 generalize g.fails.map (·.2)=E
 simp only [aA]
 refine List.Perm.append_left _ (List.Perm.append_left _ ?_)
 show (c.rid::([mi.iv]++(D++(E++[mi.un])))).Perm _
 refine (pS _ _).symm.trans ?_
 simp only [aA]
 exact List.Perm.refl _
theorem perm_in {A A' B C D:List Nat} {r:Nat} (p:(A++B).Perm (C++D)) (q:A'.Perm (A++[r])):(A'++B).Perm ((C++[r])++D):=by
 have h1:(A'++B).Perm (r::(A++B)):=(List.Perm.append_right _ (q.trans (pS _ _)))
 have h2:((C++[r])++D).Perm (r::(C++D)):=List.Perm.append_right _ (pS _ _)
 exact h1.trans ((List.Perm.cons _ p).trans h2.symm)
theorem nd_in {C D:List Nat} {r:Nat} (h:(C++D).Nodup) (hr:r∉C++D):((C++[r])++D).Nodup:=by
 have h2:((C++[r])++D).Perm (r::(C++D)):=List.Perm.append_right _ (pS _ _)
 exact h2.nodup_iff.mpr (nC.mpr ⟨hr,h⟩)
theorem mem_in {C D:List Nat} {r x:Nat}:x∈(C++[r])++D ↔ x=r∨x∈C++D:=by
 have h2:((C++[r])++D).Perm (r::(C++D)):=List.Perm.append_right _ (pS _ _)
 rw [h2.mem_iff,mK]
theorem Mem.free {k:Nat} {s:Gs} (w:Mem k s T) {r:Nat} (h:T[r]?=none):r∉s.cells.map Ce.rid++s.ex∧r≠s.h.rdy∧r∉s.cells.map Ce.pid:=by
 refine⟨fun q=>?_,fun q=>?_,(w.C.free h).2⟩
 ·rcases mA.mp q with q|q
  ·exact (w.C.free h).1 q
  ·rw [w.exs r q] at h;cases h
 ·rw [q,w.W.hb.rdy] at h;cases h
theorem CL.snoc {i:WId} {ts:List Th} {cells:List Ce} {T T':TH} {c:Ce} {X:Nat→K→Prop} (C:CL i ts cells T) (cc:Chg X T T') (n:∀ i,¬ X i .real∧¬ X i .cspec) (hce:T'[i.ce]?=some (.ce,.list ((cells++[c]).map Ce.v))) (hr:T'[c.rid]?=some (.real,.list (c.specs.map (Spec.val (whOf ts))))) (hp:T'[c.pid]?=some (.cspec,.list (c.specs.map Spec.v)))
  (hok:∀ s∈c.specs,s.Ok ts) (hl:c.specs.length≤10) (hnr:c.rid∉cells.map Ce.rid) (hnp:c.pid∉cells.map Ce.pid):CL i ts (cells++[c]) T':=by
 have one:∀ {P:Ce→Prop},(∀ x∈cells,P x)→P c→∀ x∈cells++[c],P x:=fun h h' x hx=>by
  rcases mA.mp hx with hx|hx
  ·exact h x hx
  ·rw [mS.mp hx];exact h'
 refine⟨hce,one (fun x hx=>cc.get (C.row x hx) (n _).1) hr,one (fun x hx=>cc.get (C.spec x hx) (n _).2) hp,one C.ok hok,?_,?_,one C.len hl⟩
 ·rw [mP]
  refine nD.mpr ⟨C.rn,by simp,fun a ha b hb e=>?_⟩
  simp at hb;rw [e,hb] at ha;exact hnr ha
 ·rw [mP]
  refine nD.mpr ⟨C.pn,by simp,fun a ha b hb e=>?_⟩
  simp at hb;rw [e,hb] at ha;exact hnp ha
theorem Mem.chase {k m pid:Nat} {s:Gs} {T T':TH} {c:Chs} {spec:Spec} (w:Mem k s T) (hk:k≤900) (cc:Chg (ksX [.chs,.fl,.ce]) T T') (hc:T'[c.id]?=some (.ch,c.obj)) (hr:T'[c.rid]?=some (.real,.list [spec.val (whOf s.ts)])) (hnr:T[c.rid]?=none) (hp:T'[pid]?=some (.cspec,.list [spec.v])) (hnp:T[pid]?=none)
  (hchs:T'[s.mi.chs]?=some (.chs,.list ((s.g.chases++[c]).map fun c=>.obj c.id))) (hfl:T'[s.i.fl]?=some (.fl,.list ((s.cm++[(m,c)]).map fun p=>.str (Tg.ch p.1).s))) (hce:T'[s.i.ce]?=some (.ce,.list ((s.cells++[(⟨(Tg.ch m).s,[spec],c.rid,pid⟩:Ce)]).map Ce.v))) (hok:spec.Ok s.ts) :
  Mem (k+1) {s with cells:=s.cells++[⟨(Tg.ch m).s,[spec],c.rid,pid⟩],cm:=s.cm++[(m,c)],g:={s.g with chases:=s.g.chases++[c]}} T':=by
 have fr:=w.free hnr
 have fp:=w.free hnp
 obtain⟨W,C,⟨hd,M,H⟩,perm,exs,nd,rdy,swp,scr,fl,txd,txs,txn,kt,fks,made,at_,cnt,cel,len⟩:=w
 refine⟨W.chg cc (fun _=>⟨nk,nk,nk,nk,nk⟩) (fun _=>⟨nk,nk,nk,nk,nk,nk⟩) (fun _=>⟨nk,nk⟩) nk,
  C.snoc cc (fun _=>⟨nk,nk⟩) hce hr hp (fun s hs=>by rw [mS.mp hs];exact hok) (by show 1≤10;decide) (fun q=>fr.1 (mL _ q)) fp.2.2,
  ⟨hd,⟨cc.get M.m nk,cc.get M.frs nk,fun f hf=>cc.get (M.fr f hf) nk,hchs,fun x hx=>?_,cc.get M.sts nk,cc.get M.fas nk,cc.get M.hes nk,M.fk,?_⟩,by
  rcases H with H|⟨a,b,e,h⟩
  ·exact .inl H
  ·exact .inr ⟨a,b,e,h.chg cc fun _=>⟨nk,nk⟩⟩⟩,?_,fun r hr=>cc.get (exs r hr) nk,?_,?_,cc.get swp nk,⟨cc.get scr.at_ nk,scr.len⟩,hfl,cc.get txd nk,cc.get txs nk,txn,kt.chg cc fun _=>⟨nk,nk⟩,fks,by show s.f.made≤_;omega,by show s.f.at_≤_;omega,by show 3*s.f.count≤_;omega,?_,?_⟩
 ·rcases mA.mp hx with hx|hx
  ·exact cc.get (M.ch x hx) nk
  ·rw [mS.mp hx];exact hc
 ·have:=M.len
  have e:(s.g.chases++[c]).length=s.g.chases.length+1:=lA
  show s.g.frames.length≤1000∧(s.g.chases++[c]).length≤1000∧s.g.fails.length≤1000∧s.g.held.length≤1000
  omega
 ·rw [mP];exact perm_in perm roots_chase
 ·rw [mP];exact nd_in nd fr.1
 ·rw [mP];intro q
  rcases mem_in.mp q with q|q
  ·exact fr.2.1 q.symm
  ·exact rdy q
 ·show (s.cells++[_]).length≤_;rw [lA];show s.cells.length+1≤_;omega
 ·have e:(s.g.chases++[c]).length=s.g.chases.length+1:=lA
  show s.g.frames.length≤k+1∧(s.g.chases++[c]).length≤k+1∧s.g.fails.length≤k+1∧3*s.g.held.length≤k+1
  omega
set_option maxHeartbeats 2000000 in
theorem sp_Chase {n c:Nat} {num v a b:V} (hn:1≤n) (h0:T[c]?=some (.ch,.inst 11 [])) (k:∀ rid xs T',T[rid]?=none→T'[rid]?=some (.real,.list [v])→T'[c]?=some (.ch,Chs.obj ⟨c,rid,num,xs⟩)→Chg (oneX c) T T'→Q .none T'):Y (CN n 67 [.obj c,num,v,a,b] (hpOf T)) Q:=by
 obtain⟨n,rfl,_⟩:=down hn
 refine call_fn (fd:=fd_Chase_init) (by rfl) (by rfl) ?_
 show SV _ [some (.obj c),some num,some v,some a,some b] _ _ _
 unfold fd_Chase_init
 k_ownIn
 refine AnyK.mk .real ?_
 k_ownIn
 rename_i T1 h_1 c_1 i T2 hn_2 h_2 c_2 a1 a2 a3 b1 b2 b3 d1 d2 d3 e1 e2 e3 f1 f2 f3 g1 g2 g3 m1 m2 m3 T9 h_9 c9
 exact k i [a,.int 1,b,.int 0,.none,.int 0,.int (-1)] T9 (none_back hn_2 (c_1.weaken fun _ _ _=>trivial)) (c9.otherK h_2 h_9) h_9 (c9.back (c_2.back c_1 side_no) side_same)
theorem num_len:∀ m:Nat,m<64→(sO (toString (m:Int))).length≤20:=by decide +kernel
theorem BinY.tag {p:Str} {m:Nat} {Q:V→Prop} (hm:m<64) (hp:p.length≤20) (h:Q (.str (p++sO (toString (m:Int))))):BinY .add (.str p) (.str (sO (toString (m:Int)))) Q:=by
 refine BinY.mk (v:=.str (p++sO (toString (m:Int)))) ?_ h
 show (if _ then _ else _)=_
 rw [if_pos (by have:=num_len m hm;omega)]
theorem TgW.up {count iv:Nat} {g:MG} {cells:List Ce} {cm:List (Nat×Chs)} {tx:List Nat} (t:TgW count iv g cells cm tx):TgW (count+1) iv g cells cm tx:=by
 obtain⟨chm,chr,chd,che,frr,frd,her,new,hew,hd0⟩:=t
 refine⟨chm,fun p hp=>?_,chd,che,fun f hf=>?_,frd,her,fun m h1 h2=>new m (by omega) h2,hew,hd0⟩
 ·have:=chr p hp;exact⟨by omega,this.2⟩
 ·obtain⟨m,h1,h2,h3⟩:=frr f hf;exact⟨m,h1,by omega,h3⟩
theorem TgW.chase {count iv:Nat} {g:MG} {cells:List Ce} {cm:List (Nat×Chs)} {tx:List Nat} (t:TgW count iv g cells cm tx) (hc:count+1<64) (hh:g.held.length<63) {c:Chs} {specs:List Spec} {pid:Nat} (hs:0<specs.length) :
  TgW (count+1) iv {g with chases:=g.chases++[c]} (cells++[⟨(Tg.ch (count+1)).s,specs,c.rid,pid⟩]) (cm++[(count+1,c)]) tx:=by
 have up:=t.up
 obtain⟨chm,chr,chd,che,frr,frd,her,new,hew,hd0⟩:=t
 have key:∀ {t':Tg},t'.Ok→rowsOf (cells++[⟨(Tg.ch (count+1)).s,specs,c.rid,pid⟩]) t'=rowsOf cells t'++if Tg.ch (count+1)=t' then [c.rid] else []:=fun h'=>rows_snoc (t:=.ch (count+1)) (show count+1<64 from hc) h' rfl
 refine⟨by show g.chases++[c]=_;rw [chm,mP];rfl,fun p hp=>?_,?_,fun x hx p hp e=>?_,fun f hf=>?_,frd,fun j r hj=>?_,fun m h1 h2=>?_,fun m h1 h2=>?_,?_⟩
 ·rcases mA.mp hp with hp|hp
  ·have:=chr p hp
   rw [key (t':=.ch p.1) (show p.1<64 by omega),if_neg (fun q=>by have:=Tg.ch.inj q;omega),aN]
   exact⟨by omega,this.2⟩
  ·rw [mS.mp hp,key (t':=.ch (count+1)) hc,if_pos rfl,(new _ (Nat.lt_succ_self _) hc).1]
   exact⟨Nat.le_refl _,rfl⟩
 ·rw [mP]
  refine nD.mpr ⟨chd,by simp,fun a ha b hb e=>?_⟩
  obtain⟨p,hp,rfl⟩:=mM.mp ha
  have:=chr p hp
  have hb:=mS.mp hb
  have hb:b=count+1:=hb
  omega
 ·rcases mA.mp hx with hx|hx
  ·rcases mA.mp hp with hp|hp
   ·exact che x hx p hp e
   ·rw [mS.mp hp] at e
    have h0:=(new _ (Nat.lt_succ_self _) hc).1
    have:x.rid∈rowsOf cells (.ch (count+1)):=mM.mpr ⟨x,List.mem_filter.mpr ⟨hx,by simpa using e⟩,rfl⟩
    rw [h0] at this;cases this
  ·rw [mS.mp hx];exact hs
 ·obtain⟨m,h1,h2,h3⟩:=frr f hf
  refine⟨m,h1,by omega,?_⟩
  rw [key (t':=.fr m) (show m<64 by omega),if_neg (fun q=>by cases q),aN];exact h3
 ·have hj':=(gS.mp hj).1
  have hj':j<g.held.length:=hj'
  rw [key (t':=.he (j+1)) (show j+1<64 by omega),if_neg (fun q=>by cases q),aN];exact her j r hj
 ·have:=new m (by omega) h2
  rw [key (t':=.ch m) (show m<64 from h2),key (t':=.fr m) (show m<64 from h2),if_neg (fun q=>by have:=Tg.ch.inj q;omega),if_neg (fun q=>by cases q),aN,aN]
  exact this
 ·rw [key (t':=.he m) (show m<64 from h2),if_neg (fun q=>by cases q),aN];exact hew m h1 h2
 ·obtain⟨ct,rest,e,h⟩:=hd0
  exact⟨ct,rest++[_],by rw [e];rfl,h⟩
set_option maxHeartbeats 2000000 in
theorem sp_fly {n k0 k z:Nat} {s:Gs} (hn:5≤n) (hk0:k0+2=k) (w0:Mem k0 s T) (tg:s.Tgs) (hk:k≤166)
  (q:∀ s' T',Mem (k+3) s' T'→s'.Tgs→s'.i=s.i→s'.mi=s.mi→s'.f.at_=s.f.at_→s'.pend=s.pend→s'.ex=s.ex→s'.g.statics=s.g.statics→Q .none T'):Y (CN n 77 [.obj s.i.w,.int z] (hpOf T)) Q:=by
 obtain⟨n,rfl,_⟩:=down hn
 have cnt0:=w0.cnt
 have len0:=w0.len
 have w:=w0.mono (show k0≤k by omega)
 refine call_fn (fd:=fd_law_fly) (by rfl) (by rfl) ?_
 show SV _ [some (.obj s.i.w),some (.int z),none,none,none] _ _ _
 unfold fd_law_fly
 have hw:=w.W.bk.w
 unfold WId.obj at hw
 have hcnt:=w.cnt
 k_ownIn
 refine⟨by omega,?_⟩
 refine BinY.tag (by omega) (by decide) ?_
 rename_i T1 h_1 c_1
 have w_1:Mem (k+1) {s with f:={s.f with count:=s.f.count+1}} T1:=w.setw h_1 c_1 rfl rfl (by show s.f.at_≤_;omega) (by show 3*(s.f.count+1)≤_;omega)
 have made:=w.made
 k_ownIn
 refine sp_fresh (by omega) w_1.W (by show s.f.made≤_;omega) fun f' hf' ts' T2 W2 g1 g2 g3 ⟨t,ht,g4,g5⟩ c_2=>?_
 have w_2:=w_1.fresh W2 g1 (by omega) g2 c_2
 have hw_2:=W2.bk.w
 unfold WId.obj at hw_2
 have hfc:f'.count=s.f.count+1:=g1.count
 have hok:Spec.Ok ⟨0,f'.made,0⟩ ts':=⟨Nat.zero_le _,Nat.zero_le _,fun _=>⟨show 0<4 by decide,t,ht,g4,fun h=>by cases h⟩,fun _=>g3⟩
 obtain⟨s2,hs2⟩:∃ s2:Gs,s2={s with f:=f',hf:=hf',ts:=ts'}:=⟨_,rfl⟩
 have w_2:Mem (k+2) s2 T2:=hs2▸w_2
 obtain⟨hd,M2,H2⟩:=w_2.M
 have hwi:s2.i=s.i:=by rw [hs2]
 have hmi:s2.mi=s.mi:=by rw [hs2]
 rw [hwi,hmi] at M2
 have hcn:f'.count<64:=by omega
 rw [←hfc]
 k_ownIn
 refine AnyK.mk .ch ?_
 k_ownIn
 refine sp_value (s:=⟨0,f'.made,0⟩) (by omega) W2.bk.w W2.bk.wh hok ?_
 k_ownIn
 rename_i co T3 hn3 h_3 c_3
 refine sp_Chase (by omega) h_3 fun rid xs T4 hn4 hr4 h_4 c4=>⟨rfl,?_⟩
 have c24:Chg noX T2 T4:=c4.fresh c_3 hn3
 have hw4:=c24.keep hw_2
 have mm4:=c24.keep M2.m
 unfold MId.obj at mm4
 have chs4:=c24.keep M2.chs
 have fl4:=c24.keep w_2.fl
 have ce4:=c24.keep w_2.C.ce
 rw [hwi] at fl4 ce4
 have hlen:=w_2.len
 have hcel:=w_2.cel
 have hchm:s2.g.chases=s2.cm.map (·.2):=by rw [hs2];exact tg.chm
 have hcml:s2.cm.length≤k+2:=by
  have:=hlen.2.1;rw [hchm,lM] at this;exact this
 k_ownIn
 refine⟨by rw [lM];unfold limit;omega,?_⟩
 refine PutY.intro ?_
 intro T5 h_5 c_5
 have hw5:=c_5.otherK hw4 h_5
 have fl5:=c_5.otherK fl4 h_5
 have ce5:=c_5.otherK ce4 h_5
 have hc5:=c_5.otherK h_4 h_5
 have hr5:=c_5.otherK hr4 h_5
 have cc5:Chg (ksX [.chs,.fl,.ce]) T2 T5:=c_5.back (c24.weaken fun _ _ q=>q.elim) (side_kind M2.chs)
 k_ownIn
 refine⟨by rw [lM];unfold limit;omega,?_⟩
 refine PutY.intro ?_
 intro T6 h_6 c_6
 have hw6:=c_6.otherK hw5 h_6
 have ce6:=c_6.otherK ce5 h_6
 have hc6:=c_6.otherK hc5 h_6
 have hr6:=c_6.otherK hr5 h_6
 have h56:=c_6.otherK h_5 h_6
 have fl2:=w_2.fl
 rw [hwi] at fl2
 have ce2:=w_2.C.ce
 rw [hwi] at ce2
 have cc6:Chg (ksX [.chs,.fl,.ce]) T2 T6:=c_6.back cc5 (side_kind fl2)
 unfold Chs.obj at hc6
 k_ownIn
 refine AnyK.mk .cspec ?_
 k_ownIn
 rename_i pid T7 hn7 h_7 c_7
 refine⟨by rw [lM];unfold limit;omega,?_⟩
 refine PutY.intro ?_
 intro T8 h_8 c_8
 have cc8:Chg (ksX [.chs,.fl,.ce]) T2 T8:=c_8.back (c_7.back cc6 side_no) (side_kind ce2)
 have hnr:T2[rid]?=none:=none_back hn4 (c_3.weaken fun _ _ _=>trivial)
 have hnp:T2[pid]?=none:=none_back hn7 (cc6.weaken fun _ _ _=>trivial)
 have up:∀ {i:Nat} {k:K} {o:O},T6[i]?=some (k,o)→k≠.ce→T8[i]?=some (k,o):=fun h ne=>c_8.otherK (c_7.keep h) h_8 ne
 have hts:s2.ts=ts':=by rw [hs2]
 have w8:=w_2.chase (m:=f'.count) (c:=⟨co,rid,.int f'.count,xs⟩) (spec:=⟨0,f'.made,0⟩) (pid:=pid) (by omega) cc8 (up hc6 (by decide)) (by rw [hts];exact up hr6 (by decide)) hnr (c_8.otherK h_7 h_8) hnp
  (by rw [hmi,mP];exact up h56 (by decide)) (by rw [hwi,mP];exact up h_6 (by decide)) (by rw [hwi,mP];exact h_8) (by rw [hts];exact hok)
 have hh:s.g.held.length<63:=by have:=w.len;omega
 have tg':=tg.chase (by omega) hh (c:=⟨co,rid,.int f'.count,xs⟩) (specs:=[⟨0,f'.made,0⟩]) (pid:=pid) (Nat.succ_pos _)
 rw [←hfc] at tg'
 subst hs2
 k_ownIn
 exact q _ T8 w8 tg' rfl rfl g1.at_ rfl rfl rfl
set_option maxHeartbeats 2000000 in
theorem sp_newest {n k:Nat} {s:Gs} (hn:5≤n) (w:Mem k s T) (tg:∀ c∈s.cells,∀ p∈s.cm,c.tag=(Tg.ch p.1).s→0<c.specs.length) (hk:k≤300) (hcm:s.cm.length≤900)
  (q:∀ f' hf' ts' (sp:Spec) T',HW s.i f' s.h hf' ts' T'→NGrow s.f f' 2→Grow s.ts ts'→sp.Ok ts'→Chg freshX T T'→Q sp.v T'):Y (CN n 76 [.obj s.i.w] (hpOf T)) Q:=by
 obtain⟨n,rfl,_⟩:=down hn
 refine call_fn (fd:=fd_law_newest) (by rfl) (by rfl) ?_
 show SV _ [some (.obj s.i.w),none,none,none] _ _ _
 unfold fd_law_newest
 have hw:=w.W.bk.w
 unfold WId.obj at hw
 have hce:=w.C.ce
 have hcel:=w.cel
 have hfl:=w.fl
 have made:=w.made
 refine SV.go ?_
 conv=>whnf
 refine HandS.intro (SV.forI (fun j ρ T'=>T'=T∧∃ x y z:Option V,ρ=[some (.obj s.i.w),x,y,z]) ?_)
 k_ownIn
 refine⟨⟨rfl,none,none,none,rfl⟩,?_,?_⟩
 ·rintro j v ρ T' hv ⟨rfl,x,y,z,rfl⟩ ho
  rw [gM] at hv
  obtain⟨c,hc,rfl⟩:=Option.map_eq_some_iff.mp hv
  have hcm':=mG hc
  have hsp:=w.C.spec c hcm'
  refine GetY.mk rfl ?_
  k_ownIn
  refine LenY.list hfl (by rw [lM];unfold limit;omega) ?_
  rw [lM]
  by_cases h0:s.cm=[]
  ·have:s.cm.length=0:=by rw [h0];rfl
   k_ownIn
   exact⟨⟨rfl,_,_,_,rfl⟩,ho⟩
  ·have hpos:0<s.cm.length:=List.length_pos_iff.mpr h0
   obtain⟨p,hp⟩:∃ p,s.cm.getLast?=some p:=by
    cases h:s.cm.getLast? with
    | none=>exact absurd (List.getLast?_eq_none_iff.mp h) h0
    | some p=>exact⟨p,rfl⟩
   have hpm:p∈s.cm:=List.mem_of_getLast? hp
   k_ownIn
   refine⟨fun _=>?_,fun hb=>absurd hb (by simp;omega)⟩
   k_ownIn
   refine IdxY.list hfl (at_last (v:=.str (Tg.ch p.1).s) (by rw [List.getLast?_map,hp];rfl) (by rw [lM];unfold limit;omega)) ?_
   k_ownIn
   refine⟨fun hb=>?_,fun hb=>?_⟩
   ·have e:c.tag=(Tg.ch p.1).s:=by simpa using hb
    have h1:=tg c hcm' p hpm e
    obtain⟨sp,rest,e2⟩:∃ sp rest,c.specs=sp::rest:=by
     cases h:c.specs with
     | nil=>rw [h] at h1;cases h1
     | cons a l=>exact⟨a,l,rfl⟩
    rw [e2] at hsp
    k_ownIn
    refine IdxY.list0 hsp ?_
    k_ownIn
    exact q _ _ _ sp _ w.W (.refl _ _) (.refl _) (w.C.ok c hcm' sp (by rw [e2];exact .head _)) (.refl _ _)
   ·k_ownIn
    exact⟨⟨rfl,_,_,_,rfl⟩,ho⟩
 ·rintro ρ T' ⟨rfl,x,y,z,rfl⟩ ho
  k_ownIn
  refine sp_fresh (z:=0) (by omega) w.W (by omega) fun f' hf' ts' T2 W2 g1 g2 g3 ⟨t,ht,g4,g5⟩ c_2=>?_
  k_ownIn
  exact q f' hf' ts' ⟨0,f'.made,0⟩ T2 W2 g1 g2 ⟨Nat.zero_le _,Nat.zero_le _,fun _=>⟨show 0<4 by decide,t,ht,g4,fun h=>by cases h⟩,fun _=>g3⟩ c_2
theorem TgW.add {count iv r pid:Nat} {g g':MG} {cells:List Ce} {cm:List (Nat×Chs)} {tx:List Nat} {tt:Tg} {specs:List Spec} (t:TgW count iv g cells cm tx) (ok:tt.Ok) (hc:count<64) (e1:g'.chases=g.chases) (e2:g'.frames=g.frames) (n1:∀ m,tt≠.ch m) (n2:∀ f∈g.frames,tt≠.fr f.number)
  (n3:∀ m,count<m→tt≠.fr m) (her':∀ j r',g'.held[j]?=some r'→rowsOf cells (.he (j+1))++(if tt=.he (j+1) then [r] else [])=[r']∧j+1<64) (hew':∀ m,g'.held.length<m→m<64→rowsOf cells (.he m)=[]∧tt≠.he m):TgW count iv g' (cells++[⟨tt.s,specs,r,pid⟩]) cm tx:=by
 obtain⟨chm,chr,chd,che,frr,frd,her,new,hew,hd0⟩:=t
 have key:∀ {t':Tg},t'.Ok→rowsOf (cells++[⟨tt.s,specs,r,pid⟩]) t'=rowsOf cells t'++if tt=t' then [r] else []:=fun h'=>rows_snoc ok h' rfl
 refine⟨e1.trans chm,fun p hp=>?_,chd,fun x hx p hp e=>?_,fun f hf=>?_,by rw [e2];exact frd,fun j r' hj=>?_,fun m h1 h2=>?_,fun m h1 h2=>?_,?_⟩
 ·have:=chr p hp
  rw [key (t':=.ch p.1) (show p.1<64 by omega),if_neg (n1 _),aN]
  exact this
 ·rcases mA.mp hx with hx|hx
  ·exact che x hx p hp e
  ·rw [mS.mp hx] at e
   have:=chr p hp
   exact absurd (Tg.inj ok (show Tg.Ok (.ch p.1) from (show p.1<64 by omega)) e) (n1 _)
 ·rw [e2] at hf
  obtain⟨m,h1,h2,h3⟩:=frr f hf
  refine⟨m,h1,h2,?_⟩
  rw [key (t':=.fr m) (show m<64 by omega),if_neg (by have:=n2 f hf;rwa [show f.number=m by omega] at this),aN];exact h3
 ·have:=her' j r' hj
  rw [key (t':=.he (j+1)) this.2];exact this.1
 ·have:=new m h1 h2
  rw [key (t':=.ch m) h2,key (t':=.fr m) h2,if_neg (n1 _),if_neg (n3 m h1),aN,aN]
  exact this
 ·rw [key (t':=.he m) h2,if_neg (hew' m h1 h2).2,aN];exact (hew' m h1 h2).1
 ·obtain⟨ct,rest,e,h⟩:=hd0
  exact⟨ct,rest++[_],by rw [e];rfl,h⟩
theorem Mem.row {k r:Nat} {s:Gs} {T T':TH} {g':MG} {pend':List Nat} (w:Mem k s T) (c:Chg (ksX [.hes,.fas,.sts,.kt,.ktl]) T T') (hnr:T[r]?=none) (hr:T'[r]?=some (.real,.list [])) (hp:(rootsW s.mi g'++pend').Perm (rootsW s.mi s.g++s.pend++[r]))
  (hM:∀ hd,MW s.i.m s.mi s.h.hp hd s.g T→MW s.i.m s.mi s.h.hp hd g' T') (hkt:KTW s.mi.kt g'.fails.length T') (hfk:g'.fails.map (·.1)=(List.range g'.fails.length).map fun j=>((20+j:Nat):Int)) (hl:g'.frames.length≤k+1∧g'.chases.length≤k+1∧g'.fails.length≤k+1∧3*g'.held.length≤k+1):Mem (k+1) {s with g:=g',pend:=pend',ex:=s.ex++[r]} T':=by
 have fr:=w.free hnr
 obtain⟨W,C,⟨hd,M,H⟩,perm,exs,nd,rdy,swp,scr,fl,txd,txs,txn,kt,fks,made,at_,cnt,cel,len⟩:=w
 have e:s.cells.map Ce.rid++(s.ex++[r])=(s.cells.map Ce.rid++s.ex)++[r]:=(aA ..).symm
 refine⟨W.chg c (fun _=>⟨nk,nk,nk,nk,nk⟩) (fun _=>⟨nk,nk,nk,nk,nk,nk⟩) (fun _=>⟨nk,nk⟩) nk,C.grow (.refl _) c fun _=>⟨nk,nk,nk⟩,⟨hd,hM hd M,by
  rcases H with H|⟨a,b,e,h⟩
  ·exact .inl H
  ·exact .inr ⟨a,b,e,h.chg c fun _=>⟨nk,nk⟩⟩⟩,?_,fun x hx=>?_,?_,?_,c.get swp nk,⟨c.get scr.at_ nk,scr.len⟩,c.get fl nk,c.get txd nk,c.get txs nk,txn,hkt,hfk,by show s.f.made≤_;omega,by show s.f.at_≤_;omega,by show 3*s.f.count≤_;omega,by show s.cells.length≤_;omega,hl⟩
 ·show (_:List Nat).Perm (s.cells.map Ce.rid++(s.ex++[r]));rw [e];exact hp.trans (List.Perm.append_right _ perm)
 ·rcases mA.mp hx with hx|hx
  ·exact c.get (exs x hx) nk
  ·rw [mS.mp hx];exact hr
 ·show (s.cells.map Ce.rid++(s.ex++[r])).Nodup
  rw [e]
  exact nD.mpr ⟨nd,by simp,fun a ha b hb q=>fr.1 (by rw [←mS.mp hb,←q];exact ha)⟩
 ·show s.h.rdy∉s.cells.map Ce.rid++(s.ex++[r])
  rw [e];intro q
  rcases mA.mp q with q|q
  ·exact rdy q
  ·exact fr.2.1 (mS.mp q).symm
theorem wld_fill {n k z r:Nat} {s:Gs} {tt:Tg} {fs:List Nat} (hn:5≤n) (w:Mem k s T) (hk:k≤300) (hr:r∈s.ex) (hfs:∀ x∈fs,x≤6) (hfl:0<fs.length∧fs.length≤10)
  (q:∀ f' hf' ts' specs pid T',Mem (k+1) {s with f:=f',hf:=hf',ts:=ts',cells:=s.cells++[⟨tt.s,specs,r,pid⟩],ex:=s.ex.erase r} T'→NGrow s.f f' 4→Chg (fillX r s.i.ce) T T'→Q .none T'):Y (CN n 74 [.obj s.i.w,.str tt.s,.obj r,.int z,.tup (fs.map fun x:Nat=>.int (x:Int))] (hpOf T)) Q:=by
 have made:=w.made
 have cel:=w.cel
 have hnd:=(nD.mp w.nd).2.2
 refine sp_fill hn w.W w.C (by omega) (by omega) (w.exs r hr) (fun q=>hnd _ q _ hr rfl) (fun q=>w.rdy (q▸mR _ hr)) hfs hfl fun f' hf' ts' specs pid T' W' C' g1 g2 g3 c=>?_
 exact q f' hf' ts' specs pid T' (w.add hr W' C' g1 (by omega) c) g1 c
theorem roots_held {mi:MId} {g:MG} {r:Nat}:(rootsW mi {g with held:=g.held++[r]}).Perm (rootsW mi g++[r]):=by
 unfold rootsW
 show (g.frames.flatMap Fr.rows++g.statics.map (·.2)++g.chases.map Chs.rid++[mi.iv]++(g.held++[r])++g.fails.map (·.2)++[mi.un]).Perm _
 generalize g.frames.flatMap Fr.rows++g.statics.map (·.2)++g.chases.map Chs.rid++[mi.iv]=A
 generalize g.held=D
 generalize g.fails.map (·.2)=E
 simp only [aA]
 refine List.Perm.append_left _ (List.Perm.append_left _ ?_)
 refine (pS r _).symm.trans ?_
 exact List.Perm.of_eq (by simp)
theorem erase_last {l:List Nat} {r:Nat} (h:r∉l):(l++[r]).erase r=l:=by
 rw [List.erase_append_right _ h,List.erase_cons_head,aN]
set_option maxHeartbeats 2000000 in
theorem sp_hold {n k0 k z:Nat} {s:Gs} (hn:6≤n) (hk0:k0+2=k) (w0:Mem k0 s T) (tg:s.Tgs) (hk:k≤166)
  (q:∀ s' T',Mem (k+2) s' T'→s'.Tgs→s'.i=s.i→s'.mi=s.mi→s'.f.at_=s.f.at_→s'.pend=s.pend→(s'.ex=s.ex)→s'.g.statics=s.g.statics→Q .none T'):Y (CN n 80 [.obj s.i.w,.int z] (hpOf T)) Q:=by
 obtain⟨n,rfl,_⟩:=down hn
 have cnt0:=w0.cnt
 have len0:=w0.len
 have w:=w0.mono (show k0≤k by omega)
 refine call_fn (fd:=fd_law_hold) (by rfl) (by rfl) ?_
 show SV _ [some (.obj s.i.w),some (.int z)] _ _ _
 unfold fd_law_hold
 have hw:=w.W.bk.w
 unfold WId.obj at hw
 obtain⟨hd,M,H⟩:=w.M
 have mm:=M.m
 unfold MId.obj at mm
 have hes:=M.hes
 have hlen:=w.len
 k_ownIn
 refine AnyK.mk .real ?_
 k_ownIn
 rename_i r T1 hn_1 h_1 c_1
 refine⟨by rw [lM];unfold limit;omega,?_⟩
 refine PutY.intro ?_
 intro T2 h_2 c_2
 have cc:Chg (ksX [.hes,.fas,.sts,.kt,.ktl]) T T2:=c_2.back (c_1.weaken fun _ _ q=>q.elim) (side_kind hes)
 have hr2:=c_2.otherK h_1 h_2
 have e1:(s.g.held++[r]).length=s.g.held.length+1:=lA
 have w_2:Mem (k+1) {s with g:={s.g with held:=s.g.held++[r]},ex:=s.ex++[r]} T2:=w.row (pend':=s.pend) cc hn_1 hr2 (by
   have:=List.Perm.append_right s.pend (roots_held (mi:=s.mi) (g:=s.g) (r:=r))
   refine this.trans ?_
   rw [aA,aA]
   exact List.Perm.append_left _ (List.perm_append_comm))
  (fun hd M=>⟨cc.get M.m nk,cc.get M.frs nk,fun f hf=>cc.get (M.fr f hf) nk,cc.get M.chs nk,fun x hx=>cc.get (M.ch x hx) nk,c_2.otherK (c_1.keep M.sts) h_2,c_2.otherK (c_1.keep M.fas) h_2,by show _=some (K.hes,O.list ((s.g.held++[r]).map .obj));rw [mP];exact h_2,M.fk,by
   have:=M.len
   show s.g.frames.length≤1000∧s.g.chases.length≤1000∧s.g.fails.length≤1000∧(s.g.held++[r]).length≤1000
   omega⟩)
  (by
   obtain⟨ro,ix,de,we,op,rl,il,dl,wl,ol,k1,k2,k3,k4,k5,k6,k7,k8⟩:=w.kt.ex
   exact⟨ro,ix,de,we,op,rl,il,dl,wl,ol,c_2.otherK (c_1.keep k1) h_2,k2,c_2.otherK (c_1.keep k3) h_2,c_2.otherK (c_1.keep k4) h_2,c_2.otherK (c_1.keep k5) h_2,c_2.otherK (c_1.keep k6) h_2,c_2.otherK (c_1.keep k7) h_2,k8⟩)
  w.fks (by show s.g.frames.length≤k+1∧s.g.chases.length≤k+1∧s.g.fails.length≤k+1∧3*(s.g.held++[r]).length≤k+1;omega)
 have hw_2:=w_2.W.bk.w
 unfold WId.obj at hw_2
 obtain⟨hd_2,M2,H2⟩:=w_2.M
 have mm2:=M2.m
 unfold MId.obj at mm2
 have hml:(List.map V.obj s.g.held++[V.obj r]).length=s.g.held.length+1:=by rw [lA,lM];rfl
 k_ownIn
 refine LenY.list h_2 (by rw [hml];unfold limit;omega) ?_
 rw [hml]
 k_ownIn
 refine⟨by omega,?_⟩
 refine BinY.tag (by omega) (by decide) ?_
 k_ownIn
 refine IdxY.list h_2 (at_last (v:=.obj r) (by simp) (by rw [hml];unfold limit;omega)) ?_
 k_ownIn
 have hcnt:=w.cnt
 have hrx:r∉s.ex:=fun q=>(w.free hn_1).1 (mR _ q)
 refine wld_fill (k:=k+1) (s:={s with g:={s.g with held:=s.g.held++[r]},ex:=s.ex++[r]}) (tt:=.he (s.g.held.length+1)) (fs:=[0,1,2,3,4,5,6]) (r:=r) (by omega) w_2 (by omega) (mR _ (mS.mpr rfl)) (by decide) (by decide) fun f' hf' ts' specs pid T3 w_3 g1 c_3=>?_
 have tg':TgW s.f.count s.mi.iv {s.g with held:=s.g.held++[r]} (s.cells++[⟨(Tg.he (s.g.held.length+1)).s,specs,r,pid⟩]) s.cm s.tx:=by
  refine tg.add (show s.g.held.length+1<64 by omega) (by omega) rfl rfl (fun m q=>by cases q) (fun f hf q=>by cases q) (fun m _ q=>by cases q) (fun j r' hj=>?_) (fun m h1 h2=>?_)
  ·have hj:(s.g.held++[r])[j]?=some r':=hj
   have hjl:=(gS.mp hj).1
   refine⟨?_,by omega⟩
   rcases Nat.lt_or_ge j s.g.held.length with q|q
   ·rw [gL q] at hj
    rw [if_neg (fun e=>by have:=Tg.he.inj e;omega),aN]
    exact tg.her j r' hj
   ·have:j=s.g.held.length:=by omega
    subst this
    rw [gR (Nat.le_refl _),Nat.sub_self] at hj
    have hj:r=r':=by simpa using hj
    rw [if_pos rfl,tg.hew _ (Nat.lt_succ_self _) (by omega),hj];rfl
  ·have h1:(s.g.held++[r]).length<m:=h1
   exact⟨tg.hew m (by omega) h2,fun e=>by have:=Tg.he.inj e;omega⟩
 have hfc:f'.count=s.f.count:=g1.count
 rw [←hfc] at tg'
 k_ownIn
 exact q _ T3 w_3 tg' rfl rfl g1.at_ rfl (erase_last hrx) rfl
section
variable {C:CallFn} {ρ:Rho} {T:TH} {a b c:E}
theorem EV.get2t {Q:V→TH→Prop} (h:EV C ρ a T fun y T=>ObjY y fun o=>∃ k l,T[o]?=some (k,.dt l)∧EV C ρ b T fun j T=>EV C ρ c T fun d T=>∃ k key l,NKey.ofV j=some key∧T[o]?=some (k,.dt l)∧Q ((dget l key).getD d) T):EV C ρ (.get2 a b c) T Q:=by
 simp only [EV,EVs,evalE] at *
 refine .bnd (h.mono ?_);rintro x T1 ⟨o,rfl,k,fs,e,h⟩
 simp only [asObj,asDict,hp_get e]
 refine .bnd (h.mono ?_);rintro v T2 h
 refine .bnd (h.mono ?_);rintro d T3 ⟨k,key,l,e1,e,h⟩
 simp only [hp_get e,e1,asSome]
 exact .pure h
theorem EV.get2s {Q:V→TH→Prop} (h:EV C ρ a T fun y T=>ObjY y fun o=>∃ k l,T[o]?=some (k,.ds l)∧EV C ρ b T fun j T=>EV C ρ c T fun d T=>∃ k key l,j=.str key∧T[o]?=some (k,.ds l)∧Q ((dget l key).getD d) T):EV C ρ (.get2 a b c) T Q:=by
 simp only [EV,EVs,evalE] at *
 refine .bnd (h.mono ?_);rintro x T1 ⟨o,rfl,k,fs,e,h⟩
 simp only [asObj,asDict,hp_get e]
 refine .bnd (h.mono ?_);rintro v T2 h
 refine .bnd (h.mono ?_);rintro d T3 ⟨k,key,l,rfl,e,h⟩
 simp only [hp_get e]
 exact .pure h
end
theorem IdxPut.dt {o:Nat} {x v:V} {Q:TH→Prop} {k:K} {l:List (NKey×V)} {key:NKey} (e:T[o]?=some (k,.dt l)) (hk:NKey.ofV x=some key) (hi:l.length<limit) (h:PutY T o k (.dt (dput l key v)) Q):IdxPut T o x v Q:=by
 refine⟨T.set o (k,.dt (dput l key v)),?_,h.go e⟩
 unfold putIdx
 rw [hp_get e,←hp_set]
 simp [hk,asSome,guardB,hi]
theorem IdxPut.ds {o:Nat} {x:Str} {v:V} {Q:TH→Prop} {k:K} {l:List (Str×V)} (e:T[o]?=some (k,.ds l)) (hi:l.length<limit) (h:PutY T o k (.ds (dput l x v)) Q):IdxPut T o (.str x) v Q:=by
 refine⟨T.set o (k,.ds (dput l x v)),?_,h.go e⟩
 unfold putIdx
 rw [hp_get e,←hp_set]
 simp [guardB,hi]
theorem dput_none {α:Type} [DecidableEq α]:∀ {l:List (α×V)} {k:α} {v:V},dget l k=none→dput l k v=l++[(k,v)]
 | [],_,_,_=>rfl
 | p::r,k,v,h=>by
  unfold dget at h
  by_cases q:p.1=k
  ·rw [if_pos q] at h;cases h
  ·rw [if_neg q] at h
   unfold dput
   rw [if_neg q,dput_none h];rfl
theorem dget_app' {α:Type} [DecidableEq α] {l:List (α×V)} {k k':α} {v:V} (h:k'≠k):dget (l++[(k,v)]) k'=dget l k':=by
 induction l with
 | nil=>simp [dget,Ne.symm h]
 | cons p r ih =>
  show dget (p::(r++[(k,v)])) k'=dget (p::r) k'
  unfold dget
  split
  ·rfl
  ·exact ih
theorem sp_inner {n x sx:Nat} {T:TH} {Q:V→TH→Prop} (hn:1≤n) (hs:sx=2∨sx=3) (k:Q (.tup []) T):Y (CN n 11 [.tup [.int (sx:Int),.int (x:Int),.tup []]] (hpOf T)) Q:=by
 obtain⟨n,rfl,_⟩:=down hn
 refine call_fn (fd:=fd_inner_kinds) (by rfl) (by rfl) ?_
 show SV _ [some (.tup [.int (sx:Int),.int (x:Int),.tup []]),none] _ _ _
 unfold fd_inner_kinds
 rcases hs with rfl|rfl<;>(k_ownIn;exact k)
theorem sp_level {n sx:Nat} (hn:1≤n) (hs:sx=2∨sx=3) (k:Q (.int 1) T):Y (CN n 12 [.int (sx:Int)] (hpOf T)) Q:=by
 obtain⟨n,rfl,_⟩:=down hn
 refine call_fn (fd:=fd_row_level) (by rfl) (by rfl) ?_
 show SV _ [some (.int (sx:Int))] _ _ _
 unfold fd_row_level
 rcases hs with rfl|rfl<;>(k_ownIn;exact k)
theorem sp_rowlen {n sx:Nat} {T:TH} {Q:V→TH→Prop} (hn:1≤n) (hs:sx=2∨sx=3) (k:Q (.int 3) T):Y (CN n 13 [.int (sx:Int)] (hpOf T)) Q:=by
 obtain⟨n,rfl,_⟩:=down hn
 refine call_fn (fd:=fd_row_length) (by rfl) (by rfl) ?_
 show SV _ [some (.int (sx:Int))] _ _ _
 unfold fd_row_length
 rcases hs with rfl|rfl<;>(k_ownIn;exact k)
theorem sp_ckargs {kt:V} (hn:1≤n) (k:Q .none T):Y (CN n 16 [kt,.tup []] (hpOf T)) Q:=by
 obtain⟨n,rfl,_⟩:=down hn
 refine call_fn (fd:=fd_check_args) (by rfl) (by rfl) ?_
 show SV _ [some kt,some (.tup []),none] _ _ _
 unfold fd_check_args
 k_ownIn
 refine HandS.intro (SV.forE ?_)
 k_ownIn
 refine⟨rfl,?_⟩
 k_ownIn
 exact k
theorem in_tid {x:Nat} (h:64≤x):([20,9,10,11,12,13,14,15,16,17,18,19,1,4]:List Int).contains (x:Int)=false:=by
 rw [List.contains_eq_any_beq]
 simp
 omega
theorem sp_cknamed {n x sx:Nat} {kt:V} {T:TH} {Q:V→TH→Prop} (hn:2≤n) (hx:64≤x) (k:Q .none T):Y (CN n 15 [kt,.tup [.int (sx:Int),.int (x:Int),.tup []]] (hpOf T)) Q:=by
 obtain⟨n,rfl,_⟩:=down hn
 refine call_fn (fd:=fd_check_named) (by rfl) (by rfl) ?_
 show SV _ [some kt,some (.tup [.int (sx:Int),.int (x:Int),.tup []])] _ _ _
 unfold fd_check_named
 k_ownIn
 refine sp_ckargs (by omega) ?_
 k_ownIn
 exact k
theorem sp_ckrow {n x sx:Nat} {kt:V} (hn:3≤n) (hs:sx=2∨sx=3) (hx:64≤x) (k:Q .none T):Y (CN n 14 [kt,.tup [.int (sx:Int),.int (x:Int),.tup []]] (hpOf T)) Q:=by
 obtain⟨n,rfl,_⟩:=down hn
 refine call_fn (fd:=fd_check_kind_row) (by rfl) (by rfl) ?_
 show SV _ [some kt,some (.tup [.int (sx:Int),.int (x:Int),.tup []]),none,none] _ _ _
 unfold fd_check_kind_row
 have h1:=@sp_rowlen n sx
 have h2:=@sp_inner n x sx
 have h3:=@sp_cknamed n x sx kt
 rcases hs with rfl|rfl
 ·k_ownIn
  refine h1 (by omega) (.inl rfl) ?_
  k_ownIn
  refine HandS.intro (SV.forE ?_)
  k_ownIn
  refine h2 (by omega) (.inl rfl) ⟨rfl,?_⟩
  k_ownIn
  refine h3 (by omega) hx ?_
  k_ownIn
  exact k
 ·k_ownIn
  refine h1 (by omega) (.inr rfl) ?_
  k_ownIn
  refine HandS.intro (SV.forE ?_)
  k_ownIn
  refine h2 (by omega) (.inr rfl) ⟨rfl,?_⟩
  k_ownIn
  refine h3 (by omega) hx ?_
  k_ownIn
  exact k
set_option maxHeartbeats 2000000 in
theorem sp_ktput {n kt len x0 x sx:Nat} (hn:4≤n) (hs:sx=2∨sx=3) (hx:64≤x) (h0:x0≤x) (hl:len≤1000) (h:KTL kt len x0 T) (k:∀ T',KTL kt (len+1) (x+1) T'→Chg (ksX [.ktl]) T T'→Q (.int (len:Nat)) T'):Y (CN n 10 [.obj kt,.tup [.int (sx:Int),.int (x:Int),.tup []]] (hpOf T)) Q:=by
 obtain⟨n,rfl,_⟩:=down hn
 obtain⟨ro,ix,de,we,op,rl,il,dl,wl,ol,h1,hnd,h2,h3,h4,h5,h6,l1,l2,l3,l4,l5,hg⟩:=h.ex
 have hg':=hg sx x h0
 refine call_fn (fd:=fd_KindTable_put) (by rfl) (by rfl) ?_
 show SV _ [some (.obj kt),some (.tup [.int (sx:Int),.int (x:Int),.tup []]),none,none,none,none,none,none,none] _ _ _
 unfold fd_KindTable_put
 k_ownIn
 refine HandE.intro (EV.get2t ?_)
 k_ownIn
 refine⟨_,_,h3,?_⟩
 k_ownIn
 refine⟨_,_,_,rfl,h3,?_⟩
 rw [hg']
 k_ownIn
 refine sp_ckrow (by omega) hs hx ?_
 k_ownIn
 refine sp_level (by omega) hs ?_
 k_ownIn
 refine HandS.intro (SV.forE ?_)
 k_ownIn
 refine sp_inner (by omega) hs ⟨rfl,?_⟩
 k_ownIn
 refine LenY.list h2 (by unfold limit;omega) ?_
 rw [l1]
 k_ownIn
 refine⟨by unfold limit;omega,?_⟩
 refine PutY.intro ?_
 intro T1 g1 c_1
 simp only [nC,mK,not_or,nM,not_false_iff,List.nodup_nil,and_true] at hnd
 obtain⟨⟨n12,n13,n14,n15⟩,⟨n23,n24,n25⟩,⟨n34,n35⟩,n45⟩:=hnd
 have kt1:=c_1.otherK h1 g1
 have ix1:=c_1.other h3 (Ne.symm n12)
 have de1:=c_1.other h4 (Ne.symm n13)
 have we1:=c_1.other h5 (Ne.symm n14)
 have op1:=c_1.other h6 (Ne.symm n15)
 k_ownIn
 refine IdxPut.dt ix1 rfl (by unfold limit;omega) ?_
 refine PutY.intro ?_
 intro T2 g2 c_2
 have kt2:=c_2.otherK kt1 g2
 have ro2:=c_2.other g1 n12
 have de2:=c_2.other de1 (Ne.symm n23)
 have we2:=c_2.other we1 (Ne.symm n24)
 have op2:=c_2.other op1 (Ne.symm n25)
 k_ownIn
 refine⟨by unfold limit;omega,?_⟩
 refine PutY.intro ?_
 intro T3 g3 c_3
 have kt3:=c_3.otherK kt2 g3
 have ro3:=c_3.other ro2 n13
 have ix3:=c_3.other g2 n23
 have we3:=c_3.other we2 (Ne.symm n34)
 have op3:=c_3.other op2 (Ne.symm n35)
 k_ownIn
 refine⟨by unfold limit;omega,?_⟩
 refine PutY.intro ?_
 intro T4 g4 c4
 have kt4:=c4.otherK kt3 g4
 have ro4:=c4.other ro3 n14
 have ix4:=c4.other ix3 n24
 have de4:=c4.other g3 n34
 have op4:=c4.other op3 (Ne.symm n45)
 k_ownIn
 refine⟨by unfold limit;omega,?_⟩
 refine PutY.intro ?_
 intro T5 g5 c_5
 have kt5:=c_5.otherK kt4 g5
 have ro5:=c_5.other ro4 n15
 have ix5:=c_5.other ix4 n25
 have de5:=c_5.other de4 n35
 have we5:=c_5.other g4 n45
 k_ownIn
 rw [dput_none hg'] at ix5
 refine k T5 ⟨ro,ix,de,we,op,_,_,_,_,_,kt5,by simp [n12,n13,n14,n15,n23,n24,n25,n34,n35,n45],ro5,ix5,de5,we5,g5,?_,?_,?_,?_,?_,fun sx' x' hx'=>?_⟩ ?_
 ·rw [lA,l1];rfl
 ·rw [lA,l2];rfl
 ·rw [lA,l3];rfl
 ·rw [lA,l4];rfl
 ·rw [lA,l5];rfl
 ·rw [dget_app' (by intro e;cases e;omega)];exact hg sx' x' (by omega)
 ·exact c_5.back (c4.back (c_3.back (c_2.back (c_1.back (.refl _ _) (side_kind h2)) (side_kind h3)) (side_kind h4)) (side_kind h5)) (side_kind h6)
theorem sp_class {n kt len x0 x:Nat} (hn:5≤n) (hx:64≤x) (h0:x0≤x) (hl:len≤1000) (h:KTL kt len x0 T) (k:∀ T',KTL kt (len+1) (x+1) T'→Chg (ksX [.ktl]) T T'→Q (.int (len:Nat)) T'):Y (CN n 17 [.obj kt,.int (x:Int),.tup []] (hpOf T)) Q:=by
 obtain⟨n,rfl,_⟩:=down hn
 obtain⟨ro,ix,de,we,op,rl,il,dl,wl,ol,h1,_⟩:=h.ex
 refine call_fn (fd:=fd_class_kind) (by rfl) (by rfl) ?_
 show SV _ [some (.obj kt),some (.int (x:Int)),some (.tup [])] _ _ _
 unfold fd_class_kind
 k_ownIn
 refine sp_ktput (sx:=2) (by omega) (.inl rfl) hx h0 hl h fun T' h' c'=>?_
 k_ownIn
 exact k T' h' c'
theorem sp_valk {n kt len x0 x:Nat} (hn:5≤n) (hx:64≤x) (h0:x0≤x) (hl:len≤1000) (h:KTL kt len x0 T) (k:∀ T',KTL kt (len+1) (x+1) T'→Chg (ksX [.ktl]) T T'→Q (.int (len:Nat)) T'):Y (CN n 18 [.obj kt,.int (x:Int),.tup []] (hpOf T)) Q:=by
 obtain⟨n,rfl,_⟩:=down hn
 obtain⟨ro,ix,de,we,op,rl,il,dl,wl,ol,h1,_⟩:=h.ex
 refine call_fn (fd:=fd_value_kind) (by rfl) (by rfl) ?_
 show SV _ [some (.obj kt),some (.int (x:Int)),some (.tup [])] _ _ _
 unfold fd_value_kind
 k_ownIn
 refine sp_ktput (sx:=3) (by omega) (.inr rfl) hx h0 hl h fun T' h' c'=>?_
 k_ownIn
 exact k T' h' c'
theorem roots_fail {mi:MId} {g:MG} {j:Int} {r:Nat}:(rootsW mi {g with fails:=g.fails++[(j,r)]}).Perm (rootsW mi g++[r]):=by
 unfold rootsW
 show (g.frames.flatMap Fr.rows++g.statics.map (·.2)++g.chases.map Chs.rid++[mi.iv]++g.held++(g.fails++[(j,r)]).map (·.2)++[mi.un]).Perm _
 rw [mP]
 generalize g.frames.flatMap Fr.rows++g.statics.map (·.2)++g.chases.map Chs.rid++[mi.iv]++g.held=A
 generalize g.fails.map (·.2)=E
 simp only [aA]
 refine List.Perm.append_left _ (List.Perm.append_left _ ?_)
 exact List.perm_append_comm
theorem fails_new {l:List (Int×Nat)} (h:l.map (·.1)=(List.range l.length).map fun j=>((20+j:Nat):Int)):∀ p∈l,p.1<((20+l.length:Nat):Int):=by
 intro p hp
 have:p.1∈l.map (·.1):=mO hp
 rw [h] at this
 obtain⟨j,hj,e⟩:=mM.mp this
 have:=List.mem_range.mp hj
 omega
theorem wld_put {n k r pid:Nat} {s:Gs} {tt:Tg} {specs:List Spec} (hn:2≤n) (w:Mem k s T) (hk:k≤300) (hr:r∈s.ex) (hp:T[pid]?=some (.cspec,.list (specs.map Spec.v))) (hok:∀ x∈specs,x.Ok s.ts) (hl:specs.length≤10) (hpn:pid∉s.cells.map Ce.pid)
  (q:∀ T',Mem (k+1) {s with cells:=s.cells++[⟨tt.s,specs,r,pid⟩],ex:=s.ex.erase r} T'→Chg (rowX1 r s.i.ce) T T'→Q .none T'):Y (CN n 73 [.obj s.i.w,.str tt.s,.obj r,.obj pid] (hpOf T)) Q:=by
 have cel:=w.cel
 have hnd:=(nD.mp w.nd).2.2
 refine sp_lput hn w.W w.C (by omega) (w.exs r hr) hp hok hl (fun q=>hnd _ q _ hr rfl) hpn (fun q=>w.rdy (q▸mR _ hr)) fun T' W' C' c=>?_
 exact q T' (w.add (m:=0) hr W' C' (.refl _ _) (by omega) (c.weaken fun _ _ q=>.inr q)) c
set_option maxHeartbeats 2000000 in
theorem sp_failD {n k z:Nat} {s:Gs} (hn:7≤n) (w:Mem k s T) (tg:s.Tgs) (hk:k≤166)
  (q:∀ s' T',Mem (k+3) s' T'→s'.Tgs→s'.i=s.i→s'.mi=s.mi→s'.f.at_=s.f.at_→s'.pend=s.pend→(s'.ex=s.ex)→s'.g.statics=s.g.statics→Q .none T'):Y (CN n 79 [.obj s.i.w,.int z] (hpOf T)) Q:=by
 obtain⟨n,rfl,_⟩:=down hn
 refine call_fn (fd:=fd_law_fail) (by rfl) (by rfl) ?_
 show SV _ [some (.obj s.i.w),some (.int z),none,none] _ _ _
 unfold fd_law_fail
 have hw:=w.W.bk.w
 unfold WId.obj at hw
 obtain⟨hd,M,H⟩:=w.M
 have mm:=M.m
 unfold MId.obj at mm
 have fas:=M.fas
 have hlen:=w.len
 have hdl:(diOf s.g.fails).length=s.g.fails.length:=lM _
 k_ownIn
 refine LenY.di fas (by rw [hdl];unfold limit;omega) ?_
 rw [hdl]
 k_ownIn
 refine sp_class (x:=70+s.g.fails.length) (by omega) (show 64≤70+s.g.fails.length by omega) (Nat.le_refl _) (by omega) w.kt fun T1 kt1 c_1=>?_
 have fas1:=c_1.get fas nk
 have mm1:=c_1.get mm nk
 have hw_1:=c_1.get hw nk
 k_ownIn
 refine AnyK.mk .real ?_
 k_ownIn
 rename_i r T2 hn_2 h_2 c_2
 have fas2:=c_2.keep fas1
 have hnew:=fails_new w.fks
 refine IdxPut.di fas2 (by rw [hdl];unfold limit;omega) ?_
 rw [dput_new (by
  intro p hp
  obtain⟨x,hx,rfl⟩:=mM.mp hp
  have:=hnew x hx
  show x.1≠_
  omega)]
 refine PutY.intro ?_
 intro T3 h_3 c_3
 have cc1:Chg (ksX [.hes,.fas,.sts,.kt,.ktl]) T T1:=c_1.weaken fun _ k' q=>(by
  have q:k'∈[K.ktl]:=q
  rw [mS] at q;rw [q];exact (by decide:K.ktl∈([.hes,.fas,.sts,.kt,.ktl]:List K)))
 have cc:Chg (ksX [.hes,.fas,.sts,.kt,.ktl]) T T3:=c_3.back (c_2.back cc1 side_no) (side_kind fas)
 have hr3:=c_3.otherK h_2 h_3
 have hnr:T[r]?=none:=none_back hn_2 (c_1.weaken fun _ _ _=>trivial)
 let j:Int:=((20+s.g.fails.length:Nat):Int)
 have e1:(s.g.fails++[(j,r)]).length=s.g.fails.length+1:=lA
 have e2:diOf (s.g.fails++[(j,r)])=diOf s.g.fails++[(j,.obj r)]:=mP
 have kt3:KTL s.mi.kt (20+s.g.fails.length+1) (70+s.g.fails.length+1) T3:=by
  have k2:=kt1.chg c_2 fun _=>⟨id,id⟩
  obtain⟨ro,ix,de,we,op,rl,il,dl,wl,ol,k1,k2,k3,k4,k5,k6,k7,k8⟩:=k2.ex
  exact⟨ro,ix,de,we,op,rl,il,dl,wl,ol,c_3.otherK k1 h_3,k2,c_3.otherK k3 h_3,c_3.otherK k4 h_3,c_3.otherK k5 h_3,c_3.otherK k6 h_3,c_3.otherK k7 h_3,k8⟩
 have w_3:Mem (k+1) {s with g:={s.g with fails:=s.g.fails++[(j,r)]},ex:=s.ex++[r]} T3:=w.row (pend':=s.pend) cc hnr hr3 (by
   have:=List.Perm.append_right s.pend (roots_fail (mi:=s.mi) (g:=s.g) (j:=j) (r:=r))
   refine this.trans ?_
   rw [aA,aA]
   exact List.Perm.append_left _ (List.perm_append_comm))
  (fun hd M=>⟨cc.get M.m nk,cc.get M.frs nk,fun f hf=>cc.get (M.fr f hf) nk,cc.get M.chs nk,fun x hx=>cc.get (M.ch x hx) nk,c_3.otherK (c_2.keep (c_1.get M.sts nk)) h_3,by rw [e2];exact h_3,c_3.otherK (c_2.keep (c_1.get M.hes nk)) h_3,by
   refine List.pairwise_append.mpr ⟨M.fk,List.pairwise_singleton ..,fun x hx y hy=>?_⟩
   rw [mS.mp hy];exact hnew x hx,by
   have:=M.len
   show s.g.frames.length≤1000∧s.g.chases.length≤1000∧(s.g.fails++[(j,r)]).length≤1000∧s.g.held.length≤1000
   omega⟩)
  (by
   show KTL s.mi.kt (20+(s.g.fails++[(j,r)]).length) (70+(s.g.fails++[(j,r)]).length) T3
   rw [e1];exact kt3)
  (by
   show (s.g.fails++[(j,r)]).map (·.1)=(List.range (s.g.fails++[(j,r)]).length).map _
   rw [e1,mP,w.fks,List.range_succ,mP];rfl) (by show s.g.frames.length≤k+1∧s.g.chases.length≤k+1∧(s.g.fails++[(j,r)]).length≤k+1∧3*s.g.held.length≤k+1;omega)
 have hw_3:=w_3.W.bk.w
 unfold WId.obj at hw_3
 obtain⟨hd3,M3,H3⟩:=w_3.M
 have mm3:=M3.m
 unfold MId.obj at mm3
 have made:=w.made
 k_ownIn
 refine IdxY.di h_3 (dget_new (v:=.obj r) fun p hp=>?_) ?_
 ·obtain⟨x,hx,rfl⟩:=mM.mp hp
  have:=hnew x hx
  show x.1≠_
  omega
 k_ownIn
 refine AnyK.mk .cspec ?_
 k_ownIn
 refine sp_fresh (by omega) w_3.W (by show s.f.made≤_;omega) fun f' hf' ts' T4 W4 g1 g2 g3 ⟨t,ht,g4,g5⟩ c4=>?_
 have w_4:=w_3.fresh W4 g1 (by omega) g2 c4
 k_ownIn
 rename_i pid T5 hn5 h_5 c_5
 have w_5:=w_4.chg0 c_5
 have hrx:r∉s.ex:=fun q=>(w.free hnr).1 (mR _ q)
 have hok:Spec.Ok ⟨0,f'.made,0⟩ ts':=⟨Nat.zero_le _,Nat.zero_le _,fun _=>⟨show 0<4 by decide,t,ht,g4,fun h=>by cases h⟩,fun _=>g3⟩
 refine wld_put (k:=k+2) (s:={s with f:=f',hf:=hf',ts:=ts',g:={s.g with fails:=s.g.fails++[(j,r)]},ex:=s.ex++[r]}) (tt:=.fa) (specs:=[⟨0,f'.made,0⟩]) (by omega) w_5 (by omega) (mR _ (mS.mpr rfl)) h_5 (fun x hx=>by rw [mS.mp hx];exact hok) (by show 1≤10;decide) (w_4.free hn5).2.2 fun T6 w_6 c_6=>?_
 have hcnt:=w.cnt
 have tg':TgW s.f.count s.mi.iv {s.g with fails:=s.g.fails++[(j,r)]} (s.cells++[⟨(Tg.fa).s,[⟨0,f'.made,0⟩],r,pid⟩]) s.cm s.tx:=by
  refine tg.add trivial (by omega) rfl rfl (fun m q=>by cases q) (fun f hf q=>by cases q) (fun m _ q=>by cases q) (fun j r' hj=>?_) (fun m h1 h2=>⟨tg.hew m h1 h2,fun e=>by cases e⟩)
  have hjl:j<s.g.held.length:=(gS.mp hj).1
  refine⟨?_,by omega⟩
  rw [if_neg (fun e=>by cases e),aN]
  exact tg.her j r' hj
 have hfc:f'.count=s.f.count:=g1.count
 rw [←hfc] at tg'
 k_ownIn
 exact q _ T6 w_6 tg' rfl rfl g1.at_ rfl (erase_last hrx) rfl
set_option maxHeartbeats 4000000 in
theorem sp_Frame {n fo num args:Nat} {mref body sort:V} (hn:1≤n) (h0:T[fo]?=some (.fr,.inst 6 [])) (k:∀ lo st kp cv xs T',T[lo]?=none→T[st]?=none→T[kp]?=none→T[cv]?=none→[lo,st,kp,cv].Nodup→T'[lo]?=some (.real,.list [])→T'[st]?=some (.real,.list [])→T'[kp]?=some (.real,.list [])→T'[cv]?=some (.real,.list [])→T'[fo]?=some (.fr,Fr.obj ⟨fo,num,num,args,lo,st,kp,cv,xs⟩)→Chg (oneX fo) T T'→Q .none T'):Y (CN n 57 [.obj fo,.int (num:Int),mref,body,.obj args,sort] (hpOf T)) Q:=by
 obtain⟨n,rfl,_⟩:=down hn
 refine call_fn (fd:=fd_Frame_init) (by rfl) (by rfl) ?_
 show SV _ [some (.obj fo),some (.int (num:Int)),some mref,some body,some (.obj args),some sort] _ _ _
 unfold fd_Frame_init
 k_ownIn
 rename_i Ta ha ca
 refine AnyK.mk .real ?_
 k_ownIn
 rename_i lo Tb nlo hlo clo Tc hc cc
 refine AnyK.mk .real ?_
 k_ownIn
 rename_i st Td nst hst cst Te he ce
 refine AnyK.mk .g ?_
 k_ownIn
 rename_i g1 Tf ng1 hg1 cg1 Tg hg cg
 refine AnyK.mk .g ?_
 k_ownIn
 rename_i g2 Th ng2 hg2 cg2 Ti hi ci
 refine AnyK.mk .real ?_
 k_ownIn
 rename_i cv Tj ncv hcv ccv Tk hk ck
 refine AnyK.mk .real ?_
 k_ownIn
 rename_i kp Tl nkp hkp ckp a1 a2 a3 b1 b2 b3 d1 d2 d3 e1 e2 e3 Tm hm cm
 have Ca:Chg (oneX fo) T Ta:=ca
 have Cc:Chg (oneX fo) T Tc:=cc.back (clo.back Ca side_no) side_same
 have Ce:Chg (oneX fo) T Te:=ce.back (cst.back Cc side_no) side_same
 have Cg:Chg (oneX fo) T Tg:=cg.back (cg1.back Ce side_no) side_same
 have Ci:Chg (oneX fo) T Ti:=ci.back (cg2.back Cg side_no) side_same
 have Ck:Chg (oneX fo) T Tk:=ck.back (ccv.back Ci side_no) side_same
 have Cm:Chg (oneX fo) T Tm:=cm.back (ckp.back Ck side_no) side_same
 have lo_c:=cc.otherK hlo hc
 have lo_e:=ce.otherK (cst.keep lo_c) he
 have st_e:=ce.otherK hst he
 have lo_i:=ci.otherK (cg2.keep (cg.otherK (cg1.keep lo_e) hg)) hi
 have st_i:=ci.otherK (cg2.keep (cg.otherK (cg1.keep st_e) hg)) hi
 have lo_k:=ck.otherK (ccv.keep lo_i) hk
 have st_k:=ck.otherK (ccv.keep st_i) hk
 have cv_k:=ck.otherK hcv hk
 have lo_m:=cm.otherK (ckp.keep lo_k) hm
 have st_m:=cm.otherK (ckp.keep st_k) hm
 have cv_m:=cm.otherK (ckp.keep cv_k) hm
 have kp_m:=cm.otherK hkp hm
 have n1:lo≠st:=ne_none' nst lo_c
 have n2:lo≠cv:=ne_none' ncv lo_i
 have n3:st≠cv:=ne_none' ncv st_i
 have n4:lo≠kp:=ne_none' nkp lo_k
 have n5:st≠kp:=ne_none' nkp st_k
 have n6:cv≠kp:=ne_none' nkp cv_k
 exact k lo st kp cv (mref,body,.int 0,.obj g1,.obj g2,sort,.int 0,.int (-1)) Tm (none_back nlo (Ca.weaken fun _ _ _=>trivial)) (none_back nst (Cc.weaken fun _ _ _=>trivial)) (none_back nkp (Ck.weaken fun _ _ _=>trivial)) (none_back ncv (Ci.weaken fun _ _ _=>trivial))
  (by simp [n1,n2,n3,n4,n5,Ne.symm n6]) lo_m st_m kp_m cv_m hm Cm
theorem Mem.wait {k:Nat} {s:Gs} {T T':TH} {rs:List Nat} (w:Mem k s T) (c:Chg noX T T') (hn:∀ r∈rs,T[r]?=none) (hr:∀ r∈rs,T'[r]?=some (.real,.list [])) (hd:rs.Nodup):Mem k {s with pend:=s.pend++rs,ex:=s.ex++rs} T':=by
 have fr:=fun r hr=>w.free (hn r hr)
 obtain⟨W,C,M,perm,exs,nd,rdy,swp,scr,fl,txd,txs,txn,kt,fks,made,at_,cnt,cel,len⟩:=w.chg0 c
 have e:s.cells.map Ce.rid++(s.ex++rs)=(s.cells.map Ce.rid++s.ex)++rs:=(aA ..).symm
 refine⟨W,C,M,?_,fun x hx=>?_,?_,?_,swp,scr,fl,txd,txs,txn,kt,fks,made,at_,cnt,cel,len⟩
 ·show (rootsW s.mi s.g++(s.pend++rs)).Perm (s.cells.map Ce.rid++(s.ex++rs))
  rw [e,←aA];exact List.Perm.append_right _ perm
 ·rcases mA.mp hx with hx|hx
  ·exact exs x hx
  ·exact hr x hx
 ·show (s.cells.map Ce.rid++(s.ex++rs)).Nodup
  rw [e]
  exact nD.mpr ⟨nd,hd,fun a ha b hb q=>(fr b hb).1 (q▸ha)⟩
 ·show s.h.rdy∉s.cells.map Ce.rid++(s.ex++rs)
  rw [e];intro q
  rcases mA.mp q with q|q
  ·exact rdy q
  ·exact (fr _ q).2.1 rfl
theorem erase_mid {l m:List Nat} {r:Nat} (h:r∉l):(l++r::m).erase r=l++m:=by
 rw [List.erase_append_right _ h,List.erase_cons_head]
theorem roots_frame {mi:MId} {g:MG} {f:Fr}:(rootsW mi {g with frames:=g.frames++[f]}).Perm (rootsW mi g++f.rows):=by
 unfold rootsW
 show ((g.frames++[f]).flatMap Fr.rows++g.statics.map (·.2)++g.chases.map Chs.rid++[mi.iv]++g.held++g.fails.map (·.2)++[mi.un]).Perm _
 rw [List.flatMap_append,fC,List.flatMap_nil,aN]
 generalize g.frames.flatMap Fr.rows=A
 simp only [aA]
 refine List.Perm.append_left _ ?_
 refine List.perm_append_comm.trans (List.Perm.of_eq ?_)
 simp only [aA]
theorem Mem.frame {k:Nat} {s:Gs} {T T':TH} {f:Fr} {pend':List Nat} (w:Mem k s T) (hk:k≤900) (c:Chg (ksX [.frs]) T T') (hf:T'[f.id]?=some (.fr,f.obj)) (hfs:T'[s.mi.frs]?=some (.frs,.list ((s.g.frames++[f]).map fun f=>.obj f.id))) (hp:(f.rows++pend').Perm s.pend):Mem (k+1) {s with g:={s.g with frames:=s.g.frames++[f]},pend:=pend'} T':=by
 obtain⟨W,C,⟨hd,M,H⟩,perm,exs,nd,rdy,swp,scr,fl,txd,txs,txn,kt,fks,made,at_,cnt,cel,len⟩:=w
 have e:(s.g.frames++[f]).length=s.g.frames.length+1:=lA
 refine⟨W.chg c (fun _=>⟨nk,nk,nk,nk,nk⟩) (fun _=>⟨nk,nk,nk,nk,nk,nk⟩) (fun _=>⟨nk,nk⟩) nk,C.grow (.refl _) c fun _=>⟨nk,nk,nk⟩,
  ⟨hd,⟨c.get M.m nk,hfs,fun x hx=>?_,c.get M.chs nk,fun x hx=>c.get (M.ch x hx) nk,c.get M.sts nk,c.get M.fas nk,c.get M.hes nk,M.fk,?_⟩,by
  rcases H with H|⟨a,b,e,h⟩
  ·exact .inl H
  ·exact .inr ⟨a,b,e,h.chg c fun _=>⟨nk,nk⟩⟩⟩,?_,fun x hx=>c.get (exs x hx) nk,nd,rdy,c.get swp nk,⟨c.get scr.at_ nk,scr.len⟩,c.get fl nk,c.get txd nk,c.get txs nk,txn,kt.chg c fun _=>⟨nk,nk⟩,fks,by show s.f.made≤_;omega,by show s.f.at_≤_;omega,by show 3*s.f.count≤_;omega,by show s.cells.length≤_;omega,?_⟩
 ·rcases mA.mp hx with hx|hx
  ·exact c.get (M.fr x hx) nk
  ·rw [mS.mp hx];exact hf
 ·have:=M.len
  show (s.g.frames++[f]).length≤1000∧s.g.chases.length≤1000∧s.g.fails.length≤1000∧s.g.held.length≤1000
  omega
 ·refine List.Perm.trans ?_ perm
  refine (List.Perm.append_right _ roots_frame).trans ?_
  rw [aA]
  exact List.Perm.append_left _ hp
 ·show (s.g.frames++[f]).length≤k+1∧s.g.chases.length≤k+1∧s.g.fails.length≤k+1∧3*s.g.held.length≤k+1
  omega
theorem TgW.push {count iv:Nat} {g:MG} {cells:List Ce} {cm:List (Nat×Chs)} {tx:List Nat} {f:Fr} (t:TgW count iv g cells cm tx) (hc:f.number≤count∧f.home≤f.number) (hr:(rowsOf cells (.fr f.number)).Perm f.rows) (hn:∀ x∈g.frames,x.number≠f.number):TgW count iv {g with frames:=g.frames++[f]} cells cm tx:=by
 obtain⟨chm,chr,chd,che,frr,frd,her,new,hew,hd0⟩:=t
 refine⟨chm,chr,chd,che,fun x hx=>?_,?_,her,new,hew,hd0⟩
 ·rcases mA.mp hx with hx|hx
  ·exact frr x hx
  ·rw [mS.mp hx];exact⟨f.number,rfl,hc,hr⟩
 ·show ((g.frames++[f]).map Fr.number).Nodup
  rw [mP]
  refine nD.mpr ⟨frd,by simp,fun a ha b hb e=>?_⟩
  obtain⟨x,hx,rfl⟩:=mM.mp ha
  have hb:b=f.number:=mS.mp hb
  exact hn x hx (e.trans hb)
theorem TgW.addf {count iv r pid:Nat} {g:MG} {cells:List Ce} {cm:List (Nat×Chs)} {tx rs:List Nat} {specs:List Spec} (t:TgW count iv g cells cm tx) (hc:count<64) (hh:g.held.length<63) (hr:rowsOf cells (.fr count)=rs) (hn:∀ x∈g.frames,x.number≠count):TgW count iv g (cells++[⟨(Tg.fr count).s,specs,r,pid⟩]) cm tx∧rowsOf (cells++[⟨(Tg.fr count).s,specs,r,pid⟩]) (.fr count)=rs++[r]:=by
 refine⟨t.add (tt:=.fr count) (show count<64 from hc) hc rfl rfl (fun m q=>by cases q) (fun f hf q=>hn f hf (Tg.fr.inj q).symm) (fun m h q=>by have:=Tg.fr.inj q;omega) (fun j r' hj=>?_) (fun m h1 h2=>⟨t.hew m h1 h2,fun e=>by cases e⟩),?_⟩
 ·have hjl:j<g.held.length:=(gS.mp hj).1
  refine⟨?_,by omega⟩
  rw [if_neg (fun e=>by cases e),aN]
  exact t.her j r' hj
 ·rw [rows_snoc (t:=.fr count) (t':=.fr count) (show count<64 from hc) (show count<64 from hc) rfl,if_pos rfl,hr]
theorem Mem.fillK {k r i:Nat} {s:Gs} {T T':TH} {k':K} {o:O} (w:Mem k s T) (hr:r∈s.ex) (c:Chg (fillX r s.i.ce) T T') (h:T[i]?=some (k',o)) (n1:k'≠.real) (n2:k'≠.ce) (n3:k'∉([.hp,.tl,.at_,.w,.ag,.wh,.wt]:List K)):T'[i]?=some (k',o):=c.get h fun q=>by
 rcases q with q|q|q
 ·exact n3 q
 ·rw [q,w.exs r hr] at h;cases h;exact n1 rfl
 ·rw [q,w.C.ce] at h;cases h;exact n2 rfl
set_option maxHeartbeats 4000000 in
theorem stand_tail {n kk y c:Nat} {s:Gs} {F:Fr} {ex0 pend0 rs:List Nat} {v1 v4 v5 x7:Option V} (hn:6≤n) (w:Mem kk s T) (hcc:s.f.count=c) (tg:TgW c s.mi.iv s.g s.cells s.cm s.tx) (hk:kk≤200) (hc:c<64) (hh:s.g.held.length<63) (hx:s.ex=ex0++[F.keep,F.caughtv]) (hp:(F.rows++pend0).Perm s.pend) (hF:T[F.id]?=some (.fr,F.obj)) (hnum:F.number=c) (hhome:F.home≤F.number) (hr:rowsOf s.cells (.fr c)=rs) (hrows:(rs++[F.keep]++[F.caughtv]).Perm F.rows) (hnew:∀ x∈s.g.frames,x.number≠c)
  (q:∀ s' T',Mem (kk+3) s' T'→s'.Tgs→s'.i=s.i→s'.mi=s.mi→s'.f.at_=s.f.at_→s'.pend=pend0→s'.ex=ex0→s'.g.statics=s.g.statics→Q .none T') :
  SV (CN n) [some (.obj s.i.w),v1,some (.obj s.i.m),some (.str (Tg.fr c).s),v4,v5,some (.int (y:Nat)),x7,some (.obj F.id)] [.expr (.call 74 [(.loc 0),(.loc 3),(.attr (.loc 8) 6 10),(.bin .add (.loc 6) (.lit (.int 5))),(.glob 61)]),.expr (.call 74 [(.loc 0),(.loc 3),(.attr (.loc 8) 6 9),(.bin .fdiv (.loc 6) (.lit (.int 2))),(.tup [(.lit (.int 0))])]),.expr (.append (.attr (.loc 2) 10 9) (.loc 8))] T fun r T=>Q (r.1.getD .none) T:=by
 subst hcc
 have hF':=hF
 unfold Fr.obj at hF'
 have hnd:s.ex.Nodup:=(nD.mp w.nd).2.1
 have hkm:F.keep∈s.ex:=by rw [hx];simp
 k_ownIn
 refine wld_fill (k:=kk) (s:=s) (tt:=.fr s.f.count) (fs:=[0,1,2,3,4,5,6]) (by omega) w (by omega) hkm (by decide) (by decide) fun f_1 hf1 ts1 specs1 pid1 T1 w_1 g_1 c_1=>?_
 have hF1:=w.fillK hkm c_1 hF (by decide) (by decide) (by decide)
 have hF1':=hF1
 unfold Fr.obj at hF1'
 obtain⟨tg1,hr1⟩:=tg.addf (specs:=specs1) (r:=F.keep) (pid:=pid1) hc hh hr hnew
 have e1:f_1.count=s.f.count:=g_1.count
 have hx_1:s.ex.erase F.keep=ex0++[F.caughtv]:=by
  rw [hx];refine erase_mid fun q=>?_
  rw [hx,nD] at hnd
  exact hnd.2.2 _ q _ (List.mem_cons_self ..) rfl
 have hcm:F.caughtv∈s.ex.erase F.keep:=by rw [hx_1];simp
 k_ownIn
 refine wld_fill (k:=kk+1) (s:={s with f:=f_1,hf:=hf1,ts:=ts1,cells:=s.cells++[⟨(Tg.fr s.f.count).s,specs1,F.keep,pid1⟩],ex:=s.ex.erase F.keep}) (tt:=.fr s.f.count) (fs:=[0]) (by omega) w_1 (by omega) hcm (by decide) (by decide) fun f_2 hf2 ts2 specs2 pid2 T2 w_2 g_2 c_2=>?_
 have hF2:=w_1.fillK hcm c_2 hF1 (by decide) (by decide) (by decide)
 obtain⟨tg2,hr2⟩:=tg1.addf (specs:=specs2) (r:=F.caughtv) (pid:=pid2) hc hh hr1 hnew
 have e2:f_2.count=f_1.count:=g_2.count
 have hx2:(s.ex.erase F.keep).erase F.caughtv=ex0:=by
  rw [hx_1];refine erase_last fun q=>?_
  rw [hx,nD] at hnd
  exact hnd.2.2 _ q _ (by simp) rfl
 obtain⟨hd,M2,H2⟩:=w_2.M
 have mm2:=M2.m
 unfold MId.obj at mm2
 have frs:=M2.frs
 have hlen:=w_2.len
 k_ownIn
 refine⟨by rw [lM];show s.g.frames.length<_;have:s.g.frames.length≤kk+1+1:=hlen.1;unfold limit;omega,?_⟩
 refine PutY.intro ?_
 intro T3 h_3 c_3
 have cc3:Chg (ksX [.frs]) T2 T3:=c_3.back (.refl _ _) (side_kind frs)
 have w_3:=w_2.frame (f:=F) (pend':=pend0) (by omega) cc3 (cc3.get hF2 nk) (by rw [mP];exact h_3) hp
 have tg3:=tg2.push (f:=F) ⟨by omega,hhome⟩ (by rw [hnum,hr2];exact hrows) (fun x hx=>by rw [hnum];exact hnew x hx)
 rw [←e1,←e2] at tg3
 k_ownIn
 refine q _ T3 w_3 ?_ rfl rfl (g_2.at_.trans g_1.at_) rfl hx2 rfl
 rw [e2,e1] at tg3
 show TgW f_2.count _ _ _ _ _
 rw [e2,e1]
 exact tg3
theorem all5 {P:Nat→Prop} {a b c d e:Nat} (h1:P a) (h2:P b) (h3:P c) (h4:P d) (h5:P e):∀ r∈[a,b,c,d,e],P r:=fun r hr=>by
 simp only [mK,nM,or_false] at hr
 rcases hr with rfl|rfl|rfl|rfl|rfl<;>assumption
theorem all3 {P:Nat→Prop} {a b c:Nat} (h1:P a) (h2:P b) (h3:P c):∀ r∈[a,b,c],P r:=fun r hr=>by
 simp only [mK,nM,or_false] at hr
 rcases hr with rfl|rfl|rfl<;>assumption
theorem IdxY.any4 {z:Nat} {a b c d:V} {Q:V→Prop} (h:∀ v,Q v):IdxY T (.tup [a,b,c,d]) (.int (z%4:Nat)) Q:=by
 have:z%4<4:=Nat.mod_lt _ (by decide)
 rcases hj:z%4 with _|_|_|_|x
 ·exact .tupN rfl (by decide) (h _)
 ·exact .tupN rfl (by decide) (h _)
 ·exact .tupN rfl (by decide) (h _)
 ·exact .tupN rfl (by decide) (h _)
 ·omega
set_option maxHeartbeats 4000000 in
theorem sp_stand {n k0 k z:Nat} {s:Gs} (hn:7≤n) (hk0:k0+2=k) (w0:Mem k0 s T) (tg:s.Tgs) (hk:k≤166)
  (q:∀ s' T',Mem (k+8) s' T'→s'.Tgs→s'.i=s.i→s'.mi=s.mi→s'.f.at_=s.f.at_→s'.pend=s.pend→s'.ex=s.ex→s'.g.statics=s.g.statics→Q .none T'):Y (CN n 78 [.obj s.i.w,.int z] (hpOf T)) Q:=by
 obtain⟨n,rfl,_⟩:=down hn
 have cnt0:=w0.cnt
 have len0:=w0.len
 have w:=w0.mono (show k0≤k by omega)
 refine call_fn (fd:=fd_law_stand) (by rfl) (by rfl) ?_
 show SV _ [some (.obj s.i.w),some (.int z),none,none,none,none,none,none,none] _ _ _
 unfold fd_law_stand
 have hw:=w.W.bk.w
 unfold WId.obj at hw
 have hcnt:=w.cnt
 have made:=w.made
 have hlen:=w.len
 k_ownIn
 refine⟨by omega,?_⟩
 refine BinY.tag (by omega) (by decide) ?_
 rename_i T1 h_1 c_1
 have w_1:Mem (k+1) {s with f:={s.f with count:=s.f.count+1}} T1:=w.setw h_1 c_1 rfl rfl (by show s.f.at_≤_;omega) (by show 3*(s.f.count+1)≤_;omega)
 have tg1:TgW (s.f.count+1) s.mi.iv s.g s.cells s.cm s.tx:=tg.up
 have hr0:rowsOf s.cells (.fr (s.f.count+1))=[]:=(tg.new _ (Nat.lt_succ_self _) (by omega)).2
 have hnew:∀ x∈s.g.frames,x.number≠s.f.count+1:=fun x hx=>by
  obtain⟨m,e1,e2,_⟩:=tg.frr x hx;omega
 obtain⟨hd,M1,H1⟩:=w_1.M
 have mm1:=M1.m
 unfold MId.obj at mm1
 have frs:T1[s.mi.frs]?=some (.frs,.list (s.g.frames.map fun f=>.obj f.id)):=M1.frs
 unfold kindsV at h_1
 k_ownIn
 refine LenY.list frs (by rw [lM];show s.g.frames.length≤_;unfold limit;omega) ?_
 rw [lM]
 rcases (show (z%3=2∧0<s.g.frames.length)∨(z%3=2∧s.g.frames.length=0)∨z%3≠2 by omega) with ⟨hz,hb⟩|⟨hz,hb⟩|hz
 ·have hlt:z/3%s.g.frames.length<s.g.frames.length:=Nat.mod_lt _ hb
  obtain⟨L,hL⟩:∃ L,s.g.frames[z/3%s.g.frames.length]?=some L:=⟨_,gE hlt⟩
  have hLm:=mG hL
  have hLo:=M1.fr L hLm
  unfold Fr.obj at hLo
  obtain⟨lm,l1,⟨l2,l3⟩,_⟩:=tg.frr L hLm
  k_ownIn
  refine⟨fun _=>?_,fun h=>absurd (of_decide_eq_false h) (by omega)⟩
  k_ownIn
  refine BinY.modN hb ?_
  refine IdxY.list frs (at_nat (j:=z/3%s.g.frames.length) (v:=.obj L.id) (by rw [gM,hL];rfl) (Nat.lt_of_lt_of_le hlt (by omega))) ?_
  k_ownIn
  refine AnyK.mk .fr ?_
  k_ownIn
  rename_i fo T3 hn3 h_3 c_3
  refine sp_Frame (num:=s.f.count+1) (by omega) h_3 fun lo st kp cv xs T4 n1 n2 n3 n4 nd r1 r2 r3 r4 hfo c4=>⟨rfl,?_⟩
  have c14:Chg noX T1 T4:=c4.fresh c_3 hn3
  have hLo4:=c14.keep hLo
  clear c4
  unfold Fr.obj at hfo
  have hh:s.g.held.length<63:=by omega
  have hc:s.f.count+1<64:=by omega
  have hperm:∀ {kp cv st:Nat} {xs},(Fr.rows ⟨fo,s.f.count+1,L.home,L.args,L.locals_,st,kp,cv,xs⟩)=[st,kp,cv]:=by
   intro kp cv st xs
   show (if L.home=s.f.count+1 then [L.args,L.locals_] else [])++[st,kp,cv]=_
   rw [if_neg (by omega)];rfl
  have bk:∀ {r:Nat},T3[r]?=none→T1[r]?=none:=fun h=>none_back h (c_3.weaken fun _ _ _=>trivial)
  have nd3:[st,kp,cv].Nodup:=(nC.mp nd).2
  by_cases hy:z/12%2=0
  ·k_ownIn
   rename_i T5 h_5 c_5
   have hLo5:=c_5.other hLo4 (ne_none' hn3 hLo)
   k_ownIn
   rename_i T6 h_6 c_6 _
   have c16:Chg noX T1 T6:=c_6.fresh c14 hn3
   let F:Fr:=⟨fo,s.f.count+1,L.home,L.args,L.locals_,st,kp,cv,xs⟩
   have hF:T6[fo]?=some (.fr,F.obj):=h_6
   have w_6:=w_1.wait (rs:=[st,kp,cv]) c16 (all3 (bk n2) (bk n3) (bk n4)) (all3 (c_6.otherK r2 h_6) (c_6.otherK r3 h_6) (c_6.otherK r4 h_6)) nd3
   have dis:∀ r∈[st,kp,cv],r∉s.ex:=fun r hr q=>(nD.mp (nD.mp w_6.nd).2.1).2.2 r q r hr rfl
   have a1:st∈s.ex++[st,kp,cv]:=by simp
   have hx7:(s.ex++[st,kp,cv]).erase st=s.ex++[kp,cv]:=erase_mid (dis st (by simp))
   refine AnyK.mk .cspec ?_
   k_ownIn
   have hcml:s.cm.length≤k:=by
    have:=hlen.2.1;rw [tg.chm,lM] at this;exact this
   refine sp_newest (k:=k+1) (s:={s with f:={s.f with count:=s.f.count+1},pend:=s.pend++[st,kp,cv],ex:=s.ex++[st,kp,cv]}) (by omega) w_6 tg1.che (by omega) (by show s.cm.length≤900;omega) fun f7 hf7 ts7 sp7 T7 W7 g_7 gr7 ok7 c_7=>?_
   have w7:=w_6.fresh W7 g_7 (by omega) gr7 c_7
   have hF7:=c_7.get hF nk
   k_ownIn
   rename_i pid T8 hn8 h_8 c_8
   have w8:=w7.chg0 c_8
   have hF8:=c_8.keep hF7
   refine wld_put (k:=k+2) (s:={s with f:=f7,hf:=hf7,ts:=ts7,pend:=s.pend++[st,kp,cv],ex:=s.ex++[st,kp,cv]}) (tt:=.fr (s.f.count+1)) (specs:=[sp7]) (by omega) w8 (by omega) a1 h_8 (fun x hx=>by rw [mS.mp hx];exact ok7) (by show 1≤10;decide) (w7.free hn8).2.2 fun T9 w9 c9=>?_
   have hF9:=w8.fillK a1 (c9.weaken fun _ _ q=>.inr q) hF8 (by decide) (by decide) (by decide)
   obtain⟨tg9,hr9⟩:=tg1.addf (specs:=[sp7]) (r:=st) (pid:=pid) hc hh hr0 hnew
   have ec:f7.count=s.f.count+1:=g_7.count
   refine stand_tail (kk:=k+3) (s:={s with f:=f7,hf:=hf7,ts:=ts7,cells:=s.cells++[⟨(Tg.fr (s.f.count+1)).s,[sp7],st,pid⟩],pend:=s.pend++[st,kp,cv],ex:=(s.ex++[st,kp,cv]).erase st}) (F:=F) (ex0:=s.ex) (pend0:=s.pend) (c:=s.f.count+1) (by omega) w9 ec tg9 (by omega) hc hh hx7 ?_ hF9 rfl (by show L.home≤s.f.count+1;omega) hr9 ?_ hnew fun s' T' w' tg' e1 e2 e3 e4 e5 e6=>?_
   ·show (F.rows++s.pend).Perm (s.pend++[st,kp,cv])
    rw [show F.rows=[st,kp,cv] from hperm]
    exact List.perm_append_comm
   ·rw [show F.rows=[st,kp,cv] from hperm];exact List.Perm.refl _
   ·exact q s' T' (w'.mono (by omega)) tg' e1 e2 (e3.trans g_7.at_) e4 e5 e6
  ·k_ownIn
   rename_i T5 h_5 c_5
   have hLo5:=c_5.other hLo4 (ne_none' hn3 hLo)
   k_ownIn
   rename_i T6 h_6 c_6 _
   have c16:Chg noX T1 T6:=c_6.fresh c14 hn3
   let F:Fr:=⟨fo,s.f.count+1,L.home,L.args,L.locals_,st,kp,cv,xs⟩
   have hF:T6[fo]?=some (.fr,F.obj):=h_6
   have w_6:=w_1.wait (rs:=[st,kp,cv]) c16 (all3 (bk n2) (bk n3) (bk n4)) (all3 (c_6.otherK r2 h_6) (c_6.otherK r3 h_6) (c_6.otherK r4 h_6)) nd3
   have dis:∀ r∈[st,kp,cv],r∉s.ex:=fun r hr q=>(nD.mp (nD.mp w_6.nd).2.1).2.2 r q r hr rfl
   have a1:st∈s.ex++[st,kp,cv]:=by simp
   have hx7:(s.ex++[st,kp,cv]).erase st=s.ex++[kp,cv]:=erase_mid (dis st (by simp))
   refine wld_fill (k:=k+1) (s:={s with f:={s.f with count:=s.f.count+1},pend:=s.pend++[st,kp,cv],ex:=s.ex++[st,kp,cv]}) (tt:=.fr (s.f.count+1)) (fs:=[0,1,2,3,4,5,6]) (by omega) w_6 (by omega) a1 (by decide) (by decide) fun f7 hf7 ts7 specs7 pid7 T7 w7 g_7 c_7=>?_
   have hF7:=w_6.fillK a1 c_7 hF (by decide) (by decide) (by decide)
   obtain⟨tg7,hr7⟩:=tg1.addf (specs:=specs7) (r:=st) (pid:=pid7) hc hh hr0 hnew
   have ec:f7.count=s.f.count+1:=g_7.count
   refine stand_tail (kk:=k+2) (s:={s with f:=f7,hf:=hf7,ts:=ts7,cells:=s.cells++[⟨(Tg.fr (s.f.count+1)).s,specs7,st,pid7⟩],pend:=s.pend++[st,kp,cv],ex:=(s.ex++[st,kp,cv]).erase st}) (F:=F) (ex0:=s.ex) (pend0:=s.pend) (c:=s.f.count+1) (by omega) w7 ec tg7 (by omega) hc hh hx7 ?_ hF7 rfl (by show L.home≤s.f.count+1;omega) hr7 ?_ hnew fun s' T' w' tg' e1 e2 e3 e4 e5 e6=>?_
   ·show (F.rows++s.pend).Perm (s.pend++[st,kp,cv])
    rw [show F.rows=[st,kp,cv] from hperm]
    exact List.perm_append_comm
   ·rw [show F.rows=[st,kp,cv] from hperm];exact List.Perm.refl _
   ·exact q s' T' (w'.mono (by omega)) tg' e1 e2 (e3.trans g_7.at_) e4 e5 e6
 all_goals (
  k_ownIn
  refine AnyK.mk .fr ?_
  k_ownIn
  refine AnyK.mk .real ?_
  k_ownIn
  refine IdxY.any4 fun sort=>?_
  k_ownIn
  rename_i ar T2 hn_2 h_2 c_2 fo T3 hn3 h_3 c_3
  refine sp_Frame (num:=s.f.count+1) (by omega) h_3 fun lo st kp cv xs T4 n1 n2 n3 n4 nd r1 r2 r3 r4 hfo c4=>⟨rfl,?_⟩
  have c13:Chg noX T1 T3:=c_2.tr c_3
  have c14:Chg noX T1 T4:=c4.fresh c13 (none_back hn3 (c_2.weaken fun _ _ _=>trivial))
  have ar3:=c_3.keep h_2
  have ar4:=c4.otherK ar3 hfo
  have bk:∀ {r:Nat},T3[r]?=none→T1[r]?=none:=fun h=>none_back h (c13.weaken fun _ _ _=>trivial)
  have m1:ar≠lo:=ne_none' n1 ar3
  have m2:ar≠st:=ne_none' n2 ar3
  have m3:ar≠kp:=ne_none' n3 ar3
  have m4:ar≠cv:=ne_none' n4 ar3
  have hnd5:[ar,lo,st,kp,cv].Nodup:=nC.mpr ⟨by simp [m1,m2,m3,m4],nd⟩
  have w_4:=w_1.wait (rs:=[ar,lo,st,kp,cv]) c14 (all5 hn_2 (bk n1) (bk n2) (bk n3) (bk n4)) (all5 ar4 r1 r2 r3 r4) hnd5
  have dis:∀ r∈[ar,lo,st,kp,cv],r∉s.ex:=fun r hr q=>(nD.mp (nD.mp w_4.nd).2.1).2.2 r q r hr rfl
  let F:Fr:=⟨fo,s.f.count+1,s.f.count+1,ar,lo,st,kp,cv,xs⟩
  have hF:T4[fo]?=some (.fr,F.obj):=hfo
  unfold Fr.obj at hfo
  have hh:s.g.held.length<63:=by omega
  have hc:s.f.count+1<64:=by omega
  have a1:ar∈s.ex++[ar,lo,st,kp,cv]:=by simp
  k_ownIn
  refine wld_fill (k:=k+1) (s:={s with f:={s.f with count:=s.f.count+1},pend:=s.pend++[ar,lo,st,kp,cv],ex:=s.ex++[ar,lo,st,kp,cv]}) (tt:=.fr (s.f.count+1)) (fs:=[0,1,2,3,4,5,6]) (by omega) w_4 (by omega) a1 (by decide) (by decide) fun f5 hf5 ts5 specs5 pid5 T5 w_5 g_5 c_5=>?_
  have hF5:=w_4.fillK a1 c_5 hF (by decide) (by decide) (by decide)
  obtain⟨tg5,hr5⟩:=tg1.addf (specs:=specs5) (r:=ar) (pid:=pid5) hc hh hr0 hnew
  have hx5:(s.ex++[ar,lo,st,kp,cv]).erase ar=s.ex++[lo,st,kp,cv]:=erase_mid (dis ar (by simp))
  have a2:lo∈(s.ex++[ar,lo,st,kp,cv]).erase ar:=by rw [hx5];simp
  have hfo5:=hF5
  unfold Fr.obj at hfo5
  k_ownIn
  refine wld_fill (k:=k+2) (s:={s with f:=f5,hf:=hf5,ts:=ts5,cells:=s.cells++[⟨(Tg.fr (s.f.count+1)).s,specs5,ar,pid5⟩],pend:=s.pend++[ar,lo,st,kp,cv],ex:=(s.ex++[ar,lo,st,kp,cv]).erase ar}) (tt:=.fr (s.f.count+1)) (fs:=[0,1,2,3,4,5,6]) (by omega) w_5 (by omega) a2 (by decide) (by decide) fun f6 hf6 ts6 specs6 pid6 T6 w_6 g_6 c_6=>?_
  have hF6:=w_5.fillK a2 c_6 hF5 (by decide) (by decide) (by decide)
  obtain⟨tg6,hr6⟩:=tg5.addf (specs:=specs6) (r:=lo) (pid:=pid6) hc hh hr5 hnew
  have hx6:((s.ex++[ar,lo,st,kp,cv]).erase ar).erase lo=s.ex++[st,kp,cv]:=by rw [hx5];exact erase_mid (dis lo (by simp))
  have a3:st∈((s.ex++[ar,lo,st,kp,cv]).erase ar).erase lo:=by rw [hx6];simp
  have hfo6:=hF6
  unfold Fr.obj at hfo6
  k_ownIn
  refine wld_fill (k:=k+3) (s:={s with f:=f6,hf:=hf6,ts:=ts6,cells:=s.cells++[⟨(Tg.fr (s.f.count+1)).s,specs5,ar,pid5⟩]++[⟨(Tg.fr (s.f.count+1)).s,specs6,lo,pid6⟩],pend:=s.pend++[ar,lo,st,kp,cv],ex:=((s.ex++[ar,lo,st,kp,cv]).erase ar).erase lo}) (tt:=.fr (s.f.count+1)) (fs:=[0,1,2,3,4,5,6]) (by omega) w_6 (by omega) a3 (by decide) (by decide) fun f7 hf7 ts7 specs7 pid7 T7 w7 g_7 c_7=>?_
  have hF7:=w_6.fillK a3 c_7 hF6 (by decide) (by decide) (by decide)
  obtain⟨tg7,hr7⟩:=tg6.addf (specs:=specs7) (r:=st) (pid:=pid7) hc hh hr6 hnew
  have hx7:(((s.ex++[ar,lo,st,kp,cv]).erase ar).erase lo).erase st=s.ex++[kp,cv]:=by rw [hx6];exact erase_mid (dis st (by simp))
  have ec:f7.count=s.f.count+1:=g_7.count.trans (g_6.count.trans g_5.count)
  refine stand_tail (kk:=k+4) (s:={s with f:=f7,hf:=hf7,ts:=ts7,cells:=s.cells++[⟨(Tg.fr (s.f.count+1)).s,specs5,ar,pid5⟩]++[⟨(Tg.fr (s.f.count+1)).s,specs6,lo,pid6⟩]++[⟨(Tg.fr (s.f.count+1)).s,specs7,st,pid7⟩],pend:=s.pend++[ar,lo,st,kp,cv],ex:=(((s.ex++[ar,lo,st,kp,cv]).erase ar).erase lo).erase st}) (F:=F) (ex0:=s.ex) (pend0:=s.pend) (c:=s.f.count+1) (by omega) w7 ec tg7 (by omega) hc hh hx7 ?_ hF7 rfl (Nat.le_refl _) hr7 ?_ hnew fun s' T' w' tg' e1 e2 e3 e4 e5 e6=>?_
  ·show (F.rows++s.pend).Perm (s.pend++[ar,lo,st,kp,cv])
   refine List.perm_append_comm.trans (List.Perm.append_left _ ?_)
   show ((if s.f.count+1=s.f.count+1 then [ar,lo] else [])++[st,kp,cv]).Perm _
   rw [if_pos rfl];exact List.Perm.refl _
  ·show ([]++[ar]++[lo]++[st]++[kp]++[cv]:List Nat).Perm ((if s.f.count+1=s.f.count+1 then [ar,lo] else [])++[st,kp,cv])
   rw [if_pos rfl];exact List.Perm.refl _
  ·exact q s' T' (w'.mono (by omega)) tg' e1 e2 (e3.trans (g_7.at_.trans (g_6.at_.trans g_5.at_))) e4 e5 e6)
theorem TgW.drop {count iv:Nat} {g g':MG} {cells:List Ce} {cm cm':List (Nat×Chs)} {tx:List Nat} {tt:Tg} (t:TgW count iv g cells cm tx) (ok:tt.Ok) (hc:count<64) (hh:g.held.length<63) (ntx:tt≠.tx) (chm:g'.chases=cm'.map (·.2)) (hcm:∀ p∈cm',p∈cm∧tt≠.ch p.1) (hcd:(cm'.map (·.1)).Nodup)
  (hfr:∀ f∈g'.frames,f∈g.frames∧tt≠.fr f.number) (hfd:(g'.frames.map Fr.number).Nodup) (hhe:∀ j r,g'.held[j]?=some r→g.held[j]?=some r∧tt≠.he (j+1)) (hhw:∀ m,g'.held.length<m→g.held.length<m∨tt=.he m):TgW count iv g' (dropC cells tt) cm' tx:=by
 have key:∀ {t':Tg},t'.Ok→tt≠t'→rowsOf (dropC cells tt) t'=rowsOf cells t':=fun h' n=>by rw [rows_drop ok h',if_neg n]
 have nil:∀ {t':Tg},t'.Ok→rowsOf cells t'=[]→rowsOf (dropC cells tt) t'=[]:=fun h' n=>by rw [rows_drop ok h',n];split<;>rfl
 refine⟨chm,fun p hp=>?_,hcd,fun c hx p hp e=>t.che c (List.mem_filter.mp hx).1 p (hcm p hp).1 e,fun f hf=>?_,hfd,fun j r hj=>?_,fun m h1 h2=>⟨nil (t':=.ch m) h2 (t.new m h1 h2).1,nil (t':=.fr m) h2 (t.new m h1 h2).2⟩,fun m h1 h2=>?_,?_⟩
 ·have:=t.chr p (hcm p hp).1
  rw [key (t':=.ch p.1) (show p.1<64 by omega) (hcm p hp).2];exact this
 ·obtain⟨m,e1,e2,e3⟩:=t.frr f (hfr f hf).1
  refine⟨m,e1,e2,?_⟩
  have e1':f.number=m:=by omega
  rw [key (t':=.fr m) (show m<64 by omega) (e1'▸(hfr f hf).2)];exact e3
 ·obtain⟨h1,h2⟩:=hhe j r hj
  have:=(gS.mp h1).1
  rw [key (t':=.he (j+1)) (show j+1<64 by omega) h2];exact t.her j r h1
 ·rcases hhw m h1 with q|q
  ·exact nil (t':=.he m) h2 (t.hew m q h2)
  ·rw [rows_drop (t':=.he m) ok h2,if_pos q]
 ·obtain⟨ct,rest,e,h1,h2⟩:=t.hd0
  refine⟨ct,rest.filter fun c=>!decide (c.tag=tt.s),?_,h1,h2⟩
  have:¬ ct.tag=tt.s:=fun q=>ntx (Tg.inj ok (show Tg.Ok .tx from trivial) (q.symm.trans h1))
  unfold dropC
  rw [e,List.filter_cons,if_pos (by simp [this])]
theorem Mem.drop {k ce':Nat} {s:Gs} {T T':TH} {tt:Tg} {g':MG} {cm':List (Nat×Chs)} (w:Mem k s T) (c:Chg (ksX [.w,.chs,.fl,.frs,.hes]) T T') (hce:T'[ce']?=some (.ce,.list ((dropC s.cells tt).map Ce.v))) (hw:T'[s.i.w]?=some (.w,WId.obj {s.i with ce:=ce'} s.f)) (hfl:T'[s.i.fl]?=some (.fl,.list (cm'.map fun p=>.str (Tg.ch p.1).s)))
  (hM:∀ hd,MW s.i.m s.mi s.h.hp hd s.g T→MW s.i.m s.mi s.h.hp hd g' T') (hp:(rootsW s.mi s.g).Perm (rootsW s.mi g'++rowsOf s.cells tt)) (hf:g'.fails=s.g.fails) (hl:g'.frames.length≤k∧g'.chases.length≤k∧3*g'.held.length≤k):Mem k {s with i:={s.i with ce:=ce'},g:=g',cells:=dropC s.cells tt,cm:=cm'} T':=by
 obtain⟨W,C,⟨hd,M,H⟩,perm,exs,nd,rdy,swp,scr,fl,txd,txs,txn,kt,fks,made,at_,cnt,cel,len⟩:=w
 have p1:=rows_perm (cells:=s.cells) (t:=tt)
 have p2:(s.cells.map Ce.rid++s.ex).Perm (rowsOf s.cells tt++((dropC s.cells tt).map Ce.rid++s.ex)):=by
  rw [←aA];exact List.Perm.append_right _ p1
 have sub:∀ x∈dropC s.cells tt,x∈s.cells:=fun x hx=>(List.mem_filter.mp hx).1
 have nd2:=(nD.mp (p2.nodup_iff.mp nd)).2.1
 obtain⟨b1,b2,b3,⟨d1,d2,d3,⟨wl,d4,d4'⟩,d5,d6,d7⟩,b5,gs,b6,b7⟩:=W
 refine⟨⟨b1.keep c (fun _=>⟨nk,nk,nk,nk,nk,nk⟩) nk,fun t ht=>c.get (b2 t ht) nk,b3,⟨hw,c.get d2 nk,c.get d3 nk,⟨wl,c.get d4 nk,d4'⟩,fun t ht=>c.get (d5 t ht) nk,d6,d7⟩,b5,gs,c.get b6 nk,b7⟩,
  ⟨hce,fun x hx=>c.get (C.row x (sub x hx)) nk,fun x hx=>c.get (C.spec x (sub x hx)) nk,fun x hx=>C.ok x (sub x hx),List.Pairwise.sublist (List.filter_sublist.map _) C.rn,List.Pairwise.sublist (List.filter_sublist.map _) C.pn,fun x hx=>C.len x (sub x hx)⟩,⟨hd,hM hd M,by
  rcases H with H|⟨a,b,e,h⟩
  ·exact .inl H
  ·exact .inr ⟨a,b,e,h.chg c fun _=>⟨nk,nk⟩⟩⟩,?_,fun x hx=>c.get (exs x hx) nk,nd2,fun q=>rdy (p2.mem_iff.mpr (mR _ q)),c.get swp nk,⟨c.get scr.at_ nk,scr.len⟩,hfl,c.get txd nk,c.get txs nk,txn,?_,?_,made,at_,cnt,?_,?_⟩
 ·have h1:=((List.Perm.append_right s.pend hp).symm.trans perm).trans p2
  have h2:(rootsW s.mi g'++rowsOf s.cells tt++s.pend).Perm (rowsOf s.cells tt++(rootsW s.mi g'++s.pend)):=by
   rw [←aA];exact List.Perm.append_right _ List.perm_append_comm
  exact (List.perm_append_left_iff _).mp (h2.symm.trans h1)
 ·show KTW s.mi.kt g'.fails.length T'
  rw [hf];exact KTL.chg kt c fun _=>⟨nk,nk⟩
 ·show g'.fails.map (·.1)=(List.range g'.fails.length).map _
  rw [hf];exact fks
 ·show (dropC s.cells tt).length≤_
  exact Nat.le_trans (List.length_filter_le _ _) cel
 ·show g'.frames.length≤k∧g'.chases.length≤k∧g'.fails.length≤k∧3*g'.held.length≤k
  rw [hf];omega
theorem mul_ok {a b:Int} (ha:0≤a∧a≤1000) (hb:0≤b∧b≤1000):binV .mul (.int a) (.int b)=some (.int (a*b)):=by
 show (if a.natAbs<2 ^ 60 then some (a*b) else none).map V.int=_
 rw [if_pos (Nat.lt_of_le_of_lt (show a.natAbs≤1000 by omega) (by decide))]
 rfl
set_option maxHeartbeats 4000000 in
theorem deed_chase {n k z:Nat} {s:Gs} (hn:8≤n) (w:Mem k s T) (tg:s.Tgs) (hk:k≤156) (hz:z%8<2)
  (q:∀ s' T',Mem k s' T'→s'.Tgs→s'.i.w=s.i.w→s'.i.m=s.i.m→s'.f.at_=s.f.at_→s'.pend=s.pend→s'.ex=s.ex→s'.g.statics=s.g.statics→Q (.bool true) T'):Y (CN n 86 [.obj s.i.w,.int z] (hpOf T)) Q:=by
 obtain⟨n,rfl,_⟩:=down hn
 refine call_fn (fd:=fd_law_deed) (by rfl) (by rfl) ?_
 show SV _ [some (.obj s.i.w),some (.int z),none,none,none,none,none,none,none,none] _ _ _
 unfold fd_law_deed
 have hw:=w.W.bk.w
 unfold WId.obj at hw
 obtain⟨hd,M,H⟩:=w.M
 have mm:=M.m
 unfold MId.obj at mm
 have chs:=M.chs
 have fl:=w.fl
 have hlen:=w.len
 have hcml:s.cm.length=s.g.chases.length:=by rw [tg.chm,lM]
 k_ownIn
 refine LenY.list chs (by rw [lM];unfold limit;omega) ?_
 rw [lM]
 by_cases h0:s.g.chases.length=0
 ·k_ownIn
  exact q s T w tg rfl rfl rfl rfl rfl rfl
 ·k_ownIn
  refine⟨fun _=>?_,fun h=>absurd (of_decide_eq_false h) (by omega)⟩
  obtain⟨j,hj,hje⟩:∃ j:Nat,j<s.g.chases.length∧((s.g.chases.length:Int)-1)*(1-((z%8:Nat):Int))=(j:Int):=by
   rcases (show z%8=0∨z%8=1 by omega) with e|e
   ·exact⟨s.g.chases.length-1,by omega,by rw [e];omega⟩
   ·exact⟨0,by omega,by rw [e];omega⟩
  k_ownIn
  refine LenY.list chs (by rw [lM];unfold limit;omega) ?_
  rw [lM]
  k_ownIn
  refine BinY.mk (v:=.int (j:Int)) (by rw [←hje];exact mul_ok (by omega) (by omega)) ?_
  obtain⟨p,hp⟩:∃ p,s.cm[j]?=some p:=⟨_,gE (by omega)⟩
  have hpm:=mG hp
  obtain⟨m,c⟩:=p
  obtain⟨t1,t2⟩:=tg.chr _ hpm
  have hcnt:=w.cnt
  have hc:s.g.chases[j]?=some c:=by rw [tg.chm,gM,hp];rfl
  have er:∀ {α β:Type} (l:List α) (f:α→β),(l.map f).eraseIdx j=(l.eraseIdx j).map f:=fun l f=>by
   rw [List.eraseIdx_eq_take_drop_succ,List.eraseIdx_eq_take_drop_succ,mP,List.map_take,List.map_drop]
  conv=>whnf
  refine SV.go ?_
  conv=>whnf
  k_ownIn
  refine⟨⟨by omega,by omega,by rw [lM];unfold limit;omega⟩,?_⟩
  refine GetY.mk (v:=.obj c.id) (by rw [gM,Int.toNat_natCast,hc];rfl) ?_
  rw [Int.toNat_natCast,er]
  refine PutY.intro ?_
  intro T1 h_1 c_1
  have hw_1:=c_1.otherK hw h_1
  have fl1:=c_1.otherK fl h_1
  k_ownIn
  refine⟨⟨by omega,by omega,by rw [lM];unfold limit;omega⟩,?_⟩
  refine GetY.mk (v:=.str (Tg.ch m).s) (by rw [gM,Int.toNat_natCast,hp];rfl) ?_
  rw [Int.toNat_natCast,er]
  refine PutY.intro ?_
  intro T2 h_2 c_2
  have hw_2:=c_2.otherK (c_1.otherK w.W.bk.w h_1) h_2
  have ce2:=c_2.otherK (c_1.otherK w.C.ce h_1) h_2
  have chs2:=c_2.otherK h_1 h_2
  have cel:=w.cel
  k_ownIn
  have hh:s.g.held.length<63:=by omega
  refine sp_drop (ts:=[]) (t:=.ch m) (by omega) hw_2 ce2 (by omega) fun ce' T3 n_3 h_3 hw_3 c_3=>?_
  let cm':=s.cm.eraseIdx j
  let g':MG:={s.g with chases:=s.g.chases.eraseIdx j}
  have cc2:Chg (ksX [.w,.chs,.fl,.frs,.hes]) T T2:=c_2.back (c_1.back (.refl _ _) (side_kind chs)) (side_kind fl)
  have cc3:Chg (ksX [.w,.chs,.fl,.frs,.hes]) T T3:=c_3.back cc2 (side_kind w.W.bk.w)
  have up:∀ {i:Nat} {k:K} {o:O},T[i]?=some (k,o)→k∉([.w,.chs,.fl]:List K)→T3[i]?=some (k,o):=fun h ne=>by
   have h1:=c_1.otherK h h_1 (fun q=>ne (by rw [q];decide))
   have h2:=c_2.otherK h1 h_2 (fun q=>ne (by rw [q];decide))
   exact c_3.otherK h2 hw_3 (fun q=>ne (by rw [q];decide))
  have hlt:j<s.cm.length:=by omega
  have split:s.cm.eraseIdx j=s.cm.take j++s.cm.drop (j+1):=List.eraseIdx_eq_take_drop_succ ..
  have hcm:s.cm=s.cm.take j++(m,c)::s.cm.drop (j+1):=by
   conv=>lhs;rw [←List.take_append_drop j s.cm]
   rw [List.drop_eq_getElem_cons hlt]
   have:s.cm[j]=(m,c):=by rw [gE hlt] at hp;exact Option.some.inj hp
   rw [this]
  have hcd:=tg.chd
  have sub:∀ p∈cm',p∈s.cm∧m≠p.1:=fun p hp'=>by
   have hp':p∈s.cm.take j++s.cm.drop (j+1):=split▸hp'
   rw [hcm,mP,mC,nD] at hcd
   obtain⟨d1,d2,d3⟩:=hcd
   rw [nC] at d2
   rcases mA.mp hp' with q|q
   ·exact⟨List.mem_of_mem_take q,fun e=>d3 _ (mO q) m (.head _) e.symm⟩
   ·exact⟨List.mem_of_mem_drop q,fun e=>d2.1 (by
     show m∈_
     rw [e];exact mO (f:=(·.1)) q)⟩
  have hle:(s.g.chases.eraseIdx j).length≤s.g.chases.length:=by rw [List.length_eraseIdx];split<;>omega
  have hch':g'.chases=cm'.map (·.2):=by
   show s.g.chases.eraseIdx j=_
   rw [tg.chm,er]
  have w_3:=w.drop (tt:=.ch m) (g':=g') (cm':=cm') cc3 h_3 hw_3 (by exact c_3.otherK h_2 hw_3)
   (fun hd M=>⟨up M.m (by decide),up M.frs (by decide),fun f hf=>up (M.fr f hf) (by decide),c_3.otherK chs2 hw_3,fun x hx=>up (M.ch x (List.mem_of_mem_eraseIdx hx)) (by decide),up M.sts (by decide),up M.fas (by decide),up M.hes (by decide),M.fk,by
    have:=M.len
    show s.g.frames.length≤1000∧(s.g.chases.eraseIdx j).length≤1000∧s.g.fails.length≤1000∧s.g.held.length≤1000
    omega⟩) ?_ rfl (by show s.g.frames.length≤k∧(s.g.chases.eraseIdx j).length≤k∧3*s.g.held.length≤k;omega)
  ·have tg':TgW s.f.count s.mi.iv g' (dropC s.cells (.ch m)) cm' s.tx:=tg.drop (show m<64 by have:m≤s.f.count:=t1;omega) (by omega) hh (fun q=>by cases q) hch' (fun p hp'=>⟨(sub p hp').1,fun e=>(sub p hp').2 (Tg.ch.inj e)⟩) (List.Pairwise.sublist ((List.eraseIdx_sublist ..).map _) tg.chd) (fun f hf=>⟨hf,fun q=>by cases q⟩) tg.frd (fun j r hj=>⟨hj,fun q=>by cases q⟩) (fun m h=>.inl h)
   k_ownIn
   exact q _ T3 w_3 tg' rfl rfl rfl rfl rfl rfl
  ·rw [t2]
   show (s.g.frames.flatMap Fr.rows++s.g.statics.map (·.2)++s.g.chases.map Chs.rid++[s.mi.iv]++s.g.held++s.g.fails.map (·.2)++[s.mi.un]).Perm ((s.g.frames.flatMap Fr.rows++s.g.statics.map (·.2)++(s.g.chases.eraseIdx j).map Chs.rid++[s.mi.iv]++s.g.held++s.g.fails.map (·.2)++[s.mi.un])++[c.rid])
   have e1:s.g.chases=(s.cm.take j).map (·.2)++c::(s.cm.drop (j+1)).map (·.2):=by
    rw [tg.chm];conv=>lhs;rw [hcm]
    rw [mP,mC]
   have e2:s.g.chases.eraseIdx j=(s.cm.take j).map (·.2)++(s.cm.drop (j+1)).map (·.2):=by
    rw [tg.chm,er,split,mP]
   rw [e2,e1,mP,mP,mC]
   generalize s.g.frames.flatMap Fr.rows++s.g.statics.map (·.2)=A
   generalize List.map Chs.rid ((s.cm.take j).map (·.2))=B
   generalize List.map Chs.rid ((s.cm.drop (j+1)).map (·.2))=D
   simp only [aA,cA]
   refine List.Perm.append_left _ (List.Perm.append_left _ ?_)
   refine (pS _ _).symm.trans (List.Perm.of_eq ?_)
   simp
set_option maxHeartbeats 4000000 in
theorem deed_fly {n k z:Nat} {s:Gs} (hn:8≤n) (w:Mem k s T) (tg:s.Tgs) (hk:k≤156) (hz:z%8=2)
  (q:∀ s' T',Mem (k+5) s' T'→s'.Tgs→s'.i.w=s.i.w→s'.i.m=s.i.m→s'.f.at_=s.f.at_→s'.pend=s.pend→s'.ex=s.ex→s'.g.statics=s.g.statics→Q (.bool true) T'):Y (CN n 86 [.obj s.i.w,.int z] (hpOf T)) Q:=by
 obtain⟨n,rfl,_⟩:=down hn
 refine call_fn (fd:=fd_law_deed) (by rfl) (by rfl) ?_
 show SV _ [some (.obj s.i.w),some (.int z),none,none,none,none,none,none,none,none] _ _ _
 unfold fd_law_deed
 have hw:=w.W.bk.w
 unfold WId.obj at hw
 k_ownIn
 refine sp_fly (k:=k+2) (by omega) rfl w tg (by omega) fun s' T' w' tg' e1 e2 e3 e4 e5 e6=>?_
 k_ownIn
 exact q s' T' w' tg' (by rw [e1]) (by rw [e1]) e3 e4 e5 e6
set_option maxHeartbeats 4000000 in
theorem deed_stand {n k z:Nat} {s:Gs} (hn:8≤n) (w:Mem k s T) (tg:s.Tgs) (hk:k≤156) (hz:z%8=4)
  (q:∀ s' T',Mem (k+10) s' T'→s'.Tgs→s'.i.w=s.i.w→s'.i.m=s.i.m→s'.f.at_=s.f.at_→s'.pend=s.pend→s'.ex=s.ex→s'.g.statics=s.g.statics→Q (.bool true) T'):Y (CN n 86 [.obj s.i.w,.int z] (hpOf T)) Q:=by
 obtain⟨n,rfl,_⟩:=down hn
 refine call_fn (fd:=fd_law_deed) (by rfl) (by rfl) ?_
 show SV _ [some (.obj s.i.w),some (.int z),none,none,none,none,none,none,none,none] _ _ _
 unfold fd_law_deed
 have hw:=w.W.bk.w
 unfold WId.obj at hw
 k_ownIn
 refine sp_stand (k:=k+2) (by omega) rfl w tg (by omega) fun s' T' w' tg' e1 e2 e3 e4 e5 e6=>?_
 k_ownIn
 exact q s' T' w' tg' (by rw [e1]) (by rw [e1]) e3 e4 e5 e6
set_option maxHeartbeats 4000000 in
theorem deed_fail {n k z:Nat} {s:Gs} (hn:8≤n) (w:Mem k s T) (tg:s.Tgs) (hk:k≤156) (hz:z%8=7) (hz2:z/8%3=1)
  (q:∀ s' T',Mem (k+3) s' T'→s'.Tgs→s'.i.w=s.i.w→s'.i.m=s.i.m→s'.f.at_=s.f.at_→s'.pend=s.pend→s'.ex=s.ex→s'.g.statics=s.g.statics→Q (.bool true) T'):Y (CN n 86 [.obj s.i.w,.int z] (hpOf T)) Q:=by
 obtain⟨n,rfl,_⟩:=down hn
 refine call_fn (fd:=fd_law_deed) (by rfl) (by rfl) ?_
 show SV _ [some (.obj s.i.w),some (.int z),none,none,none,none,none,none,none,none] _ _ _
 unfold fd_law_deed
 have hw:=w.W.bk.w
 unfold WId.obj at hw
 k_ownIn
 refine sp_failD (by omega) w tg (by omega) fun s' T' w' tg' e1 e2 e3 e4 e5 e6=>?_
 k_ownIn
 exact q s' T' w' tg' (by rw [e1]) (by rw [e1]) e3 e4 e5 e6
set_option maxHeartbeats 4000000 in
theorem deed_held {n k z:Nat} {s:Gs} (hn:8≤n) (w:Mem k s T) (tg:s.Tgs) (hk:k≤156) (hz:z%8=7) (hz2:z/8%3=2)
  (q:∀ s' T',Mem k s' T'→s'.Tgs→s'.i.w=s.i.w→s'.i.m=s.i.m→s'.f.at_=s.f.at_→s'.pend=s.pend→s'.ex=s.ex→s'.g.statics=s.g.statics→Q (.bool true) T'):Y (CN n 86 [.obj s.i.w,.int z] (hpOf T)) Q:=by
 obtain⟨n,rfl,_⟩:=down hn
 refine call_fn (fd:=fd_law_deed) (by rfl) (by rfl) ?_
 show SV _ [some (.obj s.i.w),some (.int z),none,none,none,none,none,none,none,none] _ _ _
 unfold fd_law_deed
 have hw:=w.W.bk.w
 unfold WId.obj at hw
 obtain⟨hd,M,H⟩:=w.M
 have mm:=M.m
 unfold MId.obj at mm
 have hes:=M.hes
 have hlen:=w.len
 have hcnt:=w.cnt
 have cel:=w.cel
 k_ownIn
 refine LenY.list hes (by rw [lM];unfold limit;omega) ?_
 rw [lM]
 by_cases h0:s.g.held.length=0
 ·k_ownIn
  exact q s T w tg rfl rfl rfl rfl rfl rfl
 ·k_ownIn
  refine⟨fun _=>?_,fun h=>absurd (of_decide_eq_false h) (by omega)⟩
  k_ownIn
  refine LenY.list hes (by rw [lM];unfold limit;omega) ?_
  rw [lM]
  k_ownIn
  refine⟨by omega,?_⟩
  refine BinY.tag (by omega) (by decide) ?_
  k_ownIn
  refine sp_drop (ts:=[]) (t:=.he s.g.held.length) (by omega) w.W.bk.w w.C.ce (by omega) fun ce' T1 n_1 h_1 hw_1 c_1=>?_
  have hw1':=hw_1
  unfold WId.obj at hw1'
  have mm1:=c_1.otherK mm hw_1
  have hes1:=c_1.otherK hes hw_1
  obtain⟨ws,r,hws⟩:∃ ws r,s.g.held=ws++[r]:=⟨_,_,(List.dropLast_concat_getLast (fun e=>h0 (by rw [e];rfl))).symm⟩
  rw [hws,mP] at hes1
  have hwl:s.g.held.length=ws.length+1:=by rw [hws,lA];rfl
  k_ownIn
  refine⟨by rw [lA,lM];unfold limit;show ws.length+1≤_;omega,?_⟩
  refine GetY.mk (v:=.obj r) (by simp) ?_
  rw [show (List.map V.obj ws++List.map V.obj [r]).eraseIdx ((List.map V.obj ws++List.map V.obj [r]).length-1)=List.map V.obj ws by simp [List.eraseIdx_append_of_length_le]]
  refine PutY.intro ?_
  intro T2 h_2 c_2
  let g':MG:={s.g with held:=ws}
  have cc:Chg (ksX [.w,.chs,.fl,.frs,.hes]) T T2:=c_2.back (c_1.back (.refl _ _) (side_kind w.W.bk.w)) (side_kind hes)
  have up:∀ {i:Nat} {k:K} {o:O},T[i]?=some (k,o)→k∉([.w,.hes]:List K)→T2[i]?=some (k,o):=fun h ne=>by
   have h1:=c_1.otherK h hw_1 (fun q=>ne (by rw [q];decide))
   exact c_2.otherK h1 h_2 (fun q=>ne (by rw [q];decide))
  have hr:rowsOf s.cells (.he s.g.held.length)=[r]:=by
   rw [hwl]
   exact tg.her ws.length r (by rw [hws,gR (Nat.le_refl _),Nat.sub_self];rfl)
  have w_2:=w.drop (tt:=.he s.g.held.length) (g':=g') (cm':=s.cm) cc (c_2.otherK h_1 h_2) (c_2.otherK hw_1 h_2) (up w.fl (by decide))
   (fun hd M=>⟨up M.m (by decide),up M.frs (by decide),fun f hf=>up (M.fr f hf) (by decide),up M.chs (by decide),fun x hx=>up (M.ch x hx) (by decide),up M.sts (by decide),up M.fas (by decide),h_2,M.fk,by
    have:=M.len
    show s.g.frames.length≤1000∧s.g.chases.length≤1000∧s.g.fails.length≤1000∧ws.length≤1000
    omega⟩) (by
    rw [hr]
    have e:s.g={g' with held:=g'.held++[r]}:=by show s.g={s.g with held:=ws++[r]};rw [←hws]
    conv=>lhs;rw [e]
    exact roots_held) rfl (by show s.g.frames.length≤k∧s.g.chases.length≤k∧3*ws.length≤k;omega)
  have tg':TgW s.f.count s.mi.iv g' (dropC s.cells (.he s.g.held.length)) s.cm s.tx:=tg.drop (show s.g.held.length<64 by omega) (by omega) (by omega) (fun q=>by cases q) tg.chm (fun p hp'=>⟨hp',fun e=>by cases e⟩) tg.chd (fun f hf=>⟨hf,fun q=>by cases q⟩) tg.frd (fun j r' hj=>by
   have hj:ws[j]?=some r':=hj
   have hjl:=(gS.mp hj).1
   exact⟨by rw [hws,gL hjl];exact hj,fun e=>by have:=Tg.he.inj e;omega⟩) (fun m h=>by
   have h:ws.length<m:=h
   by_cases e:m=s.g.held.length
   ·exact .inr (by rw [e])
   ·exact .inl (by omega))
  k_ownIn
  exact q _ T2 w_2 tg' rfl rfl rfl rfl rfl rfl
set_option maxHeartbeats 4000000 in
theorem deed_frame {n k z:Nat} {s:Gs} (hn:8≤n) (w:Mem k s T) (tg:s.Tgs) (hk:k≤156) (hz:z%8=3)
  (q:∀ s' T',Mem k s' T'→s'.Tgs→s'.i.w=s.i.w→s'.i.m=s.i.m→s'.f.at_=s.f.at_→s'.pend=s.pend→s'.ex=s.ex→s'.g.statics=s.g.statics→Q (.bool true) T'):Y (CN n 86 [.obj s.i.w,.int z] (hpOf T)) Q:=by
 obtain⟨n,rfl,_⟩:=down hn
 refine call_fn (fd:=fd_law_deed) (by rfl) (by rfl) ?_
 show SV _ [some (.obj s.i.w),some (.int z),none,none,none,none,none,none,none,none] _ _ _
 unfold fd_law_deed
 have hw:=w.W.bk.w
 unfold WId.obj at hw
 obtain⟨hd,M,H⟩:=w.M
 have mm:=M.m
 unfold MId.obj at mm
 have frs:=M.frs
 have hlen:=w.len
 have hcnt:=w.cnt
 have cel:=w.cel
 k_ownIn
 refine LenY.list frs (by rw [lM];unfold limit;omega) ?_
 rw [lM]
 by_cases h0:s.g.frames.length≤1
 ·k_ownIn
  exact q s T w tg rfl rfl rfl rfl rfl rfl
 ·obtain⟨ws,f,hws⟩:∃ ws f,s.g.frames=ws++[f]:=⟨_,_,(List.dropLast_concat_getLast (fun e=>h0 (by rw [e];exact Nat.zero_le _))).symm⟩
  have hfm:f∈s.g.frames:=by rw [hws];simp
  have hf:=M.fr f hfm
  have hmap:List.map (fun f:Fr=>V.obj f.id) s.g.frames=List.map (fun f:Fr=>V.obj f.id) ws++List.map (fun f:Fr=>V.obj f.id) [f]:=by rw [hws,mP]
  have hwl:s.g.frames.length=ws.length+1:=by rw [hws,lA];rfl
  obtain⟨m,t1,⟨t2,t3⟩,t4⟩:=tg.frr f hfm
  have t1:f.number=m:=by omega
  subst t1
  k_ownIn
  rw [hmap]
  refine⟨by rw [lA,lM];unfold limit;show ws.length+1≤_;omega,?_⟩
  refine GetY.mk (v:=.obj f.id) (by simp) ?_
  rw [show (List.map (fun f:Fr=>V.obj f.id) ws++List.map (fun f:Fr=>V.obj f.id) [f]).eraseIdx ((List.map (fun f:Fr=>V.obj f.id) ws++List.map (fun f:Fr=>V.obj f.id) [f]).length-1)=List.map (fun f:Fr=>V.obj f.id) ws by simp [List.eraseIdx_append_of_length_le]]
  refine PutY.intro ?_
  intro T1 h_1 c_1
  have hw_1:=c_1.otherK w.W.bk.w h_1
  have hw1':=hw_1
  unfold WId.obj at hw1'
  have hf1:=c_1.otherK hf h_1
  unfold Fr.obj at hf1
  k_ownIn
  refine⟨by omega,?_⟩
  refine BinY.tag (by omega) (by decide) ?_
  k_ownIn
  refine sp_drop (ts:=[]) (t:=.fr f.number) (by omega) hw_1 (c_1.otherK w.C.ce h_1) (by omega) fun ce' T2 n_2 h_2 hw_2 c_2=>?_
  let g':MG:={s.g with frames:=ws}
  have cc:Chg (ksX [.w,.chs,.fl,.frs,.hes]) T T2:=c_2.back (c_1.back (.refl _ _) (side_kind frs)) (side_kind w.W.bk.w)
  have up:∀ {i:Nat} {k:K} {o:O},T[i]?=some (k,o)→k∉([.w,.frs]:List K)→T2[i]?=some (k,o):=fun h ne=>by
   have h1:=c_1.otherK h h_1 (fun q=>ne (by rw [q];decide))
   exact c_2.otherK h1 hw_2 (fun q=>ne (by rw [q];decide))
  have fd:=tg.frd
  rw [hws,mP,nD] at fd
  have w_2:=w.drop (tt:=.fr f.number) (g':=g') (cm':=s.cm) cc h_2 hw_2 (up w.fl (by decide))
   (fun hd M=>⟨up M.m (by decide),c_2.otherK h_1 hw_2,fun x hx=>up (M.fr x (by rw [hws];exact mL _ hx)) (by decide),up M.chs (by decide),fun x hx=>up (M.ch x hx) (by decide),up M.sts (by decide),up M.fas (by decide),up M.hes (by decide),M.fk,by
    have:=M.len
    show ws.length≤1000∧s.g.chases.length≤1000∧s.g.fails.length≤1000∧s.g.held.length≤1000
    omega⟩) (by
    have e:s.g={g' with frames:=g'.frames++[f]}:=by show s.g={s.g with frames:=ws++[f]};rw [←hws]
    conv=>lhs;rw [e]
    exact roots_frame.trans (List.Perm.append_left _ t4.symm)) rfl (by show ws.length≤k∧s.g.chases.length≤k∧3*s.g.held.length≤k;omega)
  have tg':TgW s.f.count s.mi.iv g' (dropC s.cells (.fr f.number)) s.cm s.tx:=tg.drop (show f.number<64 by omega) (by omega) (by omega) (fun q=>by cases q) tg.chm (fun p hp'=>⟨hp',fun e=>by cases e⟩) tg.chd (fun x hx=>⟨by rw [hws];exact mL _ hx,fun e=>fd.2.2 _ (mO hx) f.number (by simp) (Tg.fr.inj e).symm⟩) fd.1 (fun j r' hj=>⟨hj,fun e=>by cases e⟩) (fun m h=>.inl h)
  k_ownIn
  exact q _ T2 w_2 tg' rfl rfl rfl rfl rfl rfl
theorem wld_number {n k:Nat} {s:Gs} (hn:1≤n) (w:Mem k s T) (tg:s.Tgs) (hk:k≤900)
  (q:∀ (z:Nat) s' T',z<99991→Mem (k+1) s' T'→s'.Tgs→s'.i=s.i→s'.mi=s.mi→s'.pend=s.pend→s'.ex=s.ex→s'.g=s.g→s'.ns=s.ns→Q (.int z) T'):Y (CN n 69 [.obj s.i.w] (hpOf T)) Q:=by
 have at_:=w.at_
 refine sp_number hn w.W.bk.w w.scr (by omega) fun z T' hz h c=>?_
 exact q z {s with f:={s.f with at_:=s.f.at_+1}} T' hz (w.setw h c rfl rfl (Nat.le_refl _) (by have:=w.cnt;show 3*s.f.count≤_;omega)) tg rfl rfl rfl rfl rfl rfl
theorem wld_fresh {n k z:Nat} {s:Gs} (hn:4≤n) (w:Mem k s T) (tg:s.Tgs) (hk:k≤300)
  (q:∀ v s' T',Mem (k+1) s' T'→s'.Tgs→s'.i=s.i→s'.mi=s.mi→s'.pend=s.pend→s'.ex=s.ex→s'.g=s.g→Q v T'):Y (CN n 72 [.obj s.i.w,.int z] (hpOf T)) Q:=by
 have made:=w.made
 refine sp_fresh hn w.W (by omega) fun f' hf' ts' T' W' g1 g2 g3 _ c=>?_
 have tg':TgW f'.count s.mi.iv s.g s.cells s.cm s.tx:=by rw [show f'.count=s.f.count from g1.count];exact tg
 exact q _ {s with f:=f',hf:=hf',ts:=ts'} T' (w.fresh W' g1 (by omega) g2 c) tg' rfl rfl rfl rfl rfl
theorem rows_set {t:Tg} {c c':Ce} (e1:c'.tag=c.tag) (e2:c'.rid=c.rid):∀ {cells:List Ce} {j:Nat},cells[j]?=some c→rowsOf (cells.set j c') t=rowsOf cells t
 | [],_,h=>by cases h
 | a::l,0,h=>by
  have h:a=c:=by simpa using h
  subst h
  unfold rowsOf
  rw [List.set_cons_zero,List.filter_cons,List.filter_cons,e1]
  split
  ·rw [mC,mC,e2]
  ·rfl
 | a::l,j+1,h=>by
  have ih:=rows_set (t:=t) e1 e2 (cells:=l) (j:=j) (by simpa using h)
  unfold rowsOf at ih ⊢
  rw [List.set_cons_succ,List.filter_cons,List.filter_cons]
  split
  ·rw [mC,mC,ih]
  ·exact ih
theorem map_set_same {α β:Type} {f:α→β} {c c':α} (e:f c'=f c):∀ {l:List α} {j:Nat},l[j]?=some c→(l.set j c').map f=l.map f
 | [],_,h=>by cases h
 | a::l,0,h=>by
  have h:a=c:=by simpa using h
  subst h
  rw [List.set_cons_zero,mC,mC,e]
 | a::l,j+1,h=>by
  rw [List.set_cons_succ,mC,mC,map_set_same e (by simpa using h)]
theorem TgW.setc {count iv j:Nat} {g:MG} {cells:List Ce} {cm:List (Nat×Chs)} {tx:List Nat} {c c':Ce} (t:TgW count iv g cells cm tx) (hj:cells[j+1]?=some c) (e1:c'.tag=c.tag) (e2:c'.rid=c.rid) (e3:c'.specs.length=c.specs.length):TgW count iv g (cells.set (j+1) c') cm tx:=by
 obtain⟨chm,chr,chd,che,frr,frd,her,new,hew,hd0⟩:=t
 refine⟨chm,fun p hp=>by rw [rows_set e1 e2 hj];exact chr p hp,chd,fun x hx p hp e=>?_,fun f hf=>?_,frd,fun j' r h=>by rw [rows_set e1 e2 hj];exact her j' r h,fun m h1 h2=>by rw [rows_set e1 e2 hj,rows_set e1 e2 hj];exact new m h1 h2,fun m h1 h2=>by rw [rows_set e1 e2 hj];exact hew m h1 h2,?_⟩
 ·rcases List.mem_or_eq_of_mem_set hx with q|q
  ·exact che x q p hp e
  ·rw [q,e1] at e
   rw [q,e3];exact che c (mG hj) p hp e
 ·obtain⟨m,h1,h2,h3⟩:=frr f hf
  exact⟨m,h1,h2,by rw [rows_set e1 e2 hj];exact h3⟩
 ·obtain⟨ct,rest,e,h⟩:=hd0
  exact⟨ct,rest.set j c',by rw [e,List.set_cons_succ],h⟩
theorem mem_set_nd {f:Ce→Nat} {l:List Ce} {j:Nat} {c c' x:Ce} (hn:(l.map f).Nodup) (hj:l[j]?=some c) (hx:x∈l.set j c'):x=c'∨(x∈l∧f x≠f c):=by
 obtain⟨i,hi⟩:=gO hx
 by_cases q:j=i
 ·subst q
  rw [List.getElem?_set_self (gS.mp hj).1] at hi
  exact .inl (Option.some.inj hi).symm
 ·rw [List.getElem?_set_ne q] at hi
  refine .inr ⟨mG hi,fun e=>q ?_⟩
  have h1:(l.map f)[j]?=(l.map f)[i]?:=by rw [gM,gM,hi,hj,Option.map_some,Option.map_some,e]
  exact (List.getElem?_inj (by rw [lM];exact (gS.mp hj).1) hn).mp h1
theorem Mem.setc {k j:Nat} {s:Gs} {T T':TH} {c:Ce} {specs:List Spec} (w:Mem k s T) (hj:s.cells[j]?=some c) (cc:Chg (fun i _=>i=c.rid∨i=c.pid) T T') (hr:T'[c.rid]?=some (.real,.list (specs.map (Spec.val (whOf s.ts))))) (hp:T'[c.pid]?=some (.cspec,.list (specs.map Spec.v))) (hce:T'[s.i.ce]?=some (.ce,.list (s.cells.map Ce.v)))
  (hok:∀ x∈specs,x.Ok s.ts) (hl:specs.length≤10):Mem k {s with cells:=s.cells.set j {c with specs:=specs}} T':=by
 obtain⟨W,C,⟨hd,M,H⟩,perm,exs,nd,rdy,swp,scr,fl,txd,txs,txn,kt,fks,made,at_,cnt,cel,len⟩:=w
 have hcm:=mG hj
 have off:∀ {i':Nat} {k':K} {o':O},T[i']?=some (k',o')→k'≠.real→k'≠.cspec→T'[i']?=some (k',o'):=fun hi q1 q2=>cc.get hi fun q=>by
  rcases q with q|q
  ·rw [q,C.row c hcm] at hi;cases hi;exact q1 rfl
  ·rw [q,C.spec c hcm] at hi;cases hi;exact q2 rfl
 have offr:∀ {i':Nat} {o':O},T[i']?=some (.real,o')→i'≠c.rid→T'[i']?=some (.real,o'):=fun hi q1=>cc.get hi fun q=>by
  rcases q with q|q
  ·exact q1 q
  ·rw [q,C.spec c hcm] at hi;cases hi
 have offp:∀ {i':Nat} {o':O},T[i']?=some (.cspec,o')→i'≠c.pid→T'[i']?=some (.cspec,o'):=fun hi q1=>cc.get hi fun q=>by
  rcases q with q|q
  ·rw [q,C.row c hcm] at hi;cases hi
  ·exact q1 q
 have er:(s.cells.set j {c with specs:=specs}).map Ce.rid=s.cells.map Ce.rid:=map_set_same (c:=c) (c':={c with specs:=specs}) rfl hj
 have ep:(s.cells.set j {c with specs:=specs}).map Ce.pid=s.cells.map Ce.pid:=map_set_same (c:=c) (c':={c with specs:=specs}) rfl hj
 have ev:(s.cells.set j {c with specs:=specs}).map Ce.v=s.cells.map Ce.v:=map_set_same (c:=c) (c':={c with specs:=specs}) rfl hj
 obtain⟨⟨a1,a2,a3,a4,a5,a6,a7⟩,b2,b3,⟨d1,d2,d3,⟨wl,d4,d4'⟩,d5,d6,d7⟩,b5,gs,b6,b7⟩:=W
 refine⟨⟨⟨off a1 (by decide) (by decide),off a2 (by decide) (by decide),off a3 (by decide) (by decide),off a4 (by decide) (by decide),off a5 (by decide) (by decide),offr a6 (fun q=>rdy (q▸mL _ (mO hcm))),fun t ht=>off (a7 t ht) (by decide) (by decide)⟩,fun t ht=>off (b2 t ht) (by decide) (by decide),b3,⟨off d1 (by decide) (by decide),off d2 (by decide) (by decide),off d3 (by decide) (by decide),⟨wl,off d4 (by decide) (by decide),d4'⟩,fun t ht=>off (d5 t ht) (by decide) (by decide),d6,d7⟩,b5,gs,off b6 (by decide) (by decide),b7⟩,
  ⟨by show _=some (K.ce,O.list ((s.cells.set j _).map Ce.v));rw [ev];exact hce,fun x hx=>?_,fun x hx=>?_,fun x hx=>?_,by show ((s.cells.set j _).map Ce.rid).Nodup;rw [er];exact C.rn,by show ((s.cells.set j _).map Ce.pid).Nodup;rw [ep];exact C.pn,fun x hx=>?_⟩,
  ⟨hd,⟨off M.m (by decide) (by decide),off M.frs (by decide) (by decide),fun f hf=>off (M.fr f hf) (by decide) (by decide),off M.chs (by decide) (by decide),fun x hx=>off (M.ch x hx) (by decide) (by decide),off M.sts (by decide) (by decide),off M.fas (by decide) (by decide),off M.hes (by decide) (by decide),M.fk,M.len⟩,by
  rcases H with H|⟨a,b,e,h⟩
  ·exact .inl H
  ·exact .inr ⟨a,b,e,Hds.mk (off h.hd (by decide) (by decide)) (off h.hr (by decide) (by decide))⟩⟩,by show (_:List Nat).Perm ((s.cells.set j _).map Ce.rid++s.ex);rw [er];exact perm,fun x hx=>offr (exs x hx) (fun q=>(nD.mp nd).2.2 _ (mO hcm) _ hx q.symm),by show ((s.cells.set j _).map Ce.rid++s.ex).Nodup;rw [er];exact nd,by show _∉(s.cells.set j _).map Ce.rid++s.ex;rw [er];exact rdy,off swp (by decide) (by decide),⟨off scr.at_ (by decide) (by decide),scr.len⟩,off fl (by decide) (by decide),off txd (by decide) (by decide),off txs (by decide) (by decide),txn,?_,fks,made,at_,cnt,by show (s.cells.set j _).length≤_;rw [List.length_set];exact cel,len⟩
 ·rcases mem_set_nd C.rn hj hx with rfl|⟨q1,q2⟩
  ·exact hr
  ·exact offr (C.row x q1) q2
 ·rcases mem_set_nd C.pn hj hx with rfl|⟨q1,q2⟩
  ·exact hp
  ·exact offp (C.spec x q1) q2
 ·rcases mem_set_nd C.rn hj hx with rfl|⟨q1,q2⟩
  ·exact hok
  ·exact C.ok x q1
 ·rcases mem_set_nd C.rn hj hx with rfl|⟨q1,q2⟩
  ·exact hl
  ·exact C.len x q1
 ·obtain⟨ro,ix,de,we,op,rl,il,dl,wl,ol,k1,k2,k3,k4,k5,k6,k7,k8⟩:=kt.ex
  exact⟨ro,ix,de,we,op,rl,il,dl,wl,ol,off k1 (by decide) (by decide),k2,off k3 (by decide) (by decide),off k4 (by decide) (by decide),off k5 (by decide) (by decide),off k6 (by decide) (by decide),off k7 (by decide) (by decide),k8⟩
theorem Mem.setf {k j m:Nat} {s:Gs} {T T':TH} {c:Ce} {specs:List Spec} {f':WN} {hf':Hn} {ts':List Th} {tx':List Nat} (w:Mem k s T) (W':HW s.i f' s.h hf' ts' T') (g1:NGrow s.f f' m) (hm:m≤30) (g2:Grow s.ts ts') (hj:s.cells[j]?=some c) (cc:Chg (fun i k=>ksX [.hp,.tl,.at_,.w,.ag,.wh,.wt,.inn,.tx] i k∨i=c.rid∨i=c.pid) T T') (htd:T'[s.i.tx]?=some (.tx,.di (txD tx'))) (hts:T'[s.mi.inn]?=some (.inn,.ds (txS tx'))) (htn:tx'.Nodup∧∀ n∈tx',n≤2) (hr:T'[c.rid]?=some (.real,.list (specs.map (Spec.val (whOf ts'))))) (hp:T'[c.pid]?=some (.cspec,.list (specs.map Spec.v))) (hce:T'[s.i.ce]?=some (.ce,.list (s.cells.map Ce.v)))
  (hok:∀ x∈specs,x.Ok ts') (hl:specs.length≤10):Mem (k+1) {s with f:=f',hf:=hf',ts:=ts',cells:=s.cells.set j {c with specs:=specs},tx:=tx'} T':=by
 obtain⟨W,C,⟨hd,M,H⟩,perm,exs,nd,rdy,swp,scr,fl,txd,txs,txn,kt,fks,made,at_,cnt,cel,len⟩:=w
 have hcm:=mG hj
 have off:∀ {i':Nat} {k':K} {o':O},T[i']?=some (k',o')→k'≠.real→k'≠.cspec→k'∉([.hp,.tl,.at_,.w,.ag,.wh,.wt,.inn,.tx]:List K)→T'[i']?=some (k',o'):=fun hi q1 q2 q3=>cc.get hi fun q=>by
  rcases q with q|q|q
  ·exact q3 q
  ·rw [q,C.row c hcm] at hi;cases hi;exact q1 rfl
  ·rw [q,C.spec c hcm] at hi;cases hi;exact q2 rfl
 have offr:∀ {i':Nat} {o':O},T[i']?=some (.real,o')→i'≠c.rid→T'[i']?=some (.real,o'):=fun {i'} _ hi q1=>cc.get hi fun q=>by
  rcases q with q|q|q
  ·exact nk (i:=i') (by decide:K.real∉_) q
  ·exact q1 q
  ·rw [q,C.spec c hcm] at hi;cases hi
 have offp:∀ {i':Nat} {o':O},T[i']?=some (.cspec,o')→i'≠c.pid→T'[i']?=some (.cspec,o'):=fun {i'} _ hi q1=>cc.get hi fun q=>by
  rcases q with q|q|q
  ·exact nk (i:=i') (by decide:K.cspec∉_) q
  ·rw [q,C.row c hcm] at hi;cases hi
  ·exact q1 q
 have er:(s.cells.set j {c with specs:=specs}).map Ce.rid=s.cells.map Ce.rid:=map_set_same (c:=c) (c':={c with specs:=specs}) rfl hj
 have ep:(s.cells.set j {c with specs:=specs}).map Ce.pid=s.cells.map Ce.pid:=map_set_same (c:=c) (c':={c with specs:=specs}) rfl hj
 have ev:(s.cells.set j {c with specs:=specs}).map Ce.v=s.cells.map Ce.v:=map_set_same (c:=c) (c':={c with specs:=specs}) rfl hj
 have h1:=g1.made
 have h2:=g1.at_
 have h3:=g1.count
 refine⟨W',
  ⟨by show _=some (K.ce,O.list ((s.cells.set j _).map Ce.v));rw [ev];exact hce,fun x hx=>?_,fun x hx=>?_,fun x hx=>?_,by show ((s.cells.set j _).map Ce.rid).Nodup;rw [er];exact C.rn,by show ((s.cells.set j _).map Ce.pid).Nodup;rw [ep];exact C.pn,fun x hx=>?_⟩,
  ⟨hd,⟨off M.m (by decide) (by decide) (by decide),off M.frs (by decide) (by decide) (by decide),fun f hf=>off (M.fr f hf) (by decide) (by decide) (by decide),off M.chs (by decide) (by decide) (by decide),fun x hx=>off (M.ch x hx) (by decide) (by decide) (by decide),off M.sts (by decide) (by decide) (by decide),off M.fas (by decide) (by decide) (by decide),off M.hes (by decide) (by decide) (by decide),M.fk,M.len⟩,by
  rcases H with H|⟨a,b,e,h⟩
  ·exact .inl H
  ·exact .inr ⟨a,b,e,Hds.mk (off h.hd (by decide) (by decide) (by decide)) (off h.hr (by decide) (by decide) (by decide))⟩⟩,by show (_:List Nat).Perm ((s.cells.set j _).map Ce.rid++s.ex);rw [er];exact perm,fun x hx=>offr (exs x hx) (fun q=>(nD.mp nd).2.2 _ (mO hcm) _ hx q.symm),by show ((s.cells.set j _).map Ce.rid++s.ex).Nodup;rw [er];exact nd,by show _∉(s.cells.set j _).map Ce.rid++s.ex;rw [er];exact rdy,off swp (by decide) (by decide) (by decide),⟨off scr.at_ (by decide) (by decide) (by decide),scr.len⟩,off fl (by decide) (by decide) (by decide),htd,hts,htn,?_,fks,by show f'.made≤_;omega,by show f'.at_≤_;omega,by show 3*f'.count≤_;omega,by show (s.cells.set j _).length≤_;rw [List.length_set];omega,by show s.g.frames.length≤_∧s.g.chases.length≤_∧s.g.fails.length≤_∧3*s.g.held.length≤_;omega⟩
 ·rcases mem_set_nd C.rn hj hx with rfl|⟨q1,q2⟩
  ·exact hr
  ·rw [mJ fun s' hs=>g2.val s' (C.ok x q1 s' hs)]
   exact offr (C.row x q1) q2
 ·rcases mem_set_nd C.pn hj hx with rfl|⟨q1,q2⟩
  ·exact hp
  ·exact offp (C.spec x q1) q2
 ·rcases mem_set_nd C.rn hj hx with rfl|⟨q1,q2⟩
  ·exact hok
  ·exact fun s' hs=>g2.ok s' (C.ok x q1 s' hs)
 ·rcases mem_set_nd C.rn hj hx with rfl|⟨q1,q2⟩
  ·exact hl
  ·exact C.len x q1
 ·obtain⟨ro,ix,de,we,op,rl,il,dl,wl,ol,k1,k2,k3,k4,k5,k6,k7,k8⟩:=kt.ex
  exact⟨ro,ix,de,we,op,rl,il,dl,wl,ol,off k1 (by decide) (by decide) (by decide),k2,off k3 (by decide) (by decide) (by decide),off k4 (by decide) (by decide) (by decide),off k5 (by decide) (by decide) (by decide),off k6 (by decide) (by decide) (by decide),off k7 (by decide) (by decide) (by decide),k8⟩
set_option maxHeartbeats 4000000 in
theorem deed_set {n k z:Nat} {s:Gs} (hn:8≤n) (w:Mem k s T) (tg:s.Tgs) (hk:k≤156) (hz:z%8=5∨z%8=6) (h1:1<s.cells.length)
  (q:∀ s' T',Mem (k+1) s' T'→s'.Tgs→s'.i=s.i→s'.f.at_=s.f.at_→s'.pend=s.pend→s'.ex=s.ex→s'.g.statics=s.g.statics→s'.cells.length=s.cells.length→Q (.bool true) T'):Y (CN n 86 [.obj s.i.w,.int z] (hpOf T)) Q:=by
 obtain⟨n,rfl,_⟩:=down hn
 refine call_fn (fd:=fd_law_deed) (by rfl) (by rfl) ?_
 show SV _ [some (.obj s.i.w),some (.int z),none,none,none,none,none,none,none,none] _ _ _
 unfold fd_law_deed
 have hw:=w.W.bk.w
 unfold WId.obj at hw
 have hce:=w.C.ce
 have cel:=w.cel
 k_ownIn
 refine LenY.list hce (by rw [lM];unfold limit;omega) ?_
 rw [lM]
 k_ownIn
 rw [show ((s.cells.length:Int)-1)=((s.cells.length-1:Nat):Int) by omega]
 refine BinY.modN (by omega) ?_
 have hlt:z/8%(s.cells.length-1)<s.cells.length-1:=Nat.mod_lt _ (by omega)
 generalize z/8%(s.cells.length-1)=j at hlt ⊢
 obtain⟨c,hc⟩:∃ c,s.cells[j+1]?=some c:=⟨_,gE (by omega)⟩
 have hcm:=mG hc
 have hsp:=w.C.spec c hcm
 have hrw:=w.C.row c hcm
 have hlen:=w.C.len c hcm
 refine BinY.mk (v:=.int ((j+1:Nat):Int)) (by show some (V.int (1+(j:Int)))=_;rw [show (1+(j:Int))=((j+1:Nat):Int) by omega]) ?_
 refine IdxY.list hce (at_nat (j:=j+1) (v:=c.v) (by rw [gM,hc];rfl) (by omega)) ?_
 unfold Ce.v
 k_ownIn
 refine LenY.list hsp (by rw [lM];unfold limit;omega) ?_
 rw [lM]
 by_cases h0:c.specs.length=0
 ·k_ownIn
  exact q s T (w.mono (Nat.le_succ _)) tg rfl rfl rfl rfl rfl rfl
 ·obtain⟨s0,rest,hs0⟩:∃ a l,c.specs=a::l:=by
   cases h:c.specs with
   | nil=>rw [h] at h0;exact absurd rfl h0
   | cons a l=>exact⟨a,l,rfl⟩
  k_ownIn
  refine⟨fun _=>?_,fun h=>absurd (of_decide_eq_false h) (by omega)⟩
  have made:=w.made
  rw [hs0] at hsp hrw
  k_ownIn
  refine IdxPut.list hsp ⟨by omega,by rw [lM,lC];omega,by omega⟩ ?_
  refine PutY.intro ?_
  intro T1 g_1 c_1
  have cc1:Chg (ksX [.cspec]) T T1:=c_1.back (.refl _ _) (side_kind hsp)
  have hw_1:=cc1.get hw nk
  have W1:=w.W.chg cc1 (fun _=>⟨nk,nk,nk,nk,nk⟩) (fun _=>⟨nk,nk,nk,nk,nk,nk⟩) (fun _=>⟨nk,nk⟩) nk
  have hr1:=c_1.otherK hrw g_1
  have g_1:T1[c.pid]?=some (.cspec,.list (V.tup [.int 0,.int 0,.int 0]::rest.map Spec.v)):=g_1
  rcases hz with hz|hz
  ·k_ownIn
   refine sp_fresh (by omega) W1 (by omega) fun f' hf' ts' T2 W2 n1 n2 n3 ⟨t,ht,n4,n5⟩ c_2=>?_
   have hok:Spec.Ok ⟨0,f'.made,0⟩ ts':=⟨Nat.zero_le _,Nat.zero_le _,fun _=>⟨show 0<4 by decide,t,ht,n4,fun h=>by cases h⟩,fun _=>n3⟩
   have g_2:=c_2.get g_1 nk
   have hr2:=c_2.get hr1 nk
   have ce2:=c_2.get (c_1.otherK hce (by exact g_1)) nk
   have hw_2:=W2.bk.w
   unfold WId.obj at hw_2
   k_ownIn
   refine IdxPut.list g_2 ⟨by omega,by rw [lC];omega,by omega⟩ ?_
   refine PutY.intro ?_
   intro T3 g_3 c_3
   have g_3:T3[c.pid]?=some (.cspec,.list (V.tup [.int 0,.int f'.made,.int 0]::rest.map Spec.v)):=g_3
   have cc3:Chg (ksX [.cspec]) T2 T3:=c_3.back (.refl _ _) (side_kind g_2)
   have W3:=W2.chg cc3 (fun _=>⟨nk,nk,nk,nk,nk⟩) (fun _=>⟨nk,nk,nk,nk,nk,nk⟩) (fun _=>⟨nk,nk⟩) nk
   have hr3:=c_3.otherK hr2 g_3
   have ce3:=c_3.otherK ce2 g_3
   k_ownIn
   refine sp_value (s:=⟨0,f'.made,0⟩) (by omega) W3.bk.w W3.bk.wh hok ?_
   k_ownIn
   refine IdxPut.list hr3 ⟨by omega,by rw [lM,lC];omega,by omega⟩ ?_
   refine PutY.intro ?_
   intro T4 h_4 c4
   have hrd:c.rid≠s.h.rdy:=fun e=>w.rdy (e▸mL _ (mO hcm))
   have W4:HW s.i f' s.h hf' ts' T4:=by
    have ne:∀ {k':K} {o':O} {i':Nat},T3[i']?=some (k',o')→k'≠.real→¬ oneX c.rid i' k':=fun hi hk q=>by
     have q:_=c.rid:=q
     rw [q,hr3] at hi;cases hi;exact hk rfl
    obtain⟨⟨a1,a2,a3,a4,a5,a6,a7⟩,b2,b3,⟨d1,d2,d3,⟨wl,d4,d4'⟩,d5,d6,d7⟩,b5,gs,b6,b7⟩:=W3
    exact⟨⟨c4.get a1 (ne a1 (by decide)),c4.get a2 (ne a2 (by decide)),c4.get a3 (ne a3 (by decide)),c4.get a4 (ne a4 (by decide)),c4.get a5 (ne a5 (by decide)),c4.other a6 hrd.symm,fun t ht=>c4.get (a7 t ht) (ne (a7 t ht) (by decide))⟩,fun t ht=>c4.get (b2 t ht) (ne (b2 t ht) (by decide)),b3,⟨c4.get d1 (ne d1 (by decide)),c4.get d2 (ne d2 (by decide)),c4.get d3 (ne d3 (by decide)),⟨wl,c4.get d4 (ne d4 (by decide)),d4'⟩,fun t ht=>c4.get (d5 t ht) (ne (d5 t ht) (by decide)),d6,d7⟩,b5,gs,c4.get b6 (ne b6 (by decide)),b7⟩
   have cc:Chg (fun i k=>freshX i k∨i=c.rid∨i=c.pid) T T4:=c4.back (c_3.back (c_2.back ((c_1.back (.refl _ _) (fun _ _ _ _ q=>q)).weaken fun _ _ q=>.inr (.inr q)) fun _ _ _ _ q=>.inl q) fun _ _ _ _ q=>.inr (.inr q)) fun _ _ _ _ q=>.inr (.inl q)
   have hrow:rest.map (Spec.val (whOf s.ts))=rest.map (Spec.val (whOf ts')):=mJ fun x hx=>(n2.val x (w.C.ok c hcm x (by rw [hs0];exact .tail _ hx))).symm
   have offt:∀ {i':Nat} {k':K} {o':O},T[i']?=some (k',o')→k'≠.real→k'≠.cspec→k'∉([.hp,.tl,.at_,.w,.ag,.wh,.wt]:List K)→T4[i']?=some (k',o'):=fun hi q1 q2 q3=>cc.get hi fun q=>by
    rcases q with q|q|q
    ·exact q3 q
    ·rw [q,w.C.row c hcm] at hi;cases hi;exact q1 rfl
    ·rw [q,w.C.spec c hcm] at hi;cases hi;exact q2 rfl
   have w_4:=w.setf (specs:=⟨0,f'.made,0⟩::rest) W4 n1 (by omega) n2 hc (cc.weaken fun _ _ q=>q.imp_left fun q=>(by decide:∀ k∈([.hp,.tl,.at_,.w,.ag,.wh,.wt]:List K),k∈([.hp,.tl,.at_,.w,.ag,.wh,.wt,.inn,.tx]:List K)) _ q) (offt w.txd (by decide) (by decide) (by decide)) (offt w.txs (by decide) (by decide) (by decide)) w.txn (by rw [mC,←hrow];exact h_4) (c4.otherK g_3 h_4) (c4.otherK ce3 h_4) (fun x hx=>by
    rcases mK.mp hx with rfl|hx
    ·exact hok
    ·exact n2.ok x (w.C.ok c hcm x (by rw [hs0];exact .tail _ hx))) (by rw [hs0] at hlen;exact hlen)
   have tg':=tg.setc (c':={c with specs:=⟨0,f'.made,0⟩::rest}) hc rfl rfl (by rw [hs0];rfl)
   rw [←show f'.count=s.f.count from n1.count] at tg'
   k_ownIn
   exact q _ T4 w_4 tg' rfl n1.at_ rfl rfl rfl (by show (s.cells.set _ _).length=_;rw [List.length_set])
  ·k_ownIn
   have hok:Spec.Ok ⟨0,0,0⟩ s.ts:=⟨Nat.zero_le _,Nat.zero_le _,fun h=>absurd (show 0<0 from h) (by decide),fun h=>absurd (show 0=1 from h) (by decide)⟩
   refine sp_value (s:=⟨0,0,0⟩) (by omega) W1.bk.w W1.bk.wh hok ?_
   k_ownIn
   refine IdxPut.list hr1 ⟨by omega,by rw [lM,lC];omega,by omega⟩ ?_
   refine PutY.intro ?_
   intro T2 h_2 c_2
   have cc:Chg (fun i _=>i=c.rid∨i=c.pid) T T2:=c_2.back ((c_1.back (.refl _ _) (fun _ _ _ _ q=>q)).weaken fun _ _ q=>.inr q) fun _ _ _ _ q=>.inl q
   have w_2:=w.setc (specs:=⟨0,0,0⟩::rest) hc cc h_2 (c_2.otherK g_1 h_2) (c_2.otherK (c_1.otherK hce (by exact g_1)) h_2) (fun x hx=>by
    rcases mK.mp hx with rfl|hx
    ·exact hok
    ·exact w.C.ok c hcm x (by rw [hs0];exact .tail _ hx)) (by rw [hs0] at hlen;exact hlen)
   k_ownIn
   exact q _ T2 (w_2.mono (Nat.le_succ _)) (tg.setc hc rfl rfl (by rw [hs0];rfl)) rfl rfl rfl rfl rfl (by show (s.cells.set _ _).length=_;rw [List.length_set])
theorem sp_before {a b:V} (hn:1≤n) (k:∀ v,Q v T):Y (CN n 58 [a,b] (hpOf T)) Q:=by
 obtain⟨n,rfl,_⟩:=down hn
 refine call_fn (fd:=fd_Sweeper_before) (by rfl) (by rfl) ?_
 show SV _ [some a,some b] _ _ _
 unfold fd_Sweeper_before
 k_ownIn
 exact k _
theorem sp_fslots {a c:V} (hn:1≤n) (k:∀ o T',T[o]?=none→T'[o]?=some (.slots,.list [.tup [.int 8,.str (sO "")]])→Chg noX T T'→Q (.obj o) T'):Y (CN n 63 [a,.int 13,c] (hpOf T)) Q:=by
 obtain⟨n,rfl,_⟩:=down hn
 refine call_fn (fd:=fd_first_slots) (by rfl) (by rfl) ?_
 show SV _ [some a,some (.int 13),some c,none,none,none] _ _ _
 unfold fd_first_slots
 k_ownIn
 refine AnyK.mk .slots ?_
 k_ownIn
 rename_i o T1 hn_1 h_1 c_1
 exact k o T1 hn_1 h_1 c_1
theorem HB.pid {h:Hid} {ts:List Th} {f:Hn} {a:Th} (p:Nat) (b:HB h (ts++[a]) f T):HB h (ts++[{a with pid:=p}]) f T:=by
 obtain⟨b1,b2,b3,b4,b5,b6,b7⟩:=b
 refine⟨?_,?_,?_,b4,b5,b6,fun t ht=>?_⟩
 ·rw [b1,endOf_snoc,endOf_snoc];rfl
 ·rw [b2,mP,mP];rfl
 ·rw [b3];unfold atOf;rw [mP,mP];rfl
 ·rcases mA.mp ht with q|q
  ·exact b7 t (mL _ q)
  ·rw [mS] at q;subst q
   exact b7 a (mR _ (mS.mpr rfl))
def text0:V:=.tup [.int 8,.str (sO "")]
theorem sp_athing {n m:Nat} {mi:MId} {hd:V} {h:Hid} {ts:List Th} {f:Hn} {specs:List Spec} {pid:Nat} (hn:4≤n) (hb:HB h ts f T) (hp:Packed 16 ts) (hlim:ts.length≤50000) (mm:T[m]?=some (.m,mi.obj h.hp hd)) (sw:T[mi.sw]?=some (.oth,.inst 8 [])) (he:specs.length=1)
  (k:∀ t sl T',T[t]?=none→T[sl]?=none→T'[sl]?=some (.slots,.list [text0])→HB h (ts++[⟨f.made+1,13,specs,0,endOf ts,t,sl,pid⟩]) {f with fresh:=f.fresh+3,made:=f.made+1} T'→Chg (ksX [.hp,.tl,.at_]) T T'→Q (.obj t) T'):Y (CN n 64 [.obj m,.int 13,.int 1] (hpOf T)) Q:=by
 obtain⟨n,rfl,_⟩:=down hn
 refine call_fn (fd:=fd_alloc_thing) (by rfl) (by rfl) ?_
 show SV _ [some (.obj m),some (.int 13),some (.int 1)] _ _ _
 unfold fd_alloc_thing
 unfold MId.obj at mm
 k_ownIn
 refine sp_before (by omega) fun v=>?_
 k_ownIn
 refine sp_fslots (by omega) fun sl T1 hn_1 h_1 c_1=>?_
 k_ownIn
 refine sp_alloc (pid:=pid) (specs:=specs) (by omega) (hb.keep0 c_1) hp hlim h_1 ⟨by decide,by decide⟩ he fun t T2 hn_2 hb2 c_2=>?_
 exact k t sl T2 (none_back hn_2 (c_1.weaken fun _ _ _=>trivial)) hn_1 (c_2.get h_1 nk) hb2 (c_2.back (c_1.weaken fun _ _ q=>q.elim) fun _ _ _ _ q=>q)
theorem sp_salloc {n m:Nat} {a b:V} (hn:1≤n) (k:Y (CN (n-1) 64 [.obj m,a,b] (hpOf T)) Q):Y (CN n 60 [.obj m,a,b] (hpOf T)) Q:=by
 obtain⟨n,rfl,_⟩:=down hn
 refine call_fn (fd:=fd_Shelf_alloc) (by rfl) (by rfl) ?_
 show SV _ [some (.obj m),some a,some b] _ _ _
 unfold fd_Shelf_alloc
 k_ownIn
 exact k
theorem sp_stref {n m:Nat} {a:V} (hn:1≤n) (k:Y (CN (n-1) 66 [.obj m,a] (hpOf T)) Q):Y (CN n 61 [.obj m,a] (hpOf T)) Q:=by
 obtain⟨n,rfl,_⟩:=down hn
 refine call_fn (fd:=fd_Shelf_text_ref) (by rfl) (by rfl) ?_
 show SV _ [some (.obj m),some a] _ _ _
 unfold fd_Shelf_text_ref
 k_ownIn
 exact k
theorem sp_sntext {n m:Nat} {a:V} (hn:1≤n) (k:Y (CN (n-1) 65 [.obj m,a] (hpOf T)) Q):Y (CN n 62 [.obj m,a] (hpOf T)) Q:=by
 obtain⟨n,rfl,_⟩:=down hn
 refine call_fn (fd:=fd_Shelf_new_text) (by rfl) (by rfl) ?_
 show SV _ [some (.obj m),some a] _ _ _
 unfold fd_Shelf_new_text
 k_ownIn
 exact k
theorem sp_made {n m:Nat} {mi:MId} {hd:V} {h:Hid} {ts:List Th} {f:Hn} {wd:Str} {specs:List Spec} {pid:Nat} (hn:6≤n) (hb:HB h ts f T) (hp:Packed 16 ts) (hlim:ts.length≤50000) (mm:T[m]?=some (.m,mi.obj h.hp hd)) (sw:T[mi.sw]?=some (.oth,.inst 8 [])) (he:specs.length=1)
  (k:∀ t sl T',T[t]?=none→T[sl]?=none→T'[sl]?=some (.slots,.list [.tup [.int 8,.str wd]])→HB h (ts++[⟨f.made+1,13,specs,0,endOf ts,t,sl,pid⟩]) {f with fresh:=f.fresh+3,made:=f.made+1} T'→Chg (ksX [.hp,.tl,.at_]) T T'→Q (refV (endOf ts)) T'):Y (CN n 65 [.obj m,.str wd] (hpOf T)) Q:=by
 obtain⟨n,rfl,_⟩:=down hn
 refine call_fn (fd:=fd_made_text) (by rfl) (by rfl) ?_
 show SV _ [some (.obj m),some (.str wd),none] _ _ _
 unfold fd_made_text
 have mm':=mm
 unfold MId.obj at mm'
 k_ownIn
 refine sp_salloc (by omega) (sp_athing (specs:=specs) (pid:=pid) (by omega) hb hp hlim mm sw he fun t sl T1 hnt hns hsl hb1 c_1=>?_)
 have ht:=hb1.th _ (mR _ (mS.mpr rfl))
 unfold Th.obj at ht
 dsimp only at ht
 k_ownIn
 refine IdxPut.list hsl ⟨by decide,by decide,by decide⟩ ?_
 refine PutY.intro ?_
 intro T2 h_2 c_2
 have ht_2:=c_2.otherK ht h_2
 k_ownIn
 have cs:Chg (ksX [.slots]) T1 T2:=c_2.back (.refl _ _) (side_kind hsl)
 exact k t sl T2 hnt hns h_2 (hb1.keep cs (fun _=>⟨nk,nk,nk,nk,nk,nk⟩) nk) (c_2.back c_1 (side_fresh hns))
theorem zi_none {α:Type} [DecidableEq α] (f:Nat→α):∀ (tx:List Nat) (k:Nat),(∀ m∈tx,f m≠f n)→dget ((tx.zipIdx k).map fun p=>(f p.1,V.int (p.2:Int))) (f n)=none
 | [],_,_=>rfl
 | a::r,k,h=>by
  rw [List.zipIdx_cons,mC]
  unfold dget
  rw [if_neg (h a (.head _))]
  exact zi_none f r (k+1) fun m hm=>h m (.tail _ hm)
theorem zi_some {α:Type} [DecidableEq α] (f:Nat→α):∀ (tx:List Nat) (k:Nat),(∀ m∈tx,f m=f n→m=n)→tx.Nodup→∀ j:Nat,tx[j]?=some n→dget ((tx.zipIdx k).map fun p=>(f p.1,V.int (p.2:Int))) (f n)=some (.int ((k+j:Nat):Int))
 | [],_,_,_,_,h=>by cases h
 | a::r,k,hi,hd,j,hj=>by
  rw [List.zipIdx_cons,mC]
  unfold dget
  rw [nC] at hd
  cases j with
  | zero =>
   have hj:a=n:=by simpa using hj
   rw [if_pos (by rw [hj])];rfl
  | succ j =>
   have hj:r[j]?=some n:=by simpa using hj
   rw [if_neg fun q=>hd.1 (by rw [hi a (.head _) q];exact mG hj)]
   rw [zi_some f r (k+1) (fun m hm=>hi m (.tail _ hm)) hd.2 j hj]
   congr 3
   omega
theorem words_inj {a b:Nat} (ha:a≤2) (hb:b≤2) (h:words a=words b):a=b:=by
 have:∀ a:Fin 3,∀ b:Fin 3,words a=words b→a=b:=by decide +kernel
 have:=this ⟨a,by omega⟩ ⟨b,by omega⟩ h
 exact congrArg Fin.val this
theorem tx_snoc {tx:List Nat}:txD (tx++[n])=txD tx++[((n:Int),.int tx.length)]∧txS (tx++[n])=txS tx++[(words n,.int tx.length)]:=by
 unfold txD txS
 rw [List.zipIdx_append,mP,mP]
 constructor<;>simp
theorem tx_none {tx:List Nat} (h:n∉tx) (hl:∀ m∈tx,m≤2) (hn:n≤2):dget (txD tx) n=none∧dget (txS tx) (words n)=none :=
 ⟨zi_none (fun x:Nat=>(x:Int)) tx 0 fun m hm e=>h (by have e:(m:Int)=n:=e;rw [←show m=n by omega];exact hm),zi_none words tx 0 fun m hm e=>h (words_inj (hl m hm) hn e▸hm)⟩
theorem tx_some {tx:List Nat} {n j:Nat} (h:tx[j]?=some n) (hd:tx.Nodup) (hl:∀ m∈tx,m≤2):dget (txD tx) n=some (.int j)∧dget (txS tx) (words n)=some (.int j):=by
 have hn:=hl n (mG h)
 have h1:=zi_some (fun x:Nat=>(x:Int)) tx 0 (fun m hm e=>by have e:(m:Int)=n:=e;omega) hd j h
 have h2:=zi_some words tx 0 (fun m hm e=>words_inj (hl m hm) hn e) hd j h
 rw [Nat.zero_add] at h1 h2
 exact⟨h1,h2⟩
theorem whOf_new {ts:List Th} {t:Th} (h:∀ u∈ts,u.ser≠t.ser):whOf (ts++[t]) t.ser=t.addr:=by
 unfold whOf
 rw [List.find?_append,List.find?_eq_none.mpr fun u hu=>by simpa using h u hu]
 simp
theorem HW.more' {i:WId} {f:WN} {h:Hid} {hf hf':Hn} {ts:List Th} {t:Th} {T T':TH} {X:Nat→K→Prop} (b:HW i f h hf ts T) (hb':HB h (ts++[t]) hf' T') (bk':Bk i {f with made:=f.made+1,top:=f.top+t.size} (ts++[t]) T') (c:Chg X T T') (nX:∀ i,¬ X i .slots∧¬ X i .m) (hm:hf'.made=hf.made+1)
  (h1:t.addr=endOf ts) (h2:t.ser=f.made+1) (h3:t.age=0) (hok:∀ s∈t.specs,s.Ok ts) (hage:∀ s∈t.specs,∀ v,tgt ts s=some v→v.age=0) (hlen:t.specs.length≤10) (htid:T[t.tid]?=none) (hsid:T[t.sid]?=none) (hsl:T'[t.sid]?=some (.slots,.list (t.specs.map (Spec.val (whOf ts))))) :
  HW i {f with made:=f.made+1,top:=f.top+t.size} h hf' (ts++[t]) T':=by
 refine⟨hb',fun u hu=>?_,b.good.snoc h1 (fun u hu=>by have:=b.bk.made u hu;omega) h3 hok hage hlen (fun u hu=>ne_none (b.hb.th u hu) htid) (fun u hu=>ne_none (b.sl u hu) hsid) (by omega),bk',by rw [hm,b.made],?_⟩
 ·rcases mA.mp hu with q|q
  ·rw [mJ fun s hs=>val_append (b.good.ok u q s hs)]
   exact c.get (b.sl u q) (nX _).1
  ·rw [mS] at q;subst q
   rw [mJ fun s hs=>val_append (hok s hs)]
   exact hsl
 ·obtain⟨fs,e,e'⟩:=b.sh
  exact⟨fs,c.get e (nX _).2,e'⟩
theorem TgW.text {count iv:Nat} {g:MG} {cells:List Ce} {cm:List (Nat×Chs)} {tx tx':List Nat} {c c':Ce} (t:TgW count iv g cells cm tx) (hj:cells[0]?=some c) (e1:c'.tag=c.tag) (e2:c'.rid=c.rid) (e3:c'.specs.length=tx'.length) (e4:0<c'.specs.length):TgW count iv g (cells.set 0 c') cm tx':=by
 obtain⟨chm,chr,chd,che,frr,frd,her,new,hew,hd0⟩:=t
 refine⟨chm,fun p hp=>by rw [rows_set e1 e2 hj];exact chr p hp,chd,fun x hx p hp e=>?_,fun f hf=>?_,frd,fun j' r h=>by rw [rows_set e1 e2 hj];exact her j' r h,fun m h1 h2=>by rw [rows_set e1 e2 hj,rows_set e1 e2 hj];exact new m h1 h2,fun m h1 h2=>by rw [rows_set e1 e2 hj];exact hew m h1 h2,?_⟩
 ·rcases List.mem_or_eq_of_mem_set hx with q|q
  ·exact che x q p hp e
  ·rw [q];exact e4
 ·obtain⟨m,h1,h2,h3⟩:=frr f hf
  exact⟨m,h1,h2,by rw [rows_set e1 e2 hj];exact h3⟩
 ·obtain⟨ct,rest,e,h1,h2,h3⟩:=hd0
  have hc:ct=c:=by rw [e] at hj;simpa using hj
  subst hc
  exact⟨c',rest,by rw [e,List.set_cons_zero],e1.trans h1,e2.trans h2,e3⟩
theorem sp_told {n m j:Nat} {mi:MId} {hp:Nat} {hd v:V} {wd:Str} {dl:List (Str×V)} {l:List V} (hn:1≤n) (mm:T[m]?=some (.m,mi.obj hp hd)) (inn:T[mi.inn]?=some (.inn,.ds dl)) (iv:T[mi.iv]?=some (.real,.list l)) (hj:dget dl wd=some (.int j)) (hv:l[j]?=some v) (hb:j<1000000) (k:Q v T):Y (CN n 66 [.obj m,.str wd] (hpOf T)) Q:=by
 obtain⟨n,rfl,_⟩:=down hn
 refine call_fn (fd:=fd_interned_text) (by rfl) (by rfl) ?_
 show SV _ [some (.obj m),some (.str wd),none,none] _ _ _
 unfold fd_interned_text
 unfold MId.obj at mm
 k_ownIn
 refine HandE.intro (EV.get2s ?_)
 k_ownIn
 refine⟨_,_,inn,?_⟩
 k_ownIn
 refine⟨_,_,_,rfl,inn,?_⟩
 rw [hj]
 k_ownIn
 refine IdxY.list iv (at_nat hv hb) ?_
 k_ownIn
 exact k
theorem sp_tnew {n m:Nat} {mi:MId} {hd:V} {h:Hid} {ts:List Th} {f:Hn} {wd:Str} {specs:List Spec} {pid:Nat} {dl:List (Str×V)} {l:List V} (hn:8≤n) (hb:HB h ts f T) (hp:Packed 16 ts) (hlim:ts.length≤50000) (mm:T[m]?=some (.m,mi.obj h.hp hd)) (sw:T[mi.sw]?=some (.oth,.inst 8 [])) (he:specs.length=1) (inn:T[mi.inn]?=some (.inn,.ds dl)) (hdl:dget dl wd=none) (hd2:dl.length<1000) (iv:T[mi.iv]?=some (.real,.list l)) (hl:l.length<1000) (hrd:mi.iv≠h.rdy)
  (k:∀ t sl T',T[t]?=none→T[sl]?=none→T'[sl]?=some (.slots,.list [.tup [.int 8,.str wd]])→HB h (ts++[⟨f.made+1,13,specs,0,endOf ts,t,sl,pid⟩]) {f with fresh:=f.fresh+3,made:=f.made+1} T'→T'[mi.inn]?=some (.inn,.ds (dl++[(wd,.int l.length)]))→T'[mi.iv]?=some (.real,.list (l++[refV (endOf ts)]))→Chg (fun i k=>ksX [.hp,.tl,.at_,.inn] i k∨i=mi.iv) T T'→Q (refV (endOf ts)) T'):Y (CN n 66 [.obj m,.str wd] (hpOf T)) Q:=by
 obtain⟨n,rfl,_⟩:=down hn
 refine call_fn (fd:=fd_interned_text) (by rfl) (by rfl) ?_
 show SV _ [some (.obj m),some (.str wd),none,none] _ _ _
 unfold fd_interned_text
 have mm':=mm
 unfold MId.obj at mm'
 k_ownIn
 refine HandE.intro (EV.get2s ?_)
 k_ownIn
 refine⟨_,_,inn,?_⟩
 k_ownIn
 refine⟨_,_,_,rfl,inn,?_⟩
 rw [hdl]
 k_ownIn
 refine sp_sntext (by omega) (sp_made (specs:=specs) (pid:=pid) (by omega) hb hp hlim mm sw he fun t sl T1 hnt hns hsl hb1 c_1=>?_)
 have inn1:=c_1.get inn nk
 have iv1:=c_1.get iv nk
 k_ownIn
 refine LenY.list iv1 (by unfold limit;omega) ?_
 k_ownIn
 refine IdxPut.ds inn1 (by unfold limit;omega) ?_
 rw [dput_none hdl]
 refine PutY.intro ?_
 intro T2 h_2 c_2
 have iv2:=c_2.otherK iv1 h_2
 have mm2:=c_2.otherK (c_1.get mm' nk) h_2
 k_ownIn
 refine⟨by unfold limit;omega,?_⟩
 refine PutY.intro ?_
 intro T3 h_3 c_3
 have cs2:Chg (ksX [.inn]) T1 T2:=c_2.back (.refl _ _) (side_kind inn1)
 have hb2:=hb1.keep cs2 (fun _=>⟨nk,nk,nk,nk,nk,nk⟩) nk
 obtain⟨b1,b2,b3,b4,b5,b6,b7⟩:=hb2
 k_ownIn
 exact k t sl T3 hnt hns (c_3.otherK (c_2.otherK hsl h_2) h_3) ⟨c_3.otherK b1 h_3,c_3.otherK b2 h_3,c_3.otherK b3 h_3,c_3.otherK b4 h_3,c_3.otherK b5 h_3,c_3.other b6 hrd.symm,fun t ht=>c_3.otherK (b7 t ht) h_3⟩ (c_3.otherK h_2 h_3) h_3
  (c_3.back (cs2.back (c_1.weaken fun _ _ q=>.inl ((by decide:∀ k∈([.hp,.tl,.at_]:List K),k∈([.hp,.tl,.at_,.inn]:List K)) _ q)) fun _ _ _ _ q=>.inl ((by decide:∀ k∈([.inn]:List K),k∈([.hp,.tl,.at_,.inn]:List K)) _ q)) fun _ _ _ _ q=>.inr q)
theorem dok_val {s:Spec} {wh:Nat→Nat} {Q:Bool→Prop} (q:Q true):CmpY T .eq (s.val wh) (s.val wh) Q:=by
 have h:DOk (hpOf T) 8 (s.val wh):=DOk.val (n:=3)
 have e:∃ l,s.val wh=.tup l:=by
  unfold Spec.val Spec.valA
  split<;>exact⟨_,rfl⟩
 obtain⟨l,e⟩:=e
 rw [e] at h ⊢
 exact CmpY.eq_tup h q
theorem len3:∀ {l:List Nat},(∀ m∈l,m≤2)→l.length=l.count 0+l.count 1+l.count 2
 | [],_=>rfl
 | a::r,h=>by
  have h1:=len3 (l:=r) fun m hm=>h m (.tail _ hm)
  have h2:=h a (.head _)
  rw [lC,List.count_cons,List.count_cons,List.count_cons]
  rcases (show a=0∨a=1∨a=2 by omega) with rfl|rfl|rfl<;>simp<;>omega
set_option maxHeartbeats 4000000 in
theorem sp_text {n k x:Nat} {s:Gs} (hn:10≤n) (w:Mem k s T) (tg:s.Tgs) (hk:k≤166) (hx:x≤2)
  (q:∀ s' T',Mem (k+1) s' T'→s'.Tgs→s'.i=s.i→s'.mi=s.mi→s'.f.at_=s.f.at_→s'.pend=s.pend→s'.ex=s.ex→s'.g=s.g→Q (.bool true) T'):Y (CN n 81 [.obj s.i.w,.int x] (hpOf T)) Q:=by
 obtain⟨n,rfl,_⟩:=down hn
 refine call_fn (fd:=fd_law_text) (by rfl) (by rfl) ?_
 show SV _ [some (.obj s.i.w),some (.int x),none,none,none,none] _ _ _
 unfold fd_law_text
 have hw:=w.W.bk.w
 unfold WId.obj at hw
 obtain⟨hd,M,H⟩:=w.M
 have mm:=M.m
 unfold MId.obj at mm
 obtain⟨ct,rest,hcs,ht1,ht2,ht3⟩:=tg.hd0
 have hce:T[s.i.ce]?=some (.ce,.list (ct.v::rest.map Ce.v)):=by have:=w.C.ce;rw [hcs] at this;exact this
 have hcm:ct∈s.cells:=by rw [hcs];exact .head _
 have hc0:s.cells[0]?=some ct:=by rw [hcs];rfl
 have hsp:=w.C.spec ct hcm
 have hrw:=w.C.row ct hcm
 obtain⟨htn,ht4⟩:=w.txn
 have htl:s.tx.length≤3:=by
  rw [len3 ht4]
  have h1:=List.nodup_iff_count.mp htn
  have:=h1 (a:=0);have:=h1 (a:=1);have:=h1 (a:=2)
  omega
 have made:=w.made
 unfold Ce.v at hce
 k_ownIn
 refine IdxY.tupN (v:=.str (words x)) (by rcases (show x=0∨x=1∨x=2 by omega) with rfl|rfl|rfl<;>rfl) (by omega) ?_
 k_ownIn
 refine sp_stref (by omega) ?_
 by_cases hm:x∈s.tx
 ·obtain⟨j,hj⟩:=gO hm
  have hjl:=(gS.mp hj).1
  obtain⟨d1,d2⟩:=tx_some hj htn ht4
  obtain⟨sp,hsj⟩:∃ sp,ct.specs[j]?=some sp:=⟨_,gE (by omega)⟩
  rw [ht2] at hrw
  refine sp_told (j:=j) (v:=sp.val (whOf s.ts)) (by omega) M.m w.txs hrw d2 (by rw [gM,hsj];rfl) (by omega) ?_
  have txd:=w.txd
  k_ownIn
  refine CmpY.nmem_di txd ?_
  rw [d1]
  k_ownIn
  refine IdxY.di txd d1 ?_
  k_ownIn
  refine IdxY.list hsp (at_nat (v:=sp.v) (by rw [gM,hsj];rfl) (by omega)) ?_
  k_ownIn
  refine sp_value (by omega) w.W.bk.w w.W.bk.wh (w.C.ok ct hcm sp (mG hsj)) ?_
  k_ownIn
  refine dok_val ?_
  k_ownIn
  exact q s T (w.mono (Nat.le_succ _)) tg rfl rfl rfl rfl rfl rfl
 ·obtain⟨d1,d2⟩:=tx_none hm ht4 hx
  obtain⟨e1,e2⟩:=tx_snoc (tx:=s.tx) (n:=x)
  have hrd:s.mi.iv≠s.h.rdy:=fun e=>w.rdy (by rw [←e,←ht2];exact mL _ (mO hcm))
  have hlen:=good_len w.W
  have wm:=w.W.made
  have hrw':=hrw
  rw [ht2] at hrw'
  have hdl:(txS s.tx).length=s.tx.length:=by unfold txS;rw [lM,List.length_zipIdx]
  have hdl':(txD s.tx).length=s.tx.length:=by unfold txD;rw [lM,List.length_zipIdx]
  refine sp_tnew (specs:=[⟨7,0,x⟩]) (pid:=0) (by omega) w.W.hb w.W.good.packed (by omega) M.m w.swp rfl w.txs d2 (by omega) hrw' (by rw [lM];omega) hrd fun tid sid T1 hnt hns hsl hb1 inn1 iv1 c_1=>?_
  rw [lM,ht3] at inn1
  have cR:Chg (ksX [.hp,.tl,.at_,.inn,.real]) T T1:=c_1.back (.refl _ _) fun i' k' o' h q=>by
   rcases q with q|q
   ·exact (by decide:∀ k∈([.hp,.tl,.at_,.inn]:List K),k∈([.hp,.tl,.at_,.inn,.real]:List K)) _ q
   ·rw [q,hrw'] at h;cases h;exact (by decide:K.real∈([.hp,.tl,.at_,.inn,.real]:List K))
  have txd1:=cR.get w.txd nk
  have hw_1:=cR.get hw nk
  have hsp1:=cR.get hsp nk
  k_ownIn
  refine CmpY.nmem_di txd1 ?_
  rw [d1]
  k_ownIn
  refine LenY.list hsp1 (by rw [lM];unfold limit;omega) ?_
  rw [lM,ht3]
  k_ownIn
  refine IdxPut.di txd1 (by unfold limit;omega) ?_
  rw [dput_none d1]
  refine PutY.intro ?_
  intro T2 h_2 c_2
  have hw_2:=c_2.otherK hw_1 h_2
  have hsp2:=c_2.otherK hsp1 h_2
  have cT2:Chg (ksX [.tx]) T1 T2:=c_2.back (.refl _ _) (side_kind txd1)
  k_ownIn
  refine AnyK.mk .tspec ?_
  k_ownIn
  rename_i pid T3 hn3 h_3 c_3
  have bk3:Bk s.i s.f s.ts T3:=((w.W.bk.chg cR fun _=>⟨nk,nk,nk,nk,nk⟩).chg cT2 fun _=>⟨nk,nk,nk,nk,nk⟩).chg c_3 fun _=>⟨id,id,id,id,id⟩
  refine sp_noted (t:=⟨s.hf.made+1,13,[⟨7,0,x⟩],0,endOf s.ts,tid,sid,pid⟩) (by omega) bk3 (by omega) (by omega) (by rw [←w.W.made]) w.W.bk.top.symm rfl h_3 (by show 1≤1000;decide) fun T4 bk4 c4=>?_
  have hsp4:=c4.get (c_3.keep hsp2) nk
  k_ownIn
  refine⟨by rw [lM];unfold limit;omega,?_⟩
  refine PutY.intro ?_
  intro T5 h_5 c_5
  have cS:Chg (ksX [.cspec]) T4 T5:=c_5.back (.refl _ _) (side_kind hsp4)
  let t:Th:=⟨s.hf.made+1,13,[⟨7,0,x⟩],0,endOf s.ts,tid,sid,pid⟩
  have ds:∀ {ks ks':List K},(∀ k∈ks,k∈ks')→∀ {T:TH} (i:Nat) (k:K) (o:O),T[i]?=some (k,o)→ksX ks i k→ksX ks' i k:=fun h _ _ _ _ _ q=>h _ q
  have c15:Chg (ksX [.tx,.w,.ag,.wh,.wt,.cspec]) T1 T5:=cS.back (c4.back (c_3.back (cT2.weaken fun _ _ q=>(by decide:∀ k∈([.tx]:List K),k∈([.tx,.w,.ag,.wh,.wt,.cspec]:List K)) _ q) side_no) (ds (by decide))) (ds (by decide))
  have c05:Chg (ksX [.hp,.tl,.at_,.inn,.real,.tx,.w,.ag,.wh,.wt,.cspec]) T T5:=c15.back (cR.weaken fun _ _ q=>(by decide:∀ k∈([.hp,.tl,.at_,.inn,.real]:List K),k∈([.hp,.tl,.at_,.inn,.real,.tx,.w,.ag,.wh,.wt,.cspec]:List K)) _ q) (ds (by decide))
  have cc:Chg (fun i k=>ksX [.hp,.tl,.at_,.w,.ag,.wh,.wt,.inn,.tx] i k∨i=ct.rid∨i=ct.pid) T T5:=c_5.back (c4.back (c_3.back (cT2.back (c_1.weaken fun _ _ q=>by
   rcases q with q|q
   ·exact .inl ((by decide:∀ k∈([.hp,.tl,.at_,.inn]:List K),k∈([.hp,.tl,.at_,.w,.ag,.wh,.wt,.inn,.tx]:List K)) _ q)
   ·exact .inr (.inl (by rw [ht2];exact q))) fun _ _ _ _ q=>.inl ((by decide:∀ k∈([.tx]:List K),k∈([.hp,.tl,.at_,.w,.ag,.wh,.wt,.inn,.tx]:List K)) _ q)) side_no) fun _ _ _ _ q=>.inl ((by decide:∀ k∈([.w,.ag,.wh,.wt]:List K),k∈([.hp,.tl,.at_,.w,.ag,.wh,.wt,.inn,.tx]:List K)) _ q)) fun _ _ _ _ q=>.inr (.inr q)
  have hb5:HB s.h (s.ts++[t]) _ T5:=(HB.pid pid hb1).keep c15 (fun _=>⟨nk,nk,nk,nk,nk,nk⟩) nk
  have bk5:=bk4.chg cS fun _=>⟨nk,nk,nk,nk,nk⟩
  have hok7:Spec.Ok ⟨7,0,x⟩ s.ts:=⟨Nat.le_refl _,hx,fun h=>absurd (show 0<0 from h) (by decide),fun h=>absurd (show 7=1 from h) (by decide)⟩
  have W5:=w.W.more' (t:=t) hb5 bk5 c05 (fun _=>⟨nk,nk⟩) rfl rfl (by show s.hf.made+1=_;rw [w.W.made]) rfl (fun a ha=>by rw [mS.mp ha];exact hok7) (fun a ha v hv=>by
   rw [mS.mp ha] at hv
   exact absurd (show 0<0 from (tgt_mem hv).2.1) (by decide)) (by show 1≤10;decide) hnt hns (c15.get hsl nk)
  have g2:Grow s.ts (s.ts++[t]):=.snoc _ _
  have hser:t.ser=s.f.made+1:=by show s.hf.made+1=_;rw [w.W.made]
  have hok:Spec.Ok ⟨0,s.f.made+1,0⟩ (s.ts++[t]):=⟨Nat.zero_le _,Nat.zero_le _,fun _=>⟨show 0<4 by decide,t,mR _ (mS.mpr rfl),hser,fun h=>by cases h⟩,fun h=>absurd (show 0=1 from h) (by decide)⟩
  have hv:Spec.val (whOf (s.ts++[t])) ⟨0,s.f.made+1,0⟩=refV (endOf s.ts):=by
   unfold Spec.val
   show refV (if 0<s.f.made+1 then whOf (s.ts++[t]) (s.f.made+1) else 0)=_
   rw [if_pos (Nat.succ_pos _),←hser,whOf_new fun u hu=>by have:=w.W.bk.made u hu;omega]
  have w_5:=w.setf (tx':=s.tx++[x]) (specs:=ct.specs++[⟨0,s.f.made+1,0⟩]) (m:=1) W5 ⟨rfl,rfl,by simp,by simp⟩ (by omega) g2 hc0 cc (by rw [e1];exact c_5.otherK (c4.get (c_3.keep h_2) nk) h_5) (by rw [e2];exact c15.get inn1 nk) ⟨by
    rw [nD]
    exact⟨htn,by simp,fun a ha b hb e=>hm (by rw [←mS.mp hb,←e];exact ha)⟩,fun a ha=>by
    rcases mA.mp ha with h|h
    ·exact ht4 a h
    ·rw [mS.mp h];exact hx⟩ (by
    rw [mP,mJ fun a ha=>val_append (w.C.ok ct hcm a ha),ht2,List.map_singleton,hv]
    exact c15.get iv1 nk) (by rw [mP];exact h_5) (by
    have:=w.C.ce
    exact c05.get this nk) (fun a ha=>by
    rcases mA.mp ha with h|h
    ·exact g2.ok a (w.C.ok ct hcm a h)
    ·rw [mS.mp h];exact hok) (by rw [lA,lS];omega)
  have tg':=tg.text (c':={ct with specs:=ct.specs++[⟨0,s.f.made+1,0⟩]}) (tx':=s.tx++[x]) hc0 rfl rfl (by show (ct.specs++[_]).length=(s.tx++[x]).length;rw [lA,lA,ht3];rfl) (by show 0<(ct.specs++[_]).length;rw [lA];exact Nat.succ_pos _)
  have h_2':=c_5.otherK (c4.get (c_3.keep h_2) nk) h_5
  have hw5:=W5.bk.w
  unfold WId.obj at hw5
  have hat:=List.getElem?_concat_length (l:=ct.specs.map Spec.v) (a:=Spec.v ⟨0,s.f.made+1,0⟩)
  rw [lM,ht3] at hat
  k_ownIn
  refine IdxY.di h_2' (v:=.int s.tx.length) (dget_new fun p hp e=>?_) ?_
  ·obtain⟨y,hy,rfl⟩:=mM.mp hp
   have e:((y.1:Nat):Int)=(x:Int):=e
   have hy1:=List.fst_mem_of_mem_zipIdx hy
   exact hm (by rw [←show y.1=x by omega];exact hy1)
  k_ownIn
  refine IdxY.list h_5 (at_nat hat (by omega)) ?_
  k_ownIn
  refine sp_value (s:=⟨0,s.f.made+1,0⟩) (by omega) W5.bk.w W5.bk.wh hok ?_
  have key:∀ v,v=refV (endOf s.ts)→∀ (T:TH) (Q:Bool→Prop),Q true→CmpY T .eq (refV (endOf s.ts)) v Q:=fun v e T Q q=>by
   have:=dok_val (T:=T) (s:=⟨0,s.f.made+1,0⟩) (wh:=whOf (s.ts++[t])) (Q:=Q) q
   rw [hv] at this
   rw [e];exact this
  have key:=key _ hv
  generalize Spec.val (whOf (s.ts++[t])) ⟨0,s.f.made+1,0⟩=v at key ⊢
  k_ownIn
  refine key _ _ ?_
  k_ownIn
  exact q _ T5 w_5 tg' rfl rfl rfl rfl rfl rfl
set_option maxHeartbeats 4000000 in
theorem deed_text {n k z:Nat} {s:Gs} (hn:11≤n) (w:Mem k s T) (tg:s.Tgs) (hk:k≤156) (hz:z%8=7) (hz2:z/8%3=0)
  (q:∀ s' T',Mem (k+1) s' T'→s'.Tgs→s'.i=s.i→s'.mi=s.mi→s'.f.at_=s.f.at_→s'.pend=s.pend→s'.ex=s.ex→s'.g=s.g→Q (.bool true) T'):Y (CN n 86 [.obj s.i.w,.int z] (hpOf T)) Q:=by
 obtain⟨n,rfl,_⟩:=down hn
 refine call_fn (fd:=fd_law_deed) (by rfl) (by rfl) ?_
 show SV _ [some (.obj s.i.w),some (.int z),none,none,none,none,none,none,none,none] _ _ _
 unfold fd_law_deed
 have hw:=w.W.bk.w
 unfold WId.obj at hw
 k_ownIn
 refine sp_text (x:=z/8/3%3) (by omega) w tg (by omega) (by omega) fun s' T' w' tg' e1 e2 e3 e4 e5 e6=>?_
 k_ownIn
 exact q s' T' w' tg' e1 e2 e3 e4 e5 e6
theorem Mem.cells2 {k:Nat} {s:Gs} (w:Mem k s T) (r:s.Rd):1<s.cells.length:=by
 obtain⟨a,b,st⟩:=r.st
 have h:=w.perm.length_eq
 have h1:=r.exl
 rw [r.pend] at h
 unfold rootsW at h
 simp only [lA,lM,st,lC,lN] at h
 omega
theorem sp_deed {n k z:Nat} {s:Gs} (hn:11≤n) (w:Mem k s T) (tg:s.Tgs) (rd:s.Rd) (hk:k≤156)
  (q:∀ s' T',Mem (k+10) s' T'→s'.Tgs→s'.Rd→s'.i.w=s.i.w→s'.i.m=s.i.m→Q (.bool true) T'):Y (CN n 86 [.obj s.i.w,.int z] (hpOf T)) Q:=by
 have fin:∀ {d:Nat} (s':Gs) T',d≤10→Mem (k+d) s' T'→s'.Tgs→s'.i.w=s.i.w→s'.i.m=s.i.m→s'.pend=s.pend→s'.ex=s.ex→s'.g.statics=s.g.statics→Q (.bool true) T':=fun {d} s' T' hd w' tg' e1 e2 e3 e4 e5 =>
  q s' T' (w'.mono (by omega)) tg' ⟨e3.trans rd.pend,by rw [e5];exact rd.st,by rw [e4];exact rd.exl⟩ e1 e2
 rcases (show z%8<2∨z%8=2∨z%8=3∨z%8=4∨(z%8=5∨z%8=6)∨z%8=7 by omega) with h|h|h|h|h|h
 ·exact deed_chase (by omega) w tg hk h fun s' T' w' tg' e1 e2 e3 e4 e5 e6=>fin (d:=0) s' T' (by omega) w' tg' e1 e2 e4 e5 e6
 ·exact deed_fly (by omega) w tg hk h fun s' T' w' tg' e1 e2 e3 e4 e5 e6=>fin (d:=5) s' T' (by omega) w' tg' e1 e2 e4 e5 e6
 ·exact deed_frame (by omega) w tg hk h fun s' T' w' tg' e1 e2 e3 e4 e5 e6=>fin (d:=0) s' T' (by omega) w' tg' e1 e2 e4 e5 e6
 ·exact deed_stand (by omega) w tg hk h fun s' T' w' tg' e1 e2 e3 e4 e5 e6=>fin (d:=10) s' T' (by omega) w' tg' e1 e2 e4 e5 e6
 ·exact deed_set (by omega) w tg hk h (w.cells2 rd) fun s' T' w' tg' e1 e3 e4 e5 e6 _=>fin (d:=1) s' T' (by omega) w' tg' (by rw [e1]) (by rw [e1]) e4 e5 e6
 ·rcases (show z/8%3=0∨z/8%3=1∨z/8%3=2 by omega) with g|g|g
  ·exact deed_text hn w tg hk h g fun s' T' w' tg' e1 e2 e3 e4 e5 e6=>fin (d:=1) s' T' (by omega) w' tg' (by rw [e1]) (by rw [e1]) e4 e5 (by rw [e6])
  ·exact deed_fail (by omega) w tg hk h g fun s' T' w' tg' e1 e2 e3 e4 e5 e6=>fin (d:=3) s' T' (by omega) w' tg' e1 e2 e4 e5 e6
  ·exact deed_held (by omega) w tg hk h g fun s' T' w' tg' e1 e2 e3 e4 e5 e6=>fin (d:=0) s' T' (by omega) w' tg' e1 e2 e4 e5 e6
theorem dget_miss {α:Type} [DecidableEq α] {l:List (α×V)} {k:α} (h:∀ p∈l,p.1≠k):dget l k=none:=by
 induction l with
 | nil=>rfl
 | cons p r ih =>
  unfold dget
  rw [if_neg (h p (.head _))]
  exact ih fun q hq=>h q (.tail _ hq)
set_option maxHeartbeats 4000000 in
theorem sp_KT {n kt:Nat} (hn:1≤n) (h0:T[kt]?=some (.kt,.inst 2 [])) (k:∀ T',KTL kt 16 64 T'→Chg (oneX kt) T T'→Q .none T'):Y (CN n 9 [.obj kt] (hpOf T)) Q:=by
 obtain⟨n,rfl,_⟩:=down hn
 refine call_fn (fd:=fd_KindTable_init) (by rfl) (by rfl) ?_
 show SV _ [some (.obj kt),none,none] _ _ _
 unfold fd_KindTable_init
 k_ownIn
 refine AnyK.mk .ktl ?_
 refine EVs.go ?_
 conv=>whnf
 refine NewY.intro ?_
 intro ro T1 hn_1 h_1 c_1
 have kt1:=c_1.keep h0
 k_ownIn
 rename_i T2 h_2 c_2
 have ro2:=c_2.otherK h_1 h_2
 have n_1:T[ro]?=none:=hn_1
 have cc2:Chg (oneX kt) T T2:=c_2.back (c_1.weaken fun _ _ q=>q.elim) side_same
 refine AnyK.mk .ktl ?_
 refine NewY.intro ?_
 intro ix T3 hn3 h_3 c_3
 have kt3:=c_3.keep h_2
 have ro3:=c_3.keep ro2
 have n_3:T[ix]?=none:=none_back hn3 (cc2.weaken fun _ _ _=>trivial)
 have d12:ro≠ix:=ne_none ro2 hn3
 clear c_1 c_2
 k_ownIn
 rename_i T4 h_4 c4
 have ro4:=c4.otherK ro3 h_4
 have ix4:=c4.otherK h_3 h_4
 have cc4:Chg (oneX kt) T T4:=c4.back (c_3.back cc2 side_no) side_same
 clear c_3 c4
 refine AnyK.mk .ktl ?_
 refine EVs.go ?_
 conv=>whnf
 refine NewY.intro ?_
 intro de T5 hn5 h_5 c_5
 have kt5:=c_5.keep h_4
 have ro5:=c_5.keep ro4
 have ix5:=c_5.keep ix4
 have n_5:T[de]?=none:=none_back hn5 (cc4.weaken fun _ _ _=>trivial)
 have d13:ro≠de:=ne_none ro4 hn5
 have d23:ix≠de:=ne_none ix4 hn5
 k_ownIn
 rename_i T6 h_6 c_6
 have ro6:=c_6.otherK ro5 h_6
 have ix6:=c_6.otherK ix5 h_6
 have de6:=c_6.otherK h_5 h_6
 have cc6:Chg (oneX kt) T T6:=c_6.back (c_5.back cc4 side_no) side_same
 clear c_5 c_6
 refine AnyK.mk .ktl ?_
 refine EVs.go ?_
 conv=>whnf
 refine NewY.intro ?_
 intro we T7 hn7 h_7 c_7
 have kt7:=c_7.keep h_6
 have ro7:=c_7.keep ro6
 have ix7:=c_7.keep ix6
 have de7:=c_7.keep de6
 have n7:T[we]?=none:=none_back hn7 (cc6.weaken fun _ _ _=>trivial)
 have d14:ro≠we:=ne_none ro6 hn7
 have d24:ix≠we:=ne_none ix6 hn7
 have d34:de≠we:=ne_none de6 hn7
 k_ownIn
 rename_i T8 h_8 c_8
 have ro8:=c_8.otherK ro7 h_8
 have ix8:=c_8.otherK ix7 h_8
 have de8:=c_8.otherK de7 h_8
 have we8:=c_8.otherK h_7 h_8
 have cc8:Chg (oneX kt) T T8:=c_8.back (c_7.back cc6 side_no) side_same
 clear c_7 c_8
 refine AnyK.mk .ktl ?_
 refine EVs.go ?_
 conv=>whnf
 refine NewY.intro ?_
 intro op T9 hn9 h_9 c9
 have kt9:=c9.keep h_8
 have ro9:=c9.keep ro8
 have ix9:=c9.keep ix8
 have de9:=c9.keep de8
 have we9:=c9.keep we8
 have n9:T[op]?=none:=none_back hn9 (cc8.weaken fun _ _ _=>trivial)
 have d15:ro≠op:=ne_none ro8 hn9
 have d25:ix≠op:=ne_none ix8 hn9
 have d35:de≠op:=ne_none de8 hn9
 have d45:we≠op:=ne_none we8 hn9
 k_ownIn
 rename_i T_0 h_0 c_0
 have ro0:=c_0.otherK ro9 h_0
 have ix0:=c_0.otherK ix9 h_0
 have de0:=c_0.otherK de9 h_0
 have we0:=c_0.otherK we9 h_0
 have op0:=c_0.otherK h_9 h_0
 have cc0:Chg (oneX kt) T T_0:=c_0.back (c9.back cc8 side_no) side_same
 clear c9 c_0
 refine HandS.intro (SV.forR (fun j ρ T'=>∃ x y:Option V,ρ=[some (.obj kt),x,y]∧(∃ rl il dl wl ol,T'[kt]?=some (.kt,.inst 2 [.obj ro,.obj ix,.obj de,.obj we,.obj op])∧T'[ro]?=some (.ktl,.list rl)∧T'[ix]?=some (.ktl,.dt il)∧T'[de]?=some (.ktl,.list dl)∧T'[we]?=some (.ktl,.list wl)∧T'[op]?=some (.ktl,.list ol)∧rl.length=j∧il.length=j∧dl.length=j∧wl.length=j∧ol.length=j∧∀ p∈il,p.1.2.2=false∧p.1.2.1<(j:Int))∧Chg (oneX kt) T T') ?_)
 k_ownIn
 refine⟨⟨by decide,by decide⟩,⟨none,none,rfl,⟨[],[],[],[],[],h_0,ro0,ix0,de0,we0,op0,rfl,rfl,rfl,rfl,rfl,fun p hp=>by cases hp⟩,cc0⟩,?_,?_⟩
 ·rintro j ρ S hj ⟨x,y,rfl,⟨rl,il,dl,wl,ol,kt0,h2,h3,h4,h5,h6,l1,l2,l3,l4,l5,hg⟩,cS⟩
  have hj:j<16:=hj
  have hmiss:∀ p∈il,p.1≠((1:Int),(j:Int),false):=fun p hp e=>by
   have:=(hg p hp).2
   rw [e] at this
   exact Int.lt_irrefl _ this
  refine⟨by show 1<3;decide,?_⟩
  show SV _ [some (.obj kt),some (.int (j:Nat)),y] _ _ _
  k_ownIn
  refine⟨by unfold limit;omega,?_⟩
  refine PutY.intro ?_
  intro S1 g1 e_1
  have kt1:=e_1.otherK kt0 g1
  have ix1:=e_1.other h3 (Ne.symm d12)
  have de1:=e_1.other h4 (Ne.symm d13)
  have we1:=e_1.other h5 (Ne.symm d14)
  have op1:=e_1.other h6 (Ne.symm d15)
  k_ownIn
  refine IdxPut.dt (key:=((1:Int),(j:Int),false)) ix1 rfl (by unfold limit;omega) ?_
  rw [dput_new hmiss]
  refine PutY.intro ?_
  intro S2 g2 e_2
  have kt2:=e_2.otherK kt1 g2
  have ro2:=e_2.other g1 d12
  have de2:=e_2.other de1 (Ne.symm d23)
  have we2:=e_2.other we1 (Ne.symm d24)
  have op2:=e_2.other op1 (Ne.symm d25)
  k_ownIn
  refine⟨by unfold limit;omega,?_⟩
  refine PutY.intro ?_
  intro S3 g3 e_3
  have kt3:=e_3.otherK kt2 g3
  have ro3:=e_3.other ro2 d13
  have ix3:=e_3.other g2 d23
  have we3:=e_3.other we2 (Ne.symm d34)
  have op3:=e_3.other op2 (Ne.symm d35)
  k_ownIn
  refine⟨by unfold limit;omega,?_⟩
  refine PutY.intro ?_
  intro S4 g4 e_4
  have kt4:=e_4.otherK kt3 g4
  have ro4:=e_4.other ro3 d14
  have ix4:=e_4.other ix3 d24
  have de4:=e_4.other g3 d34
  have op4:=e_4.other op3 (Ne.symm d45)
  k_ownIn
  refine⟨by unfold limit;omega,?_⟩
  refine PutY.intro ?_
  intro S5 g5 e_5
  k_ownIn
  refine⟨_,_,rfl,⟨_,_,_,_,_,e_5.otherK kt4 g5,e_5.other ro4 d15,e_5.other ix4 d25,e_5.other de4 d35,e_5.other g4 d45,g5,by rw [lA,l1];rfl,by rw [lA,l2];rfl,by rw [lA,l3];rfl,by rw [lA,l4];rfl,by rw [lA,l5];rfl,fun p hp=>?_⟩,e_5.back (e_4.back (e_3.back (e_2.back (e_1.back cS (side_fresh n_1)) (side_fresh n_3)) (side_fresh n_5)) (side_fresh n7)) (side_fresh n9)⟩
  rcases mA.mp hp with hp|hp
  ·have:=hg p hp
   exact⟨this.1,by omega⟩
  ·rw [mS.mp hp]
   exact⟨rfl,by show (j:Int)<((j+1:Nat):Int);omega⟩
 ·rintro ρ S ⟨x,y,rfl,⟨rl,il,dl,wl,ol,kt0,h2,h3,h4,h5,h6,l1,l2,l3,l4,l5,hg⟩,cS⟩
  k_ownIn
  refine k S ⟨⟨ro,ix,de,we,op,rl,il,dl,wl,ol,kt0,by simp [d12,d13,d14,d15,d23,d24,d25,d34,d35,d45],h2,h3,h4,h5,h6,l1,l2,l3,l4,l5,fun sx x' _=>dget_miss fun p hp e=>?_⟩⟩ cS
  have:=(hg p hp).1
  rw [e] at this
  cases this
structure ShI (km:K) (c m:Nat) (T0:TH) (fs:List V) (L:List (Nat×K×O)) (T:TH):Prop where
 me:T[m]?=some (km,.inst c fs.reverse)
 all:∀ x∈L,T[x.1]?=some x.2∧T0[x.1]?=none∧x.2.1≠km
 chg:Chg (oneX m) T0 T
 nd:(L.map (·.1)).Nodup
inductive NewE:E→O→Prop where
 | list:NewE (.list []) (.list [])
 | none1:NewE (.list [.lit .none]) (.list [.none])
 | di:NewE .di (.di [])
 | ds:NewE .ds (.ds [])
 | dt:NewE .dt (.dt [])
 | new0 (c:Nat):NewE (.new0 c) (.inst c [])
theorem putAt_end:∀ {l:List V} {v:V},putAt l l.length v=l++[v]
 | [],_=>rfl
 | a::r,v=>by
  show a::putAt r r.length v=_
  rw [putAt_end];rfl
section
variable {C:CallFn} {ρ:Rho} {T T0:TH} {Q:Option V×Rho→TH→Prop} {r:List S} {e:E} {km:K} {c m:Nat} {fs:List V} {L:List (Nat×K×O)}
theorem NewE.ev {k:K} {o:O} {Q:V→TH→Prop} (h:NewE e o) (q:NewY T k o fun i T=>Q (.obj i) T):EV C ρ e T Q:=by
 cases h with
 | list=>exact EV.list k (.nil q)
 | none1=>exact EV.list k (.cons (.lit (.nil q)))
 | di=>exact .di k q
 | ds=>exact .ds k q
 | dt=>exact .dt k q
 | new0 c=>exact .new0 k q
theorem ShI.put {T1:TH} (I:ShI km c m T0 fs L T1) {i:Nat} {v:V} (hi:fs.length=i) {Q:TH→Prop} (q:∀ T',ShI km c m T0 (v::fs) L T'→Q T'):AttrPut T1 m c i v Q:=by
 have hi:i=fs.reverse.length:=by rw [List.length_reverse,hi]
 subst hi
 refine AttrPut.mk I.me (Nat.le_refl _) ?_
 rw [putAt_end,←List.reverse_cons]
 refine PutY.intro ?_
 intro T2 h_2 c_2
 exact q T2 ⟨h_2,fun x hx=>⟨c_2.otherK (I.all x hx).1 h_2 (I.all x hx).2.2,(I.all x hx).2⟩,c_2.back I.chg side_same,I.nd⟩
theorem ShI.new {j:Nat} {k:K} {o:O} {T1:TH} (I:ShI km c m T0 fs L T) (hk:k≠km) (hn:T[j]?=none) (h:T1[j]?=some (k,o)) (cc:Chg noX T T1):ShI km c m T0 fs ((j,k,o)::L) T1:=by
 refine⟨cc.keep I.me,fun x hx=>?_,cc.back I.chg side_no,nC.mpr ⟨fun ha=>?_,I.nd⟩⟩
 ·rcases mK.mp hx with rfl|hx
  ·exact⟨h,none_back hn (I.chg.weaken fun _ _ _=>trivial),hk⟩
  ·exact⟨cc.keep (I.all x hx).1,(I.all x hx).2⟩
 ·obtain⟨x,hx,q⟩:=mM.mp ha
  exact ne_none (I.all x hx).1 hn q
theorem sh_new {i:Nat} (k:K) {o:O} (I:ShI km c m T0 fs L T) (he:NewE e o) (hρ:(ρ[0]?).join=some (.obj m)) (hi:fs.length=i) (hk:k≠km) (q:∀ j T',ShI km c m T0 (.obj j::fs) ((j,k,o)::L) T'→SV C ρ r T' Q):SV C ρ (.assign (.attr (.loc 0) c i) e::r) T Q:=by
 refine .assign_attr (he.ev (k:=k) (.intro fun j T1 hn h cc=>.loc hρ ⟨m,rfl,?_⟩))
 exact (I.new hk hn h cc).put hi fun T' I'=>q j T' I'
theorem sh_val {i:Nat} {v:V} (I:ShI km c m T0 fs L T) (he:∀ {Q:V→TH→Prop},Q v T→EV C ρ e T Q) (hρ:(ρ[0]?).join=some (.obj m)) (hi:fs.length=i) (q:∀ T',ShI km c m T0 (v::fs) L T'→SV C ρ r T' Q):SV C ρ (.assign (.attr (.loc 0) c i) e::r) T Q :=
 .assign_attr (he (.loc hρ ⟨m,rfl,I.put hi q⟩))
theorem EV.wd {l:List E} {Q:V→TH→Prop} (h:NewY T .w (.wd []) fun w T=>EVs C ρ l T fun vs T=>T[w]?=some (.w,.wd [])∧PutY T w .w (.wd vs) fun T=>Q (.obj w) T):EV C ρ (.wd l) T Q:=by
 simp only [EV,EVs,evalE] at *
 rw [hp_app (k:=.w),hp_length]
 refine .bnd (h.go.mono ?_)
 rintro vs T1 ⟨e,h⟩
 simp only [as_wd e,guardB,List.isEmpty_nil]
 rw [hp_set (k:=.w)]
 exact .pure (h.go e)
end
theorem sp_Heap {n hp:Nat} (hn:1≤n) (h0:T[hp]?=some (.hp,.inst 1 [])) (k:∀ (h:Hid) f T',h.hp=hp→f.made=0→HB h [] f T'→T[h.rdy]?=none→Chg (oneX hp) T T'→Q .none T'):Y (CN n 2 [.obj hp,.int 100000,.int 3] (hpOf T)) Q:=by
 obtain⟨n,rfl,_⟩:=down hn
 refine call_fn (fd:=fd_Heap_init) (by rfl) (by rfl) ?_
 show SV _ [some (.obj hp),some (.int 100000),some (.int 3)] _ _ _
 unfold fd_Heap_init
 have I:ShI .hp 1 hp T [] [] T:=⟨h0,fun _ h=>(nomatch h),.refl _ _,.nil⟩
 refine sh_new .tl I .list rfl rfl (by decide) fun tl T1 I=>?_
 refine sh_new .at_ I .di rfl rfl (by decide) fun at_ T2 I=>?_
 refine sh_val (v:=.int 16) I (fun q=>.glob rfl q) rfl rfl fun T3 I=>?_
 refine sh_val (v:=.int 100000) I (fun q=>.loc rfl q) rfl rfl fun T4 I=>?_
 refine sh_new .cd I .di rfl rfl (by decide) fun cd T5 I=>?_
 refine sh_val (v:=.int 3) I (fun q=>.loc rfl q) rfl rfl fun T6 I=>?_
 refine sh_val (v:=.int 0) I (fun q=>.lit q) rfl rfl fun T7 I=>?_
 refine sh_val (v:=.int 25001) I (fun q=>by k_ownIn;exact q) rfl rfl fun T8 I=>?_
 refine sh_new .fin I .list rfl rfl (by decide) fun fin T9 I=>?_
 refine sh_new .real I .list rfl rfl (by decide) fun rdy T10 I=>?_
 refine sh_val (v:=.int 0) I (fun q=>.lit q) rfl rfl fun T11 I=>?_
 refine sh_val (v:=.int 0) I (fun q=>.lit q) rfl rfl fun T12 I=>?_
 refine SV.nil ?_
 have g:=I.all
 simp only [List.forall_mem_cons] at g
 obtain⟨⟨g5,n5,_⟩,⟨g4,_⟩,⟨g3,_⟩,⟨g2,_⟩,⟨g1,_⟩,_⟩:=g
 exact k ⟨hp,tl,at_,cd,fin,rdy⟩ ⟨100000,0,25001,0,0⟩ T12 rfl rfl ⟨I.me,g1,g2,g3,g4,g5,fun _ h=>(nomatch h)⟩ n5 I.chg
theorem ShI.aside {km:K} {c m p:Nat} {T0 T T2:TH} {fs:List V} {L:List (Nat×K×O)} (I:ShI km c m T0 fs L T) (hn:T[p]?=none) (cc:Chg (oneX p) T T2):ShI km c m T0 fs L T2 :=
 ⟨cc.other I.me (ne_none I.me hn),fun x hx=>⟨cc.other (I.all x hx).1 (ne_none (I.all x hx).1 hn),(I.all x hx).2⟩,cc.back I.chg (side_fresh (none_back hn (I.chg.weaken fun _ _ _=>trivial))),I.nd⟩
theorem sp_Store {n st:Nat} (hn:2≤n) (h0:T[st]?=some (.oth,.inst 12 [])) (k:∀ kt fs T',T[kt]?=none→T'[st]?=some (.oth,.inst 12 (.obj kt::fs))→KTL kt 16 64 T'→Chg (oneX st) T T'→Q .none T'):Y (CN n 68 [.obj st] (hpOf T)) Q:=by
 obtain⟨n,rfl,_⟩:=down hn
 refine call_fn (fd:=fd_Store_init) (by rfl) (by rfl) ?_
 show SV _ [some (.obj st)] _ _ _
 unfold fd_Store_init
 refine .assign_attr (.new .kt (.nil (.intro fun kt T1 hn_1 h_1 c_1=>?_)))
 refine sp_KT (by omega) h_1 fun T2 K2 c_2=>⟨rfl,?_⟩
 refine .loc rfl ⟨st,rfl,?_⟩
 have st2:=c_2.other (c_1.keep h0) (ne_none h0 hn_1)
 have cc2:Chg (oneX st) T T2:=c_2.back (c_1.weaken fun _ _ q=>q.elim) (side_fresh hn_1)
 have I:ShI .oth 12 st T2 [] [] T2:=⟨st2,fun _ h=>(nomatch h),.refl _ _,.nil⟩
 refine I.put rfl fun T I=>?_
 refine sh_new .g I .none1 rfl rfl (by decide) fun a T I=>?_
 refine sh_new .g I .none1 rfl rfl (by decide) fun b T I=>?_
 refine sh_new .g I .none1 rfl rfl (by decide) fun c T I=>?_
 refine sh_new .g I .di rfl rfl (by decide) fun d T I=>?_
 refine sh_new .g I .list rfl rfl (by decide) fun e T I=>?_
 refine sh_val (v:=.int 0) I (fun q=>.lit q) rfl rfl fun T I=>?_
 have cK:Chg (ksX [.oth]) T2 T:=I.chg.back (.refl _ _) (side_kind st2)
 exact .nil (k kt _ T hn_1 I.me (K2.chg cK fun _=>⟨nk,nk⟩) (I.chg.back cc2 side_same))
theorem sp_Place {n p:Nat} {a b c:V} (hn:1≤n) (h0:T[p]?=some (.oth,.inst 5 [])) (k:∀ T',Chg (oneX p) T T'→Q .none T'):Y (CN n 56 [.obj p,a,b,c] (hpOf T)) Q:=by
 obtain⟨n,rfl,_⟩:=down hn
 refine call_fn (fd:=fd_PlaceHost_init) (by rfl) (by rfl) ?_
 show SV _ [some (.obj p),some a,some b,some c] _ _ _
 unfold fd_PlaceHost_init
 have I:ShI .oth 5 p T [] [] T:=⟨h0,fun _ h=>(nomatch h),.refl _ _,.nil⟩
 refine sh_val (v:=a) I (fun q=>.loc rfl q) rfl rfl fun T I=>?_
 refine sh_val (v:=b) I (fun q=>.loc rfl q) rfl rfl fun T I=>?_
 refine sh_val (v:=c) I (fun q=>.loc rfl q) rfl rfl fun T I=>?_
 exact .nil (k T I.chg)
set_option maxHeartbeats 4000000 in
theorem sp_Shelf {n m st kt hp:Nat} {fs0:List V} {T0:TH} (hn:2≤n) (h0:T0[m]?=some (.m,.inst 10 [])) (hst:T0[st]?=some (.oth,.inst 12 (.obj kt::fs0)))
  (k:∀ (mi:MId) T',mi.kt=kt→MW m mi hp .none ⟨[],[],[],[],[]⟩ T'→T'[mi.inn]?=some (.inn,.ds [])→T'[mi.iv]?=some (.real,.list [])→T'[mi.un]?=some (.real,.list [])→T'[mi.sw]?=some (.oth,.inst 8 [])→T0[mi.iv]?=none→T0[mi.un]?=none→mi.iv≠mi.un→Chg (oneX m) T0 T'→Q .none T'):Y (CN n 59 [.obj m,.obj st,.obj hp] (hpOf T0)) Q:=by
 obtain⟨n,rfl,_⟩:=down hn
 refine call_fn (fd:=fd_Shelf_init) (by rfl) (by rfl) ?_
 show SV _ [some (.obj m),some (.obj st),some (.obj hp)] _ _ _
 unfold fd_Shelf_init
 have I:ShI .m 10 m T0 [] [] T0:=⟨h0,fun _ h=>(nomatch h),.refl _ _,.nil⟩
 refine sh_val (v:=.obj st) I (fun q=>.loc rfl q) rfl rfl fun T I=>?_
 have hs:=I.chg.otherK hst I.me
 refine sh_val (v:=.obj kt) I (fun q=>by k_ownIn;exact q) rfl rfl fun T I=>?_
 refine sh_val (v:=.obj hp) I (fun q=>.loc rfl q) rfl rfl fun T I=>?_
 refine sh_new .oth I .dt rfl rfl (by decide) fun kin T I=>?_
 refine sh_new .oth I .di rfl rfl (by decide) fun rws T I=>?_
 refine sh_new .oth I .di rfl rfl (by decide) fun tgt T I=>?_
 refine sh_new .oth I .di rfl rfl (by decide) fun dfl T I=>?_
 refine sh_new .oth I .di rfl rfl (by decide) fun und T I=>?_
 refine sh_new .oth I .di rfl rfl (by decide) fun fnl T I=>?_
 refine sh_new .frs I .list rfl rfl (by decide) fun frs T I=>?_
 refine sh_new .oth I .di rfl rfl (by decide) fun byn T I=>?_
 refine sh_new .sts I .di rfl rfl (by decide) fun sts T I=>?_
 refine sh_new .oth I .di rfl rfl (by decide) fun ini T I=>?_
 refine sh_new .fas I .di rfl rfl (by decide) fun fas T I=>?_
 refine sh_new .oth I .di rfl rfl (by decide) fun ops T I=>?_
 refine sh_new .oth I .di rfl rfl (by decide) fun nat T I=>?_
 refine sh_val (v:=.int 0) I (fun q=>.glob rfl q) rfl rfl fun T I=>?_
 refine sh_new .oth I .list rfl rfl (by decide) fun tld T I=>?_
 refine sh_new .oth I .list rfl rfl (by decide) fun thr T I=>?_
 refine sh_new .oth I .list rfl rfl (by decide) fun cls T I=>?_
 refine sh_new .oth I .list rfl rfl (by decide) fun psh T I=>?_
 refine sh_new .chs I .list rfl rfl (by decide) fun chs T I=>?_
 refine sh_new .inn I .ds rfl rfl (by decide) fun inn T I=>?_
 refine sh_new .real I .list rfl rfl (by decide) fun iv T I=>?_
 refine sh_new .hes I .list rfl rfl (by decide) fun hes T I=>?_
 refine sh_val (v:=.none) I (fun q=>.lit q) rfl rfl fun T I=>?_
 refine sh_val (v:=.none) I (fun q=>.lit q) rfl rfl fun T I=>?_
 refine sh_new .real I .list rfl rfl (by decide) fun un T I=>?_
 refine sh_val (v:=.none) I (fun q=>.lit q) rfl rfl fun T I=>?_
 have me:=I.me
 refine .assign_attr (.new .oth ?_)
 k_ownIn
 rename_i plc T1 hn_1 h_1 c_1
 refine sp_Place (by omega) h_1 fun T2 c_2=>⟨rfl,?_⟩
 have I:=I.aside hn_1 (c_2.back (c_1.weaken fun _ _ q=>q.elim) side_same)
 refine .loc rfl ⟨m,rfl,?_⟩
 refine I.put rfl fun T I=>?_
 refine sh_new .oth I (.new0 7) rfl rfl (by decide) fun sta T I=>?_
 refine sh_new .oth I (.new0 9) rfl rfl (by decide) fun clo T I=>?_
 refine sh_new .oth I (.new0 8) rfl rfl (by decide) fun sw T I=>?_
 refine .nil ?_
 have nd:=(List.pairwise_iff_getElem.mp I.nd) 3 5 (Nat.le_of_ble_eq_true rfl) (Nat.le_of_ble_eq_true rfl) (by decide)
 have g:=I.all
 simp only [List.forall_mem_cons] at g
 obtain⟨⟨g_sw,n_sw,_⟩,⟨g_clo,n_clo,_⟩,⟨g_sta,n_sta,_⟩,⟨g_un,n_un,_⟩,⟨g_hes,n_hes,_⟩,⟨g_iv,n_iv,_⟩,⟨g_inn,n_inn,_⟩,⟨g_chs,n_chs,_⟩,⟨g_psh,n_psh,_⟩,⟨g_cls,n_cls,_⟩,⟨g_thr,n_thr,_⟩,⟨g_tld,n_tld,_⟩,⟨g_nat,n_nat,_⟩,⟨g_ops,n_ops,_⟩,⟨g_fas,n_fas,_⟩,⟨g_ini,n_ini,_⟩,⟨g_sts,n_sts,_⟩,⟨g_byn,n_byn,_⟩,⟨g_frs,n_frs,_⟩,⟨g_fnl,n_fnl,_⟩,⟨g_und,n_und,_⟩,⟨g_dfl,n_dfl,_⟩,⟨g_tgt,n_tgt,_⟩,⟨g_rws,n_rws,_⟩,⟨g_kin,n_kin,_⟩,_⟩:=g
 exact k ⟨kt,frs,sts,fas,chs,inn,iv,hes,un,sw,.obj st,(.obj kin,.obj rws,.obj tgt,.obj dfl,.obj und,.obj fnl),.obj byn,.obj ini,(.obj ops,.obj nat,.int 0,.obj tld,.obj thr,.obj cls,.obj psh),(.none,.none),(.obj plc,.obj sta,.obj clo)⟩ T rfl ⟨I.me,g_frs,fun _ h=>(nomatch h),g_chs,fun _ h=>(nomatch h),g_sts,g_fas,g_hes,.nil,by show 0≤1000∧0≤1000∧0≤1000∧0≤1000;omega⟩ g_inn g_iv g_un g_sw n_iv n_un (Ne.symm nd) I.chg
set_option maxHeartbeats 4000000 in
theorem law_start {ns:List Int} {Q:Option V×Rho→TH→Prop} (hn:6≤n) (hl:ns.length≤63)
  (k:∀ s T st,s.pend=[]→s.ex=[s.mi.un]→s.g.statics=[]→s.Tgs→Mem 2 s T→SV (CN n) [some (.obj s.i.scr),some (.obj st),some (.obj s.i.m),some (.obj s.i.w),none,none,none] (fd_law.body.drop 8) T Q) :
  SV (CN n) [some (.frz ns),none,none,none,none,none,none] fd_law.body T Q:=by
 unfold fd_law
 k_ownIn
 refine HandE.intro (EV.cut .scr ?_)
 k_ownIn
 refine⟨ns,rfl,by unfold limit;omega,?_⟩
 refine NewY.intro ?_
 intro scr T1 hn_1 h_1 c_1
 k_ownIn
 refine AnyK.mk .oth ?_
 k_ownIn
 rename_i st T2 hn_2 h_2 c_2
 refine sp_Store (by omega) h_2 fun kt fs T3 hkt st3 K3 c_3=>⟨rfl,?_⟩
 k_ownIn
 refine AnyK.mk .m ?_
 k_ownIn
 refine AnyK.mk .hp ?_
 k_ownIn
 rename_i hp T4 hn4 h_4 c4
 refine sp_Heap (by omega) h_4 fun h hf T5 ehp emade hb5 nrdy c_5=>⟨rfl,?_⟩
 subst ehp
 k_ownIn
 rename_i m T6 hn6 h_6 c_6
 have st4:=c4.keep st3
 have st6:=c_6.keep (c_5.otherK st4 hb5.hp)
 refine sp_Shelf (by omega) h_6 st6 fun mi T7 ekt M7 inn7 iv7 un7 sw7 niv nun nd c_7=>⟨rfl,?_⟩
 have mm7:=M7.m
 unfold MId.obj at mm7
 k_ownIn
 refine HandE.intro (EV.wd ?_)
 refine NewY.intro ?_
 intro wb T8 hn8 h_8 c_8
 have mm8:=c_8.keep mm7
 k_ownIn
 refine AnyK.mk .wt ?_
 k_ownIn
 rename_i wt T9 hn9 h_9 c9
 refine AnyK.mk .ag ?_
 k_ownIn
 rename_i ag T10 hn10 h_10 c10
 refine AnyK.mk .wh ?_
 k_ownIn
 rename_i wh T11 hn11 h_11 c11
 refine AnyK.mk .fl ?_
 k_ownIn
 rename_i fl T12 hn12 h_12 c12
 refine AnyK.mk .tx ?_
 k_ownIn
 rename_i tx T13 hn13 h_13 c13
 refine AnyK.mk .ce ?_
 k_ownIn
 refine AnyK.mk .cspec ?_
 k_ownIn
 rename_i pid T14 hn14 h_14 c14 ce T15 hn15 h_15 c_15
 have k12:=c12.tr (c13.tr (c14.tr c_15))
 have k10:=c10.tr (c11.tr k12)
 have k9:=c9.tr k10
 have hw15:=k9.keep h_8
 refine⟨hw15,?_⟩
 refine PutY.intro ?_
 intro Ta ha ca
 have cW:Chg (ksX [.w]) T15 Ta:=ca.back (.refl _ _) (side_kind hw15)
 have cM:Chg (ksX [.m]) T6 T7:=c_7.back (.refl _ _) (side_kind h_6)
 have cH:Chg (ksX [.hp]) T4 T5:=c_5.back (.refl _ _) (side_kind h_4)
 have cS:Chg (ksX [.oth]) T2 T3:=c_3.back (.refl _ _) (side_kind h_2)
 have dsu:∀ {ks ks':List K},(∀ k∈ks,k∈ks')→∀ {T:TH} (i:Nat) (k:K) (o:O),T[i]?=some (k,o)→ksX ks i k→ksX ks' i k:=fun h _ _ _ _ _ q=>h _ q
 have k7a:Chg (ksX [.w]) T7 Ta:=cW.back ((c_8.tr k9).weaken fun _ _ q=>q.elim) side_same
 have k3a:Chg (ksX [.hp,.m,.w]) T3 Ta:=k7a.back (cM.back (c_6.back (cH.back (c4.weaken fun _ _ q=>q.elim) (dsu (by decide))) side_no) (dsu (by decide))) (dsu (by decide))
 have k1a:Chg (ksX [.oth,.hp,.m,.w]) T1 Ta:=k3a.back (cS.back (c_2.weaken fun _ _ q=>q.elim) (dsu (by decide))) (dsu (by decide))
 have k5a:Chg (ksX [.m,.w]) T5 Ta:=k7a.back (cM.back (c_6.weaken fun _ _ q=>q.elim) (dsu (by decide))) (dsu (by decide))
 have scra:=k1a.get h_1 nk
 have sta:=k3a.get st3 nk
 have Ka:=K3.chg k3a fun _=>⟨nk,nk⟩
 have hba:=hb5.keep k5a (fun _=>⟨nk,nk,nk,nk,nk,nk⟩) nk
 have Ma:=M7.chg k7a fun _=>⟨nk,nk,nk,nk,nk,nk,nk,nk⟩
 have inna:=k7a.get inn7 nk
 have iva:=k7a.get iv7 nk
 have una:=k7a.get un7 nk
 have swa:=k7a.get sw7 nk
 have wta:=cW.get (k10.keep h_9) nk
 have aga:=cW.get ((c11.tr k12).keep h_10) nk
 have wha:=cW.get (k12.keep h_11) nk
 have fla:=cW.get ((c13.tr (c14.tr c_15)).keep h_12) nk
 have txa:=cW.get ((c14.tr c_15).keep h_13) nk
 have pida:=cW.get (c_15.keep h_14) nk
 have cea:=cW.get h_15 nk
 have rdy6:=c_6.keep hb5.rdy
 have dri:h.rdy≠mi.iv:=ne_none rdy6 niv
 have dru:h.rdy≠mi.un:=ne_none rdy6 nun
 clear k12 k10 k9 hw15 cW cM cH cS k7a k3a k1a k5a c_1 c_2 c_3 c4 c_5 c_6 c_7 c_8 c9 c10 c11 c12 c13 c14 c_15 h_1 h_2 h_4 h_6 h_8 h_9 h_10 h_11 h_12 h_13 h_14 h_15 st3 st4 st6 K3 hb5 M7 mm7 mm8 inn7 iv7 un7 sw7
 k_ownIn
 refine sp_class (x:=64) (by omega) (by decide) (by decide) (by decide) Ka fun Tb Kb cb=>?_
 have stb:=cb.get sta nk
 have hb:=cb.get ha nk
 k_ownIn
 refine sp_class (x:=65) (by omega) (by decide) (by decide) (by decide) Kb fun Tc Kc cc=>?_
 have stc:=cc.get stb nk
 have hc:=cc.get hb nk
 k_ownIn
 rename_i Td hd cd
 have cwd:Chg (ksX [.w]) Tc Td:=cd.back (.refl _ _) (side_kind hc)
 have std:=cwd.get stc nk
 refine sp_valk (x:=66) (by omega) (by decide) (by decide) (by decide) (Kc.chg cwd fun _=>⟨nk,nk⟩) fun Te Ke c5=>?_
 have ste:=c5.get std nk
 have he:=c5.get hd nk
 k_ownIn
 rename_i Tf hf' c6
 have cwf:Chg (ksX [.w]) Te Tf:=c6.back (.refl _ _) (side_kind he)
 have stf:=cwf.get ste nk
 refine sp_valk (x:=67) (by omega) (by decide) (by decide) (by decide) (Ke.chg cwf fun _=>⟨nk,nk⟩) fun Tg' Kg c7=>?_
 have hg:=c7.get hf' nk
 k_ownIn
 rename_i Th' hh c8
 have cwh:Chg (ksX [.w]) Tg' Th':=c8.back (.refl _ _) (side_kind hg)
 have Kh:=Kg.chg cwh fun _=>⟨nk,nk⟩
 have ka:Chg (ksX [.ktl,.w]) Ta Th':=cwh.back (c7.back (cwf.back (c5.back (cwd.back (cc.back (cb.weaken fun _ _ q=>(by decide:∀ k∈([.ktl]:List K),k∈([.ktl,.w]:List K)) _ q) (dsu (by decide))) (dsu (by decide))) (dsu (by decide))) (dsu (by decide))) (dsu (by decide))) (dsu (by decide))
 clear cwd cwf cwh c5 c6 c7 c8 cb cc cd stb stc std ste stf hb hc hd he hf' hg Kb Kc Ke Kg Ka
 have Mh:=Ma.chg ka fun _=>⟨nk,nk,nk,nk,nk,nk,nk,nk⟩
 let i:WId:=⟨wb,scr,m,wt,ag,wh,fl,tx,ce⟩
 let f:WN:=⟨0,0,16,0⟩
 let c0:Ce:=⟨Tg.tx.s,[],mi.iv,pid⟩
 have one:∀ {P:Ce→Prop},P c0→∀ c∈[c0],P c:=fun h c hc=>by rw [mS.mp hc];exact h
 have W:HW i f h hf [] Th':=by
  refine⟨hba.keep ka (fun _=>⟨nk,nk,nk,nk,nk,nk⟩) nk,fun _ h=>(nomatch h),?_,?_,emade,⟨_,Mh.m,rfl⟩⟩
  ·exact⟨trivial,.nil,.nil,fun _ h=>(nomatch h),fun _ h=>(nomatch h),fun _ h=>(nomatch h),fun _ h=>(nomatch h),fun _ h=>(nomatch h),.nil,.nil⟩
  ·exact⟨hh,ka.get aga nk,ka.get wha nk,⟨[],ka.get wta nk,fun _ h=>(nomatch h),Nat.le_refl _,fun _ h=>(nomatch h)⟩,fun _ h=>(nomatch h),rfl,fun _ h=>(nomatch h)⟩
 have C:CL i [] [c0] Th':=⟨ka.get cea nk,one (ka.get iva nk),one (ka.get pida nk),one fun _ h=>(nomatch h),by simp,by simp,one (Nat.zero_le _)⟩
 have tg:TgW 0 mi.iv ⟨[],[],[],[],[]⟩ [c0] [] []:=by
  have rw0:∀ {t':Tg},t'.Ok→Tg.tx≠t'→rowsOf [c0] t'=[]:=fun {t'} ok ne=>by
   have:=rows_snoc (cells:=[]) (c:=c0) (t:=.tx) (t':=t') trivial ok rfl
   rw [if_neg ne] at this
   exact this
  exact⟨rfl,fun _ h=>(nomatch h),.nil,fun _ _ _ h=>(nomatch h),fun _ h=>(nomatch h),.nil,fun j r h=>(nomatch h),fun m _ h=>⟨rw0 (t':=.ch m) h (fun e=>by cases e),rw0 (t':=.fr m) h (fun e=>by cases e)⟩,fun m _ h=>rw0 (t':=.he m) h (fun e=>by cases e),⟨c0,[],rfl,rfl,rfl,rfl⟩⟩
 have tl:(ns.take 16).length≤16:=by rw [lT];omega
 have w:Mem 1 ⟨i,f,mi,⟨[],[],[],[],[]⟩,h,hf,[],[c0],[mi.un],[],ns.take 16,[],[]⟩ Th':=by
  refine⟨W,C,⟨.none,Mh,.inl rfl⟩,List.Perm.refl _,fun r hr=>?_,?_,?_,ka.get swa nk,⟨ka.get scra nk,?_⟩,ka.get fla nk,ka.get txa nk,ka.get inna nk,⟨.nil,fun _ h=>(nomatch h)⟩,?_,rfl,Nat.zero_le _,Nat.zero_le _,Nat.zero_le _,?_,?_⟩
  ·rw [mS.mp hr];exact ka.get una nk
  ·show [mi.iv,mi.un].Nodup;simp [nd]
  ·show h.rdy∉[mi.iv,mi.un];simp [dri,dru]
  ·exact tl
  ·obtain⟨ro,ix,de,we,op,rl,il,dl,wl,ol,k1,k2,k3,k4,k5,k6,k7,l1,l2,l3,l4,l5,k8⟩:=Kh.ex
   rw [ekt]
   exact⟨ro,ix,de,we,op,rl,il,dl,wl,ol,k1,k2,k3,k4,k5,k6,k7,l1,l2,l3,l4,l5,fun sx x hx=>k8 sx x (by have:70≤x:=hx;omega)⟩
  ·show 1≤8;decide
  ·show 0≤1∧0≤1∧0≤1∧0≤1;omega
 refine wld_fresh (z:=0) (by omega) w tg (by decide) fun v s' T' w' tg' e1 e2 e3 e4 e5=>?_
 have e6:s'.i.scr=scr:=by rw [e1]
 have e7:s'.i.w=wb:=by rw [e1]
 have e8:s'.i.m=m:=by rw [e1]
 have:=k s' T' st e3 (by rw [e4,e2]) (by rw [e5]) tg' w'
 rw [e6,e7,e8] at this
 exact this
structure Seg (k:Nat) (i:WId) (mi:MId) (ex:List Nat) (st:List (Int×Nat)) (T:TH):Prop where
 intro ::
 h:∃ s:Gs,Mem k s T∧s.Tgs∧s.i=i∧s.mi=mi∧s.pend=[]∧s.ex=ex∧s.g.statics=st
section
variable {n k:Nat} {i:WId} {mi:MId} {ex:List Nat} {st:List (Int×Nat)} {T:TH} {Q:V→TH→Prop}
theorem Seg.mono {k':Nat} (h:Seg k i mi ex st T) (hk:k≤k'):Seg k' i mi ex st T:=by
 obtain⟨s,w,r⟩:=h.h
 exact⟨s,w.mono hk,r⟩
theorem Seg.number (hn:1≤n) (h:Seg k i mi ex st T) (hk:k≤166) (q:∀ (z:Nat) T',Seg (k+1) i mi ex st T'→Q (.int z) T'):Y (CN n 69 [.obj i.w] (hpOf T)) Q:=by
 obtain⟨s,w,tg,rfl,rfl,h3,h4,h5⟩:=h.h
 exact wld_number hn w tg (by omega) fun z s' T' hz w' tg' e1 e2 e3 e4 e5 e6=>q z T' ⟨s',w',tg',e1,e2,e3.trans h3,e4.trans h4,by rw [e5];exact h5⟩
theorem Seg.fly {z:Nat} (hn:7≤n) (h:Seg k i mi ex st T) (hk:k≤160) (q:∀ T',Seg (k+5) i mi ex st T'→Q .none T'):Y (CN n 77 [.obj i.w,.int z] (hpOf T)) Q:=by
 obtain⟨s,w,tg,rfl,rfl,h3,h4,h5⟩:=h.h
 exact sp_fly (k:=k+2) (by omega) rfl w tg (by omega) fun s' T' w' tg' e1 e2 e3 e4 e5 e6=>q T' ⟨s',w',tg',e1,e2,e4.trans h3,e5.trans h4,e6.trans h5⟩
theorem Seg.stand {z:Nat} (hn:7≤n) (h:Seg k i mi ex st T) (hk:k≤156) (q:∀ T',Seg (k+10) i mi ex st T'→Q .none T'):Y (CN n 78 [.obj i.w,.int z] (hpOf T)) Q:=by
 obtain⟨s,w,tg,rfl,rfl,h3,h4,h5⟩:=h.h
 exact sp_stand (k:=k+2) (by omega) rfl w tg (by omega) fun s' T' w' tg' e1 e2 e3 e4 e5 e6=>q T' ⟨s',w',tg',e1,e2,e4.trans h3,e5.trans h4,e6.trans h5⟩
theorem Seg.fail {z:Nat} (hn:7≤n) (h:Seg k i mi ex st T) (hk:k≤160) (q:∀ T',Seg (k+3) i mi ex st T'→Q .none T'):Y (CN n 79 [.obj i.w,.int z] (hpOf T)) Q:=by
 obtain⟨s,w,tg,rfl,rfl,h3,h4,h5⟩:=h.h
 exact sp_failD (by omega) w tg (by omega) fun s' T' w' tg' e1 e2 e3 e4 e5 e6=>q T' ⟨s',w',tg',e1,e2,e4.trans h3,e5.trans h4,e6.trans h5⟩
theorem Seg.hold {z:Nat} (hn:7≤n) (h:Seg k i mi ex st T) (hk:k≤160) (q:∀ T',Seg (k+4) i mi ex st T'→Q .none T'):Y (CN n 80 [.obj i.w,.int z] (hpOf T)) Q:=by
 obtain⟨s,w,tg,rfl,rfl,h3,h4,h5⟩:=h.h
 exact sp_hold (k:=k+2) (by omega) rfl w tg (by omega) fun s' T' w' tg' e1 e2 e3 e4 e5 e6=>q T' ⟨s',w',tg',e1,e2,e4.trans h3,e5.trans h4,e6.trans h5⟩
theorem Seg.text {x:Nat} (hn:10≤n) (h:Seg k i mi ex st T) (hk:k≤160) (hx:x≤2) (q:∀ T',Seg (k+1) i mi ex st T'→Q (.bool true) T'):Y (CN n 81 [.obj i.w,.int x] (hpOf T)) Q:=by
 obtain⟨s,w,tg,rfl,rfl,h3,h4,h5⟩:=h.h
 exact sp_text hn w tg (by omega) hx fun s' T' w' tg' e1 e2 e3 e4 e5 e6=>q T' ⟨s',w',tg',e1,e2,e4.trans h3,e5.trans h4,by rw [e6];exact h5⟩
end
structure Run (k:Nat) (w:Nat) (T:TH):Prop where
 intro ::
 h:∃ s:Gs,Mem k s T∧s.Tgs∧s.Rd∧s.i.w=w
section
variable {n k w:Nat} {T:TH} {Q:V→TH→Prop}
theorem Run.mono {k':Nat} (h:Run k w T) (hk:k≤k'):Run k' w T:=by
 obtain⟨s,m,r⟩:=h.h
 exact⟨s,m.mono hk,r⟩
theorem Run.number (hn:1≤n) (h:Run k w T) (hk:k≤166) (q:∀ (z:Nat) T',Run (k+1) w T'→Q (.int z) T'):Y (CN n 69 [.obj w] (hpOf T)) Q:=by
 obtain⟨s,m,tg,rd,rfl⟩:=h.h
 exact wld_number hn m tg (by omega) fun z s' T' hz w' tg' e1 e2 e3 e4 e5 e6=>q z T' ⟨s',w',tg',⟨e3.trans rd.pend,by rw [e5];exact rd.st,by rw [e4];exact rd.exl⟩,by rw [e1]⟩
theorem Run.fresh {z:Nat} (hn:4≤n) (h:Run k w T) (hk:k≤166) (q:∀ v T',Run (k+1) w T'→Q v T'):Y (CN n 72 [.obj w,.int z] (hpOf T)) Q:=by
 obtain⟨s,m,tg,rd,rfl⟩:=h.h
 exact wld_fresh hn m tg (by omega) fun v s' T' w' tg' e1 e2 e3 e4 e5=>q v T' ⟨s',w',tg',⟨e3.trans rd.pend,by rw [e5];exact rd.st,by rw [e4];exact rd.exl⟩,by rw [e1]⟩
theorem Run.deed {z:Nat} (hn:11≤n) (h:Run k w T) (hk:k≤156) (q:∀ T',Run (k+10) w T'→Q (.bool true) T'):Y (CN n 86 [.obj w,.int z] (hpOf T)) Q:=by
 obtain⟨s,m,tg,rd,rfl⟩:=h.h
 exact sp_deed hn m tg rd hk fun s' T' w' tg' rd' e1 e2=>q T' ⟨s',w',tg',rd',e1⟩
theorem Run.gone {gen:Nat} (hn:11≤n) (h:Run k w T) (hk:k≤166) (hg:gen≤2) (q:∀ T',Run k w T'→Q (.bool true) T'):Y (CN n 85 [.obj w,.int gen] (hpOf T)) Q:=by
 obtain⟨s,m,tg,rd,rfl⟩:=h.h
 exact wld_gone hn m tg hk rd hg fun s' T' w' tg' rd' e1 e2=>q T' ⟨s',w',tg',rd',e1⟩
end
theorem roots_st {mi:MId} {g:MG} {kd:Int} {r:Nat}:(rootsW mi {g with statics:=g.statics++[(kd,r)]}).Perm (rootsW mi g++[r]):=by
 unfold rootsW
 show (g.frames.flatMap Fr.rows++(g.statics++[(kd,r)]).map (·.2)++g.chases.map Chs.rid++[mi.iv]++g.held++g.fails.map (·.2)++[mi.un]).Perm _
 rw [mP]
 generalize g.frames.flatMap Fr.rows=A
 generalize g.statics.map (·.2)=B
 generalize g.chases.map Chs.rid=C
 generalize g.held=D
 generalize g.fails.map (·.2)=E
 simp only [aA]
 refine List.Perm.append_left _ (List.Perm.append_left _ ?_)
 refine (pS r _).symm.trans ?_
 exact List.Perm.of_eq (by simp)
def statB:List S:=match fd_law.body.drop 12 with
 | .forR _ _ b::_=>b
 | _=>[]
set_option maxHeartbeats 4000000 in
theorem st_turn {n k z j:Nat} {kd:Int} {i:WId} {mi:MId} {ex:List Nat} {st:List (Int×Nat)} {a b x:Option V} {Q:Option V×Rho→TH→Prop} (hn:6≤n) (h:Seg k i mi ex st T) (hk:k≤160) (hj:j≤1) (hst:st.length≤1) (hkd:kd=17-j) (hnew:∀ p∈st,p.1≠kd)
  (q:∀ r T',Seg (k+2) i mi ex (st++[(kd,r)]) T'→Q (none,[a,b,some (.obj i.m),some (.obj i.w),some (.int z),some (.int j),x]) T') :
  SV (CN n) [a,b,some (.obj i.m),some (.obj i.w),some (.int z),some (.int j),x] statB T Q:=by
 obtain⟨s,w,tg,rfl,rfl,h3,h4,rfl⟩:=h.h
 unfold statB fd_law
 dsimp only [List.drop]
 have hw:=w.W.bk.w
 unfold WId.obj at hw
 obtain⟨hd,M,H⟩:=w.M
 have mm:=M.m
 unfold MId.obj at mm
 have sts:=M.sts
 have hlen:=w.len
 have hdl:(diOf s.g.statics).length=s.g.statics.length:=lM _
 have kx:∀ {T:TH} {Q:V→Prop},Q (.int kd)→IdxY T kindsV (.int (1-(j:Int))) Q:=fun {T Q} h=>by
  subst hkd
  rcases (show j=0∨j=1 by omega) with rfl|rfl
  ·exact .tup1 h
  ·exact .tup0 h
 have hnd:∀ p∈diOf s.g.statics,p.1≠kd:=by
  intro p hp
  obtain⟨x,hx,rfl⟩:=mM.mp hp
  exact hnew x hx
 k_ownIn
 refine AnyK.mk .real ?_
 k_ownIn
 rename_i r T1 hn_1 h_1 c_1
 have sts1:=c_1.keep sts
 refine kx ?_
 refine IdxPut.di sts1 (by rw [hdl];unfold limit;omega) ?_
 rw [dput_new hnd]
 refine PutY.intro ?_
 intro T2 h_2 c_2
 have cc:Chg (ksX [.hes,.fas,.sts,.kt,.ktl]) T T2:=c_2.back (c_1.weaken fun _ _ q=>q.elim) (side_kind sts)
 have hr2:=c_2.otherK h_1 h_2
 have e2:diOf (s.g.statics++[(kd,r)])=diOf s.g.statics++[(kd,.obj r)]:=mP
 have w_2:Mem (k+1) {s with g:={s.g with statics:=s.g.statics++[(kd,r)]},ex:=s.ex++[r]} T2:=w.row (pend':=s.pend) cc hn_1 hr2 (by
   have:=List.Perm.append_right s.pend (roots_st (mi:=s.mi) (g:=s.g) (kd:=kd) (r:=r))
   refine this.trans ?_
   rw [aA,aA]
   exact List.Perm.append_left _ (List.perm_append_comm))
  (fun hd M=>⟨cc.get M.m nk,cc.get M.frs nk,fun f hf=>cc.get (M.fr f hf) nk,cc.get M.chs nk,fun x hx=>cc.get (M.ch x hx) nk,by rw [e2];exact h_2,c_2.otherK (c_1.keep M.fas) h_2,c_2.otherK (c_1.keep M.hes) h_2,M.fk,M.len⟩)
  (by
   obtain⟨ro,ix,de,we,op,rl,il,dl,wl,ol,k1,k2,k3,k4,k5,k6,k7,k8⟩:=w.kt.ex
   exact⟨ro,ix,de,we,op,rl,il,dl,wl,ol,c_2.otherK (c_1.keep k1) h_2,k2,c_2.otherK (c_1.keep k3) h_2,c_2.otherK (c_1.keep k4) h_2,c_2.otherK (c_1.keep k5) h_2,c_2.otherK (c_1.keep k6) h_2,c_2.otherK (c_1.keep k7) h_2,k8⟩)
  w.fks (by show s.g.frames.length≤k+1∧s.g.chases.length≤k+1∧s.g.fails.length≤k+1∧3*s.g.held.length≤k+1;omega)
 have hw_2:=w_2.W.bk.w
 unfold WId.obj at hw_2
 obtain⟨hd_2,M2,H2⟩:=w_2.M
 have mm2:=M2.m
 unfold MId.obj at mm2
 k_ownIn
 refine kx ?_
 refine IdxY.di h_2 (dget_new (v:=.obj r) hnd) ?_
 k_ownIn
 have hcnt:=w.cnt
 have hrx:r∉s.ex:=fun q=>(w.free hn_1).1 (mR _ q)
 refine wld_fill (k:=k+1) (s:={s with g:={s.g with statics:=s.g.statics++[(kd,r)]},ex:=s.ex++[r]}) (tt:=.st) (fs:=[0,2,3,4]) (r:=r) (by omega) w_2 (by omega) (mR _ (mS.mpr rfl)) (by decide) (by decide) fun f' hf' ts' specs pid T3 w_3 g1 c_3=>?_
 have tg':TgW s.f.count s.mi.iv {s.g with statics:=s.g.statics++[(kd,r)]} (s.cells++[⟨(Tg.st).s,specs,r,pid⟩]) s.cm s.tx:=by
  refine tg.add trivial (by omega) rfl rfl (fun m q=>by cases q) (fun f hf q=>by cases q) (fun m _ q=>by cases q) (fun j r' hj=>?_) (fun m h1 h2=>⟨tg.hew m h1 h2,fun e=>by cases e⟩)
  have hjl:j<s.g.held.length:=(gS.mp hj).1
  refine⟨?_,by omega⟩
  rw [if_neg (fun e=>by cases e),aN]
  exact tg.her j r' hj
 have hfc:f'.count=s.f.count:=g1.count
 rw [←hfc] at tg'
 k_ownIn
 exact q r T3 ⟨_,w_3,tg',rfl,rfl,h3,(erase_last hrx).trans h4,rfl⟩
def unhS:S:=(fd_law.body.drop 14).headD .pass
set_option maxHeartbeats 4000000 in
theorem unh_turn {n k z:Nat} {i:WId} {mi:MId} {st:List (Int×Nat)} {a b x y:Option V} {r:List S} {Q:Option V×Rho→TH→Prop} (hn:6≤n) (h:Seg k i mi [mi.un] st T) (hk:k≤160)
  (q:∀ ex T',ex.length≤1→Seg (k+2) i mi ex st T'→SV (CN n) [a,b,some (.obj i.m),some (.obj i.w),some (.int z),x,y] r T' Q) :
  SV (CN n) [a,b,some (.obj i.m),some (.obj i.w),some (.int z),x,y] (unhS::r) T Q:=by
 have h0:=h
 obtain⟨s,w,tg,rfl,rfl,h3,h4,rfl⟩:=h.h
 unfold unhS fd_law
 dsimp only [List.drop,List.headD]
 have hw:=w.W.bk.w
 unfold WId.obj at hw
 obtain⟨hd,M,H⟩:=w.M
 have mm:=M.m
 unfold MId.obj at mm
 have hlen:=w.len
 have hcml:s.cm.length=s.g.chases.length:=by rw [tg.chm,lM]
 refine SV.go ?_
 conv=>whnf
 k_ownIn
 refine⟨fun _=>?_,fun _=>q _ T (by simp) (h0.mono (by omega))⟩
 dsimp only [cA,nA]
 k_ownIn
 refine AnyK.mk .cspec ?_
 k_ownIn
 refine sp_newest (by omega) w tg.che (by omega) (by omega) fun f' hf' ts' sp T1 W1 g1 g2 ok c_1=>?_
 have w_1:=w.fresh W1 g1 (by omega) g2 c_1
 k_ownIn
 rename_i pid T2 hn_2 h_2 c_2
 have w_2:=w_1.chg0 c_2
 refine wld_put (k:=k+1) (s:={s with f:=f',hf:=hf',ts:=ts'}) (tt:=.un) (specs:=[sp]) (r:=s.mi.un) (by omega) w_2 (by omega) (by show s.mi.un∈s.ex;rw [h4];simp) h_2 (fun x hx=>by rw [mS.mp hx];exact ok) (by show 1≤10;decide) (w_1.free hn_2).2.2 fun T3 w_3 c_3=>?_
 have hcnt:=w.cnt
 have tg':TgW s.f.count s.mi.iv s.g (s.cells++[⟨(Tg.un).s,[sp],s.mi.un,pid⟩]) s.cm s.tx:=by
  refine tg.add trivial (by omega) rfl rfl (fun m q=>by cases q) (fun f hf q=>by cases q) (fun m _ q=>by cases q) (fun j r' hj=>?_) (fun m h1 h2=>⟨tg.hew m h1 h2,fun e=>by cases e⟩)
  have hjl:j<s.g.held.length:=(gS.mp hj).1
  refine⟨?_,by omega⟩
  rw [if_neg (fun e=>by cases e),aN]
  exact tg.her j r' hj
 have hfc:f'.count=s.f.count:=g1.count
 rw [←hfc] at tg'
 exact q [] T3 (by simp) ⟨_,w_3,tg',rfl,rfl,h3,(by show s.ex.erase s.mi.un=[];rw [h4];simp),rfl⟩
theorem Seg.run {k:Nat} {i:WId} {mi:MId} {ex:List Nat} {b a:Nat} (h:Seg k i mi ex [(17,b),(16,a)] T) (hx:ex.length≤1):Run k i.w T:=by
 obtain⟨s,w,tg,rfl,rfl,h3,h4,h5⟩:=h.h
 exact⟨s,w,tg,⟨h3,⟨a,b,h5⟩,by rw [h4];exact hx⟩,rfl⟩
theorem Seg.scr {k:Nat} {i:WId} {mi:MId} {ex:List Nat} {st:List (Int×Nat)} (h:Seg k i mi ex st T):∃ l:List V,T[i.scr]?=some (.scr,.list l)∧l.length≤16:=by
 obtain⟨s,w,tg,rfl,rfl,h3,h4,h5⟩:=h.h
 exact⟨_,w.scr.at_,by rw [lM];exact w.scr.len⟩
set_option maxHeartbeats 8000000 in
theorem law_rest {i:WId} {mi:MId} {st:Nat} (sg:Seg 2 i mi [mi.un] [] T):SV (CN 11) [some (.obj i.scr),some (.obj st),some (.obj i.m),some (.obj i.w),none,none,none] (fd_law.body.drop 8) T (fun r _=>r.1.getD .none=.bool true):=by
 unfold fd_law
 dsimp only [List.drop]
 k_ownIn
 refine sg.number (by omega) (by omega) fun z T1 sg1=>?_
 k_ownIn
 refine HandS.intro (SV.forR (fun j ρ T=>(∃ x,ρ=[some (.obj i.scr),some (.obj st),some (.obj i.m),some (.obj i.w),some (.int (z:Nat)),x,none])∧Seg (3+5*j) i mi [mi.un] [] T) ?_)
 k_ownIn
 have hh:((1+z%6:Nat):Int)≤(limit:Nat):=by unfold limit;omega
 refine⟨⟨by omega,hh⟩,⟨⟨_,rfl⟩,sg1⟩,?_,?_⟩
 ·rintro j ρ T' hj ⟨⟨x,rfl⟩,sg⟩
  have hj:j<1+z%6:=hj
  refine⟨by show 5<7;decide,?_⟩
  show SV _ [some (.obj i.scr),some (.obj st),some (.obj i.m),some (.obj i.w),some (.int (z:Nat)),some (.int (j:Nat)),none] _ _ _
  k_ownIn
  refine sg.fly (by omega) (by omega) fun T'' sg'=>?_
  k_ownIn
  exact⟨⟨_,rfl⟩,sg'.mono (by omega)⟩
 rintro ρ T2 ⟨⟨x,rfl⟩,sg2⟩
 have sg2:Seg (3+5*(1+z%6)) i mi [mi.un] [] T2:=sg2
 have sg2:=sg2.mono (k':=33) (by omega)
 k_ownIn
 refine HandS.intro (SV.forR (fun j ρ T=>(∃ x,ρ=[some (.obj i.scr),some (.obj st),some (.obj i.m),some (.obj i.w),some (.int (z:Nat)),x,none])∧Seg (34+11*j) i mi [mi.un] [] T) ?_)
 k_ownIn
 refine sg2.number (by omega) (by omega) fun y T3 sg3=>?_
 k_ownIn
 have hh:((2+y%3:Nat):Int)≤(limit:Nat):=by unfold limit;omega
 refine⟨⟨by omega,hh⟩,⟨⟨_,rfl⟩,sg3⟩,?_,?_⟩
 ·rintro j ρ T' hj ⟨⟨x,rfl⟩,sg⟩
  have hj:j<2+y%3:=hj
  refine⟨by show 5<7;decide,?_⟩
  show SV _ [some (.obj i.scr),some (.obj st),some (.obj i.m),some (.obj i.w),some (.int (z:Nat)),some (.int (j:Nat)),none] _ _ _
  k_ownIn
  refine sg.number (by omega) (by omega) fun u T'' sg'=>?_
  k_ownIn
  refine sg'.stand (by omega) (by omega) fun T'' sg'=>?_
  k_ownIn
  exact⟨⟨_,rfl⟩,sg'.mono (by omega)⟩
 rintro ρ T4 ⟨⟨x,rfl⟩,sg4⟩
 have sg4:Seg (34+11*(2+y%3)) i mi [mi.un] [] T4:=sg4
 have sg4:=sg4.mono (k':=78) (by omega)
 k_ownIn
 refine sg4.number (by omega) (by omega) fun z T5 sg5=>?_
 k_ownIn
 refine HandS.intro (SV.forRU ?_)
 k_ownIn
 refine⟨⟨by decide,by decide⟩,?_⟩
 show RV _ _ _ _ 2 _ _ _ _
 refine RV.step ?_
 refine GetY.mk rfl ?_
 refine st_turn (j:=0) (kd:=17) (by omega) sg5 (by omega) (by omega) (by simp) rfl (fun _ h=>(nomatch h)) fun b T6 sg6=>?_
 refine RV.step ?_
 refine GetY.mk rfl ?_
 refine st_turn (j:=1) (kd:=16) (by omega) sg6 (by omega) (by omega) (by simp) rfl (fun p h=>by rw [mS.mp h];show (17:Int)≠16;decide) fun a T7 sg7=>?_
 refine RV.done ?_
 k_ownIn
 refine HandS.intro (SV.forR (fun j ρ T=>(∃ x,ρ=[some (.obj i.scr),some (.obj st),some (.obj i.m),some (.obj i.w),some (.int (z:Nat)),x,none])∧Seg (83+7*j) i mi [mi.un] [(17,b),(16,a)] T) ?_)
 k_ownIn
 have hh:((1+z%2:Nat):Int)≤(limit:Nat):=by unfold limit;omega
 refine⟨⟨by omega,hh⟩,⟨⟨_,rfl⟩,sg7⟩,?_,?_⟩
 ·rintro j ρ T' hj ⟨⟨x,rfl⟩,sg⟩
  have hj:j<1+z%2:=hj
  refine⟨by show 5<7;decide,?_⟩
  show SV _ [some (.obj i.scr),some (.obj st),some (.obj i.m),some (.obj i.w),some (.int (z:Nat)),some (.int (j:Nat)),none] _ _ _
  k_ownIn
  refine sg.fail (by omega) (by omega) fun T'' sg'=>?_
  k_ownIn
  refine sg'.hold (by omega) (by omega) fun T'' sg'=>?_
  k_ownIn
  exact⟨⟨_,rfl⟩,sg'.mono (by omega)⟩
 rintro ρ T8 ⟨⟨x,rfl⟩,sg8⟩
 have sg8:Seg (83+7*(1+z%2)) i mi [mi.un] [(17,b),(16,a)] T8:=sg8
 have sg8:=sg8.mono (k':=97) (by omega)
 refine unh_turn (by omega) sg8 (by omega) fun ex T9 hex sg9=>?_
 refine SV.go ?_
 conv=>whnf
 refine HandS.intro (SV.forR (fun j ρ T=>(∃ x y,ρ=[some (.obj i.scr),some (.obj st),some (.obj i.m),some (.obj i.w),some (.int (z:Nat)),x,y])∧Seg (99+j) i mi ex [(17,b),(16,a)] T) ?_)
 k_ownIn
 have hh:((1+z/3%3:Nat):Int)≤(limit:Nat):=by unfold limit;omega
 refine⟨⟨by omega,hh⟩,⟨⟨_,_,rfl⟩,sg9⟩,?_,?_⟩
 ·rintro j ρ T' hj ⟨⟨x,y,rfl⟩,sg⟩
  have hj:j<1+z/3%3:=hj
  refine⟨by show 6<7;decide,?_⟩
  show SV _ [some (.obj i.scr),some (.obj st),some (.obj i.m),some (.obj i.w),some (.int (z:Nat)),x,some (.int (j:Nat))] _ _ _
  k_ownIn
  refine sg.text (by omega) (by omega) (by omega) fun T'' sg'=>?_
  k_ownIn
  exact⟨⟨_,_,rfl⟩,sg'.mono (by omega)⟩
 rintro ρ TA ⟨⟨x,y,rfl⟩,sgA⟩
 have sgA:Seg (99+(1+z/3%3)) i mi ex [(17,b),(16,a)] TA:=sgA
 have rA:=(sgA.mono (k':=102) (by omega)).run hex
 obtain⟨l,hl,hll⟩:=sgA.scr
 refine SV.go ?_
 conv=>whnf
 refine HandS.intro (SV.forR (fun j ρ T=>(∃ x y z,ρ=[some (.obj i.scr),some (.obj st),some (.obj i.m),some (.obj i.w),z,x,y])∧Run (102+12*j) i.w T) ?_)
 k_ownIn
 refine LenY.list hl (by unfold limit;omega) ?_
 k_ownIn
 have hh:((2+l.length/6:Nat):Int)≤(limit:Nat):=by unfold limit;omega
 refine⟨⟨Int.natCast_nonneg (2+l.length/6),hh⟩,⟨⟨_,_,_,rfl⟩,rA⟩,?_,?_⟩
 ·rintro j ρ T' hj ⟨⟨x,y,z,rfl⟩,rn⟩
  have hj:j<2+l.length/6:=hj
  refine⟨by show 5<7;decide,?_⟩
  show SV _ [some (.obj i.scr),some (.obj st),some (.obj i.m),some (.obj i.w),z,some (.int (j:Nat)),y] _ _ _
  k_ownIn
  refine rn.number (by omega) (by omega) fun z T1 rn=>?_
  k_ownIn
  refine rn.gone (gen:=z%3) (by omega) (by omega) (by omega) fun T2 rn=>?_
  k_ownIn
  refine rn.fresh (by omega) (by omega) fun v T3 rn=>?_
  k_ownIn
  refine rn.deed (by omega) (by omega) fun T4 rn=>?_
  k_ownIn
  exact⟨⟨_,_,_,rfl⟩,rn.mono (by omega)⟩
 rintro ρ TB ⟨⟨x,y,z,rfl⟩,rB⟩
 have rB:Run (102+12*(2+l.length/6)) i.w TB:=rB
 k_ownIn
 refine rB.gone (gen:=2) (by omega) (by omega) (by omega) fun T' _=>?_
 rfl
theorem plain (ns:List Int) (h:ns.length≤63):∃ H,callN gtab fns 12 87 [.frz ns] []=some (.bool true,H):=by
 have:Y (CN 12 87 [.frz ns] (hpOf [])) fun v _=>v=.bool true:=by
  refine call_fn (n:=11) (fd:=fd_law) (by rfl) (by rfl) ?_
  show SV _ [some (.frz ns),none,none,none,none,none,none] _ _ _
  refine law_start (by omega) h fun s T st h3 h4 h5 tg w=>?_
  exact law_rest ⟨s,w,tg,rfl,rfl,h3,h4,h5⟩
 obtain⟨v,T,e,rfl⟩:=this.ex
 exact⟨_,e⟩
end Mine
open PySem PySem.W PyProof.Rows
theorem PySem.Challenge.cw_xm0318_01_holds : PySem.Challenge.rw_xm0318_01.Holds := by
  exact Mine.join Mine.plain
