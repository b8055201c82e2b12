import PyProof.Rows.All
import Wide.All
import OpenK.AllK
import Wide.FinOn
import Lean
import PySem.Challenge.RW_nz0101_01
set_option Elab.async false
set_option linter.all false
set_option genInjectivity false
set_option genSizeOf false
set_option compiler.extract_closed false
open PySem PySem.W PyProof.Rows PySem.Calls PySem.Spec
namespace Mine
section
noncomputable def nmL:List Str:=[PySem.Str.ofString "Builder",PySem.Str.ofString "Formatting",PySem.Str.ofString "HtmlFault",PySem.Str.ofString "Misused",PySem.Str.ofString "OpenStack",PySem.Str.ofString "Stream",PySem.Str.ofString "Tokenizer",PySem.Str.ofString "Tree",PySem.Str.ofString "__init__",PySem.Str.ofString "__name__",PySem.Str.ofString "_law_begin",PySem.Str.ofString "_law_body",PySem.Str.ofString "_law_digit",PySem.Str.ofString "_law_due",PySem.Str.ofString "_law_ends",PySem.Str.ofString "_law_foreign",PySem.Str.ofString "_law_held",PySem.Str.ofString "_law_inner",PySem.Str.ofString "_law_is_turn",PySem.Str.ofString "_law_kind",PySem.Str.ofString "_law_leave",PySem.Str.ofString "_law_names",PySem.Str.ofString "_law_open",PySem.Str.ofString "_law_raws",PySem.Str.ofString "_law_reference",PySem.Str.ofString "_law_section",PySem.Str.ofString "_law_seen",PySem.Str.ofString "_law_spots",PySem.Str.ofString "_law_tag_open",PySem.Str.ofString "_law_text",PySem.Str.ofString "_law_told",PySem.Str.ofString "_wall",PySem.Str.ofString "a",PySem.Str.ofString "above",PySem.Str.ofString "add",PySem.Str.ofString "add_value",PySem.Str.ofString "adjusted",PySem.Str.ofString "again",PySem.Str.ofString "ahead",PySem.Str.ofString "alike",PySem.Str.ofString "append",PySem.Str.ofString "at",PySem.Str.ofString "attrs",PySem.Str.ofString "b",PySem.Str.ofString "back",PySem.Str.ofString "before",PySem.Str.ofString "begun",PySem.Str.ofString "buffer",PySem.Str.ofString "builder",PySem.Str.ofString "c",PySem.Str.ofString "children",PySem.Str.ofString "chr",PySem.Str.ofString "clear_to_mark",PySem.Str.ofString "code",PySem.Str.ofString "codes",PySem.Str.ofString "comment",PySem.Str.ofString "contents",PySem.Str.ofString "context",PySem.Str.ofString "count",PySem.Str.ofString "current",PySem.Str.ofString "cut",PySem.Str.ofString "cuts",PySem.Str.ofString "data_state",PySem.Str.ofString "digit",PySem.Str.ofString "doctype",PySem.Str.ofString "draft",PySem.Str.ofString "drive",PySem.Str.ofString "due",PySem.Str.ofString "dues",PySem.Str.ofString "earliest",PySem.Str.ofString "element",PySem.Str.ofString "emit",PySem.Str.ofString "emit_draft",PySem.Str.ofString "emit_eof",PySem.Str.ofString "emit_sign",PySem.Str.ofString "emit_text",PySem.Str.ofString "encoding",PySem.Str.ofString "end",PySem.Str.ofString "error",PySem.Str.ofString "errors",PySem.Str.ofString "fed",PySem.Str.ofString "feed",PySem.Str.ofString "find",PySem.Str.ofString "first",PySem.Str.ofString "flush",PySem.Str.ofString "form",PySem.Str.ofString "formatting",PySem.Str.ofString "get",PySem.Str.ofString "hand_over",PySem.Str.ofString "has",PySem.Str.ofString "has_name",PySem.Str.ofString "head",PySem.Str.ofString "held",PySem.Str.ofString "here",PySem.Str.ofString "i",PySem.Str.ofString "in_value",PySem.Str.ofString "index",PySem.Str.ofString "input_error",PySem.Str.ofString "insert",PySem.Str.ofString "is_acknowledged",PySem.Str.ofString "is_apt",PySem.Str.ofString "is_closed",PySem.Str.ofString "is_control",PySem.Str.ofString "is_cut",PySem.Str.ofString "is_done",PySem.Str.ofString "is_ended",PySem.Str.ofString "is_folded",PySem.Str.ofString "is_foreign",PySem.Str.ofString "is_foster",PySem.Str.ofString "is_frameset_ok",PySem.Str.ofString "is_html",PySem.Str.ofString "is_html_point",PySem.Str.ofString "is_html_turn",PySem.Str.ofString "is_math_point",PySem.Str.ofString "is_noncharacter",PySem.Str.ofString "is_ready",PySem.Str.ofString "is_return",PySem.Str.ofString "is_scripting",PySem.Str.ofString "is_skipping",PySem.Str.ofString "is_surrogate",PySem.Str.ofString "is_turn",PySem.Str.ofString "is_upper",PySem.Str.ofString "is_waiting",PySem.Str.ofString "items",PySem.Str.ofString "join",PySem.Str.ofString "k",PySem.Str.ofString "kind",PySem.Str.ofString "kinds",PySem.Str.ofString "last",PySem.Str.ofString "law",PySem.Str.ofString "len",PySem.Str.ofString "list",PySem.Str.ofString "looks",PySem.Str.ofString "lower",PySem.Str.ofString "lower_text",PySem.Str.ofString "many",PySem.Str.ofString "mark",PySem.Str.ofString "mode",PySem.Str.ofString "modes",PySem.Str.ofString "move_children",PySem.Str.ofString "n",PySem.Str.ofString "name",PySem.Str.ofString "names",PySem.Str.ofString "new",PySem.Str.ofString "next",PySem.Str.ofString "node",PySem.Str.ofString "notes",PySem.Str.ofString "old",PySem.Str.ofString "ord",PySem.Str.ofString "original",PySem.Str.ofString "out",PySem.Str.ofString "owners",PySem.Str.ofString "pair",PySem.Str.ofString "parent",PySem.Str.ofString "parents",PySem.Str.ofString "pending",PySem.Str.ofString "pieces",PySem.Str.ofString "place",PySem.Str.ofString "point",PySem.Str.ofString "points",PySem.Str.ofString "pop",PySem.Str.ofString "pop_to",PySem.Str.ofString "pop_until",PySem.Str.ofString "process",PySem.Str.ofString "public",PySem.Str.ofString "push",PySem.Str.ofString "put_at",PySem.Str.ofString "quirks",PySem.Str.ofString "range",PySem.Str.ofString "raw",PySem.Str.ofString "remove",PySem.Str.ofString "replace",PySem.Str.ofString "rest",PySem.Str.ofString "root",PySem.Str.ofString "rows",PySem.Str.ofString "rule",PySem.Str.ofString "rules",PySem.Str.ofString "run",PySem.Str.ofString "script",PySem.Str.ofString "seen",PySem.Str.ofString "self",PySem.Str.ofString "sign",PySem.Str.ofString "signs",PySem.Str.ofString "size",PySem.Str.ofString "sort",PySem.Str.ofString "sorted",PySem.Str.ofString "space",PySem.Str.ofString "spaces",PySem.Str.ofString "split",PySem.Str.ofString "spot",PySem.Str.ofString "spots",PySem.Str.ofString "stack",PySem.Str.ofString "start_state",PySem.Str.ofString "state",PySem.Str.ofString "states",PySem.Str.ofString "step",PySem.Str.ofString "stop",PySem.Str.ofString "stream",PySem.Str.ofString "system",PySem.Str.ofString "t",PySem.Str.ofString "tail",PySem.Str.ofString "take",PySem.Str.ofString "text",PySem.Str.ofString "texts",PySem.Str.ofString "there",PySem.Str.ofString "to",PySem.Str.ofString "token",PySem.Str.ofString "tokenizer",PySem.Str.ofString "told",PySem.Str.ofString "tree",PySem.Str.ofString "up",PySem.Str.ofString "use",PySem.Str.ofString "value",PySem.Str.ofString "wait",PySem.Str.ofString "way",PySem.Str.ofString "whole",PySem.Str.ofString "why",PySem.Str.ofString "wish",PySem.Str.ofString "word"]
noncomputable def nm (i:Nat):Str:=nmL.getD i (PySem.Str.ofString "")
noncomputable def nmCode (s:Str):Nat:=s.cps.toList.foldl (fun a c => a * 1114112 + c + 1) 0
theorem nm_nodup:(nmL.map nmCode).Nodup:=by decide +kernel
theorem nmL_len:nmL.length = 219:=by decide +kernel
theorem nm_inj {i j:Nat} (hi:i < 219) (hj:j < 219) (h:nm i = nm j):i = j:=by
 have hl:(nmL.map nmCode).length = 219:=by rw [List.length_map,nmL_len]
 have e:(nmL.map nmCode)[i]'(hl ▸ hi) = (nmL.map nmCode)[j]'(hl ▸ hj):=by
  have q:∀ k (hk:k < 219),(nmL.map nmCode)[k]'(hl ▸ hk) = nmCode (nm k):=by
   intro k hk
   have:k < nmL.length:=by rw [nmL_len];exact hk
   rw [List.getElem_map,nm,List.getD_eq_getElem?_getD,List.getElem?_eq_getElem this];rfl
  rw [q i hi,q j hj,h]
 exact (List.getElem_inj nm_nodup).mp e
end
section
inductive AV where
 | d (x:PyData)
 | loc (n:Nat)
 | tup (xs:List AV)
 | fn (a:Addr)
 | unk
 | junk
 | fd (es:List (Str × AV))
inductive AObj where
 | dl (xs:List PyData)
 | jl (n:Nat)
 | dict (es:List (Str × AV))
 | inst (C:Addr) (fs:List (Nat × AV))
structure St where
 objs:List (Nat × AObj)
 next:Nat
 jb:Nat
noncomputable abbrev opt {α:Type} (o:Option α) (k:α → Prop):Prop:=Option.casesOn (motive:=fun _ => Prop) o False k
noncomputable abbrev ifc (b:Bool) (A B:Prop):Prop:=Bool.casesOn (motive:=fun _ => Prop) b B A
noncomputable abbrev gd (b:Bool) (A:Prop):Prop:=ifc b A False
theorem opt_i {α:Type} {o:Option α} {k:α → Prop} {a:α} (h:o = some a) (x:k a):opt o k:=h ▸ x
theorem opt_e {α:Type} {o:Option α} {k:α → Prop} {C:Prop} (h:opt o k) (f:∀ a,o = some a → k a → C):C :=
 Option.casesOn (motive:=fun o' => o = o' → opt o' k → C) o (fun _ h => h.elim) (fun a e h => f a e h) rfl h
theorem ifc_t {b:Bool} {A B:Prop} (h:b = true) (x:A):ifc b A B:=h ▸ x
theorem ifc_f {b:Bool} {A B:Prop} (h:b = false) (x:B):ifc b A B:=h ▸ x
theorem ifc_e {b:Bool} {A B C:Prop} (h:ifc b A B) (f:b = true → A → C) (g:b = false → B → C):C :=
 Bool.casesOn (motive:=fun b' => b = b' → ifc b' A B → C) b (fun e h => g e h) (fun e h => f e h) rfl h
theorem gd_e {b:Bool} {A C:Prop} (h:gd b A) (f:b = true → A → C):C:=ifc_e h f fun _ x => x.elim
@[irreducible] noncomputable def opq {α:Type} (a:α):α:=Classical.choose (⟨a,rfl⟩:∃ x,x = a)
theorem opq_eq {α:Type} (a:α):opq a = a:=by unfold opq;exact Classical.choose_spec (⟨a,rfl⟩:∃ x,x = a)
@[irreducible] noncomputable def nd:St → (St → Prop) → Prop:=opq fun st k => k st
theorem nd_i {st:St} {k:St → Prop} (h:k st):nd st k:=by unfold nd;rw [opq_eq];exact h
theorem nd_e {st:St} {k:St → Prop} (h:nd st k):k st:=by unfold nd at h;rw [opq_eq] at h;exact h
section
universe u
variable {α:Sort u} (z:α)
noncomputable abbrev onD (f:PyData → α) (a:AV):α:=@AV.casesOn (fun _ => α) a f (fun _ => z) (fun _ => z) (fun _ => z) z z (fun _ => z)
noncomputable abbrev oInt (f:Int → α) (x:PyData):α:=@PyData.casesOn (fun _ => α) x z (fun _ => z) f (fun _ => z) (fun _ => z) (fun _ => z) (fun _ => z)
noncomputable abbrev oStr (f:Str → α) (x:PyData):α:=@PyData.casesOn (fun _ => α) x z (fun _ => z) (fun _ => z) f (fun _ => z) (fun _ => z) (fun _ => z)
noncomputable abbrev oBool (f:Bool → α) (x:PyData):α:=@PyData.casesOn (fun _ => α) x z f (fun _ => z) (fun _ => z) (fun _ => z) (fun _ => z) (fun _ => z)
noncomputable abbrev oLst (f:List PyData → α) (x:PyData):α:=@PyData.casesOn (fun _ => α) x z (fun _ => z) (fun _ => z) (fun _ => z) f (fun _ => z) (fun _ => z)
noncomputable abbrev oTup (f:List PyData → α) (x:PyData):α:=@PyData.casesOn (fun _ => α) x z (fun _ => z) (fun _ => z) (fun _ => z) (fun _ => z) f (fun _ => z)
noncomputable abbrev onL (f:Nat → α) (a:AV):α:=@AV.casesOn (fun _ => α) a (fun _ => z) f (fun _ => z) (fun _ => z) z z (fun _ => z)
noncomputable abbrev onT (f:List AV → α) (a:AV):α:=@AV.casesOn (fun _ => α) a (fun _ => z) (fun _ => z) f (fun _ => z) z z (fun _ => z)
noncomputable abbrev onF (f:Addr → α) (a:AV):α:=@AV.casesOn (fun _ => α) a (fun _ => z) (fun _ => z) (fun _ => z) f z z (fun _ => z)
noncomputable abbrev onFd (f:List (Str × AV) → α) (a:AV):α:=@AV.casesOn (fun _ => α) a (fun _ => z) (fun _ => z) (fun _ => z) (fun _ => z) z z f
noncomputable abbrev onU (a:AV) (f:α):α:=@AV.casesOn (fun _ => α) a (fun _ => z) (fun _ => z) (fun _ => z) (fun _ => z) f z (fun _ => z)
noncomputable abbrev onJ (a:AV) (f:α):α:=@AV.casesOn (fun _ => α) a (fun _ => z) (fun _ => z) (fun _ => z) (fun _ => z) z f (fun _ => z)
end
noncomputable def AV.dat (a:AV) (k:PyData → Prop):Prop:=onD False k a
noncomputable def AV.int (a:AV) (k:Int → Prop):Prop:=onD False (oInt False k) a
noncomputable def AV.str (a:AV) (k:Str → Prop):Prop:=onD False (oStr False k) a
noncomputable def AV.bool (a:AV) (k:Bool → Prop):Prop:=onD False (oBool False k) a
noncomputable def AV.non (a:AV) (k:Prop):Prop:=onD False (fun x => @PyData.casesOn (fun _ => Prop) x k (fun _ => False) (fun _ => False) (fun _ => False) (fun _ => False) (fun _ => False) (fun _ => False)) a
noncomputable def AV.at (a:AV) (k:Nat → Prop):Prop:=onL False k a
noncomputable def AV.fun (a:AV) (k:Addr → Prop):Prop:=onF False k a
noncomputable def AV.jnk (a:AV) (k:Prop):Prop:=onJ False a k
noncomputable def AV.unkn (a:AV) (k:Prop):Prop:=onU False a k
end
section
noncomputable def bigLen:Nat:=1048576
noncomputable abbrev oDl {α:Sort _} (z:α) (f:List PyData → α) (o:AObj):α:=@AObj.casesOn (fun _ => α) o f (fun _ => z) (fun _ => z) (fun _ _ => z)
noncomputable abbrev oJl {α:Sort _} (z:α) (f:Nat → α) (o:AObj):α:=@AObj.casesOn (fun _ => α) o (fun _ => z) f (fun _ => z) (fun _ _ => z)
noncomputable abbrev oDict {α:Sort _} (z:α) (f:List (Str × AV) → α) (o:AObj):α:=@AObj.casesOn (fun _ => α) o (fun _ => z) (fun _ => z) f (fun _ _ => z)
noncomputable abbrev oInst {α:Sort _} (z:α) (f:Addr → List (Nat × AV) → α) (o:AObj):α:=@AObj.casesOn (fun _ => α) o (fun _ => z) (fun _ => z) (fun _ => z) f
noncomputable abbrev oSome {α:Type _} {β:Sort _} (z:β) (f:α → β) (o:Option α):β:=@Option.casesOn α (fun _ => β) o z f
noncomputable def modO (n:Nat) (f:AObj → AObj):List (Nat × AObj) → List (Nat × AObj)
 | [] => []
 | p :: r => cond (n == p.1) ((p.1,f p.2) :: r) (p :: modO n f r)
noncomputable def putF (i:Nat) (x:AV):List (Nat × AV) → List (Nat × AV)
 | [] => [(i,x)]
 | p :: r => cond (i == p.1) ((i,x) :: r) (p :: putF i x r)
noncomputable def putK (i:Str) (x:AV):List (Str × AV) → List (Str × AV)
 | [] => [(i,x)]
 | p :: r => cond (i == p.1) ((i,x) :: r) (p :: putK i x r)
noncomputable def St.get (st:St) (n:Nat):Option AObj:=st.objs.lookup n
noncomputable def St.put (st:St) (n:Nat) (ob:AObj):St:={ st with objs:=modO n (fun _ => ob) st.objs }
noncomputable def St.new (st:St) (ob:AObj):St:={ st with objs:=(st.next,ob) :: st.objs,next:=st.next + 1 }
noncomputable def AObj.putF (i:Nat) (x:AV) (o:AObj):AObj:=oInst o (fun C fs => .inst C (Mine.putF i x fs)) o
noncomputable def St.setF (st:St) (n i:Nat) (x:AV):St:={ st with objs:=modO n (AObj.putF i x) st.objs }
noncomputable def St.dl (st:St) (n:Nat) (k:List PyData → Prop):Prop:=oSome False (oDl False k) (st.get n)
noncomputable def St.jl (st:St) (n:Nat) (k:Nat → Prop):Prop:=oSome False (oJl False k) (st.get n)
noncomputable def St.dict (st:St) (n:Nat) (k:List (Str × AV) → Prop):Prop:=oSome False (oDict False k) (st.get n)
noncomputable def St.fld (st:St) (n c i:Nat):Option AV:=oSome none (oInst none fun C fs => cond (C == c) (fs.lookup i) none) (st.get n)
noncomputable def St.isI (st:St) (n c:Nat):Bool:=oSome false (oInst false fun C fs => (C == c) && Nat.ble fs.length 99) (st.get n)
noncomputable def St.isM (st:St) (n c m:Nat):Bool:=oSome false (oInst false fun C fs => (C == c) && (fs.lookup m).isNone) (st.get n)
noncomputable def AV.lst (a:AV) (st:St) (k:List PyData → Prop):Prop:=@AV.casesOn (fun _ => Prop) a (oLst False k) (fun n => st.dl n k) (fun _ => False) (fun _ => False) False False (fun _ => False)
noncomputable def AV.tpl (a:AV) (k:List AV → Prop):Prop:=@AV.casesOn (fun _ => Prop) a (oTup False fun xs => k (xs.map .d)) (fun _ => False) k (fun _ => False) False False (fun _ => False)
noncomputable def AV.dic (a:AV) (st:St) (k:List (Str × AV) → Prop):Prop:=@AV.casesOn (fun _ => Prop) a (fun _ => False) (fun n => st.dict n k) (fun _ => False) (fun _ => False) False False k
noncomputable def AV.data0 (st:St) (a:AV):Option PyData:=@AV.casesOn (fun _ => Option PyData) a some (fun n => oSome none (oDl none fun xs => some (.list xs)) (st.get n)) (fun _ => none) (fun _ => none) none none (fun _ => none)
noncomputable def datas (f:AV → Option PyData):List AV → Option (List PyData)
 | [] => some []
 | x :: r => oSome none (fun y => oSome none (fun ys => some (y :: ys)) (datas f r)) (f x)
noncomputable def AV.data (st:St) (a:AV):Option PyData:=onT (a.data0 st) (fun xs => oSome none (fun ys => some (.tuple ys)) (datas (AV.data0 st) xs)) a
noncomputable def dats:List AV → Option (List PyData):=datas (onD none some)
noncomputable def AV.simple (a:AV):Bool:=@AV.casesOn (fun _ => Bool) a (fun _ => true) (fun _ => true) (fun _ => false) (fun _ => true) true true (fun _ => false)
noncomputable def mkTup (xs:List AV):Option AV:=oSome (cond (xs.all AV.simple) (some (.tup xs)) none) (fun ds => some (.d (.tuple ds))) (dats xs)
noncomputable def pyIdx {α:Type} (xs:List α) (i:Int):Option α:=(seqIndex? i xs.length).bind (xs[·]?)
noncomputable def memOK (x:PyData) (ys:List PyData):Bool:=PyData.canLay0 x && PyData.canLayAll0 ys && decide (x.depth ≤ 64)
noncomputable def memD (x:PyData) (ys:List PyData):Bool:=ys.any fun y => PyData.eqv y x
noncomputable def seqD (x:PyData) (k:List PyData → Prop):Prop:=@PyData.casesOn (fun _ => Prop) x False (fun _ => False) (fun _ => False) (fun _ => False) k k (fun _ => False)
noncomputable def inT (a b:AV) (st:St) (k:Bool → Prop):Prop:=a.dat fun x => opt (b.data st) fun y => seqD y fun ys => gd (memOK x ys) (k (memD x ys))
noncomputable def inK (a b:AV) (st:St) (k:Bool → Prop):Prop:=a.str fun x => b.dic st fun es => k (es.lookup x).isSome
noncomputable def eqD (a b:AV) (st:St) (k:Bool → Prop):Prop:=opt (a.data st) fun x => opt (b.data st) fun y => gd (SeqAt.shaped x && SeqAt.shaped y) (k (PyData.eqv x y))
noncomputable abbrev EK:=AV → St → Prop
noncomputable def mkList (l:Bool) (xs:List PyData) (st:St) (k:EK):Prop:=Bool.casesOn (motive:=fun _ => Prop) l (k (.d (.list xs)) st) (nd (st.new (.dl xs)) (k (.loc st.next)))
inductive BK where
 | addI | sub | mod | fdiv | addS | addL (l:Bool) | addT
noncomputable def binW (o:BK) (a b:AV) (st:St) (k:EK):Prop:=@BK.casesOn (fun _ => Prop) o
 (a.int fun x => b.int fun y => k (.d (.int (x + y))) st)
 (a.int fun x => b.int fun y => k (.d (.int (x - y))) st)
 (a.int fun x => b.int fun y => gd (!(y == 0)) (k (.d (.int (x.fmod y))) st))
 (a.int fun x => b.int fun y => gd (decide (0 < y) && decide (y < 1073741824)) (k (.d (.int (x.fdiv y))) st))
 (a.str fun x => b.str fun y => gd (decide (x.length + y.length ≤ bigLen)) (k (.d (.str (x ++ y))) st))
 (fun l => a.lst st fun xs => b.lst st fun ys => gd (decide (xs.length + ys.length ≤ bigLen)) (mkList l (xs ++ ys) st k))
 (a.tpl fun xs => b.tpl fun ys => gd (!xs.isEmpty && !ys.isEmpty && decide (xs.length + ys.length ≤ bigLen)) (opt (mkTup (xs ++ ys)) fun t => k t st))
inductive CK where
 | lt | gt | le | ge | eqI | neI | eqS | neS | eqD | neD | inT | ninT | inK | ninK | inS
noncomputable def cmpW (o:CK) (a b:AV) (st:St) (k:Bool → Prop):Prop:=@CK.casesOn (fun _ => Prop) o
 (a.int fun x => b.int fun y => k (decide (x < y)))
 (a.int fun x => b.int fun y => k (decide (y < x)))
 (a.int fun x => b.int fun y => k (decide (x ≤ y)))
 (a.int fun x => b.int fun y => k (decide (y ≤ x)))
 (a.int fun x => b.int fun y => k (x == y))
 (a.int fun x => b.int fun y => k (x != y))
 (a.str fun x => b.str fun y => k (x == y))
 (a.str fun x => b.str fun y => k (x != y))
 (Mine.eqD a b st k)
 (Mine.eqD a b st fun r => k !r)
 (Mine.inT a b st k)
 (Mine.inT a b st fun r => k !r)
 (Mine.inK a b st k)
 (Mine.inK a b st fun r => k !r)
 (a.str fun x => b.str fun y => k (Txt.contains y x))
inductive XK where
 | seq | tup | jl | str | key
noncomputable def rngN (y:Int):Bool:=@Int.casesOn (fun _ => Bool) y (fun n => Nat.blt n bigLen) fun _ => false
noncomputable def rngI (i:Int):Bool:=@Int.casesOn (fun _ => Bool) i (fun n => Nat.blt n 4611686018427387904) fun n => Nat.blt n 4611686018427387903
noncomputable def idxW (o:XK) (a b:AV) (st:St) (k:AV → Prop):Prop:=@XK.casesOn (fun _ => Prop) o
 (b.int fun i => gd (rngI i) (a.lst st fun xs => opt (pyIdx xs i) fun d => k (.d d)))
 (b.int fun i => gd (rngI i) (a.tpl fun xs => opt (pyIdx xs i) k))
 (b.int fun i => gd (rngI i) (a.at fun n => st.jl n fun m => gd (decide (0 ≤ i) && decide (i < m)) (k .junk)))
 (b.int fun i => gd (rngI i) (a.str fun x => gd (decide (-(x.length:Int) ≤ i) && decide (i < x.length)) (k (.d (.str (Txt.item x i))))))
 (b.str fun i => a.dic st fun es => opt (es.lookup i) k)
inductive NK where
 | str | lst | junk
noncomputable def lenW (o:NK) (a:AV) (st:St) (k:AV → Prop):Prop:=@NK.casesOn (fun _ => Prop) o
 (a.str fun x => gd (decide (x.length ≤ bigLen)) (k (.d (.int x.length))))
 (a.lst st fun xs => gd (decide (xs.length ≤ bigLen)) (k (.d (.int xs.length))))
 (a.jnk (gd (decide (st.jb ≤ bigLen)) (k .unk)))
inductive LK where
 | fro | loc | junk | jl
mutual
inductive ME where
 | never
 | lit (x:PyData)
 | v (i:Nat)
 | g (i:Nat) (a:Addr)
 | bin (o:BK) (a b:ME)
 | cmp (o:CK) (a b:ME)
 | btw (a b c:ME)
 | and (es:MEs)
 | or (es:MEs)
 | not (a:ME)
 | ite (c a b:ME)
 | attr (o:ME) (c i:Nat)
 | idx (k:XK) (o i:ME)
 | slA (o lo hi:ME)
 | slL (o lo:ME)
 | slH (o hi:ME)
 | init (o:ME)
 | tup (es:MEs)
 | lst (k:LK) (es:MEs)
 | dct (fro:Bool) (ks:List Str) (vs:MEs)
 | call (i:Nat) (a:Addr) (args:MEs)
 | callv (i:Nat) (args:MEs)
 | meth (o:ME) (c f m:Nat) (args:MEs)
 | app (o x:ME)
 | appJ (o x:ME)
 | pop (o:ME)
 | ins (o a x:ME)
 | find (o x:ME)
 | repl (o:ME) (x y:Str)
 | split (o:ME)
 | getd (o k x:ME)
 | len (k:NK) (a:ME)
 | ord (a:ME)
 | chr (a:ME)
 | lstRng (a b:ME)
 | lstOf (a:ME)
 | srtI (a:ME)
 | srtK (a:ME)
 | comp (elt:ME) (x:Nat) (src:MI)
 | compIf (elt:ME) (x:Nat) (src:MI) (c:ME)
inductive MEs where
 | nil
 | cons (e:ME) (es:MEs)
inductive MI where
 | of (e:ME)
 | rng (b:ME)
end
mutual
inductive MS where
 | never
 | assign (i:Nat) (e:ME)
 | assignT (is:List Nat) (e:ME)
 | assignP (i j:Nat) (a b:ME)
 | setattr (o:ME) (c i:Nat) (e:ME)
 | setK (o k e:ME)
 | setI (o k e:ME)
 | aug (i:Nat) (e:ME)
 | augattr (o:ME) (c i:Nat) (sub:Bool) (e:ME)
 | expr (e:ME)
 | ret (e:ME)
 | retN
 | ifs (c:ME) (a b:MSs)
 | whl (n:Nat) (c:ME) (b:MSs)
 | forr (i:Nat) (src:MI) (b:MSs)
 | cont
 | pass
inductive MSs where
 | nil
 | cons (s:MS) (r:MSs)
 | scope (keep:List Nat) (b:MSs)
end
noncomputable abbrev Locs:=List (Nat × AV)
noncomputable abbrev Fn:=List AV → St → EK → Prop
noncomputable abbrev Tab:=List (Addr × Fn)
noncomputable def Tab.at (T:Tab) (a:Addr):Fn:=oSome (fun _ _ _ => False) id (T.lookup a)
noncomputable def insSorted (x:Int):List Int → List Int
 | [] => [x]
 | y :: r => cond (decide (x ≤ y)) (x :: y :: r) (y :: insSorted x r)
noncomputable def insSortS (x:Str):List Str → List Str
 | [] => [x]
 | y :: r => cond (ltCps y.cps.toList x.cps.toList) (y :: insSortS x r) (x :: y :: r)
noncomputable def intsOf:List PyData → Option (List Int)
 | [] => some []
 | x :: r => oSome none (fun y => oSome none (fun ys => some (y :: ys)) (intsOf r)) (oInt none some x)
noncomputable def itemsW (a:AV) (st:St) (k:List AV → (St → Prop) → Prop):Prop:=@AV.casesOn (fun _ => Prop) a
 (fun x => @PyData.casesOn (fun _ => Prop) x False (fun _ => False) (fun _ => False) (fun x => k (x.cps.toList.map fun c => .d (.str ⟨#[c]⟩)) fun _ => True) (fun xs => k (xs.map .d) fun _ => True) (fun xs => k (xs.map .d) fun _ => True) (fun _ => False))
 (fun n => st.dl n fun xs => k (xs.map .d) fun st' => st'.get n = some (.dl xs)) (fun _ => False) (fun _ => False) False False (fun _ => False)
noncomputable def compW (same:St → Prop) (f:AV → St → (Option PyData → St → Prop) → Prop):List AV → St → (List PyData → St → Prop) → Prop
 | [],st,k => k [] st
 | x :: r,st,k => f x st fun y st => same st ∧ compW same f r st fun ys st => k (oSome ys (· :: ys) y) st
mutual
noncomputable def wpE (T:Tab):ME → Locs → St → EK → Prop
 | .never,_,_,_ => False
 | .lit x,_,st,k => k (.d x) st
 | .v i,L,st,k => opt (L.lookup i) fun v => k v st
 | .g _ a,_,st,k => k (.fn a) st
 | .bin o a b,L,st,k => wpE T a L st fun x st => wpE T b L st fun y st => binW o x y st k
 | .cmp o a b,L,st,k => wpE T a L st fun x st => wpE T b L st fun y st => cmpW o x y st fun r => k (.d (.bool r)) st
 | .btw a b c,L,st,k => wpE T a L st fun x st => wpE T b L st fun y st => cmpW .le x y st fun p => ifc p (wpE T c L st fun z st => cmpW .le y z st fun q => k (.d (.bool q)) st) (k (.d (.bool false)) st)
 | .and es,L,st,k => wpA T es L st fun b st => k (.d (.bool b)) st
 | .or es,L,st,k => wpO T es L st fun b st => k (.d (.bool b)) st
 | .not a,L,st,k => wpE T a L st fun x st => x.bool fun b => k (.d (.bool !b)) st
 | .ite c a b,L,st,k => wpE T c L st fun x st => x.bool fun p => ifc p (wpE T a L st k) (wpE T b L st k)
 | .attr o c i,L,st,k => wpE T o L st fun x st => x.at fun n => opt (st.fld n c i) fun v => k v st
 | .idx o a b,L,st,k => wpE T a L st fun x st => wpE T b L st fun y st => idxW o x y st fun v => k v st
 | .slA o a b,L,st,k => wpE T o L st fun x st => wpE T a L st fun y st => wpE T b L st fun z st => x.str fun x => y.int fun y => z.int fun z => gd (decide (x.length ≤ bigLen)) (k (.d (.str (Txt.slice x (some y) (some z)))) st)
 | .slL o a,L,st,k => wpE T o L st fun x st => wpE T a L st fun y st => x.str fun x => y.int fun y => gd (decide (x.length ≤ bigLen)) (k (.d (.str (Txt.slice x (some y) none))) st)
 | .slH o a,L,st,k => wpE T o L st fun x st => wpE T a L st fun y st => x.str fun x => y.int fun y => gd (decide (x.length ≤ bigLen)) (k (.d (.str (Txt.slice x none (some y)))) st)
 | .init o,L,st,k => wpE T o L st fun x st => x.dat fun x => oLst False (fun xs => gd (decide (xs.length ≤ bigLen)) (k (.d (.list xs.dropLast)) st)) x
 | .tup es,L,st,k => wpEs T es L st fun xs st => opt (mkTup xs) fun t => k t st
 | .lst o es,L,st,k => wpEs T es L st fun xs st => @LK.casesOn (fun _ => Prop) o (opt (dats xs) fun ds => k (.d (.list ds)) st) (opt (dats xs) fun ds => nd (st.new (.dl ds)) (k (.loc st.next))) (gd xs.isEmpty (k .junk st)) (gd xs.isEmpty (nd (st.new (.jl 0)) (k (.loc st.next))))
 | .dct fro ks vs,L,st,k => wpEs T vs L st fun xs st => gd (xs.all AV.simple) <| Bool.casesOn (motive:=fun _ => Prop) fro (nd (st.new (.dict (ks.zip xs))) (k (.loc st.next))) (k (.fd (ks.zip xs)) st)
 | .call _ a args,L,st,k => wpEs T args L st fun xs st => T.at a xs st k
 | .callv i args,L,st,k => opt (L.lookup i) fun f => f.fun fun a => gd (T.lookup a).isSome (wpEs T args L st fun xs st => T.at a xs st k)
 | .meth o c f m args,L,st,k => wpE T o L st fun x st => x.at fun n => gd (st.isM n c m) (wpEs T args L st fun xs st => T.at f (.loc n :: xs) st k)
 | .app o x,L,st,k => wpE T o L st fun a st => a.at fun n => st.dl n fun _ => wpE T x L st fun b st => b.dat fun d => st.dl n fun xs => gd (decide (xs.length < bigLen)) (nd (st.put n (.dl (xs ++ [d]))) (k (.d .none)))
 | .appJ o x,L,st,k => wpE T o L st fun a st => a.at fun n => st.jl n fun _ => wpE T x L st fun b st => b.jnk (st.jl n fun m => gd (decide (m < bigLen)) (nd (st.put n (.jl (m + 1))) (k (.d .none))))
 | .pop o,L,st,k => wpE T o L st fun a st => a.at fun n => st.dl n fun xs => opt xs.getLast? fun x => gd (decide (xs.length ≤ bigLen)) (nd (st.put n (.dl xs.dropLast)) (k (.d x)))
 | .ins o a x,L,st,k => wpE T o L st fun u st => u.jnk (wpE T a L st fun y st => wpE T x L st fun z st => y.unkn (z.int fun _ => gd (decide (st.jb < bigLen)) (nd { st with jb:=st.jb + 1 } (k (.d .none)))))
 | .find o x,L,st,k => wpE T o L st fun a st => a.str fun a => wpE T x L st fun b st => b.str fun b => k (.d (.int (Txt.find a b))) st
 | .repl o x y,L,st,k => wpE T o L st fun a st => a.str fun a => gd (decide (a.length ≤ 1048576)) (k (.d (.str (Txt.replace a x y))) st)
 | .split o,L,st,k => wpE T o L st fun a st => a.str fun a => gd (decide (a.length ≤ 1048576) && decide ((PySem.Builtin.Str.spaceWords a (a.length + 1)).length ≤ bigLen)) (k (.d (.list ((Txt.words a).map .str))) st)
 | .getd o a x,L,st,k => wpE T o L st fun o st => onFd False (fun es => wpE T a L st fun y st => wpE T x L st fun z st => y.str fun i => k ((es.lookup i).getD z) st) o
 | .len o a,L,st,k => wpE T a L st fun x st => lenW o x st fun v => k v st
 | .ord a,L,st,k => wpE T a L st fun x st => x.str fun x => gd (x.cps.toList.length == 1) (k (.d (.int (x.cps.toList.headD 0))) st)
 | .chr a,L,st,k => wpE T a L st fun x st => x.int fun x => gd (decide (0 ≤ x) && decide (x < 1114112)) (k (.d (.str ⟨#[x.toNat]⟩)) st)
 | .lstRng a b,L,st,k => wpE T a L st fun x st => wpE T b L st fun y st => x.int fun x => y.int fun y => gd (decide (0 ≤ x) && decide (x < bigLen) && decide (0 ≤ y) && decide (y < bigLen)) (k (.d (.list ((List.range (y - x).toNat).map fun (i:Nat) => .int (x + i)))) st)
 | .lstOf a,L,st,k => wpE T a L st fun x st => x.dat fun x => oTup False (fun xs => gd xs.isEmpty (k (.d (.list [])) st)) x
 | .srtI a,L,st,k => wpE T a L st fun x st => x.dat fun x => oLst False (fun xs => opt (intsOf xs) fun ns => gd (Nat.ble ns.length 16) (k (.d (.list ((ns.foldr insSorted []).map .int))) st)) x
 | .srtK a,L,st,k => wpE T a L st fun x st => x.at fun n => st.dict n fun es => gd (Nat.ble es.length 16 && decide (es.map (·.1)).Nodup) (k (.d (.list (((es.map (·.1)).foldr insSortS []).map .str))) st)
 | .comp e x src,L,st,k => wpI T src L st fun xs same st => compW same (fun it st k => wpE T e ((x,it) :: L) st fun v st => v.dat fun y => k (some y) st) xs st fun ys st => k (.d (.list ys)) st
 | .compIf e x src c,L,st,k => wpI T src L st fun xs same st => compW same (fun it st k => wpE T c ((x,it) :: L) st fun t st => t.bool fun t => ifc t (wpE T e ((x,it) :: L) st fun v st => v.dat fun y => k (some y) st) (k none st)) xs st fun ys st => k (.d (.list ys)) st
noncomputable def wpEs (T:Tab):MEs → Locs → St → (List AV → St → Prop) → Prop
 | .nil,_,st,k => k [] st
 | .cons e es,L,st,k => wpE T e L st fun x st => wpEs T es L st fun xs st => k (x :: xs) st
noncomputable def wpA (T:Tab):MEs → Locs → St → (Bool → St → Prop) → Prop
 | .nil,_,st,k => k true st
 | .cons e es,L,st,k => wpE T e L st fun x st => x.bool fun b => ifc b (wpA T es L st k) (k false st)
noncomputable def wpO (T:Tab):MEs → Locs → St → (Bool → St → Prop) → Prop
 | .nil,_,st,k => k false st
 | .cons e es,L,st,k => wpE T e L st fun x st => x.bool fun b => ifc b (k true st) (wpO T es L st k)
noncomputable def wpI (T:Tab):MI → Locs → St → (List AV → (St → Prop) → St → Prop) → Prop
 | .of e,L,st,k => wpE T e L st fun x st => itemsW x st fun xs same => gd (decide (xs.length ≤ bigLen)) (k xs same st)
 | .rng b,L,st,k => wpE T b L st fun x st => x.int fun y => gd (rngN y) (k ((List.range y.toNat).map fun (i:Nat) => .d (.int i)) (fun _ => True) st)
end
end
section
inductive All2 {α β:Type} (R:α → β → Prop):List α → List β → Prop
 | nil:All2 R [] []
 | cons {a b as bs}:R a b → All2 R as bs → All2 R (a :: as) (b :: bs)
section
variable {α β:Type} {R R':α → β → Prop} {as as':List α} {bs bs':List β}
theorem All2.mono (k:∀ a b,R a b → R' a b) (h:All2 R as bs):All2 R' as bs:=All2.rec (motive:=fun a b _ => All2 R' a b) .nil (fun r _ ih => .cons (k _ _ r) ih) h
theorem All2.length (h:All2 R as bs):as.length = bs.length:=All2.rec (motive:=fun (a:List α) (b:List β) _ => a.length = b.length) rfl (fun _ _ ih => congrArg (· + 1) ih) h
theorem All2.append (h:All2 R as bs) (k:All2 R as' bs'):All2 R (as ++ as') (bs ++ bs'):=All2.rec (motive:=fun a b _ => All2 R (a ++ as') (b ++ bs')) k (fun r _ ih => .cons r ih) h
theorem All2.get (h:All2 R as bs) {b:β}:∀ {i:Nat},bs[i]? = some b → ∃ a,as[i]? = some a ∧ R a b:=by
 induction h with
 | nil => intro i e;cases e
 | cons r _ ih =>
  intro i e
  cases i with
  | zero => cases e;exact ⟨_,rfl,r⟩
  | succ i => exact ih e
theorem All2.map {γ:Type} {f:β → γ} {R':α → γ → Prop} (k:∀ a b,R a b → R' a (f b)) (h:All2 R as bs):All2 R' as (bs.map f):=All2.rec (motive:=fun a b _ => All2 R' a (b.map f)) .nil (fun r _ ih => .cons (k _ _ r) ih) h
theorem All2.take (h:All2 R as bs):∀ n:Nat,All2 R (as.take n) (bs.take n):=by
 induction h with
 | nil => intro n;rw [List.take_nil,List.take_nil];exact .nil
 | cons r _ ih =>
  intro n
  cases n with
  | zero => exact .nil
  | succ n => exact .cons r (ih n)
theorem All2.drop (h:All2 R as bs):∀ n:Nat,All2 R (as.drop n) (bs.drop n):=by
 induction h with
 | nil => intro n;rw [List.drop_nil,List.drop_nil];exact .nil
 | cons r h ih =>
  intro n
  cases n with
  | zero => exact .cons r h
  | succ n => exact ih n
theorem All2.set {a:α} {b:β} (r:R a b) (h:All2 R as bs):∀ n:Nat,All2 R (as.set n a) (bs.set n b):=by
 induction h with
 | nil => intro n;exact .nil
 | cons q h ih =>
  intro n
  cases n with
  | zero => exact .cons r h
  | succ n => exact .cons q (ih n)
end
inductive Own where
 | obj (n:Nat) | dic (n:Nat) | junk
structure Gh where
 fz:Addr → Option Obj
 own:Addr → Option Own
 ad:Nat → Addr
 dx:Nat → Addr
 nx:Nat
noncomputable abbrev tupObj (vs:List Value) (n:Nat):Obj:={ cls:=.type "tuple",data:=.seq vs.toArray n }
inductive DR (fz:Addr → Option Obj):Value → PyData → Prop
 | none:DR fz .none .none
 | bool (b):DR fz (.bool b) (.bool b)
 | int (i t):DR fz (.int i t) (.int i)
 | str (x t):DR fz (.str x t) (.str x)
 | list {a vs n xs}:fz a = some (listOf vs n) → All2 (DR fz) vs.toList xs → DR fz (.ref a) (.list xs)
 | tuple {a vs n xs}:fz a = some (tupObj vs n) → All2 (DR fz) vs xs → DR fz (.ref a) (.tuple xs)
inductive VR0 (P:Params) (G:Gh):Value → AV → Prop
 | d {v x}:DR G.fz v x → VR0 P G v (.d x)
 | loc {n}:n < G.nx → VR0 P G (.ref (G.ad n)) (.loc n)
 | fn {a}:VR0 P G (.ref a) (.fn a)
 | unk {i t}:0 ≤ i → i < 1099511627776 → VR0 P G (.int i t) .unk
 | junk {a}:G.own a = some .junk → VR0 P G (.ref a) .junk
inductive ER (P:Params) (G:Gh):DictEntry → Str × AV → Prop
 | mk {k t v a}:VR0 P G v a → ER P G ⟨PyData.keyHash P k,.str k t,v⟩ (k,a)
inductive VR (P:Params) (G:Gh):Value → AV → Prop
 | s {v a}:VR0 P G v a → VR P G v a
 | tup {a vs n xs}:G.fz a = some (tupObj vs n) → All2 (VR0 P G) vs xs → VR P G (.ref a) (.tup xs)
 | fd {a es n kvs}:3 < a → G.fz a = some (dictOf es n) → All2 (ER P G) es kvs → VR P G (.ref a) (.fd kvs)
inductive FR (P:Params) (G:Gh):DictEntry → Nat × AV → Prop
 | mk {i h t v a}:i < 219 → VR P G v a → FR P G ⟨h,.str (nm i) t,v⟩ (i,a)
structure Gx (G G':Gh):Prop where
 fz:∀ a o,G.fz a = some o → G'.fz a = some o
 ad:∀ n,n < G.nx → G'.ad n = G.ad n
 nx:G.nx ≤ G'.nx
 jk:∀ a,G.own a = some .junk → G'.own a = some .junk
theorem Gx.refl (G:Gh):Gx G G:=⟨fun _ _ h => h,fun _ _ => rfl,Nat.le_refl _,fun _ h => h⟩
theorem Gx.trans {G G' G'':Gh} (x:Gx G G') (y:Gx G' G''):Gx G G'' :=
 ⟨fun a o h => y.fz a o (x.fz a o h),fun n h => (y.ad n (Nat.lt_of_lt_of_le h x.nx)).trans (x.ad n h),Nat.le_trans x.nx y.nx,fun a h => y.jk a (x.jk a h)⟩
section
variable {P:Params} {G G':Gh}
theorem DR.mono {f f':Addr → Option Obj} (hf:∀ a o,f a = some o → f' a = some o) {v x} (h:DR f v x):DR f' v x :=
 DR.rec (motive_1:=fun v x _ => DR f' v x) (motive_2:=fun v x _ => All2 (DR f') v x) .none .bool .int .str (fun h _ ih => .list (hf _ _ h) ih) (fun h _ ih => .tuple (hf _ _ h) ih) .nil (fun _ _ ih ihs => .cons ih ihs) h
theorem VR0.mono (X:Gx G G') {v a} (h:VR0 P G v a):VR0 P G' v a :=
 VR0.rec (motive:=fun v a _ => VR0 P G' v a) (fun h => .d (h.mono X.fz)) (fun {n} h => X.ad n h ▸ .loc (Nat.lt_of_lt_of_le h X.nx)) .fn .unk (fun h => .junk (X.jk _ h)) h
theorem ER.mono (X:Gx G G') {e p} (h:ER P G e p):ER P G' e p:=ER.rec (motive:=fun e p _ => ER P G' e p) (fun h => .mk (h.mono X)) h
theorem VR.mono (X:Gx G G') {v a} (h:VR P G v a):VR P G' v a :=
 VR.rec (motive:=fun v a _ => VR P G' v a) (fun h => .s (h.mono X)) (fun h r => .tup (X.fz _ _ h) (r.mono fun _ _ => VR0.mono X)) (fun l h r => .fd l (X.fz _ _ h) (r.mono fun _ _ => ER.mono X)) h
theorem FR.mono (X:Gx G G') {e p} (h:FR P G e p):FR P G' e p:=FR.rec (motive:=fun e p _ => FR P G' e p) (fun l h => .mk l (h.mono X)) h
theorem DR.reads {f:Addr → Option Obj} {h:Heap} (hf:∀ a o,f a = some o → h.get? a = some o) {v x} (r:DR f v x):∃ as,Reads h v x as :=
 DR.rec (motive_1:=fun v x _ => ∃ as,Reads h v x as) (motive_2:=fun v x _ => ∃ as,ReadsAll h v x as) ⟨_,.none⟩ (fun b => ⟨_,.bool b⟩) (fun i t => ⟨_,.int i t⟩) (fun i t => ⟨_,.str i t⟩)
  (fun h _ ⟨_,q⟩ => ⟨_,.list (hf _ _ h) rfl rfl q⟩) (fun h _ ⟨_,q⟩ => ⟨_,.tuple (hf _ _ h) rfl rfl q⟩) ⟨_,.nil⟩ (fun _ _ ⟨_,q⟩ ⟨_,p⟩ => ⟨_,.cons q p⟩) r
theorem VR.d {v x} (h:DR G.fz v x):VR P G v (.d x):=.s (.d h)
theorem VR.loc {n} (h:n < G.nx):VR P G (.ref (G.ad n)) (.loc n):=.s (.loc h)
theorem VR.int {i t}:VR P G (.int i t) (.d (.int i)):=.d (.int i t)
theorem VR.str {i t}:VR P G (.str i t) (.d (.str i)):=.d (.str i t)
theorem VR.bool {b}:VR P G (.bool b) (.d (.bool b)):=.d (.bool b)
theorem VR.none:VR P G .none (.d .none):=.d .none
end
end
section
theorem n0 {α:Type} {x:α} {C:Prop} (h:none = some x):C:=nomatch h
theorem some_ne {α:Type} {x:α}:some x ≠ none:=fun h => nomatch h
theorem some_of {α:Type} {o:Option α} (h:o ≠ none):∃ x,o = some x:=Option.ne_none_iff_exists'.mp h
noncomputable def Uniq (fs:List (Nat × AV)):Prop:=(fs.map (·.1)).Nodup
structure FnU (P:Params) (G:Gh) (es:List DictEntry) (fs:List (Nat × AV)):Prop where
 f:All2 (FR P G) es fs
 u:Uniq fs
inductive OR (P:Params) (G:Gh) (h:Heap) (n:Nat):AObj → Prop
 | dl {xs vs k}:h.get? (G.ad n) = some (listOf vs k) → All2 (DR G.fz) vs.toList xs → OR P G h n (.dl xs)
 | jl {m vs k}:h.get? (G.ad n) = some (listOf vs k) → All2 (fun v _ => VR0 P G v .junk) vs.toList (List.replicate m ()) → OR P G h n (.jl m)
 | dict {es ents k}:h.get? (G.ad n) = some (dictOf ents k) → All2 (ER P G) ents es → OR P G h n (.dict es)
 | inst {C fs ents k}:h.get? (G.ad n) = some (instObj C (G.dx n)) → G.own (G.dx n) = some (.dic n) → h.get? (G.dx n) = some (dictOf ents k) → FnU P G ents fs → OR P G h n (.inst C fs)
theorem OR.go {P:Params} {G G':Gh} {h h':Heap} {n:Nat} (X:Gx G G') (e1:G'.ad n = G.ad n) (e2:G'.dx n = G.dx n) (e3:G.own (G.dx n) = some (.dic n) → G'.own (G.dx n) = some (.dic n))
  (k:∀ o,h.get? (G.ad n) = some o → h'.get? (G.ad n) = some o) (k2:G.own (G.dx n) = some (.dic n) → ∀ o,h.get? (G.dx n) = some o → h'.get? (G.dx n) = some o) {ob:AObj} (c:OR P G h n ob):OR P G' h' n ob :=
 OR.rec (motive:=fun ob _ => OR P G' h' n ob) (fun g d => .dl (e1 ▸ k _ g) (d.mono fun _ _ => DR.mono X.fz)) (fun g d => .jl (e1 ▸ k _ g) (d.mono fun _ _ => VR0.mono X)) (fun g d => .dict (e1 ▸ k _ g) (d.mono fun _ _ => ER.mono X))
  (fun g o g2 d => .inst (by rw [e1,e2];exact k _ g) (by rw [e2];exact e3 o) (by rw [e2];exact k2 o _ g2) ⟨d.f.mono fun _ _ => FR.mono X,d.u⟩) c
structure Rep (P:Params) (B:Heap) (G:Gh) (h:Heap) (st:St):Prop where
 base:∀ a o,B.get? a = some o → G.fz a = some o
 fz:∀ a o,G.fz a = some o → h.get? a = some o ∧ G.own a = none
 nx:G.nx = st.next
 objs:∀ n ob,st.objs.lookup n = some ob → n < G.nx ∧ G.own (G.ad n) = some (.obj n) ∧ OR P G h n ob
 junk:∀ a,G.own a = some .junk → ∃ vs k,h.get? a = some (listOf vs k) ∧ vs.size ≤ st.jb
 live:∀ a w,G.own a = some w → ∃ o,h.get? a = some o
 hi:∀ a w,G.own a = some w → 3 < a
 top:∃ o,B.get? 3 = some o
structure Ext (Pv:Addr → Prop) (G:Gh) (h:Heap) (G':Gh) (h':Heap):Prop where
 keep:∀ a o,h.get? a = some o → G.own a = none → ¬ Pv a → h'.get? a = some o
 alive:∀ a o,h.get? a = some o → ∃ o',h'.get? a = some o'
 own:∀ a,G'.own a ≠ none → G.own a ≠ none ∨ h.get? a = none
 fzn:∀ a,G'.fz a ≠ none → G.fz a ≠ none ∨ G.own a ≠ none ∨ h.get? a = none
 gx:Gx G G'
noncomputable abbrev noP:Addr → Prop:=fun _ => False
section
variable {P:Params} {B:Heap} {G G' G'':Gh} {h h' h'':Heap} {st:St} {Pv Pv':Addr → Prop} {a:Addr}
theorem fresh_none (h:Heap) {a:Addr} (ha:h.objs.size ≤ a):h.get? a = none :=
 Classical.byContradiction fun q => let ⟨_,e⟩:=some_of q;Nat.not_lt.mpr ha (Heap.lt_size e)
theorem Rep.big (R:Rep P B G h st):3 < h.objs.size:=R.top.elim fun _ e => Heap.lt_size (R.fz _ _ (R.base _ _ e)).1
theorem Rep.old (R:Rep P B G h st):∀ b o,B.get? b = some o → h.get? b = some o:=fun b o e => (R.fz b o (R.base b o e)).1
theorem Rep.own_none (R:Rep P B G h st) (ha:h.get? a = none):G.own a = none :=
 Classical.byContradiction fun q => (some_of q).elim fun w e => (R.live a w e).elim fun _ e' => n0 (ha.symm.trans e')
theorem Rep.fz_none (R:Rep P B G h st) (ha:h.get? a = none):G.fz a = none :=
 Classical.byContradiction fun q => (some_of q).elim fun w e => n0 (ha.symm.trans (R.fz a w e).1)
theorem Ext.refl (Pv:Addr → Prop) (G:Gh) (h:Heap):Ext Pv G h G h:=⟨fun _ _ e _ _ => e,fun _ o e => ⟨o,e⟩,fun _ e => .inl e,fun _ e => .inl e,.refl G⟩
theorem none_of_alive (al:∀ a o,h.get? a = some o → ∃ o',h'.get? a = some o') (e:h'.get? a = none):h.get? a = none :=
 Classical.byContradiction fun q => (some_of q).elim fun w q => (al a w q).elim fun _ e' => n0 (e.symm.trans e')
theorem Ext.trans (x:Ext Pv G h G' h') (y:Ext Pv G' h' G'' h''):Ext Pv G h G'' h'' where
 keep a o e q p:=y.keep a o (x.keep a o e q p) (Classical.byContradiction fun r => (x.own a r).elim (fun z => z q) fun z => n0 (z.symm.trans e)) p
 alive a o e:=(x.alive a o e).elim fun o' e' => y.alive a o' e'
 own a e:=(y.own a e).elim (x.own a) fun z => .inr (none_of_alive x.alive z)
 fzn a e:=(y.fzn a e).elim (x.fzn a) fun z => .inr (z.elim (x.own a) fun z => .inr (none_of_alive x.alive z))
 gx:=x.gx.trans y.gx
theorem Ext.mono (x:Ext Pv G h G' h') (hp:∀ a,Pv a → Pv' a):Ext Pv' G h G' h':=⟨fun a o e q p => x.keep a o e q fun z => p (hp a z),x.alive,x.own,x.fzn,x.gx⟩
theorem Ext.up (x:Ext noP G h G' h'):Ext Pv G h G' h':=x.mono fun _ z => z.elim
theorem Ext.drop (x:Ext Pv G h G' h') (hp:∀ a,Pv a → h.get? a = none):Ext noP G h G' h' :=
 ⟨fun a o e q _ => x.keep a o e q fun z => n0 ((hp a z).symm.trans e),x.alive,x.own,x.fzn,x.gx⟩
theorem Ext.poke (X:Ext Pv G h G' h') (h0:h.get? a = none) (hk:∀ b o,b ≠ a → h'.get? b = some o → h''.get? b = some o):Ext Pv G h G' h'' :=
 have k:∀ b o o',h.get? b = some o → h'.get? b = some o' → h''.get? b = some o':=fun b o o' e => hk b o' fun z => n0 ((z ▸ h0).symm.trans e)
 ⟨fun b o e q p => k b o o e (X.keep b o e q p),fun b o e => (X.alive b o e).elim fun o' e' => ⟨o',k b o o' e e'⟩,X.own,X.fzn,X.gx⟩
theorem Rep.of (R:Rep P B G h st) (hk:∀ a o,(G.own a ≠ none ∨ G.fz a ≠ none) → h.get? a = some o → h'.get? a = some o):Rep P B G h' st where
 base:=R.base
 fz a o e:=⟨hk a o (.inr (e ▸ some_ne)) (R.fz a o e).1,(R.fz a o e).2⟩
 nx:=R.nx
 objs n ob e:=have q:=R.objs n ob e;⟨q.1,q.2.1,q.2.2.go (.refl G) rfl rfl id (fun o => hk _ o (.inl (q.2.1 ▸ some_ne))) fun z o => hk _ o (.inl (z ▸ some_ne))⟩
 junk a e:=(R.junk a e).elim fun vs q => q.elim fun k q => ⟨vs,k,hk _ _ (.inl (e ▸ some_ne)) q.1,q.2⟩
 live a w e:=(R.live a w e).elim fun o q => ⟨o,hk _ _ (.inl (e ▸ some_ne)) q⟩
 hi:=R.hi
 top:=R.top
theorem Rep.poke (R:Rep P B G h st) (no:G.own a = none) (nf:G.fz a = none) (hk:∀ b o,b ≠ a → h.get? b = some o → h'.get? b = some o):Rep P B G h' st :=
 R.of fun b o q => hk b o fun z => q.elim (fun q => q (z ▸ no)) fun q => q (z ▸ nf)
theorem keep_no (R:Rep P B G h st) (hk:∀ a o,h.get? a = some o → h'.get? a = some o):Ext noP G h G h' ∧ Rep P B G h' st :=
 ⟨⟨fun a o' e _ _ => hk _ _ e,fun a o' e => ⟨o',hk _ _ e⟩,fun a e => .inl e,fun a e => .inl e,.refl G⟩,R.of fun a o' _ e => hk _ _ e⟩
theorem alloc_no (R:Rep P B G h st) (o:Obj):Ext noP G h G (h.push o) ∧ Rep P B G (h.push o) st:=keep_no R fun _ _ e => Heap.get?_push_of_some _ e
noncomputable def Gh.frz (G:Gh) (a:Addr) (o:Obj):Gh:={ G with fz:=fun b => if b = a then some o else G.fz b }
theorem Gh.frz_at {o:Obj}:(G.frz a o).fz a = some o:=if_pos rfl
theorem Gh.frz_ne {o:Obj} {b:Addr} (q:b ≠ a):(G.frz a o).fz b = G.fz b:=if_neg q
theorem Gh.frz_gx {o:Obj} (nf:G.fz a = none):Gx G (G.frz a o):=⟨fun _ _ e => (Gh.frz_ne fun z => n0 ((z ▸ nf).symm.trans e)).trans e,fun _ _ => rfl,Nat.le_refl _,fun _ e => e⟩
theorem adopt {o:Obj} (X:Ext Pv G h G' h') (R:Rep P B G' h' st) (h0:h.get? a = none) (no:G'.own a = none) (nf:G'.fz a = none) (ho:h'.get? a = some o):Ext Pv G h (G'.frz a o) h' ∧ Rep P B (G'.frz a o) h' st :=
  have gx:=Gh.frz_gx (o:=o) nf
  ⟨⟨X.keep,X.alive,X.own,fun b e => (Classical.em (b = a)).elim (fun q => .inr (.inr (q ▸ h0))) fun q => X.fzn b (Gh.frz_ne q ▸ e),X.gx.trans gx⟩,
   { base:=fun b o' e => gx.fz b o' (R.base b o' e)
     fz:=fun b o' e => (Classical.em (b = a)).elim (fun q => by subst q;exact ⟨Option.some.inj (Gh.frz_at.symm.trans e) ▸ ho,no⟩) fun q => R.fz b o' ((Gh.frz_ne q).symm.trans e)
     nx:=R.nx
     objs:=fun n ob e => have q:=R.objs n ob e;⟨q.1,q.2.1,q.2.2.go gx rfl rfl id (fun _ e => e) fun _ _ e => e⟩
     junk:=R.junk,live:=R.live,hi:=R.hi,top:=R.top }⟩
theorem alloc_fz {o:Obj} (R:Rep P B G h st) (hk:∀ a o,h.get? a = some o → h'.get? a = some o) (hn:h.get? a = none) (ho:h'.get? a = some o):Ext noP G h (G.frz a o) h' ∧ Rep P B (G.frz a o) h' st :=
 have k:=keep_no R hk
 adopt k.1 k.2 hn (R.own_none hn) (R.fz_none hn) ho
theorem modO_lookup (n:Nat) (f:AObj → AObj) (m:Nat) (l:List (Nat × AObj)):(modO n f l).lookup m = if m = n then (l.lookup n).map f else l.lookup m:=by
 induction l with
 | nil => exact (ite_self none).symm
 | cons p r ih =>
  obtain ⟨k,o⟩:=p
  unfold modO
  by_cases q:n = k
  ·subst q
   by_cases z:m = n
   ·subst z;simp [List.lookup_cons]
   ·simp [List.lookup_cons,z,beq_eq_false_iff_ne.mpr z]
  ·have q':=beq_eq_false_iff_ne.mpr q
   by_cases z:m = n
   ·subst z;simp [List.lookup_cons,q',ih]
   ·simp [List.lookup_cons,q',z,ih]
noncomputable def Gh.add (G:Gh) (a1:Addr) (a2:Option Addr):Gh :=
 { G with own:=fun a => if a = a1 then some (.obj G.nx) else if some a = a2 then some (.dic G.nx) else G.own a,ad:=fun n => if n = G.nx then a1 else G.ad n,dx:=fun n => if n = G.nx then a2.getD 0 else G.dx n,nx:=G.nx + 1 }
theorem Gh.add_own (G:Gh) {a1:Addr} {a2:Option Addr} {w:Own} (e:(G.add a1 a2).own a = some w):(a = a1 ∧ w = .obj G.nx) ∨ (some a = a2 ∧ w = .dic G.nx) ∨ G.own a = some w:=by
 simp only [Gh.add] at e
 split at e
 ·exact .inl ⟨‹_›,(Option.some.inj e).symm⟩
 ·split at e
  ·exact .inr (.inl ⟨‹_›,(Option.some.inj e).symm⟩)
  ·exact .inr (.inr e)
theorem adopt_own {a1:Addr} {a2:Option Addr} {ob:AObj} (X:Ext Pv G h G' h') (R:Rep P B G' h' st) (h0:∀ a,a = a1 ∨ some a = a2 → h.get? a = none ∧ G'.own a = none ∧ G'.fz a = none ∧ 3 < a ∧ ∃ o,h'.get? a = some o)
  (hob:Gx G' (G'.add a1 a2) → OR P (G'.add a1 a2) h' G'.nx ob):Ext Pv G h (G'.add a1 a2) h' ∧ Rep P B (G'.add a1 a2) h' (st.new ob) ∧ (G'.add a1 a2).ad st.next = a1 ∧ st.next < (G'.add a1 a2).nx:=by
 have old:∀ a w,G'.own a = some w → (G'.add a1 a2).own a = some w:=fun a w e => by
  have e1:¬ (a = a1):=fun z => n0 ((h0 a (.inl z)).2.1.symm.trans e)
  have e2:¬ (some a = a2):=fun z => n0 ((h0 a (.inr z)).2.1.symm.trans e)
  simp only [Gh.add,if_neg e1,if_neg e2];exact e
 have gx:Gx G' (G'.add a1 a2):=⟨fun _ _ e => e,fun n hn => if_neg (Nat.ne_of_lt hn),Nat.le_succ _,fun a e => old a _ e⟩
 have new:∀ a,(G'.add a1 a2).own a ≠ none → G'.own a ≠ none ∨ a = a1 ∨ some a = a2:=fun a e => by
  obtain ⟨w,e⟩:=some_of e
  rcases G'.add_own e with q | q | q
  ·exact .inr (.inl q.1)
  ·exact .inr (.inr q.1)
  ·exact .inl (q ▸ some_ne)
 refine ⟨⟨X.keep,X.alive,fun a e => (new a e).elim (X.own a) fun q => .inr (h0 a q).1,X.fzn,X.gx.trans gx⟩,
  { base:=R.base,fz:=fun a o e => ⟨(R.fz a o e).1,Classical.byContradiction fun q => (new a q).elim (fun z => z (R.fz a o e).2) fun z => n0 ((h0 a z).2.2.1.symm.trans e)⟩,nx:=congrArg (· + 1) R.nx,objs:=fun n ob' e => ?_,junk:=fun a e => ?_,live:=fun a w e => ?_,hi:=fun a w e => ?_,top:=R.top },?_,?_⟩
 ·simp only [St.new,List.lookup_cons] at e
  by_cases q:n = st.next
  ·rw [show (n == st.next) = true from beq_iff_eq.mpr q] at e
   cases e
   subst q
   rw [← R.nx]
   exact ⟨Nat.lt_succ_self _,(by simp [Gh.add]),hob gx⟩
  ·rw [show (n == st.next) = false from beq_eq_false_iff_ne.mpr q] at e
   have c:=R.objs n ob' e
   have l:=Nat.ne_of_lt c.1
   exact ⟨Nat.lt_succ_of_lt c.1,(by rw [gx.ad n c.1];exact old _ _ c.2.1),c.2.2.go gx (if_neg l) (if_neg l) (old _ _) (fun _ e => e) fun _ _ e => e⟩
 ·rcases G'.add_own e with ⟨_,q⟩ | ⟨_,q⟩ | q
  ·cases q
  ·cases q
  ·exact R.junk a q
 ·rcases G'.add_own e with ⟨q,_⟩ | ⟨q,_⟩ | q
  ·exact (h0 a (.inl q)).2.2.2.2
  ·exact (h0 a (.inr q)).2.2.2.2
  ·exact R.live a w q
 ·rcases G'.add_own e with ⟨q,_⟩ | ⟨q,_⟩ | q
  ·exact (h0 a (.inl q)).2.2.2.1
  ·exact (h0 a (.inr q)).2.2.2.1
  ·exact R.hi a w q
 ·exact if_pos R.nx.symm
 ·exact R.nx ▸ Nat.lt_succ_self _
theorem alloc_own {ob:AObj} {o:Obj} (R:Rep P B G h st) (hf:o.isFreed = false) (hob:∀ G',Gx G G' → G'.ad G.nx = h.objs.size → OR P G' (h.push o) G.nx ob) :
  ∃ G',Ext noP G h G' (h.push o) ∧ Rep P B G' (h.push o) (st.new ob) ∧ VR P G' (.ref h.objs.size) (.loc st.next):=by
 have k:=alloc_no R o
 have n:=fresh_none h (Nat.le_refl _)
 have q:=adopt_own (a1:=h.objs.size) (a2:=none) k.1 k.2 (fun a z => z.elim (fun z => z ▸ ⟨n,R.own_none n,R.fz_none n,R.big,_,Heap.get?_push_size _ hf⟩) fun z => nomatch z) fun gx => hob _ gx (if_pos rfl)
 exact ⟨_,q.1,q.2.1,by have v:=VR.loc (P:=P) q.2.2.2;rw [q.2.2.1] at v;exact v⟩
theorem alloc_junk (R:Rep P B G h st):∃ G',Ext noP G h G' (h.push (listOf #[] 0)) ∧ Rep P B G' (h.push (listOf #[] 0)) st ∧ VR P G' (.ref h.objs.size) .junk:=by
 have k:=alloc_no R (listOf #[] 0)
 have n:=fresh_none h (Nat.le_refl h.objs.size)
 have at_:=Heap.get?_push_size h (o:=listOf #[] 0) rfl
 generalize e0:h.objs.size = p at *
 have old:∀ a w,G.own a = some w → (if a = p then some Own.junk else G.own a) = some w:=fun a w e => by
  rw [if_neg];· exact e
  rintro rfl;exact n0 ((R.own_none n).symm.trans e)
 have inv:∀ a w,(if a = p then some Own.junk else G.own a) = some w → (a = p ∧ w = .junk) ∨ G.own a = some w:=fun a w e => by
  split at e
  ·exact .inl ⟨‹_›,(Option.some.inj e).symm⟩
  ·exact .inr e
 have gx:Gx G { G with own:=fun a => if a = p then some Own.junk else G.own a }:=⟨fun _ _ e => e,fun _ _ => rfl,Nat.le_refl _,fun a e => old a _ e⟩
 refine ⟨{ G with own:=fun a => if a = p then some Own.junk else G.own a },⟨k.1.keep,k.1.alive,fun a e => ?_,k.1.fzn,gx⟩,
  { base:=R.base,fz:=fun a o e => ⟨(k.2.fz a o e).1,Classical.byContradiction fun q => ?_⟩,nx:=R.nx,objs:=fun m ob e => ?_,junk:=fun a e => ?_,live:=fun a w e => ?_,hi:=fun a w e => ?_,top:=R.top },.s (.junk (if_pos rfl))⟩
 ·obtain ⟨w,e⟩:=some_of e
  rcases inv a w e with q | q
  ·exact .inr (q.1 ▸ n)
  ·exact .inl (q ▸ some_ne)
 ·obtain ⟨w,q⟩:=some_of q
  rcases inv a w q with q | q
  ·exact n0 ((R.fz_none n).symm.trans (q.1 ▸ e))
  ·exact n0 ((R.fz a o e).2.symm.trans q)
 ·have c:=k.2.objs m ob e
  exact ⟨c.1,old _ _ c.2.1,c.2.2.go gx rfl rfl (old _ _) (fun _ e => e) fun _ _ e => e⟩
 ·rcases inv a _ e with q | q
  ·exact ⟨#[],0,q.1 ▸ at_,Nat.zero_le _⟩
  ·exact k.2.junk a q
 ·rcases inv a w e with q | q
  ·exact ⟨_,q.1 ▸ at_⟩
  ·exact k.2.live a w q
 ·rcases inv a w e with q | q
  ·exact q.1 ▸ e0 ▸ R.big
  ·exact R.hi a w q
theorem upd {st':St} {n:Nat} (R:Rep P B G h st) (hs:Heap.SameBut a h h') (hlive:∃ o,h'.get? a = some o) (ho:G.own a = some (.obj n) ∨ G.own a = some (.dic n) ∨ G.own a = some .junk)
  (hn:st'.next = st.next) (hj:st.jb ≤ st'.jb) (hobj:∀ m ob,st'.objs.lookup m = some ob → st.objs.lookup m = some ob ∧ (m ≠ n ∨ G.own a = some .junk) ∨ m < G.nx ∧ G.own (G.ad m) = some (.obj m) ∧ OR P G h' m ob)
  (hjk:G.own a = some .junk → ∃ vs k,h'.get? a = some (listOf vs k) ∧ vs.size ≤ st'.jb):Ext noP G h G h' ∧ Rep P B G h' st':=by
 have hne:G.own a ≠ none:=by rcases ho with e | e | e <;> exact e ▸ some_ne
 have kp:∀ b o,b ≠ a → h.get? b = some o → h'.get? b = some o:=fun b o q e => (hs.2 b q).trans e
 have nfz:∀ b o,G.fz b = some o → b ≠ a:=fun b o e z => hne (z ▸ (R.fz b o e).2)
 refine ⟨⟨fun b o e q _ => kp b o (fun z => hne (z ▸ q)) e,fun b o e => (Classical.em (b = a)).elim (fun q => q ▸ hlive) fun q => ⟨o,kp b o q e⟩,fun _ e => .inl e,fun _ e => .inl e,.refl G⟩,
  { base:=R.base,fz:=fun b o e => ⟨kp b o (nfz b o e) (R.fz b o e).1,(R.fz b o e).2⟩,nx:=R.nx.trans hn.symm,objs:=fun m ob e => ?_,junk:=fun b e => ?_,live:=fun b w e => (Classical.em (b = a)).elim (fun q => q ▸ hlive) fun q => (R.live b w e).elim fun o e' => ⟨o,kp b o q e'⟩,hi:=R.hi,top:=R.top }⟩
 ·rcases hobj m ob e with ⟨e,hm⟩ | q
  ·have c:=R.objs m ob e
   have n1:∀ w,G.own a = some w → (w = .obj n ∨ w = .dic n) ∧ m ≠ n ∨ w = .junk:=fun w q => by
    rcases ho with z | z | z
    ·rcases hm with y | y
     ·exact .inl ⟨.inl (Option.some.inj (q.symm.trans z)),y⟩
     ·exact .inr (Option.some.inj (q.symm.trans y))
    ·rcases hm with y | y
     ·exact .inl ⟨.inr (Option.some.inj (q.symm.trans z)),y⟩
     ·exact .inr (Option.some.inj (q.symm.trans y))
    ·exact .inr (Option.some.inj (q.symm.trans z))
   refine ⟨c.1,c.2.1,c.2.2.go (.refl G) rfl rfl id (fun o => kp _ o fun z => ?_) fun d o => kp _ o fun z => ?_⟩
   ·rcases n1 _ (z ▸ c.2.1) with ⟨y | y,w⟩ | y
    ·injection y with y;exact w y
    ·cases y
    ·cases y
   ·rcases n1 _ (z ▸ d) with ⟨y | y,w⟩ | y
    ·cases y
    ·injection y with y;exact w y
    ·cases y
  ·exact q
 ·by_cases q:b = a
  ·exact q ▸ hjk (q ▸ e)
  ·obtain ⟨vs,k,h1,h2⟩:=R.junk b e
   exact ⟨vs,k,kp b _ q h1,Nat.le_trans h2 hj⟩
theorem upd_obj {n:Nat} {ob:AObj} {f:AObj → AObj} (R:Rep P B G h st) (hl:st.get n = some ob) (hs:Heap.SameBut a h h') (ho:G.own a = some (.obj n) ∨ G.own a = some (.dic n)) (hlive:∃ o,h'.get? a = some o)
  (hob:OR P G h' n (f ob)):Ext noP G h G h' ∧ Rep P B G h' { st with objs:=modO n f st.objs }:=by
 refine upd R hs hlive (ho.imp_right .inl) rfl (Nat.le_refl _) (fun m ob₂ e => ?_) fun e => by rcases ho with q | q <;> exact nomatch (q.symm.trans e)
 have e:(modO n f st.objs).lookup m = some ob₂:=e
 rw [modO_lookup] at e
 by_cases q:m = n
 ·subst q
  rw [if_pos rfl,show st.objs.lookup m = some ob from hl] at e
  have c:=R.objs m ob hl
  exact .inr ⟨c.1,c.2.1,Option.some.inj e ▸ hob⟩
 ·rw [if_neg q] at e;exact .inl ⟨e,.inl q⟩
theorem upd_junk (R:Rep P B G h st) (hs:Heap.SameBut a h h') (ho:G.own a = some .junk) {vs:Array Value} {k:Nat} (hv:h'.get? a = some (listOf vs k)) (hz:vs.size ≤ st.jb + 1) :
  Ext noP G h G h' ∧ Rep P B G h' { st with jb:=st.jb + 1 } :=
 upd (n:=0) R hs ⟨_,hv⟩ (.inr (.inr ho)) rfl (Nat.le_succ _) (fun m ob e => .inl ⟨e,.inr ho⟩) fun _ => ⟨vs,k,hv,hz⟩
end
end
section
noncomputable def gT:List (Nat × Addr):=[(31,21),(88,28),(66,35),(192,42),(39,165),(121,172),(133,179),(134,186),(119,193),(114,200),(102,207),(113,214),(111,221),(33,450),(112,528),(62,535),(97,542),(12,754),(21,761),(14,768),(23,775),(27,782),(19,787),(29,794),(28,801),(24,808),(16,815),(22,822),(20,829),(11,836),(17,843),(15,850),(10,857),(26,862),(18,869),(30,876),(25,883),(13,888),(129,893),(2,59),(3,72),(1,154),(4,322),(7,439),(0,517),(5,580),(6,743)]
noncomputable def mT:List (Addr × Nat × Addr):=[(154,165,95),(154,136,102),(154,52,109),(154,82,116),(154,89,123),(154,157,130),(154,170,137),(154,171,144),(154,166,151),(322,165,242),(322,160,249),(322,59,256),(322,135,263),(322,89,270),(322,170,277),(322,157,284),(322,166,291),(322,141,298),(322,90,305),(322,162,312),(322,161,319),(439,34,349),(439,70,358),(439,202,365),(439,55,372),(439,64,379),(439,98,387),(439,40,394),(439,170,401),(439,139,408),(439,157,415),(439,128,422),(439,212,429),(439,110,436),(517,78,472),(517,205,479),(517,211,486),(517,163,493),(517,81,500),(517,36,507),(517,107,514),(580,81,563),(580,77,570),(580,135,577),(743,81,606),(743,77,613),(743,144,620),(743,205,627),(743,37,634),(743,78,641),(743,71,648),(743,74,655),(743,75,662),(743,72,669),(743,73,676),(743,100,683),(743,132,691),(743,201,698),(743,213,705),(743,95,712),(743,84,719),(743,195,726),(743,115,733),(743,177,740)]
noncomputable def aT:List (Addr × Nat):=[(154,123),(154,209),(322,123),(322,209),(439,42),(439,50),(439,56),(439,127),(439,142),(439,154),(439,187),(439,203),(517,57),(517,79),(517,85),(517,86),(517,91),(517,99),(517,104),(517,108),(517,109),(517,117),(517,118),(517,137),(517,138),(517,149),(517,151),(517,155),(517,167),(517,176),(517,191),(517,209),(517,217),(580,79),(580,101),(580,116),(580,182),(743,41),(743,44),(743,47),(743,53),(743,65),(743,79),(743,104),(743,107),(743,122),(743,128),(743,150),(743,193),(743,194),(743,197)]
noncomputable def cT:List (Addr × Addr):=[(154,88),(322,235),(439,340),(517,465),(580,556),(743,599)]
noncomputable def gChk (K:Frag) (p:Nat × Addr):Bool:=nsIn K mainGlobals (nm p.1) == some (some (.ref p.2)) && decide (p.1 < 219) && keepIn K (.ref p.2)
noncomputable def bT:List Str:=["len","ord","chr","list","range","sorted"]
noncomputable def mChk (K:Frag) (p:Addr × Nat × Addr):Bool:=plainGet K p.1 (nm p.2.1) && findIn K (.ref p.1) (nm p.2.1) == some (some (.ref p.2.2)) && isFn K (.ref p.2.2) && keepIn K (.ref p.2.2) && decide (p.2.1 < 219)
noncomputable def aChk (K:Frag) (p:Addr × Nat):Bool:=plainGet K p.1 (nm p.2) && hasDictIn K p.1 && findIn K (.ref p.1) (nm p.2) == some none && decide (p.2 < 219) && takerIn K p.1 (nm p.2) == some none && plainOver K p.1 && findIn K (.ref p.1) "__setattr__" == some (some (.builtin "object.__setattr__"))
noncomputable def cChk (K:Frag) (p:Addr × Addr):Bool:=makesIn K p.1 && findIn K (.ref p.1) "__init__" == some (some (.ref p.2)) && typeIn K (.ref p.2) == some (.type "function") && keepIn K (.ref p.1)
structure KF (K:Frag):Prop where
 g:gT.all (gChk K) = true
 b:bT.all (fun x => nsIn K mainGlobals x == some none) = true
 m:mT.all (mChk K) = true
 a:aT.all (aChk K) = true
 c:cT.all (cChk K) = true
end
section
noncomputable abbrev Sc:=List (Str × NameKind)
theorem nb0 {P:Prop} (h:false = true):P:=nomatch h
noncomputable def onO {c:Prop} [Decidable c] (f:c → Bool):Bool:=if h:c then f h else false
theorem onO_e {c C:Prop} [d:Decidable c] {f:c → Bool} (h:onO f = true) (k:∀ x,f x = true → C):C:=by
 cases d with
 | isTrue x => exact k x h
 | isFalse _ => exact nb0 h
noncomputable def onBoolOp (f:BoolOp → List Expr → Pos → Bool) (e:Expr):Bool:=onO fun h:e.ctorIdx = 0 => Expr.BoolOp.elim (motive_1:=fun _ => Bool) e h f
theorem onBoolOp_e {f:BoolOp → List Expr → Pos → Bool} {e:Expr} {C:Expr → Prop} (h:onBoolOp f e = true) (k:∀ a b c,f a b c = true → C (.BoolOp a b c)):C e :=
 onO_e h fun x h => Expr.BoolOp.elim (motive_1:=fun e => ∀ x:e.ctorIdx = 0,Expr.BoolOp.elim (motive_1:=fun _ => Bool) e x f = true → C e) e x (fun a b c _ h => k a b c h) x h
noncomputable def onBinOp (f:Expr → Operator → Expr → Pos → Bool) (e:Expr):Bool:=onO fun h:e.ctorIdx = 2 => Expr.BinOp.elim (motive_1:=fun _ => Bool) e h f
theorem onBinOp_e {f:Expr → Operator → Expr → Pos → Bool} {e:Expr} {C:Expr → Prop} (h:onBinOp f e = true) (k:∀ a b c d,f a b c d = true → C (.BinOp a b c d)):C e :=
 onO_e h fun x h => Expr.BinOp.elim (motive_1:=fun e => ∀ x:e.ctorIdx = 2,Expr.BinOp.elim (motive_1:=fun _ => Bool) e x f = true → C e) e x (fun a b c d _ h => k a b c d h) x h
noncomputable def onUnaryOp (f:UnaryOp → Expr → Pos → Bool) (e:Expr):Bool:=onO fun h:e.ctorIdx = 3 => Expr.UnaryOp.elim (motive_1:=fun _ => Bool) e h f
theorem onUnaryOp_e {f:UnaryOp → Expr → Pos → Bool} {e:Expr} {C:Expr → Prop} (h:onUnaryOp f e = true) (k:∀ a b c,f a b c = true → C (.UnaryOp a b c)):C e :=
 onO_e h fun x h => Expr.UnaryOp.elim (motive_1:=fun e => ∀ x:e.ctorIdx = 3,Expr.UnaryOp.elim (motive_1:=fun _ => Bool) e x f = true → C e) e x (fun a b c _ h => k a b c h) x h
noncomputable def onIfExp (f:Expr → Expr → Expr → Pos → Bool) (e:Expr):Bool:=onO fun h:e.ctorIdx = 5 => Expr.IfExp.elim (motive_1:=fun _ => Bool) e h f
theorem onIfExp_e {f:Expr → Expr → Expr → Pos → Bool} {e:Expr} {C:Expr → Prop} (h:onIfExp f e = true) (k:∀ a b c d,f a b c d = true → C (.IfExp a b c d)):C e :=
 onO_e h fun x h => Expr.IfExp.elim (motive_1:=fun e => ∀ x:e.ctorIdx = 5,Expr.IfExp.elim (motive_1:=fun _ => Bool) e x f = true → C e) e x (fun a b c d _ h => k a b c d h) x h
noncomputable def onDict (f:List (Option Expr) → List Expr → Pos → Bool) (e:Expr):Bool:=onO fun h:e.ctorIdx = 6 => Expr.Dict.elim (motive_1:=fun _ => Bool) e h f
theorem onDict_e {f:List (Option Expr) → List Expr → Pos → Bool} {e:Expr} {C:Expr → Prop} (h:onDict f e = true) (k:∀ a b c,f a b c = true → C (.Dict a b c)):C e :=
 onO_e h fun x h => Expr.Dict.elim (motive_1:=fun e => ∀ x:e.ctorIdx = 6,Expr.Dict.elim (motive_1:=fun _ => Bool) e x f = true → C e) e x (fun a b c _ h => k a b c h) x h
noncomputable def onListComp (f:Expr → List Comprehension → Scope → Pos → Bool) (e:Expr):Bool:=onO fun h:e.ctorIdx = 8 => Expr.ListComp.elim (motive_1:=fun _ => Bool) e h f
theorem onListComp_e {f:Expr → List Comprehension → Scope → Pos → Bool} {e:Expr} {C:Expr → Prop} (h:onListComp f e = true) (k:∀ a b c d,f a b c d = true → C (.ListComp a b c d)):C e :=
 onO_e h fun x h => Expr.ListComp.elim (motive_1:=fun e => ∀ x:e.ctorIdx = 8,Expr.ListComp.elim (motive_1:=fun _ => Bool) e x f = true → C e) e x (fun a b c d _ h => k a b c d h) x h
noncomputable def onCompare (f:Expr → List CmpOp → List Expr → Pos → Bool) (e:Expr):Bool:=onO fun h:e.ctorIdx = 15 => Expr.Compare.elim (motive_1:=fun _ => Bool) e h f
theorem onCompare_e {f:Expr → List CmpOp → List Expr → Pos → Bool} {e:Expr} {C:Expr → Prop} (h:onCompare f e = true) (k:∀ a b c d,f a b c d = true → C (.Compare a b c d)):C e :=
 onO_e h fun x h => Expr.Compare.elim (motive_1:=fun e => ∀ x:e.ctorIdx = 15,Expr.Compare.elim (motive_1:=fun _ => Bool) e x f = true → C e) e x (fun a b c d _ h => k a b c d h) x h
noncomputable def onCall (f:Expr → List Expr → List Keyword → Pos → Bool) (e:Expr):Bool:=onO fun h:e.ctorIdx = 16 => Expr.Call.elim (motive_1:=fun _ => Bool) e h f
theorem onCall_e {f:Expr → List Expr → List Keyword → Pos → Bool} {e:Expr} {C:Expr → Prop} (h:onCall f e = true) (k:∀ a b c d,f a b c d = true → C (.Call a b c d)):C e :=
 onO_e h fun x h => Expr.Call.elim (motive_1:=fun e => ∀ x:e.ctorIdx = 16,Expr.Call.elim (motive_1:=fun _ => Bool) e x f = true → C e) e x (fun a b c d _ h => k a b c d h) x h
noncomputable def onConstant (f:Const → Nat → Pos → Bool) (e:Expr):Bool:=onO fun h:e.ctorIdx = 19 => Expr.Constant.elim (motive_1:=fun _ => Bool) e h f
theorem onConstant_e {f:Const → Nat → Pos → Bool} {e:Expr} {C:Expr → Prop} (h:onConstant f e = true) (k:∀ a b c,f a b c = true → C (.Constant a b c)):C e :=
 onO_e h fun x h => Expr.Constant.elim (motive_1:=fun e => ∀ x:e.ctorIdx = 19,Expr.Constant.elim (motive_1:=fun _ => Bool) e x f = true → C e) e x (fun a b c _ h => k a b c h) x h
noncomputable def onAttribute (f:Expr → Str → Pos → Bool) (e:Expr):Bool:=onO fun h:e.ctorIdx = 20 => Expr.Attribute.elim (motive_1:=fun _ => Bool) e h f
theorem onAttribute_e {f:Expr → Str → Pos → Bool} {e:Expr} {C:Expr → Prop} (h:onAttribute f e = true) (k:∀ a b c,f a b c = true → C (.Attribute a b c)):C e :=
 onO_e h fun x h => Expr.Attribute.elim (motive_1:=fun e => ∀ x:e.ctorIdx = 20,Expr.Attribute.elim (motive_1:=fun _ => Bool) e x f = true → C e) e x (fun a b c _ h => k a b c h) x h
noncomputable def onSubscript (f:Expr → Expr → Pos → Bool) (e:Expr):Bool:=onO fun h:e.ctorIdx = 21 => Expr.Subscript.elim (motive_1:=fun _ => Bool) e h f
theorem onSubscript_e {f:Expr → Expr → Pos → Bool} {e:Expr} {C:Expr → Prop} (h:onSubscript f e = true) (k:∀ a b c,f a b c = true → C (.Subscript a b c)):C e :=
 onO_e h fun x h => Expr.Subscript.elim (motive_1:=fun e => ∀ x:e.ctorIdx = 21,Expr.Subscript.elim (motive_1:=fun _ => Bool) e x f = true → C e) e x (fun a b c _ h => k a b c h) x h
noncomputable def onName (f:Str → Pos → Bool) (e:Expr):Bool:=onO fun h:e.ctorIdx = 23 => Expr.Name.elim (motive_1:=fun _ => Bool) e h f
theorem onName_e {f:Str → Pos → Bool} {e:Expr} {C:Expr → Prop} (h:onName f e = true) (k:∀ a b,f a b = true → C (.Name a b)):C e :=
 onO_e h fun x h => Expr.Name.elim (motive_1:=fun e => ∀ x:e.ctorIdx = 23,Expr.Name.elim (motive_1:=fun _ => Bool) e x f = true → C e) e x (fun a b _ h => k a b h) x h
noncomputable def onList (f:List Expr → Pos → Bool) (e:Expr):Bool:=onO fun h:e.ctorIdx = 24 => Expr.List.elim (motive_1:=fun _ => Bool) e h f
theorem onList_e {f:List Expr → Pos → Bool} {e:Expr} {C:Expr → Prop} (h:onList f e = true) (k:∀ a b,f a b = true → C (.List a b)):C e :=
 onO_e h fun x h => Expr.List.elim (motive_1:=fun e => ∀ x:e.ctorIdx = 24,Expr.List.elim (motive_1:=fun _ => Bool) e x f = true → C e) e x (fun a b _ h => k a b h) x h
noncomputable def onTuple (f:List Expr → Nat → Pos → Bool) (e:Expr):Bool:=onO fun h:e.ctorIdx = 25 => Expr.Tuple.elim (motive_1:=fun _ => Bool) e h f
theorem onTuple_e {f:List Expr → Nat → Pos → Bool} {e:Expr} {C:Expr → Prop} (h:onTuple f e = true) (k:∀ a b c,f a b c = true → C (.Tuple a b c)):C e :=
 onO_e h fun x h => Expr.Tuple.elim (motive_1:=fun e => ∀ x:e.ctorIdx = 25,Expr.Tuple.elim (motive_1:=fun _ => Bool) e x f = true → C e) e x (fun a b c _ h => k a b c h) x h
noncomputable def onSlice (f:Option Expr → Option Expr → Option Expr → Pos → Bool) (e:Expr):Bool:=onO fun h:e.ctorIdx = 26 => Expr.Slice.elim (motive_1:=fun _ => Bool) e h f
theorem onSlice_e {f:Option Expr → Option Expr → Option Expr → Pos → Bool} {e:Expr} {C:Expr → Prop} (h:onSlice f e = true) (k:∀ a b c d,f a b c d = true → C (.Slice a b c d)):C e :=
 onO_e h fun x h => Expr.Slice.elim (motive_1:=fun e => ∀ x:e.ctorIdx = 26,Expr.Slice.elim (motive_1:=fun _ => Bool) e x f = true → C e) e x (fun a b c d _ h => k a b c d h) x h
noncomputable def stReturn (f:Option Expr → Pos → Bool) (e:Stmt):Bool:=onO fun h:e.ctorIdx = 3 => Stmt.Return.elim (motive_2:=fun _ => Bool) e h f
theorem stReturn_e {f:Option Expr → Pos → Bool} {e:Stmt} {C:Stmt → Prop} (h:stReturn f e = true) (k:∀ a b,f a b = true → C (.Return a b)):C e :=
 onO_e h fun x h => Stmt.Return.elim (motive_2:=fun e => ∀ x:e.ctorIdx = 3,Stmt.Return.elim (motive_2:=fun _ => Bool) e x f = true → C e) e x (fun a b _ h => k a b h) x h
noncomputable def stAssign (f:List Expr → Expr → Pos → Bool) (e:Stmt):Bool:=onO fun h:e.ctorIdx = 5 => Stmt.Assign.elim (motive_2:=fun _ => Bool) e h f
theorem stAssign_e {f:List Expr → Expr → Pos → Bool} {e:Stmt} {C:Stmt → Prop} (h:stAssign f e = true) (k:∀ a b c,f a b c = true → C (.Assign a b c)):C e :=
 onO_e h fun x h => Stmt.Assign.elim (motive_2:=fun e => ∀ x:e.ctorIdx = 5,Stmt.Assign.elim (motive_2:=fun _ => Bool) e x f = true → C e) e x (fun a b c _ h => k a b c h) x h
noncomputable def stAugAssign (f:Expr → Operator → Expr → Pos → Bool) (e:Stmt):Bool:=onO fun h:e.ctorIdx = 7 => Stmt.AugAssign.elim (motive_2:=fun _ => Bool) e h f
theorem stAugAssign_e {f:Expr → Operator → Expr → Pos → Bool} {e:Stmt} {C:Stmt → Prop} (h:stAugAssign f e = true) (k:∀ a b c d,f a b c d = true → C (.AugAssign a b c d)):C e :=
 onO_e h fun x h => Stmt.AugAssign.elim (motive_2:=fun e => ∀ x:e.ctorIdx = 7,Stmt.AugAssign.elim (motive_2:=fun _ => Bool) e x f = true → C e) e x (fun a b c d _ h => k a b c d h) x h
noncomputable def stFor (f:Expr → Expr → List Stmt → List Stmt → Pos → Bool) (e:Stmt):Bool:=onO fun h:e.ctorIdx = 9 => Stmt.For.elim (motive_2:=fun _ => Bool) e h f
theorem stFor_e {f:Expr → Expr → List Stmt → List Stmt → Pos → Bool} {e:Stmt} {C:Stmt → Prop} (h:stFor f e = true) (k:∀ a b c d z,f a b c d z = true → C (.For a b c d z)):C e :=
 onO_e h fun x h => Stmt.For.elim (motive_2:=fun e => ∀ x:e.ctorIdx = 9,Stmt.For.elim (motive_2:=fun _ => Bool) e x f = true → C e) e x (fun a b c d z _ h => k a b c d z h) x h
noncomputable def stWhile (f:Expr → List Stmt → List Stmt → Pos → Bool) (e:Stmt):Bool:=onO fun h:e.ctorIdx = 11 => Stmt.While.elim (motive_2:=fun _ => Bool) e h f
theorem stWhile_e {f:Expr → List Stmt → List Stmt → Pos → Bool} {e:Stmt} {C:Stmt → Prop} (h:stWhile f e = true) (k:∀ a b c d,f a b c d = true → C (.While a b c d)):C e :=
 onO_e h fun x h => Stmt.While.elim (motive_2:=fun e => ∀ x:e.ctorIdx = 11,Stmt.While.elim (motive_2:=fun _ => Bool) e x f = true → C e) e x (fun a b c d _ h => k a b c d h) x h
noncomputable def stIf (f:Expr → List Stmt → List Stmt → Pos → Bool) (e:Stmt):Bool:=onO fun h:e.ctorIdx = 12 => Stmt.If.elim (motive_2:=fun _ => Bool) e h f
theorem stIf_e {f:Expr → List Stmt → List Stmt → Pos → Bool} {e:Stmt} {C:Stmt → Prop} (h:stIf f e = true) (k:∀ a b c d,f a b c d = true → C (.If a b c d)):C e :=
 onO_e h fun x h => Stmt.If.elim (motive_2:=fun e => ∀ x:e.ctorIdx = 12,Stmt.If.elim (motive_2:=fun _ => Bool) e x f = true → C e) e x (fun a b c d _ h => k a b c d h) x h
noncomputable def stExpr (f:Expr → Pos → Bool) (e:Stmt):Bool:=onO fun h:e.ctorIdx = 24 => Stmt.Expr.elim (motive_2:=fun _ => Bool) e h f
theorem stExpr_e {f:Expr → Pos → Bool} {e:Stmt} {C:Stmt → Prop} (h:stExpr f e = true) (k:∀ a b,f a b = true → C (.Expr a b)):C e :=
 onO_e h fun x h => Stmt.Expr.elim (motive_2:=fun e => ∀ x:e.ctorIdx = 24,Stmt.Expr.elim (motive_2:=fun _ => Bool) e x f = true → C e) e x (fun a b _ h => k a b h) x h
noncomputable def stPass (f:Pos → Bool) (e:Stmt):Bool:=onO fun h:e.ctorIdx = 25 => Stmt.Pass.elim (motive_2:=fun _ => Bool) e h f
theorem stPass_e {f:Pos → Bool} {e:Stmt} {C:Stmt → Prop} (h:stPass f e = true) (k:∀ a,f a = true → C (.Pass a)):C e :=
 onO_e h fun x h => Stmt.Pass.elim (motive_2:=fun e => ∀ x:e.ctorIdx = 25,Stmt.Pass.elim (motive_2:=fun _ => Bool) e x f = true → C e) e x (fun a _ h => k a h) x h
noncomputable def stContinue (f:Pos → Bool) (e:Stmt):Bool:=onO fun h:e.ctorIdx = 27 => Stmt.Continue.elim (motive_2:=fun _ => Bool) e h f
theorem stContinue_e {f:Pos → Bool} {e:Stmt} {C:Stmt → Prop} (h:stContinue f e = true) (k:∀ a,f a = true → C (.Continue a)):C e :=
 onO_e h fun x h => Stmt.Continue.elim (motive_2:=fun e => ∀ x:e.ctorIdx = 27,Stmt.Continue.elim (motive_2:=fun _ => Bool) e x f = true → C e) e x (fun a _ h => k a h) x h
noncomputable def isSto (sc:Sc) (i:Nat):Bool:=Nat.blt i 219 && (sc.lookup (nm i) == some .local || sc.lookup (nm i) == some .cell)
noncomputable def isLoc (sc:Sc) (i:Nat):Bool:=Nat.blt i 219 && (sc.lookup (nm i) == some .local || sc.lookup (nm i) == some .cell || sc.lookup (nm i) == some .free)
noncomputable def isGl (sc:Sc) (x:Str):Bool:=sc.lookup x == some .globalImplicit
noncomputable def plainT (e:Expr):Bool:=!([0,3,5,15].contains e.ctorIdx)
noncomputable def noSet (e:Expr):Bool:=!(e.ctorIdx == 7)
noncomputable def notComp (e:Expr):Bool:=!([8,9,10].contains e.ctorIdx)
noncomputable def notStar (e:Expr):Bool:=!(e.ctorIdx == 22)
noncomputable def plainIdx (e:Expr):Bool:=[2,3,16,19,20,21,23].contains e.ctorIdx
noncomputable def on1 {α:Type} (f:α → Bool) (l:List α):Bool:=@List.casesOn α (fun _ => Bool) l false fun x r => r.isEmpty && f x
noncomputable def on2 {α:Type} (f:α → α → Bool) (l:List α):Bool:=@List.casesOn α (fun _ => Bool) l false fun x r => on1 (f x) r
noncomputable def onS {α:Type} (f:α → Bool) (o:Option α):Bool:=oSome false f o
theorem on1_e {α:Type} {f:α → Bool} {l:List α} {C:List α → Prop} (h:on1 f l = true) (k:∀ x,f x = true → C [x]):C l :=
 @List.casesOn α (fun l => on1 f l = true → C l) l nb0 (fun x r h => @List.casesOn α (fun r => (r.isEmpty && f x) = true → C (x :: r)) r (fun h => k x h) (fun _ _ => nb0) h) h
theorem on2_e {α:Type} {f:α → α → Bool} {l:List α} {C:List α → Prop} (h:on2 f l = true) (k:∀ x y,f x y = true → C [x,y]):C l :=
 @List.casesOn α (fun l => on2 f l = true → C l) l nb0 (fun x r h => on1_e (C:=fun r => C (x :: r)) h (k x)) h
theorem onS_e {α:Type} {f:α → Bool} {o:Option α} {C:Option α → Prop} (h:onS f o = true) (k:∀ x,f x = true → C (some x)):C o :=
 @Option.casesOn α (fun o => onS f o = true → C o) o nb0 (fun x h => k x h) h
theorem em_e {α:Type} {l:List α} {C:List α → Prop} (h:l.isEmpty = true) (k:C []):C l:=List.isEmpty_iff.mp h ▸ k
theorem no_e {α:Type} {o:Option α} {C:Option α → Prop} (h:o.isNone = true) (k:C none):C o:=Option.isNone_iff_eq_none.mp h ▸ k
theorem an_l {a b:Bool} (h:(a && b) = true):a = true:=(Bool.and_eq_true a b ▸ h).1
theorem an_r {a b:Bool} (h:(a && b) = true):b = true:=(Bool.and_eq_true a b ▸ h).2
noncomputable def baseOK (e:Expr):Bool:=[19,20,21,23].contains e.ctorIdx || onCall (fun f xs ks _ => xs.isEmpty && ks.isEmpty && onName (fun n _ => n != "super") f) e
noncomputable def toConst (x:PyData):Const:=@PyData.casesOn (fun _ => Const) x .none .bool .int .str (fun _ => .ellipsis) (fun _ => .ellipsis) (fun _ => .ellipsis)
noncomputable def dataC (x:PyData):Bool:=@PyData.casesOn (fun _ => Bool) x true (fun _ => true) (fun _ => true) (fun _ => true) (fun _ => false) (fun _ => false) (fun _ => false)
noncomputable def keysOK:List Str → List (Option Expr) → Bool
 | [],ks => ks.isEmpty
 | k :: r,ks => @List.casesOn _ (fun _ => Bool) ks false fun o t => onS (onConstant fun c _ _ => c == .str k) o && keysOK r t
noncomputable def BK.op (k:BK):Operator:=@BK.casesOn (fun _ => Operator) k .Add .Sub .Mod .FloorDiv .Add (fun _ => .Add) .Add
noncomputable def CK.op (k:CK):CmpOp:=@CK.casesOn (fun _ => CmpOp) k .Lt .Gt .LtE .GtE .Eq .NotEq .Eq .NotEq .Eq .NotEq .In .NotIn .In .NotIn .In
noncomputable def pl (t:Bool) (e:Expr) (b:Bool):Bool:=(!t || plainT e) && b
noncomputable def onM (m:Str) (f:Expr → List Expr → Bool) (e:Expr):Bool:=onCall (fun g xs ks p => ks.isEmpty && onAttribute (fun y n ap => n == m && baseOK y && ap.endLine == p.line && f y xs) g) e
theorem onM_e {m:Str} {f:Expr → List Expr → Bool} {e:Expr} {C:Expr → Prop} (h:onM m f e = true) (k:∀ y ap xs p,baseOK y = true → (ap.endLine == p.line) = true → f y xs = true → C (.Call (.Attribute y m ap) xs [] p)):C e :=
 onCall_e h fun g xs ks p h => em_e (C:=fun ks => C (.Call g xs ks p)) (an_l h) (onAttribute_e (C:=fun g => C (.Call g xs [] p)) (an_r h) fun y n ap h => beq_iff_eq.mp (an_l (an_l (an_l h))) ▸ k y ap xs p (an_r (an_l (an_l h))) (an_r (an_l h)) (an_r h))
noncomputable def onB (sc:Sc) (m:Str) (f:List Expr → Bool) (e:Expr):Bool:=onCall (fun g xs ks _ => ks.isEmpty && onName (fun n _ => n == m && isGl sc n && f xs) g) e
theorem onB_e {sc:Sc} {m:Str} {f:List Expr → Bool} {e:Expr} {C:Expr → Prop} (h:onB sc m f e = true) (k:∀ np xs p,isGl sc m = true → f xs = true → C (.Call (.Name m np) xs [] p)):C e :=
 onCall_e h fun g xs ks p h => em_e (C:=fun ks => C (.Call g xs ks p)) (an_l h) (onName_e (C:=fun g => C (.Call g xs [] p)) (an_r h) fun n np h => by
  have e:=beq_iff_eq.mp (an_l (an_l h));subst e;exact k np xs p (an_r (an_l h)) (an_r h))
noncomputable def onC (sc:Sc) (i:Nat) (f:Expr → Expr → List Expr → Sc → Bool) (e:Expr):Bool:=onListComp (fun el gs s _ => on1 (fun g => onName (fun n _ => n == nm i) g.target && noSet g.iter && g.is_async == 0 && Nat.blt i 219 && s.names.lookup (nm i) == some .local && s.kind == .function
 && s.names.all (fun q => q.2 != .cell && (q.2 != .local || q.1 == nm i || q.1 == ".0") && (q.2 != .free || sc.lookup q.1 == some .cell || sc.lookup q.1 == some .free) && s.names.lookup q.1 == some q.2) && f el g.iter g.ifs s.names) gs) e
mutual
noncomputable def okE (sc:Sc) (t:Bool):ME → Expr → Bool
 | .never,_ => true
 | .lit x,e => pl t e (onConstant (fun c _ _ => dataC x && c == toConst x) e || onUnaryOp (fun o y _ => o == .USub && onConstant (fun c _ _ => oInt false (fun j => c == .int (-j)) x) y) e)
 | .v i,e => pl t e (onName (fun n _ => n == nm i && isLoc sc i) e)
 | .g i a,e => pl t e (onName (fun n _ => n == nm i && isGl sc (nm i) && gT.contains (i,a)) e)
 | .bin o a b,e => pl t e (onBinOp (fun l p r _ => p == o.op && okE sc false a l && okE sc false b r) e)
 | .cmp o a b,e => onCompare (fun l os rs _ => on1 (fun p => p == o.op) os && on1 (fun r => noSet r && okE sc false a l && okE sc false b r) rs) e
 | .btw a b c,e => !t && onCompare (fun l os rs _ => on2 (fun p q => p == .LtE && q == .LtE) os && on2 (fun x y => noSet y && okE sc false a l && okE sc false b x && okE sc false c y) rs) e
 | .and es,e => onBoolOp (fun o vs _ => o == .And && okEs sc t es vs && Nat.ble 2 vs.length) e
 | .or es,e => onBoolOp (fun o vs _ => o == .Or && okEs sc t es vs && Nat.ble 2 vs.length) e
 | .not a,e => onUnaryOp (fun o x _ => o == .Not && okE sc t a x) e
 | .ite c a b,e => !t && onIfExp (fun x y z _ => okE sc true c x && okE sc false a y && okE sc false b z) e
 | .attr o c i,e => pl t e (onAttribute (fun x n _ => n == nm i && baseOK x && aT.contains (c,i) && okE sc false o x) e)
 | .idx _ o i,e => pl t e (onSubscript (fun x s _ => plainIdx s && okE sc false o x && okE sc false i s) e)
 | .slA o a b,e => pl t e (onSubscript (fun x s _ => onSlice (fun l h u _ => u.isNone && onS (okE sc false a) l && onS (okE sc false b) h) s && okE sc false o x) e)
 | .slL o a,e => pl t e (onSubscript (fun x s _ => onSlice (fun l h u _ => u.isNone && h.isNone && onS (okE sc false a) l) s && okE sc false o x) e)
 | .slH o b,e => pl t e (onSubscript (fun x s _ => onSlice (fun l h u _ => u.isNone && l.isNone && onS (okE sc false b) h) s && okE sc false o x) e)
 | .init o,e => pl t e (onSubscript (fun x s _ => onSlice (fun l h u _ => u.isNone && l.isNone && onS (onUnaryOp fun o y _ => o == .USub && onConstant (fun c _ _ => c == .int 1) y) h) s && okE sc false o x) e)
 | .tup es,e => pl t e (onTuple (fun vs _ _ => Nat.blt vs.length 100 && okEs sc false es vs) e)
 | .lst _ es,e => pl t e (onList (fun vs _ => Nat.blt vs.length 100 && okEs sc false es vs) e)
 | .dct _ ks vs,e => pl t e (onDict (fun keys xs _ => ks.length == xs.length && Nat.ble ks.length 15 && decide ks.Nodup && keysOK ks keys && okEs sc false vs xs) e)
 | .call i a args,e => pl t e (onCall (fun f xs ks _ => ks.isEmpty && onName (fun n _ => n == nm i) f && isGl sc (nm i) && gT.contains (i,a) && okEs sc false args xs) e)
 | .callv i args,e => pl t e (onCall (fun f xs ks _ => ks.isEmpty && onName (fun n _ => n == nm i) f && isLoc sc i && okEs sc false args xs) e)
 | .meth o c f m args,e => pl t e (onM (nm m) (fun y xs => mT.contains (c,m,f) && Nat.blt xs.length 20 && okE sc false o y && okEs sc false args xs) e)
 | .app o x,e => pl t e (onM "append" (fun y xs => okE sc false o y && on1 (fun z => notStar z && okE sc false x z) xs) e)
 | .appJ o x,e => pl t e (onM "append" (fun y xs => okE sc false o y && on1 (fun z => notStar z && okE sc false x z) xs) e)
 | .pop o,e => pl t e (onM "pop" (fun y xs => okE sc false o y && xs.isEmpty) e)
 | .ins o a x,e => pl t e (onM "insert" (fun y xs => okE sc false o y && on2 (fun u z => notStar u && notStar z && okE sc false a u && okE sc false x z) xs) e)
 | .find o x,e => pl t e (onM "find" (fun y xs => okE sc false o y && on1 (fun z => notStar z && okE sc false x z) xs) e)
 | .repl o a b,e => pl t e (onM "replace" (fun y xs => Nat.ble b.length 14 && !(a == b) && okE sc false o y && on2 (fun u z => onConstant (fun c _ _ => c == .str a) u && onConstant (fun c _ _ => c == .str b) z) xs) e)
 | .split o,e => pl t e (onM "split" (fun y xs => okE sc false o y && xs.isEmpty) e)
 | .getd o a x,e => pl t e (onM "get" (fun y xs => okE sc false o y && on2 (fun u z => notStar u && notStar z && okE sc false a u && okE sc false x z) xs) e)
 | .len _ a,e => pl t e (onB sc "len" (on1 fun z => notStar z && okE sc false a z) e)
 | .ord a,e => pl t e (onB sc "ord" (on1 fun z => notStar z && okE sc false a z) e)
 | .chr a,e => pl t e (onB sc "chr" (on1 fun z => notStar z && okE sc false a z) e)
 | .lstRng a b,e => pl t e (onB sc "list" (on1 fun z => onB sc "range" (on2 fun x y => notStar x && notStar y && okE sc false a x && okE sc false b y) z) e)
 | .lstOf a,e => pl t e (onB sc "list" (on1 fun z => notStar z && okE sc false a z) e)
 | .srtI a,e => pl t e (onB sc "sorted" (on1 fun z => notStar z && okE sc false a z) e)
 | .srtK a,e => pl t e (onB sc "sorted" (on1 fun z => notStar z && okE sc false a z) e)
 | .comp x i src,e => pl t e (onC sc i (fun el it ifs s => ifs.isEmpty && okI sc src it && okE s false x el) e)
 | .compIf x i src c,e => pl t e (onC sc i (fun el it ifs s => on1 (okE s true c) ifs && okI sc src it && okE s false x el) e)
noncomputable def okEs (sc:Sc) (t:Bool):MEs → List Expr → Bool
 | .nil,es => es.isEmpty
 | .cons m ms,es => @List.casesOn _ (fun _ => Bool) es false fun e r => notStar e && okE sc t m e && okEs sc t ms r
noncomputable def okI (sc:Sc):MI → Expr → Bool
 | .of m,e => noSet e && okE sc false m e
 | .rng m,e => onB sc "range" (on1 fun z => notStar z && okE sc false m z) e
end
noncomputable def namesOK (sc:Sc):List Nat → List Expr → Bool
 | [],es => es.isEmpty
 | i :: r,es => @List.casesOn _ (fun _ => Bool) es false fun e t => onName (fun n _ => n == nm i) e && isSto sc i && namesOK sc r t
noncomputable def someCell (sc:Sc) (ts:List Expr):Bool:=ts.any (onName fun n _ => sc.lookup n != some .local)
noncomputable def swapOK (sc:Sc) (ts:List Expr) (e:Expr):Bool:=onTuple (fun vs _ _ => (Nat.ble 4 vs.length || someCell sc ts) && vs.length == ts.length) e || (notComp e && !(e.ctorIdx == 25))
noncomputable def isSub2 (e:Expr):Bool:=onSubscript (fun x _ _ => onSubscript (fun y _ _ => onName (fun n _ => n != "__debug__") y) x) e
noncomputable def isC (m:ME):Bool:=m.ctorIdx == 38 || m.ctorIdx == 39
mutual
noncomputable def okS (sc:Sc):MS → Stmt → Bool
 | .never,_ => true
 | .assign i m,s => stAssign (fun ts e _ => on1 (onName fun n _ => n == nm i) ts && isSto sc i && okE sc false m e && (notComp e || isC m)) s
 | .assignT is m,s => stAssign (fun ts e _ => on1 (onTuple fun xs _ _ => namesOK sc is xs && Nat.ble 1 is.length && Nat.blt is.length 20 && swapOK sc xs e) ts && okE sc false m e) s
 | .assignP i j a b,s => stAssign (fun ts e _ => on1 (onTuple fun xs _ _ => on2 (fun x y => onName (fun n p => n == nm i && onName (fun n q => n == nm j && p.line == q.line) y) x) xs) ts && isSto sc i && isSto sc j && sc.lookup (nm i) == some .local && sc.lookup (nm j) == some .local && !(nm i == nm j)
   && onTuple (fun vs _ _ => on2 (fun x y => isSub2 x && isSub2 y && okE sc false a x && okE sc false b y) vs) e) s
 | .setattr o c i m,s => stAssign (fun ts e _ => on1 (onAttribute fun x n _ => n == nm i && baseOK x && aT.contains (c,i) && okE sc false o x) ts && notComp e && okE sc false m e) s
 | .setK o k m,s => stAssign (fun ts e _ => on1 (onSubscript fun x i _ => okE sc false o x && okE sc false k i) ts && notComp e && okE sc false m e) s
 | .setI o k m,s => stAssign (fun ts e _ => on1 (onSubscript fun x i _ => okE sc false o x && okE sc false k i) ts && notComp e && okE sc false m e) s
 | .aug i m,s => stAugAssign (fun x o e _ => onName (fun n _ => n == nm i) x && isSto sc i && o == .Add && okE sc false m e) s
 | .augattr o c i sub m,s => stAugAssign (fun y p e _ => onAttribute (fun x n _ => n == nm i && aT.contains (c,i) && okE sc false o x) y && p == cond sub .Sub .Add && okE sc false m e) s
 | .expr m,s => stExpr (fun e _ => notComp e && okE sc false m e) s
 | .ret m,s => stReturn (fun o _ => onS (okE sc false m) o) s
 | .retN,s => stReturn (fun o _ => o.isNone) s
 | .ifs c a b,s => stIf (fun t x y _ => okE sc true c t && okSs sc a x && okSs sc b y) s
 | .whl _ c b,s => stWhile (fun t x y _ => y.isEmpty && okE sc true c t && okSs sc b x) s
 | .forr i src b,s => stFor (fun x it y z _ => z.isEmpty && onName (fun n _ => n == nm i) x && isSto sc i && noSet it && okI sc src it && okSs sc b y) s
 | .cont,s => stContinue (fun _ => true) s
 | .pass,s => stPass (fun _ => true) s
noncomputable def okSs (sc:Sc):MSs → List Stmt → Bool
 | .nil,ss => ss.isEmpty
 | .cons m ms,ss => @List.casesOn _ (fun _ => Bool) ss false fun s r => okS sc m s && okSs sc ms r
 | .scope _ b,ss => okSs sc b ss
end
end
section
structure SK where
 n:Locs → St → Prop
 r:AV → St → Prop
 c:Locs → St → Prop
noncomputable def seqK (f:Locs → St → SK → Prop) (k:SK):SK:=⟨fun L st => f L st k,k.r,k.c⟩
noncomputable def lopK (f:Locs → St → SK → Prop) (k:SK):SK:=⟨fun L st => f L st k,k.r,fun L st => f L st k⟩
noncomputable def rK (K:EK):SK:=⟨fun _ st => K (.d .none) st,K,fun _ _ => False⟩
noncomputable def loopW (c:Locs → St → (Bool → St → Prop) → Prop) (b:Locs → St → SK → Prop):Nat → Locs → St → SK → Prop
 | 0,_,_,_ => False
 | n + 1,L,st,k => c L st fun t st => ifc t (b L st (lopK (loopW c b n) k)) (k.n L st)
noncomputable def loopF (b:AV → Locs → St → SK → Prop):List AV → Locs → St → SK → Prop
 | [],L,st,k => k.n L st
 | x :: r,L,st,k => b x L st (lopK (loopF b r) k)
noncomputable def AV.und0 (k:Nat) (a:AV):Bool:=@AV.casesOn (fun _ => Bool) a (fun _ => true) (fun n => Nat.blt n k) (fun _ => false) (fun _ => true) true true (fun _ => false)
noncomputable def AV.und (k:Nat) (a:AV):Bool:=@AV.casesOn (fun _ => Bool) a (fun _ => true) (fun n => Nat.blt n k) (fun xs => xs.all (AV.und0 k)) (fun _ => true) true true (fun es => es.all fun p => p.2.und0 k)
noncomputable def AObj.und (k:Nat) (o:AObj):Bool:=@AObj.casesOn (fun _ => Bool) o (fun _ => true) (fun _ => true) (fun es => es.all fun p => p.2.und0 k) (fun _ fs => fs.all fun p => p.2.und k)
noncomputable def St.cut (st:St) (k:Nat) (f:St → Prop):Prop :=
 gd ((st.objs.filter fun p => Nat.blt p.1 k).all fun p => p.2.und k) (nd { st with objs:=st.objs.filter fun p => Nat.blt p.1 k,next:=k } f)
noncomputable def AV.ge (k:Nat) (a:AV):Bool:=@AV.casesOn (fun _ => Bool) a (fun _ => true) (fun n => Nat.ble k n) (fun xs => xs.all (onL true (Nat.ble k))) (fun _ => true) true true (fun _ => true)
mutual
noncomputable def wpS (T:Tab):MS → Locs → St → SK → Prop
 | .never,_,_,_ => False
 | .assign i e,L,st,k => wpE T e L st fun v st => k.n ((i,v) :: L) st
 | .assignT is e,L,st,k => wpE T e L st fun v st => v.tpl fun xs => gd (is.length == xs.length) (k.n ((is.zip xs).reverse ++ L) st)
 | .assignP i j a b,L,st,k => wpE T a L st fun x st => wpE T b L st fun y st => k.n ((i,x) :: (j,y) :: L) st
 | .setattr o c i e,L,st,k => wpE T e L st fun v st => wpE T o L st fun x st => x.at fun n => gd (st.isI n c) (nd (st.setF n i v) fun st => k.n L st)
 | .setK o a e,L,st,k => wpE T e L st fun v st => wpE T o L st fun x st => wpE T a L st fun y st => x.at fun n => y.str fun i => st.dict n fun es => gd (Nat.ble es.length 999 && decide (es.map (·.1)).Nodup && v.simple) (nd (st.put n (.dict (putK i v es))) fun st => k.n L st)
 | .setI o a e,L,st,k => wpE T e L st fun v st => wpE T o L st fun x st => wpE T a L st fun y st => v.dat fun d => x.at fun n => y.int fun i => st.dl n fun xs => gd (decide (0 ≤ i) && decide (i < xs.length) && decide (xs.length ≤ bigLen)) (nd (st.put n (.dl (xs.set i.toNat d))) fun st => k.n L st)
 | .aug i e,L,st,k => opt (L.lookup i) fun u => u.int fun x => wpE T e L st fun v st => v.int fun y => k.n ((i,.d (.int (x + y))) :: L) st
 | .augattr o c i sub e,L,st,k => wpE T o L st fun x st => x.at fun n => opt (st.fld n c i) fun u => u.int fun x => wpE T e L st fun v st => v.int fun y => gd (st.isI n c) (nd (st.setF n i (.d (.int (cond sub (x - y) (x + y))))) fun st => k.n L st)
 | .expr e,L,st,k => wpE T e L st fun _ st => k.n L st
 | .ret e,L,st,k => wpE T e L st k.r
 | .retN,_,st,k => k.r (.d .none) st
 | .ifs c a b,L,st,k => wpE T c L st fun x st => x.bool fun p => ifc p (wpSs T a L st k) (wpSs T b L st k)
 | .whl n c b,L,st,k => loopW (fun L st f => wpE T c L st fun x st => x.bool fun p => f p st) (wpSs T b) n L st k
 | .forr i src b,L,st,k => wpI T src L st fun xs same st => (∀ st,same st) ∧ loopF (fun x L st => wpSs T b ((i,x) :: L) st) xs L st k
 | .cont,L,st,k => k.c L st
 | .pass,L,st,k => k.n L st
noncomputable def wpSs (T:Tab):MSs → Locs → St → SK → Prop
 | .nil,L,st,k => k.n L st
 | .cons s r,L,st,k => wpS T s L st (seqK (wpSs T r) k)
 | .scope ks b,L,st,k => wpSs T b L st ⟨fun L' st' => (∀ i ∈ ks,L'.lookup i = L.lookup i) ∧ gd ((L.filter fun p => ks.contains p.1).all fun p => p.2.und st.next) (st'.cut st.next fun st'' => k.n (L.filter fun p => ks.contains p.1) st''),k.r,fun _ _ => False⟩
end
noncomputable def fin (frz:Bool) (k:Nat) (v:AV) (st:St) (f:EK):Prop:=Bool.casesOn (motive:=fun _ => Prop) frz (f v st) (gd (v.ge k) (opt (v.data st) fun d => st.cut k fun st => f (.d d) st))
noncomputable def bindP (ps:List Nat) (ds:List PyData) (avs:List AV):Option Locs :=
 cond (Nat.ble avs.length ps.length && Nat.ble ps.length (avs.length + ds.length)) (some ((ps.zip (avs ++ (ds.drop (ds.length - (ps.length - avs.length))).map .d)).reverse)) none
noncomputable def runFn (T:Tab) (ps:List Nat) (ds:List PyData) (b:MSs) (frz:Bool):Fn:=fun avs st k =>
 opt (bindP ps ds avs) fun L => wpSs T b L st (rK fun v st' => fin frz st.next v st' k)
theorem run_i {f:Fn} {T ps ds b} {avs:List AV} {L:Locs} {st:St} {K:EK} (e:f = opq (runFn T ps ds b false)) (hb:bindP ps ds avs = some L) (h:wpSs T b L st (rK K)):f avs st K:=by
 subst e;rw [opq_eq];unfold runFn;rw [hb];exact h
noncomputable def runNew (C:Addr) (init:Fn):Fn:=fun avs st k => nd (st.new (.inst C [])) fun st1 => init (.loc st.next :: avs) st1 fun v st' => v.non (k (.loc st.next) st')
end
section
noncomputable def b_hand_over:MSs:=(.cons (.whl 1000 (.cmp .lt (.v 80) (.len .lst (.attr (.v 207) 743 150))) (.cons (.expr (.meth (.v 48) 517 500 81 (.cons (.idx .seq (.attr (.v 207) 743 150) (.v 80)) .nil))) (.cons (.aug 80 (.lit (.int 1))) (.cons (.ifs (.cmp .neS (.attr (.v 48) 517 217) (.lit (.str ""))) (.cons (.expr (.meth (.v 207) 743 627 205 (.cons (.attr (.v 48) 517 217) .nil))) (.cons (.setattr (.v 48) 517 217 (.lit (.str ""))) .nil)) .nil) (.cons (.setattr (.v 207) 743 107 (.meth (.v 48) 517 514 107 .nil)) .nil))))) (.cons (.ret (.v 80)) .nil))
noncomputable def p_hand_over:List Nat:=[207,48,80]
noncomputable def b_drive:MSs:=(.cons (.assign 80 (.len .lst (.attr (.v 207) 743 150))) (.cons (.setattr (.v 207) 743 107 (.meth (.v 48) 517 514 107 .nil)) (.cons (.whl 1000 (.meth (.v 207) 743 733 115 .nil) (.cons (.expr (.meth (.v 207) 743 726 195 .nil)) (.cons (.assign 80 (.call 88 28 (.cons (.v 207) (.cons (.v 48) (.cons (.v 80) .nil))))) .nil))) .nil)))
noncomputable def p_drive:List Nat:=[207,48]
noncomputable def b_start_state:MSs:=(.cons (.ifs (.cmp .inT (.v 141) (.tup (.cons (.lit (.str "title")) (.cons (.lit (.str "textarea")) .nil)))) (.cons (.ret (.lit (.str "RCDATA"))) .nil) .nil) (.cons (.ifs (.or (.cons (.cmp .inT (.v 141) (.tup (.cons (.lit (.str "style")) (.cons (.lit (.str "xmp")) (.cons (.lit (.str "iframe")) (.cons (.lit (.str "noembed")) (.cons (.lit (.str "noframes")) .nil))))))) (.cons (.and (.cons (.cmp .eqS (.v 141) (.lit (.str "noscript"))) (.cons (.v 117) .nil))) .nil))) (.cons (.ret (.lit (.str "RAWTEXT"))) .nil) .nil) (.cons (.ifs (.cmp .eqS (.v 141) (.lit (.str "script"))) (.cons (.ret (.lit (.str "script data"))) .nil) .nil) (.cons (.ifs (.cmp .eqS (.v 141) (.lit (.str "plaintext"))) (.cons (.ret (.lit (.str "PLAINTEXT"))) .nil) .nil) (.cons (.ret (.lit (.str "data"))) .nil)))))
noncomputable def p_start_state:List Nat:=[141,117]
noncomputable def b_is_surrogate:MSs:=(.cons (.ret (.btw (.lit (.int 55296)) (.v 140) (.lit (.int 57343)))) .nil)
noncomputable def p_is_surrogate:List Nat:=[140]
noncomputable def b_is_noncharacter:MSs:=(.cons (.ret (.or (.cons (.btw (.lit (.int 64976)) (.v 140) (.lit (.int 65007))) (.cons (.and (.cons (.btw (.lit (.int 0)) (.v 140) (.lit (.int 1114111))) (.cons (.cmp .ge (.bin .mod (.v 140) (.lit (.int 65536))) (.lit (.int 65534))) .nil))) .nil)))) .nil)
noncomputable def p_is_noncharacter:List Nat:=[140]
noncomputable def b_is_control:MSs:=(.cons (.ret (.or (.cons (.btw (.lit (.int 0)) (.v 140) (.lit (.int 31))) (.cons (.btw (.lit (.int 127)) (.v 140) (.lit (.int 159))) .nil)))) .nil)
noncomputable def p_is_control:List Nat:=[140]
noncomputable def b_is_math_point:MSs:=(.cons (.ret (.and (.cons (.cmp .eqS (.idx .seq (.attr (.v 209) 439 187) (.v 145)) (.lit (.str "math"))) (.cons (.cmp .inT (.idx .seq (.attr (.v 209) 439 142) (.v 145)) (.tup (.cons (.lit (.str "mi")) (.cons (.lit (.str "mo")) (.cons (.lit (.str "mn")) (.cons (.lit (.str "ms")) (.cons (.lit (.str "mtext")) .nil))))))) .nil)))) .nil)
noncomputable def p_is_math_point:List Nat:=[209,145]
noncomputable def b_is_html_point:MSs:=(.cons (.ifs (.cmp .eqS (.idx .seq (.attr (.v 209) 439 187) (.v 145)) (.lit (.str "svg"))) (.cons (.ret (.cmp .inT (.idx .seq (.attr (.v 209) 439 142) (.v 145)) (.tup (.cons (.lit (.str "foreignObject")) (.cons (.lit (.str "desc")) (.cons (.lit (.str "title")) .nil)))))) .nil) .nil) (.cons (.ifs (.or (.cons (.cmp .neS (.idx .seq (.attr (.v 209) 439 187) (.v 145)) (.lit (.str "math"))) (.cons (.cmp .neS (.idx .seq (.attr (.v 209) 439 142) (.v 145)) (.lit (.str "annotation-xml"))) .nil))) (.cons (.ret (.lit (.bool false))) .nil) .nil) (.cons (.assign 76 (.meth (.v 209) 439 429 212 (.cons (.v 145) (.cons (.lit (.str "encoding")) .nil)))) (.cons (.ret (.and (.cons .never (.cons (.cmp .inT (.call 134 186 (.cons (.v 76) .nil)) (.tup (.cons (.lit (.str "text/html")) (.cons (.lit (.str "application/xhtml+xml")) .nil)))) .nil)))) .nil))))
noncomputable def p_is_html_point:List Nat:=[209,145]
noncomputable def b_above:MSs:=(.cons (.assign 150 (.lst .loc .nil)) (.cons (.assign 210 (.idx .seq (.attr (.v 209) 439 154) (.v 145))) (.cons (.whl 1000 (.cmp .neI (.v 210) (.lit (.int (-1)))) (.cons (.expr (.app (.v 150) (.v 210))) (.cons (.assign 210 (.idx .seq (.attr (.v 209) 439 154) (.v 210))) .nil))) (.cons (.ret (.v 150)) .nil))))
noncomputable def p_above:List Nat:=[209,145]
noncomputable def b_is_html_turn:MSs:=(.cons (.ifs (.or (.cons (.not (.meth (.v 48) 517 514 107 .nil)) (.cons (.cmp .eqS (.idx .tup (.v 206) (.lit (.int 0))) (.lit (.str "eof"))) .nil))) (.cons (.ret (.lit (.bool true))) .nil) .nil) (.cons (.assign 209 (.attr (.v 48) 517 209)) (.cons (.assign 145 (.meth (.v 48) 517 507 36 .nil)) (.cons (.ifs (.cmp .eqS (.idx .tup (.v 206) (.lit (.int 0))) (.lit (.str "char"))) (.cons (.ret (.or (.cons (.call 113 214 (.cons (.v 209) (.cons (.v 145) .nil))) (.cons (.call 111 221 (.cons (.v 209) (.cons (.v 145) .nil))) .nil)))) .nil) .nil) (.cons (.ifs (.cmp .neS (.idx .tup (.v 206) (.lit (.int 0))) (.lit (.str "start"))) (.cons (.ret (.lit (.bool false))) .nil) .nil) (.cons (.ifs (.and (.cons (.call 113 214 (.cons (.v 209) (.cons (.v 145) .nil))) (.cons (.cmp .ninT (.idx .tup (.v 206) (.lit (.int 1))) (.tup (.cons (.lit (.str "mglyph")) (.cons (.lit (.str "malignmark")) .nil)))) .nil))) (.cons (.ret (.lit (.bool true))) .nil) .nil) (.cons (.ifs (.and (.cons (.cmp .eqS (.idx .seq (.attr (.v 209) 439 187) (.v 145)) (.lit (.str "math"))) (.cons (.cmp .eqS (.idx .seq (.attr (.v 209) 439 142) (.v 145)) (.lit (.str "annotation-xml"))) (.cons (.cmp .eqS (.idx .tup (.v 206) (.lit (.int 1))) (.lit (.str "svg"))) .nil)))) (.cons (.ret (.lit (.bool true))) .nil) .nil) (.cons (.ret (.call 111 221 (.cons (.v 209) (.cons (.v 145) .nil)))) .nil))))))))
noncomputable def p_is_html_turn:List Nat:=[48,206]
noncomputable def b_data_state:MSs:=(.cons (.assign 49 (.meth (.v 199) 743 620 144 .nil)) (.cons (.ifs (.cmp .eqS (.v 49) (.lit (.str ""))) (.cons (.expr (.meth (.v 199) 743 676 73 .nil)) .nil) (.cons (.ifs (.cmp .eqS (.v 49) (.lit (.str "&"))) (.cons (.setattr (.v 199) 743 44 (.lit (.str "data"))) (.cons (.expr (.meth (.v 199) 743 627 205 (.cons (.lit (.str "character reference")) .nil))) .nil)) (.cons (.ifs (.cmp .eqS (.v 49) (.lit (.str "<"))) (.cons (.expr (.meth (.v 199) 743 627 205 (.cons (.lit (.str "tag open")) .nil))) .nil) (.cons (.ifs (.cmp .eqS (.v 49) (.lit (.str "\u0000"))) (.cons (.expr (.meth (.v 199) 743 641 78 (.cons (.lit (.str "unexpected-null-character")) .nil))) .nil) .nil) (.cons (.expr (.meth (.v 199) 743 655 74 (.cons (.v 49) .nil))) .nil))) .nil)) .nil)) .nil))
noncomputable def p_data_state:List Nat:=[199]
noncomputable def b_input_error:MSs:=(.cons (.ifs (.call 119 193 (.cons (.v 140) .nil)) (.cons (.ret (.lit (.str "surrogate-in-input-stream"))) .nil) .nil) (.cons (.ifs (.call 114 200 (.cons (.v 140) .nil)) (.cons (.ret (.lit (.str "noncharacter-in-input-stream"))) .nil) .nil) (.cons (.ifs (.and (.cons (.call 102 207 (.cons (.v 140) .nil)) (.cons (.cmp .ninT (.v 140) (.tup (.cons (.lit (.int 0)) (.cons (.lit (.int 9)) (.cons (.lit (.int 10)) (.cons (.lit (.int 12)) (.cons (.lit (.int 13)) .nil))))))) .nil))) (.cons (.ret (.lit (.str "control-character-in-input-stream"))) .nil) .nil) (.cons (.ret (.lit (.str ""))) .nil))))
noncomputable def p_input_error:List Nat:=[140]
noncomputable def b__law_digit:MSs:=(.cons (.ret (.ite (.cmp .lt (.v 157) (.len .lst (.v 178))) (.idx .seq (.v 178) (.v 157)) (.lit (.int 0)))) .nil)
noncomputable def p__law_digit:List Nat:=[178,157]
noncomputable def b__law_names:MSs:=(.cons (.ret (.dct true ["v","f","d","t","c","s","p","g"] (.cons (.lit (.str "svg")) (.cons (.lit (.str "foreignObject")) (.cons (.lit (.str "div")) (.cons (.lit (.str "title")) (.cons (.lit (.str "script")) (.cons (.lit (.str "style")) (.cons (.lit (.str "plaintext")) (.cons (.lit (.str "g")) .nil)))))))))) .nil)
noncomputable def p__law_names:List Nat:=[]
noncomputable def b__law_ends:MSs:=(.cons (.ret (.dct true ["V","F","D","T","S","G"] (.cons (.lit (.str "svg")) (.cons (.lit (.str "foreignObject")) (.cons (.lit (.str "div")) (.cons (.lit (.str "title")) (.cons (.lit (.str "style")) (.cons (.lit (.str "g")) .nil)))))))) .nil)
noncomputable def p__law_ends:List Nat:=[]
noncomputable def b__law_raws:MSs:=(.cons (.ret (.dct true ["title","style","script","plaintext"] (.cons (.lit (.str "RCDATA")) (.cons (.lit (.str "RAWTEXT")) (.cons (.lit (.str "script data")) (.cons (.lit (.str "PLAINTEXT")) .nil)))))) .nil)
noncomputable def p__law_raws:List Nat:=[]
noncomputable def b__law_spots:MSs:=(.cons (.assign 174 (.lst .fro (.cons (.tup (.cons (.lit (.str "svg")) (.cons (.lit (.str "svg")) .nil))) (.cons (.tup (.cons (.lit (.str "html")) (.cons (.lit (.str "html")) .nil))) (.cons (.tup (.cons (.lit (.str "svg")) (.cons (.lit (.str "foreignObject")) .nil))) (.cons (.tup (.cons (.lit (.str "html")) (.cons (.lit (.str "div")) .nil))) (.cons (.tup (.cons (.lit (.str "math")) (.cons (.lit (.str "mi")) .nil))) .nil))))))) (.cons (.assign 174 (.bin (.addL false) (.v 174) (.lst .fro (.cons (.tup (.cons (.lit (.str "svg")) (.cons (.lit (.str "title")) .nil))) (.cons (.tup (.cons (.lit (.str "html")) (.cons (.lit (.str "title")) .nil))) (.cons (.tup (.cons (.lit (.str "math")) (.cons (.lit (.str "math")) .nil))) (.cons (.tup (.cons (.lit (.str "html")) (.cons (.lit (.str "html")) .nil))) (.cons (.tup (.cons (.lit (.str "html")) (.cons (.lit (.str "noscript")) .nil))) .nil)))))))) (.cons (.ret (.bin (.addL false) (.v 174) (.lst .fro (.cons (.tup (.cons (.lit (.str "svg")) (.cons (.lit (.str "desc")) .nil))) (.cons (.tup (.cons (.lit (.str "html")) (.cons (.lit (.str "script")) .nil))) (.cons (.tup (.cons (.lit (.str "html")) (.cons (.lit (.str "div")) .nil))) (.cons (.tup (.cons (.lit (.str "html")) (.cons (.lit (.str "plaintext")) .nil))) .nil))))))) .nil)))
noncomputable def p__law_spots:List Nat:=[]
noncomputable def b__law_kind:MSs:=(.cons (.assign 127 (.dct false ["RCDATA","script data","PLAINTEXT"] (.cons (.lst .fro (.cons (.lit (.str "textarea")) (.cons (.lit (.str "title")) .nil))) (.cons (.lst .fro (.cons (.lit (.str "script")) .nil)) (.cons (.lst .fro (.cons (.lit (.str "plaintext")) .nil)) .nil))))) (.cons (.setK (.v 127) (.lit (.str "RAWTEXT")) (.bin (.addL false) (.lst .fro (.cons (.lit (.str "iframe")) (.cons (.lit (.str "noembed")) (.cons (.lit (.str "noframes")) (.cons (.lit (.str "style")) (.cons (.lit (.str "xmp")) .nil)))))) (.ite (.v 117) (.lst .fro (.cons (.lit (.str "noscript")) .nil)) (.lst .fro .nil)))) (.cons (.ret (.idx .seq (.bin (.addL false) (.compIf (.v 126) 126 (.of (.srtK (.v 127))) (.cmp .inT (.v 141) (.idx .key (.v 127) (.v 126)))) (.lst .fro (.cons (.lit (.str "data")) .nil))) (.lit (.int 0)))) .nil)))
noncomputable def p__law_kind:List Nat:=[141,117]
noncomputable def b__law_text:MSs:=(.cons (.assign 156 (.lst .fro (.cons (.lit (.str "<v")) (.cons (.lit (.str "<f")) (.cons (.lit (.str "<![")) (.cons (.lit (.str "<d")) (.cons (.lit (.str "<t")) (.cons (.lit (.str "&")) (.cons (.lit (.str "/")) (.cons (.lit (.str "&*")) (.cons (.lit (.str "<c")) (.cons (.lit (.str "<T")) (.cons (.lit (.str "<s")) (.cons (.lit (.str "x")) (.cons (.lit (.str "<!")) (.cons (.lit (.str "<p")) (.cons (.lit (.str "<V")) (.cons (.lit (.str "<F")) (.cons (.lit (.str "<D")) (.cons (.lit (.str "<g")) .nil)))))))))))))))))))) (.cons (.assign 156 (.bin (.addL false) (.v 156) (.lst .fro (.cons (.lit (.str "<G")) (.cons (.lit (.str "<")) (.cons (.lit (.str "*")) (.cons (.lit (.str "\u0000")) (.cons (.lit (.str "<S")) (.cons (.lit (.str "[")) (.cons (.lit (.str "")) .nil)))))))))) (.cons (.assign 83 (.lst .fro (.cons (.lit (.int 2)) (.cons (.lit (.int 1)) (.cons (.lit (.int 3)) (.cons (.lit (.int 2)) (.cons (.lit (.int 4)) (.cons (.lit (.int 5)) (.cons (.lit (.int 6)) (.cons (.lit (.int 7)) (.cons (.lit (.int 0)) (.cons (.lit (.int 10)) (.cons (.lit (.int 11)) (.cons (.lit (.int 12)) .nil)))))))))))))) (.cons (.assign 135 (.bin .addI (.len .lst (.v 156)) (.lit (.int 1)))) (.cons (.assign 202 (.lit (.str ""))) (.cons (.forr 125 (.rng (.lit (.int 12))) (.cons (.assign 63 (.bin .addI (.call 12 754 (.cons (.v 178) (.cons (.bin .addI (.v 125) (.lit (.int 2))) .nil))) (.idx .seq (.v 83) (.v 125)))) (.cons (.ifs (.cmp .lt (.bin .mod (.v 63) (.v 135)) (.len .lst (.v 156))) (.cons (.assign 202 (.bin .addS (.v 202) (.idx .seq (.v 156) (.bin .mod (.v 63) (.v 135))))) .nil) (.cons (.assign 158 (.bin .mod (.bin .fdiv (.v 63) (.v 135)) (.lit (.int 1114112)))) (.cons (.assign 202 (.bin .addS (.v 202) (.chr (.ite (.cmp .eqI (.v 158) (.lit (.int 13))) (.lit (.int 10)) (.v 158))))) .nil))) .nil))) (.cons (.ret (.slH (.v 202) (.lit (.int 22)))) .nil)))))))
noncomputable def p__law_text:List Nat:=[178]
noncomputable def b__law_tag_open:MSs:=(.cons (.assign 49 (.meth (.v 199) 743 620 144 .nil)) (.cons (.assign 208 (.ite (.cmp .eqS (.v 49) (.lit (.str "!"))) (.meth (.v 199) 743 691 132 (.cons (.lit (.str "[")) .nil)) (.lit (.int 0)))) (.cons (.ifs (.cmp .lt (.v 208) (.lit (.int 0))) (.cons (.expr (.meth (.v 199) 743 705 213 .nil)) (.cons .retN .nil)) .nil) (.cons (.expr (.meth (.v 199) 743 627 205 (.cons (.lit (.str "data")) .nil))) (.cons (.ifs (.and (.cons (.cmp .eqS (.v 49) (.lit (.str "!"))) (.cons (.cmp .eqI (.v 208) (.lit (.int 0))) .nil))) (.cons (.expr (.meth (.v 199) 743 648 71 (.cons (.tup (.cons (.lit (.str "comment")) (.cons (.lit (.str "")) .nil))) .nil))) .nil) (.cons (.ifs (.cmp .eqS (.v 49) (.lit (.str "!"))) (.cons (.expr (.meth (.v 199) 743 698 201 (.cons (.lit (.int 1)) .nil))) (.cons (.ifs (.attr (.v 199) 743 107) (.cons (.expr (.meth (.v 199) 743 662 75 (.cons (.lit (.str "[]")) .nil))) .nil) (.cons (.expr (.meth (.v 199) 743 641 78 (.cons (.lit (.str "cdata-in-html-content")) .nil))) (.cons (.expr (.meth (.v 199) 743 648 71 (.cons (.tup (.cons (.lit (.str "comment")) (.cons (.lit (.str "[CDATA[")) .nil))) .nil))) .nil))) .nil)) (.cons (.ifs (.cmp .inK (.v 49) (.call 21 761 .nil)) (.cons (.expr (.meth (.v 199) 743 648 71 (.cons (.tup (.cons (.lit (.str "start")) (.cons (.idx .key (.call 21 761 .nil) (.v 49)) (.cons (.tup .nil) (.cons (.lit (.bool false)) .nil))))) .nil))) .nil) (.cons (.ifs (.cmp .inK (.v 49) (.call 14 768 .nil)) (.cons (.expr (.meth (.v 199) 743 648 71 (.cons (.tup (.cons (.lit (.str "end")) (.cons (.idx .key (.call 14 768 .nil) (.v 49)) (.cons (.tup .nil) (.cons (.lit (.bool false)) .nil))))) .nil))) .nil) (.cons (.expr (.meth (.v 199) 743 655 74 (.cons (.lit (.str "<")) .nil))) (.cons (.expr (.meth (.v 199) 743 634 37 (.cons (.lit (.str "data")) .nil))) .nil))) .nil)) .nil)) .nil)) .nil)))))
noncomputable def p__law_tag_open:List Nat:=[199]
noncomputable def b__law_reference:MSs:=(.cons (.assign 49 (.meth (.v 199) 743 620 144 .nil)) (.cons (.ifs (.cmp .eqS (.v 49) (.lit (.str "*"))) (.cons (.expr (.meth (.v 199) 743 662 75 (.cons (.lit (.str "[]")) .nil))) (.cons (.expr (.meth (.v 199) 743 627 205 (.cons (.attr (.v 199) 743 44) .nil))) .nil)) (.cons (.expr (.meth (.v 199) 743 655 74 (.cons (.lit (.str "&")) .nil))) (.cons (.expr (.meth (.v 199) 743 634 37 (.cons (.attr (.v 199) 743 44) .nil))) .nil))) .nil))
noncomputable def p__law_reference:List Nat:=[199]
noncomputable def b__law_held:MSs:=(.cons (.assign 49 (.meth (.v 199) 743 620 144 .nil)) (.cons (.ifs (.cmp .eqS (.v 49) (.lit (.str ""))) (.cons (.expr (.meth (.v 199) 743 676 73 .nil)) .nil) (.cons (.ifs (.and (.cons (.cmp .eqS (.v 49) (.lit (.str "&"))) (.cons (.cmp .eqS (.attr (.v 199) 743 193) (.lit (.str "RCDATA"))) .nil))) (.cons (.setattr (.v 199) 743 44 (.lit (.str "RCDATA"))) (.cons (.expr (.meth (.v 199) 743 627 205 (.cons (.lit (.str "character reference")) .nil))) .nil)) (.cons (.ifs (.and (.cons (.cmp .eqS (.v 49) (.lit (.str "/"))) (.cons (.cmp .neS (.attr (.v 199) 743 128) (.lit (.str ""))) (.cons (.cmp .neS (.attr (.v 199) 743 193) (.lit (.str "PLAINTEXT"))) .nil)))) (.cons (.expr (.meth (.v 199) 743 627 205 (.cons (.lit (.str "data")) .nil))) (.cons (.expr (.meth (.v 199) 743 648 71 (.cons (.tup (.cons (.lit (.str "end")) (.cons (.attr (.v 199) 743 128) (.cons (.tup .nil) (.cons (.lit (.bool false)) .nil))))) .nil))) .nil)) (.cons (.expr (.meth (.v 199) 743 655 74 (.cons (.v 49) .nil))) .nil)) .nil)) .nil)) .nil))
noncomputable def p__law_held:List Nat:=[199]
noncomputable def b__law_open:MSs:=(.cons (.assign 145 (.meth (.attr (.v 48) 517 209) 439 358 70 (.cons (.v 141) (.cons (.v 186) .nil)))) (.cons (.expr (.meth (.attr (.v 48) 517 209) 439 394 40 (.cons (.meth (.attr (.v 48) 517 191) 322 256 59 .nil) (.cons (.v 145) .nil)))) (.cons (.expr (.meth (.attr (.v 48) 517 191) 322 242 165 (.cons (.v 145) .nil))) .nil)))
noncomputable def p__law_open:List Nat:=[48,141,186]
noncomputable def b__law_leave:MSs:=(.cons (.ifs (.and (.cons (.cmp .gt (.meth (.attr (.v 48) 517 191) 322 263 135 .nil) (.lit (.int 1))) (.cons (.cmp .eqS (.idx .seq (.attr (.attr (.v 48) 517 209) 439 142) (.meth (.attr (.v 48) 517 191) 322 256 59 .nil)) (.v 141)) .nil))) (.cons (.expr (.meth (.attr (.v 48) 517 191) 322 249 160 .nil)) .nil) .nil) .nil)
noncomputable def p__law_leave:List Nat:=[48,141]
noncomputable def b__law_body:MSs:=(.cons (.expr (.app (.attr (.v 48) 517 79) (.tup (.cons (.lit (.str "in body")) (.cons (.v 206) .nil))))) (.cons (.ifs (.cmp .eqS (.idx .tup (.v 206) (.lit (.int 0))) (.lit (.str "start"))) (.cons (.expr (.call 22 822 (.cons (.v 48) (.cons (.idx .tup (.v 206) (.lit (.int 1))) (.cons (.ite (.cmp .eqS (.idx .tup (.v 206) (.lit (.int 1))) (.lit (.str "svg"))) (.lit (.str "svg")) (.lit (.str "html"))) .nil))))) (.cons (.ifs (.cmp .inK (.idx .tup (.v 206) (.lit (.int 1))) (.call 23 775 .nil)) (.cons (.setattr (.v 48) 517 217 (.idx .key (.call 23 775 .nil) (.idx .tup (.v 206) (.lit (.int 1))))) (.cons (.ifs (.cmp .neS (.attr (.v 48) 517 217) (.lit (.str "PLAINTEXT"))) (.cons (.setattr (.v 48) 517 149 (.attr (.v 48) 517 137)) (.cons (.expr (.meth (.v 48) 517 479 205 (.cons (.lit (.str "text")) .nil))) .nil)) .nil) .nil)) .nil) .nil)) (.cons (.ifs (.cmp .eqS (.idx .tup (.v 206) (.lit (.int 0))) (.lit (.str "end"))) (.cons (.expr (.call 20 829 (.cons (.v 48) (.cons (.idx .tup (.v 206) (.lit (.int 1))) .nil)))) .nil) (.cons (.ifs (.cmp .eqS (.idx .tup (.v 206) (.lit (.int 0))) (.lit (.str "eof"))) (.cons (.setattr (.v 48) 517 104 (.lit (.bool true))) .nil) .nil) .nil)) .nil)) .nil))
noncomputable def p__law_body:List Nat:=[48,206]
noncomputable def b__law_inner:MSs:=(.cons (.expr (.app (.attr (.v 48) 517 79) (.tup (.cons (.lit (.str "text")) (.cons (.v 206) .nil))))) (.cons (.ifs (.cmp .neS (.idx .tup (.v 206) (.lit (.int 0))) (.lit (.str "char"))) (.cons (.expr (.meth (.attr (.v 48) 517 191) 322 249 160 .nil)) (.cons (.expr (.meth (.v 48) 517 479 205 (.cons (.attr (.v 48) 517 149) .nil))) (.cons (.ifs (.cmp .eqS (.idx .tup (.v 206) (.lit (.int 0))) (.lit (.str "eof"))) (.cons (.expr (.meth (.v 48) 517 493 163 (.cons (.v 206) .nil))) .nil) .nil) .nil))) .nil) .nil))
noncomputable def p__law_inner:List Nat:=[48,206]
noncomputable def b__law_foreign:MSs:=(.cons (.expr (.app (.attr (.v 48) 517 79) (.tup (.cons (.lit (.str "foreign content")) (.cons (.v 206) .nil))))) (.cons (.ifs (.cmp .eqS (.idx .tup (.v 206) (.lit (.int 0))) (.lit (.str "start"))) (.cons (.expr (.call 22 822 (.cons (.v 48) (.cons (.idx .tup (.v 206) (.lit (.int 1))) (.cons (.idx .seq (.attr (.attr (.v 48) 517 209) 439 187) (.meth (.v 48) 517 507 36 .nil)) .nil))))) .nil) (.cons (.ifs (.cmp .eqS (.idx .tup (.v 206) (.lit (.int 0))) (.lit (.str "end"))) (.cons (.expr (.call 20 829 (.cons (.v 48) (.cons (.idx .tup (.v 206) (.lit (.int 1))) .nil)))) .nil) .nil) .nil)) .nil))
noncomputable def p__law_foreign:List Nat:=[48,206]
noncomputable def b__law_begin:MSs:=(.cons (.assign 48 (.call 0 517 (.cons (.dct true ["in body","text","foreign content"] (.cons (.g 11 836) (.cons (.g 17 843) (.cons (.g 15 850) .nil)))) .nil))) (.cons (.expr (.meth (.v 48) 517 479 205 (.cons (.lit (.str "in body")) .nil))) (.cons (.ifs (.cmp .neD (.v 189) (.tup (.cons (.lit (.str "html")) (.cons (.lit (.str "html")) .nil)))) (.cons (.setattr (.v 48) 517 57 (.meth (.attr (.v 48) 517 209) 439 358 70 (.cons (.idx .tup (.v 189) (.lit (.int 1))) (.cons (.idx .tup (.v 189) (.lit (.int 0))) .nil)))) .nil) .nil) (.cons (.assign 173 (.meth (.attr (.v 48) 517 209) 439 358 70 (.cons (.lit (.str "html")) .nil))) (.cons (.expr (.meth (.attr (.v 48) 517 209) 439 394 40 (.cons (.lit (.int 0)) (.cons (.v 173) .nil)))) (.cons (.expr (.meth (.attr (.v 48) 517 191) 322 242 165 (.cons (.v 173) .nil))) (.cons (.assign 194 (.dct false ["data","tag open","character reference"] (.cons (.g 62 535) (.cons (.g 28 801) (.cons (.g 24 808) .nil))))) (.cons (.forr 141 (.of (.tup (.cons (.lit (.str "RCDATA")) (.cons (.lit (.str "RAWTEXT")) (.cons (.lit (.str "script data")) (.cons (.lit (.str "PLAINTEXT")) .nil)))))) (.cons (.setK (.v 194) (.v 141) (.g 16 815)) .nil)) (.cons (.ret (.tup (.cons (.call 6 743 (.cons (.v 194) (.cons (.v 126) .nil))) (.cons (.v 48) .nil)))) .nil)))))))))
noncomputable def p__law_begin:List Nat:=[189,126]
noncomputable def b__law_seen:MSs:=(.cons (.assign 92 (.comp (.tup (.cons (.idx .seq (.attr (.attr (.v 48) 517 209) 439 187) (.v 145)) (.cons (.idx .seq (.attr (.attr (.v 48) 517 209) 439 142) (.v 145)) .nil))) 145 (.of (.attr (.attr (.v 48) 517 191) 322 123)))) (.cons (.assign 179 (.tup (.cons (.attr (.v 199) 743 150) (.cons (.attr (.v 199) 743 79) (.cons (.attr (.v 199) 743 41) (.cons (.attr (.v 199) 743 193) (.cons (.attr (.v 199) 743 44) (.cons (.attr (.v 199) 743 128) (.cons (.attr (.v 199) 743 107) (.cons (.attr (.v 199) 743 122) (.cons (.attr (.v 199) 743 104) .nil))))))))))) (.cons (.ret (.bin .addT (.v 179) (.tup (.cons (.attr (.v 48) 517 79) (.cons (.v 92) (.cons (.attr (.v 48) 517 137) (.cons (.attr (.v 48) 517 217) (.cons (.attr (.v 48) 517 104) .nil)))))))) .nil)))
noncomputable def p__law_seen:List Nat:=[199,48]
noncomputable def b__law_is_turn:MSs:=(.cons (.assign 159 (.lst .fro (.cons (.tup (.cons (.lit (.str "math")) (.cons (.lit (.str "mi")) .nil))) (.cons (.tup (.cons (.lit (.str "svg")) (.cons (.lit (.str "desc")) .nil))) (.cons (.tup (.cons (.lit (.str "svg")) (.cons (.lit (.str "foreignObject")) .nil))) (.cons (.tup (.cons (.lit (.str "svg")) (.cons (.lit (.str "title")) .nil))) .nil)))))) (.cons (.ret (.or (.cons (.cmp .eqS (.idx .tup (.v 93) (.lit (.int 0))) (.lit (.str "html"))) (.cons (.and (.cons (.cmp .inT (.v 93) (.v 159)) (.cons (.cmp .inT (.v 126) (.tup (.cons (.lit (.str "char")) (.cons (.lit (.str "start")) .nil)))) .nil))) .nil)))) .nil))
noncomputable def p__law_is_turn:List Nat:=[93,126]
noncomputable def b__law_told:MSs:=(.cons (.ifs (.or (.cons (.cmp .eqS (.slH (.v 38) (.lit (.int 2))) (.lit (.str "&*"))) (.cons (.and (.cons (.cmp .eqS (.v 38) (.lit (.str "<!["))) (.cons (.v 107) .nil))) .nil))) (.cons (.ret (.tup (.cons (.lst .fro (.cons (.tup (.cons (.lit (.str "char")) (.cons (.lit (.str "[")) .nil))) (.cons (.tup (.cons (.lit (.str "char")) (.cons (.lit (.str "]")) .nil))) .nil))) (.cons (.lst .fro .nil) (.cons (.ite (.cmp .eqS (.idx .str (.v 38) (.lit (.int 0))) (.lit (.str "&"))) (.lit (.int 2)) (.lit (.int 3))) .nil))))) .nil) .nil) (.cons (.ifs (.cmp .eqS (.v 38) (.lit (.str "<!["))) (.cons (.ret (.tup (.cons (.lst .fro (.cons (.tup (.cons (.lit (.str "comment")) (.cons (.lit (.str "[CDATA[")) .nil))) .nil)) (.cons (.lst .fro (.cons (.lit (.str "cdata-in-html-content")) .nil)) (.cons (.lit (.int 3)) .nil))))) .nil) .nil) (.cons (.ifs (.cmp .eqS (.slH (.v 38) (.lit (.int 2))) (.lit (.str "<!"))) (.cons (.ret (.tup (.cons (.lst .fro (.cons (.tup (.cons (.lit (.str "comment")) (.cons (.lit (.str "")) .nil))) .nil)) (.cons (.lst .fro .nil) (.cons (.lit (.int 2)) .nil))))) .nil) .nil) (.cons (.ifs (.and (.cons (.cmp .eqS (.idx .str (.v 38) (.lit (.int 0))) (.lit (.str "<"))) (.cons (.cmp .inK (.slA (.v 38) (.lit (.int 1)) (.lit (.int 2))) (.call 21 761 .nil)) .nil))) (.cons (.ret (.tup (.cons (.lst .fro (.cons (.tup (.cons (.lit (.str "start")) (.cons (.idx .key (.call 21 761 .nil) (.idx .str (.v 38) (.lit (.int 1)))) (.cons (.tup .nil) (.cons (.lit (.bool false)) .nil))))) .nil)) (.cons (.lst .fro .nil) (.cons (.lit (.int 2)) .nil))))) .nil) .nil) (.cons (.ifs (.and (.cons (.cmp .eqS (.idx .str (.v 38) (.lit (.int 0))) (.lit (.str "<"))) (.cons (.cmp .inK (.slA (.v 38) (.lit (.int 1)) (.lit (.int 2))) (.call 14 768 .nil)) .nil))) (.cons (.ret (.tup (.cons (.lst .fro (.cons (.tup (.cons (.lit (.str "end")) (.cons (.idx .key (.call 14 768 .nil) (.idx .str (.v 38) (.lit (.int 1)))) (.cons (.tup .nil) (.cons (.lit (.bool false)) .nil))))) .nil)) (.cons (.lst .fro .nil) (.cons (.lit (.int 2)) .nil))))) .nil) .nil) (.cons (.ret (.tup (.cons (.lst .fro (.cons (.tup (.cons (.lit (.str "char")) (.cons (.idx .str (.v 38) (.lit (.int 0))) .nil))) .nil)) (.cons (.ite (.cmp .eqS (.idx .str (.v 38) (.lit (.int 0))) (.lit (.str "\u0000"))) (.lst .fro (.cons (.lit (.str "unexpected-null-character")) .nil)) (.lst .fro .nil)) (.cons (.lit (.int 1)) .nil))))) .nil))))))
noncomputable def p__law_told:List Nat:=[38,107]
noncomputable def b__law_section:MSs:=(.cons (.assign 196 (.ite (.and (.cons (.cmp .neS (.v 128) (.lit (.str ""))) (.cons (.cmp .neS (.v 193) (.lit (.str "PLAINTEXT"))) .nil))) (.find (.v 172) (.lit (.str "/"))) (.lit (.int (-1))))) (.cons (.assign 169 (.ite (.cmp .lt (.v 196) (.lit (.int 0))) (.v 172) (.slH (.v 172) (.v 196)))) (.cons (.assign 135 (.len .str (.v 169))) (.cons (.ifs (.cmp .neS (.v 193) (.lit (.str "RCDATA"))) (.cons (.ret (.tup (.cons (.v 169) (.cons (.v 135) (.cons (.cmp .ge (.v 196) (.lit (.int 0))) (.cons (.lit (.bool false)) .nil)))))) .nil) .nil) (.cons (.assign 103 (.and (.cons (.cmp .lt (.v 196) (.lit (.int 0))) (.cons (.cmp .eqS (.slL (.v 169) (.lit (.int (-1)))) (.lit (.str "&"))) (.cons (.not (.v 105)) .nil))))) (.cons (.ifs (.v 103) (.cons (.assign 169 (.slH (.v 169) (.lit (.int (-1))))) .nil) .nil) (.cons (.ret (.tup (.cons (.repl (.v 169) "&*" "[]") (.cons (.v 135) (.cons (.cmp .ge (.v 196) (.lit (.int 0))) (.cons (.v 103) .nil)))))) .nil)))))))
noncomputable def p__law_section:List Nat:=[172,193,128,105]
noncomputable def b__law_due:MSs:=(.cons (.assign 92 (.lst .fro (.cons (.tup (.cons (.lit (.str "html")) (.cons (.lit (.str "html")) .nil))) .nil))) (.cons (.assign 150 (.lst .loc .nil)) (.cons (.assign 79 (.lst .fro .nil)) (.cons (.assign 146 (.lst .loc .nil)) (.cons (.assignT [41,128,44,137,193,200,122] (.tup (.cons (.lit (.int 0)) (.cons (.lit (.str "")) (.cons (.lit (.str "data")) (.cons (.lit (.str "in body")) (.cons (.v 126) (.cons (.lit (.str "")) (.cons (.lit (.bool false)) .nil))))))))) (.cons (.whl 1000 (.and (.cons (.cmp .lt (.v 41) (.len .str (.v 202))) (.cons (.cmp .eqS (.v 200) (.lit (.str ""))) .nil))) (.cons (.assign 93 (.ite (.cmp .gt (.len .lst (.v 92)) (.lit (.int 1))) (.idx .seq (.v 92) (.lit (.int (-1)))) (.v 189))) (.cons (.assign 172 (.slL (.v 202) (.v 41))) (.cons (.ifs (.cmp .neS (.v 193) (.lit (.str "data"))) (.cons (.assignT [169,135,101,103] (.call 25 883 (.cons (.v 172) (.cons (.v 193) (.cons (.v 128) (.cons (.v 105) .nil)))))) (.cons (.ifs (.and (.cons (.cmp .eqS (.v 193) (.lit (.str "RCDATA"))) (.cons (.cmp .inS (.lit (.str "&")) (.slH (.v 172) (.v 135))) .nil))) (.cons (.assign 44 (.lit (.str "RCDATA"))) .nil) .nil) (.cons (.assign 208 (.comp (.tup (.cons (.lit (.str "char")) (.cons (.v 181) .nil))) 181 (.of (.v 169)))) (.cons (.assign 150 (.bin (.addL true) (.v 150) (.v 208))) (.cons (.assign 146 (.bin (.addL true) (.v 146) (.comp (.tup (.cons (.v 137) (.cons (.v 206) .nil))) 206 (.of (.v 208))))) (.cons (.assign 41 (.bin .addI (.v 41) (.v 135))) (.cons (.assign 200 (.ite (.v 103) (.lit (.str "character reference")) (.lit (.str "")))) (.cons (.ifs (.v 101) (.cons (.expr (.app (.v 150) (.tup (.cons (.lit (.str "end")) (.cons (.v 128) (.cons (.tup .nil) (.cons (.lit (.bool false)) .nil))))))) (.cons (.expr (.app (.v 146) (.tup (.cons (.lit (.str "text")) (.cons (.idx .seq (.v 150) (.lit (.int (-1)))) .nil))))) (.cons (.assignT [92,137,193,41] (.tup (.cons (.init (.v 92)) (.cons (.lit (.str "in body")) (.cons (.lit (.str "data")) (.cons (.bin .addI (.v 41) (.lit (.int 1))) .nil)))))) .nil))) .nil) (.cons .cont .nil))))))))) .nil) (.cons (.ifs (.cmp .eqS (.idx .str (.v 172) (.lit (.int 0))) (.lit (.str "&"))) (.cons (.assign 44 (.lit (.str "data"))) .nil) .nil) (.cons (.ifs (.and (.cons (.cmp .inT (.v 172) (.tup (.cons (.lit (.str "<")) (.cons (.lit (.str "<!")) (.cons (.lit (.str "&")) .nil))))) (.cons (.not (.v 105)) .nil))) (.cons (.assign 41 (.bin .addI (.v 41) (.lit (.int 1)))) (.cons (.assign 122 (.cmp .eqS (.v 172) (.lit (.str "<!")))) (.cons (.assign 200 (.ite (.cmp .eqS (.v 172) (.lit (.str "&"))) (.lit (.str "character reference")) (.lit (.str "tag open")))) (.cons .cont .nil)))) .nil) (.cons (.assignT [208,54,135] (.call 30 876 (.cons (.slH (.v 172) (.lit (.int 3))) (.cons (.cmp .neS (.idx .tup (.v 93) (.lit (.int 0))) (.lit (.str "html"))) .nil)))) (.cons (.assign 41 (.bin .addI (.v 41) (.v 135))) (.cons (.assign 79 (.bin (.addL false) (.v 79) (.comp (.tup (.cons (.v 53) (.cons (.bin .sub (.v 41) (.lit (.int 1))) .nil))) 53 (.of (.v 54))))) (.cons (.assign 150 (.bin (.addL true) (.v 150) (.v 208))) (.cons (.assignP 184 141 (.idx .tup (.idx .seq (.v 208) (.lit (.int 0))) (.lit (.int 0))) (.idx .tup (.idx .seq (.v 208) (.lit (.int 0))) (.lit (.int 1)))) (.cons (.assign 120 (.call 18 869 (.cons (.v 93) (.cons (.v 184) .nil)))) (.cons (.assign 146 (.bin (.addL true) (.v 146) (.comp (.tup (.cons (.ite (.v 120) (.lit (.str "in body")) (.lit (.str "foreign content"))) (.cons (.v 206) .nil))) 206 (.of (.v 208))))) (.cons (.ifs (.cmp .eqS (.v 184) (.lit (.str "start"))) (.cons (.assign 128 (.v 141)) (.cons (.assign 186 (.idx .tup (.v 93) (.lit (.int 0)))) (.cons (.ifs (.v 120) (.cons (.assign 186 (.ite (.cmp .eqS (.v 141) (.lit (.str "svg"))) (.lit (.str "svg")) (.lit (.str "html")))) (.cons (.assign 193 (.getd (.call 23 775 .nil) (.v 141) (.lit (.str "data")))) (.cons (.assign 137 (.ite (.cmp .inT (.v 193) (.tup (.cons (.lit (.str "data")) (.cons (.lit (.str "PLAINTEXT")) .nil)))) (.lit (.str "in body")) (.lit (.str "text")))) .nil))) .nil) (.cons (.assign 92 (.bin (.addL false) (.v 92) (.lst .fro (.cons (.tup (.cons (.v 186) (.cons (.v 141) .nil))) .nil)))) .nil)))) (.cons (.ifs (.and (.cons (.cmp .eqS (.v 184) (.lit (.str "end"))) (.cons (.cmp .gt (.len .lst (.v 92)) (.lit (.int 1))) (.cons (.cmp .eqS (.idx .tup (.idx .seq (.v 92) (.lit (.int (-1)))) (.lit (.int 1))) (.v 141)) .nil)))) (.cons (.assign 92 (.init (.v 92))) .nil) .nil) .nil)) .nil)))))))))))))) (.cons (.ifs (.v 105) (.cons (.expr (.app (.v 150) (.tup (.cons (.lit (.str "eof")) .nil)))) (.cons (.expr (.app (.v 146) (.tup (.cons (.v 137) (.cons (.tup (.cons (.lit (.str "eof")) .nil)) .nil))))) (.cons (.ifs (.cmp .eqS (.v 137) (.lit (.str "text"))) (.cons (.assign 92 (.init (.v 92))) (.cons (.expr (.app (.v 146) (.tup (.cons (.lit (.str "in body")) (.cons (.tup (.cons (.lit (.str "eof")) .nil)) .nil))))) .nil)) .nil) (.cons (.assignT [41,137] (.tup (.cons (.bin .addI (.v 41) (.lit (.int 1))) (.cons (.lit (.str "in body")) .nil)))) .nil)))) .nil) (.cons (.assign 93 (.ite (.cmp .gt (.len .lst (.v 92)) (.lit (.int 1))) (.idx .seq (.v 92) (.lit (.int (-1)))) (.v 189))) (.cons (.assign 67 (.tup (.cons (.v 150) (.cons (.v 79) (.cons (.v 41) (.cons (.ite (.cmp .neS (.v 200) (.lit (.str ""))) (.v 200) (.v 193)) (.cons (.v 44) (.cons (.v 128) (.cons (.cmp .neS (.idx .tup (.v 93) (.lit (.int 0))) (.lit (.str "html"))) (.cons (.v 122) (.cons (.v 105) .nil))))))))))) (.cons (.ret (.bin .addT (.v 67) (.tup (.cons (.v 146) (.cons (.v 92) (.cons (.v 137) (.cons (.lit (.str "")) (.cons (.v 105) .nil)))))))) .nil))))))))))
noncomputable def p__law_due:List Nat:=[202,189,126,105]
noncomputable def b_law:MSs:=(.cons (.assign 142 (.lit (.str "title textarea style xmp iframe noembed noframes noscript script plaintext div html pre listing template"))) (.cons (.forr 141 (.of (.bin (.addL false) (.split (.v 142)) (.lst .fro (.cons (.lit (.str "select")) (.cons (.lit (.str "TITLE")) (.cons (.lit (.str "")) .nil)))))) (.cons (.forr 117 (.of (.tup (.cons (.lit (.bool false)) (.cons (.lit (.bool true)) .nil)))) (.cons (.ifs (.cmp .neS (.call 192 42 (.cons (.v 141) (.cons (.v 117) .nil))) (.call 19 787 (.cons (.v 141) (.cons (.v 117) .nil)))) (.cons (.ret (.lit (.bool false))) .nil) .nil) .nil)) .nil)) (.cons (.assign 63 (.call 12 754 (.cons (.v 178) (.cons (.lit (.int 0)) .nil)))) (.cons (.assign 190 (.call 27 782 .nil)) (.cons (.assign 189 (.idx .seq (.v 190) (.bin .mod (.v 63) (.len .lst (.v 190))))) (.cons (.assign 126 (.lit (.str "data"))) (.cons (.ifs (.cmp .eqS (.idx .tup (.v 189) (.lit (.int 0))) (.lit (.str "html"))) (.cons (.assign 126 (.call 192 42 (.cons (.idx .tup (.v 189) (.lit (.int 1))) (.cons (.cmp .eqI (.bin .mod (.bin .fdiv (.v 63) (.len .lst (.v 190))) (.lit (.int 2))) (.lit (.int 1))) .nil)))) .nil) .nil) (.cons (.assign 202 (.call 29 794 (.cons (.v 178) .nil))) (.cons (.assign 183 (.len .str (.v 202))) (.cons (.assign 60 (.call 12 754 (.cons (.v 178) (.cons (.lit (.int 1)) .nil)))) (.cons (.assign 61 (.srtI (.lst .fro (.cons (.bin .mod (.bin .addI (.v 60) (.lit (.int 5))) (.bin .addI (.v 183) (.lit (.int 1)))) (.cons (.bin .mod (.bin .addI (.bin .fdiv (.v 60) (.lit (.int 32))) (.lit (.int 9))) (.bin .addI (.v 183) (.lit (.int 1)))) (.cons (.bin .mod (.bin .addI (.bin .fdiv (.v 60) (.lit (.int 1024))) (.lit (.int 15))) (.bin .addI (.v 183) (.lit (.int 1)))) .nil)))))) (.cons (.assign 68 (.comp (.call 13 888 (.cons (.slH (.v 202) (.v 125)) (.cons (.v 189) (.cons (.v 126) (.cons (.lit (.bool false)) .nil))))) 125 (.rng (.bin .addI (.v 183) (.lit (.int 1)))))) (.cons (.assign 215 (.call 13 888 (.cons (.v 202) (.cons (.v 189) (.cons (.v 126) (.cons (.lit (.bool true)) .nil)))))) (.cons (.forr 214 (.of (.lst .fro (.cons (.bin (.addL false) (.v 61) (.lst .fro (.cons (.v 183) .nil))) (.cons (.lstRng (.lit (.int 1)) (.bin .addI (.v 183) (.lit (.int 1)))) .nil)))) (.scope [189,126,202,183,68,215,214] (.cons (.assignT [199,48] (.call 10 857 (.cons (.v 189) (.cons (.v 126) .nil)))) (.cons (.assign 46 (.lit (.int 0))) (.cons (.forr 157 (.of (.v 214)) (.cons (.expr (.meth (.v 199) 743 606 81 (.cons (.slA (.v 202) (.v 46) (.v 157)) .nil))) (.cons (.assign 46 (.v 157)) (.cons (.expr (.call 66 35 (.cons (.v 199) (.cons (.v 48) .nil)))) (.cons (.ifs (.cmp .neD (.call 26 862 (.cons (.v 199) (.cons (.v 48) .nil))) (.idx .seq (.v 68) (.v 157))) (.cons (.ret (.lit (.bool false))) .nil) .nil) .nil))))) (.cons (.expr (.meth (.v 199) 743 613 77 .nil)) (.cons (.expr (.call 66 35 (.cons (.v 199) (.cons (.v 48) .nil)))) (.cons (.ifs (.cmp .neD (.call 26 862 (.cons (.v 199) (.cons (.v 48) .nil))) (.v 215)) (.cons (.ret (.lit (.bool false))) .nil) .nil) .nil)))))))) (.cons (.ret (.lit (.bool true))) .nil)))))))))))))))
noncomputable def p_law:List Nat:=[178]
noncomputable def b_OpenStack_init:MSs:=(.cons (.setattr (.v 180) 322 209 (.v 209)) (.cons (.setattr (.v 180) 322 123 (.lst .loc .nil)) .nil))
noncomputable def p_OpenStack_init:List Nat:=[180,209]
noncomputable def b_OpenStack_push:MSs:=(.cons (.expr (.app (.attr (.v 180) 322 123) (.v 145))) .nil)
noncomputable def p_OpenStack_push:List Nat:=[180,145]
noncomputable def b_OpenStack_pop:MSs:=(.cons (.ifs (.cmp .eqI (.len .lst (.attr (.v 180) 322 123)) (.lit (.int 0))) (.cons (.ret (.lit (.int (-1)))) .nil) .nil) (.cons (.ret (.pop (.attr (.v 180) 322 123))) .nil))
noncomputable def p_OpenStack_pop:List Nat:=[180]
noncomputable def b_OpenStack_current:MSs:=(.cons (.ifs (.cmp .eqI (.len .lst (.attr (.v 180) 322 123)) (.lit (.int 0))) (.cons (.ret (.lit (.int (-1)))) .nil) .nil) (.cons (.ret (.idx .seq (.attr (.v 180) 322 123) (.bin .sub (.len .lst (.attr (.v 180) 322 123)) (.lit (.int 1))))) .nil))
noncomputable def p_OpenStack_current:List Nat:=[180]
noncomputable def b_OpenStack_many:MSs:=(.cons (.ret (.len .lst (.attr (.v 180) 322 123))) .nil)
noncomputable def p_OpenStack_many:List Nat:=[180]
noncomputable def b_Tree_init:MSs:=(.cons (.setattr (.v 180) 439 127 (.lst .loc .nil)) (.cons (.setattr (.v 180) 439 187 (.lst .loc .nil)) (.cons (.setattr (.v 180) 439 142 (.lst .loc .nil)) (.cons (.setattr (.v 180) 439 42 (.lst .loc .nil)) (.cons (.setattr (.v 180) 439 203 (.lst .loc .nil)) (.cons (.setattr (.v 180) 439 154 (.lst .loc .nil)) (.cons (.setattr (.v 180) 439 50 (.lst .jl .nil)) (.cons (.setattr (.v 180) 439 56 (.dct false [] .nil)) (.cons (.expr (.meth (.v 180) 439 349 34 (.cons (.lit (.str "document")) .nil))) .nil)))))))))
noncomputable def p_Tree_init:List Nat:=[180]
noncomputable def b_Tree_add:MSs:=(.cons (.expr (.app (.attr (.v 180) 439 127) (.v 126))) (.cons (.expr (.app (.attr (.v 180) 439 187) (.v 186))) (.cons (.expr (.app (.attr (.v 180) 439 142) (.v 141))) (.cons (.expr (.app (.attr (.v 180) 439 42) (.lstOf (.v 42)))) (.cons (.expr (.app (.attr (.v 180) 439 203) (.v 202))) (.cons (.expr (.app (.attr (.v 180) 439 154) (.lit (.int (-1))))) (.cons (.expr (.appJ (.attr (.v 180) 439 50) (.lst .junk .nil))) (.cons (.ret (.bin .sub (.len .lst (.attr (.v 180) 439 127)) (.lit (.int 1)))) .nil))))))))
noncomputable def p_Tree_add:List Nat:=[180,126,186,141,42,202]
noncomputable def b_Tree_element:MSs:=(.cons (.assign 145 (.meth (.v 180) 439 349 34 (.cons (.lit (.str "element")) (.cons (.v 186) (.cons (.v 141) (.cons (.v 42) .nil)))))) (.cons (.ifs (.and (.cons (.cmp .eqS (.v 186) (.lit (.str "html"))) (.cons (.cmp .eqS (.v 141) (.lit (.str "template"))) .nil))) (.cons .never .nil) .nil) (.cons (.ret (.v 145)) .nil)))
noncomputable def p_Tree_element:List Nat:=[180,141,186,42]
noncomputable def b_Tree_insert:MSs:=(.cons (.ifs (.or (.cons (.cmp .eqI (.v 145) (.v 153)) (.cons (.cmp .inT (.v 145) (.call 33 450 (.cons (.v 180) (.cons (.v 153) .nil)))) .nil))) (.cons .never .nil) .nil) (.cons (.ifs (.and (.cons (.cmp .neI (.v 45) (.lit (.int (-1)))) (.cons (.cmp .ninT (.v 45) (.idx .jl (.attr (.v 180) 439 50) (.v 153))) .nil))) (.cons .never .nil) .nil) (.cons (.ifs (.cmp .eqI (.v 45) (.v 145)) (.cons .retN .nil) .nil) (.cons (.expr (.meth (.v 180) 439 401 170 (.cons (.v 145) .nil))) (.cons (.assign 41 (.len .junk (.idx .jl (.attr (.v 180) 439 50) (.v 153)))) (.cons (.ifs (.cmp .neI (.v 45) (.lit (.int (-1)))) (.cons (.assign 41 .never) .nil) .nil) (.cons (.expr (.ins (.idx .jl (.attr (.v 180) 439 50) (.v 153)) (.v 41) (.v 145))) (.cons (.setI (.attr (.v 180) 439 154) (.v 145) (.v 153)) .nil))))))))
noncomputable def p_Tree_insert:List Nat:=[180,153,145,45]
noncomputable def b_Tree_append:MSs:=(.cons (.expr (.meth (.v 180) 439 387 98 (.cons (.v 153) (.cons (.v 145) .nil)))) .nil)
noncomputable def p_Tree_append:List Nat:=[180,153,145]
noncomputable def b_Tree_remove:MSs:=(.cons (.ifs (.cmp .neI (.idx .seq (.attr (.v 180) 439 154) (.v 145)) (.lit (.int (-1)))) (.cons (.expr .never) (.cons (.setI (.attr (.v 180) 439 154) (.v 145) (.lit (.int (-1)))) .nil)) .nil) .nil)
noncomputable def p_Tree_remove:List Nat:=[180,145]
noncomputable def b_Formatting_init:MSs:=(.cons (.setattr (.v 180) 154 209 (.v 209)) (.cons (.setattr (.v 180) 154 123 (.lst .loc .nil)) .nil))
noncomputable def p_Formatting_init:List Nat:=[180,209]
noncomputable def b_Builder_init:MSs:=(.cons (.setattr (.v 180) 517 176 (.v 176)) (.cons (.setattr (.v 180) 517 209 (.call 7 439 .nil)) (.cons (.setattr (.v 180) 517 191 (.call 4 322 (.cons (.attr (.v 180) 517 209) .nil))) (.cons (.setattr (.v 180) 517 86 (.call 1 154 (.cons (.attr (.v 180) 517 209) .nil))) (.cons (.setattr (.v 180) 517 137 (.lit (.str "initial"))) (.cons (.setattr (.v 180) 517 149 (.lit (.str ""))) (.cons (.setattr (.v 180) 517 138 (.lst .loc .nil)) (.cons (.setattr (.v 180) 517 91 (.lit (.int (-1)))) (.cons (.setattr (.v 180) 517 85 (.lit (.int (-1)))) (.cons (.setattr (.v 180) 517 151 (.dct false [] .nil)) (.cons (.setattr (.v 180) 517 109 (.lit (.bool true))) (.cons (.setattr (.v 180) 517 117 (.v 117)) (.cons (.setattr (.v 180) 517 108 (.lit (.bool false))) (.cons (.setattr (.v 180) 517 57 (.lit (.int (-1)))) (.cons (.setattr (.v 180) 517 167 (.lit (.str "no-quirks"))) (.cons (.setattr (.v 180) 517 79 (.lst .loc .nil)) (.cons (.setattr (.v 180) 517 155 (.lst .loc .nil)) (.cons (.setattr (.v 180) 517 217 (.lit (.str ""))) (.cons (.setattr (.v 180) 517 118 (.lit (.bool false))) (.cons (.setattr (.v 180) 517 99 (.lit (.bool false))) (.cons (.setattr (.v 180) 517 104 (.lit (.bool false))) .nil)))))))))))))))))))))
noncomputable def p_Builder_init:List Nat:=[180,176,117]
noncomputable def b_Builder_to:MSs:=(.cons (.setattr (.v 180) 517 137 (.v 137)) .nil)
noncomputable def p_Builder_to:List Nat:=[180,137]
noncomputable def b_Builder_use:MSs:=(.cons (.ifs (.cmp .ninK (.v 141) (.attr (.v 180) 517 176)) (.cons .never .nil) .nil) (.cons (.assign 175 (.idx .key (.attr (.v 180) 517 176) (.v 141))) (.cons (.expr (.callv 175 (.cons (.v 180) (.cons (.v 206) .nil)))) .nil)))
noncomputable def p_Builder_use:List Nat:=[180,141,206]
noncomputable def b_Builder_process:MSs:=(.cons (.ifs (.call 112 528 (.cons (.v 180) (.cons (.v 206) .nil))) (.cons (.expr (.meth (.v 180) 517 486 211 (.cons (.attr (.v 180) 517 137) (.cons (.v 206) .nil)))) .nil) (.cons (.expr (.meth (.v 180) 517 486 211 (.cons (.lit (.str "foreign content")) (.cons (.v 206) .nil)))) .nil)) .nil)
noncomputable def p_Builder_process:List Nat:=[180,206]
noncomputable def b_Builder_feed:MSs:=(.cons (.ifs (.attr (.v 180) 517 104) (.cons .retN .nil) .nil) (.cons (.ifs (.attr (.v 180) 517 118) (.cons (.setattr (.v 180) 517 118 (.lit (.bool false))) (.cons (.ifs (.and (.cons (.cmp .eqS (.idx .tup (.v 206) (.lit (.int 0))) (.lit (.str "char"))) (.cons (.cmp .eqS (.idx .tup (.v 206) (.lit (.int 1))) (.lit (.str "\n"))) .nil))) (.cons .retN .nil) .nil) .nil)) .nil) (.cons (.setattr (.v 180) 517 99 (.lit (.bool false))) (.cons (.expr (.meth (.v 180) 517 493 163 (.cons (.v 206) .nil))) (.cons (.ifs (.and (.cons (.cmp .eqS (.idx .tup (.v 206) (.lit (.int 0))) (.lit (.str "start"))) (.cons (.idx .tup (.v 206) (.lit (.int 3))) (.cons (.not (.attr (.v 180) 517 99)) .nil)))) (.cons (.expr (.meth (.v 180) 517 472 78 (.cons (.lit (.str "non-void-html-element-start-tag-with-trailing-solidus")) .nil))) .nil) .nil) .nil)))))
noncomputable def p_Builder_feed:List Nat:=[180,206]
noncomputable def b_Builder_adjusted:MSs:=(.cons (.ifs (.and (.cons (.cmp .eqI (.meth (.attr (.v 180) 517 191) 322 263 135 .nil) (.lit (.int 1))) (.cons (.cmp .neI (.attr (.v 180) 517 57) (.lit (.int (-1)))) .nil))) (.cons (.ret (.attr (.v 180) 517 57)) .nil) .nil) (.cons (.ret (.meth (.attr (.v 180) 517 191) 322 256 59 .nil)) .nil))
noncomputable def p_Builder_adjusted:List Nat:=[180]
noncomputable def b_Builder_is_foreign:MSs:=(.cons (.assign 145 (.meth (.v 180) 517 507 36 .nil)) (.cons (.ret (.and (.cons (.cmp .neI (.v 145) (.lit (.int (-1)))) (.cons (.cmp .neS (.idx .seq (.attr (.attr (.v 180) 517 209) 439 187) (.v 145)) (.lit (.str "html"))) .nil)))) .nil))
noncomputable def p_Builder_is_foreign:List Nat:=[180]
noncomputable def b_Stream_init:MSs:=(.cons (.setattr (.v 180) 580 182 (.lst .loc .nil)) (.cons (.setattr (.v 180) 580 101 (.lit (.bool false))) (.cons (.setattr (.v 180) 580 116 (.lit (.bool false))) (.cons (.setattr (.v 180) 580 79 (.lst .loc .nil)) .nil))))
noncomputable def p_Stream_init:List Nat:=[180]
noncomputable def b_Stream_feed:MSs:=(.cons (.ifs (.attr (.v 180) 580 101) (.cons .never .nil) .nil) (.cons (.forr 49 (.of (.v 202)) (.cons (.ifs (.cmp .eqS (.v 49) (.lit (.str "\u000d"))) (.cons (.expr (.app (.attr (.v 180) 580 182) (.lit (.str "\n")))) .nil) (.cons (.ifs (.or (.cons (.cmp .neS (.v 49) (.lit (.str "\n"))) (.cons (.not (.attr (.v 180) 580 116)) .nil))) (.cons (.assign 53 (.call 97 542 (.cons (.ord (.v 49)) .nil))) (.cons (.ifs (.cmp .neS (.v 53) (.lit (.str ""))) (.cons (.expr (.app (.attr (.v 180) 580 79) (.tup (.cons (.v 53) (.cons (.len .lst (.attr (.v 180) 580 182)) .nil))))) .nil) .nil) (.cons (.expr (.app (.attr (.v 180) 580 182) (.v 49))) .nil))) .nil) .nil)) (.cons (.setattr (.v 180) 580 116 (.cmp .eqS (.v 49) (.lit (.str "\u000d")))) .nil))) .nil))
noncomputable def p_Stream_feed:List Nat:=[180,202]
noncomputable def b_Stream_end:MSs:=(.cons (.setattr (.v 180) 580 101 (.lit (.bool true))) .nil)
noncomputable def p_Stream_end:List Nat:=[180]
noncomputable def b_Tokenizer_init:MSs:=(.cons (.setattr (.v 180) 743 194 (.v 194)) (.cons (.setattr (.v 180) 743 197 (.call 5 580 .nil)) (.cons (.setattr (.v 180) 743 41 (.lit (.int 0))) (.cons (.setattr (.v 180) 743 193 (.v 193)) (.cons (.setattr (.v 180) 743 44 (.lit (.str "data"))) (.cons (.setattr (.v 180) 743 150 (.lst .loc .nil)) (.cons (.setattr (.v 180) 743 79 (.lst .loc .nil)) (.cons (.setattr (.v 180) 743 65 (.lit .none)) (.cons (.setattr (.v 180) 743 47 (.lit (.str ""))) (.cons (.setattr (.v 180) 743 53 (.lit (.int 0))) (.cons (.setattr (.v 180) 743 128 (.v 128)) (.cons (.setattr (.v 180) 743 107 (.lit (.bool false))) (.cons (.setattr (.v 180) 743 122 (.lit (.bool false))) (.cons (.setattr (.v 180) 743 104 (.lit (.bool false))) .nil))))))))))))))
noncomputable def p_Tokenizer_init:List Nat:=[180,194,193,128]
noncomputable def b_Tokenizer_feed:MSs:=(.cons (.expr (.meth (.attr (.v 180) 743 197) 580 563 81 (.cons (.v 202) .nil))) (.cons (.setattr (.v 180) 743 122 (.lit (.bool false))) .nil))
noncomputable def p_Tokenizer_feed:List Nat:=[180,202]
noncomputable def b_Tokenizer_end:MSs:=(.cons (.expr (.meth (.attr (.v 180) 743 197) 580 570 77 .nil)) (.cons (.setattr (.v 180) 743 122 (.lit (.bool false))) .nil))
noncomputable def p_Tokenizer_end:List Nat:=[180]
noncomputable def b_Tokenizer_next:MSs:=(.cons (.assign 41 (.attr (.v 180) 743 41)) (.cons (.setattr (.v 180) 743 41 (.bin .addI (.v 41) (.lit (.int 1)))) (.cons (.ifs (.cmp .lt (.v 41) (.len .lst (.attr (.attr (.v 180) 743 197) 580 182))) (.cons (.ret (.idx .seq (.attr (.attr (.v 180) 743 197) 580 182) (.v 41))) .nil) .nil) (.cons (.ret (.lit (.str ""))) .nil))))
noncomputable def p_Tokenizer_next:List Nat:=[180]
noncomputable def b_Tokenizer_to:MSs:=(.cons (.setattr (.v 180) 743 193 (.v 193)) .nil)
noncomputable def p_Tokenizer_to:List Nat:=[180,193]
noncomputable def b_Tokenizer_again:MSs:=(.cons (.augattr (.v 180) 743 41 true (.lit (.int 1))) (.cons (.setattr (.v 180) 743 193 (.v 193)) .nil))
noncomputable def p_Tokenizer_again:List Nat:=[180,193]
noncomputable def b_Tokenizer_error:MSs:=(.cons (.expr (.app (.attr (.v 180) 743 79) (.tup (.cons (.v 53) (.cons (.bin .sub (.attr (.v 180) 743 41) (.lit (.int 1))) .nil))))) .nil)
noncomputable def p_Tokenizer_error:List Nat:=[180,53]
noncomputable def b_Tokenizer_emit:MSs:=(.cons (.ifs (.cmp .eqS (.idx .tup (.v 206) (.lit (.int 0))) (.lit (.str "start"))) (.cons (.setattr (.v 180) 743 128 (.idx .tup (.v 206) (.lit (.int 1)))) .nil) .nil) (.cons (.expr (.app (.attr (.v 180) 743 150) (.v 206))) .nil))
noncomputable def p_Tokenizer_emit:List Nat:=[180,206]
noncomputable def b_Tokenizer_emit_sign:MSs:=(.cons (.expr (.app (.attr (.v 180) 743 150) (.tup (.cons (.lit (.str "char")) (.cons (.v 181) .nil))))) .nil)
noncomputable def p_Tokenizer_emit_sign:List Nat:=[180,181]
noncomputable def b_Tokenizer_emit_text:MSs:=(.cons (.forr 181 (.of (.v 202)) (.cons (.expr (.app (.attr (.v 180) 743 150) (.tup (.cons (.lit (.str "char")) (.cons (.v 181) .nil))))) .nil)) .nil)
noncomputable def p_Tokenizer_emit_text:List Nat:=[180,202]
noncomputable def b_Tokenizer_emit_eof:MSs:=(.cons (.expr (.app (.attr (.v 180) 743 150) (.tup (.cons (.lit (.str "eof")) .nil)))) (.cons (.setattr (.v 180) 743 104 (.lit (.bool true))) .nil))
noncomputable def p_Tokenizer_emit_eof:List Nat:=[180]
noncomputable def b_Tokenizer_looks:MSs:=(.cons (.assign 182 (.attr (.attr (.v 180) 743 197) 580 182)) (.cons (.forr 94 (.rng (.len .str (.v 218))) (.cons (.ifs (.cmp .ge (.bin .addI (.attr (.v 180) 743 41) (.v 94)) (.len .lst (.v 182))) (.cons (.ifs (.attr (.attr (.v 180) 743 197) 580 101) (.cons (.ret (.lit (.int 0))) .nil) .nil) (.cons (.ret (.lit (.int (-1)))) .nil)) .nil) (.cons (.assign 181 (.idx .seq (.v 182) (.bin .addI (.attr (.v 180) 743 41) (.v 94)))) (.cons (.ifs (.v 106) (.cons (.assign 181 (.call 133 179 (.cons (.v 181) .nil))) .nil) .nil) (.cons (.ifs (.cmp .neS (.v 181) (.idx .str (.v 218) (.v 94))) (.cons (.ret (.lit (.int 0))) .nil) .nil) .nil))))) (.cons (.ret (.lit (.int 1))) .nil)))
noncomputable def p_Tokenizer_looks:List Nat:=[180,218,106]
noncomputable def b_Tokenizer_take:MSs:=(.cons (.augattr (.v 180) 743 41 false (.v 135)) .nil)
noncomputable def p_Tokenizer_take:List Nat:=[180,135]
noncomputable def b_Tokenizer_wait:MSs:=(.cons (.setattr (.v 180) 743 122 (.lit (.bool true))) .nil)
noncomputable def p_Tokenizer_wait:List Nat:=[180]
noncomputable def b_Tokenizer_step:MSs:=(.cons (.ifs (.cmp .ninK (.attr (.v 180) 743 193) (.attr (.v 180) 743 194)) (.cons .never .nil) .nil) (.cons (.setattr (.v 180) 743 122 (.lit (.bool false))) (.cons (.assign 46 (.attr (.v 180) 743 41)) (.cons (.assign 175 (.idx .key (.attr (.v 180) 743 194) (.attr (.v 180) 743 193))) (.cons (.expr (.callv 175 (.cons (.v 180) .nil))) (.cons (.ifs (.attr (.v 180) 743 122) (.cons (.setattr (.v 180) 743 41 (.v 46)) .nil) .nil) .nil))))))
noncomputable def p_Tokenizer_step:List Nat:=[180]
noncomputable def b_Tokenizer_is_ready:MSs:=(.cons (.ifs (.or (.cons (.attr (.v 180) 743 104) (.cons (.attr (.v 180) 743 122) (.cons (.cmp .ninK (.attr (.v 180) 743 193) (.attr (.v 180) 743 194)) .nil)))) (.cons (.ret (.lit (.bool false))) .nil) .nil) (.cons (.ret (.or (.cons (.attr (.attr (.v 180) 743 197) 580 101) (.cons (.cmp .lt (.attr (.v 180) 743 41) (.len .lst (.attr (.attr (.v 180) 743 197) 580 182))) .nil)))) .nil))
noncomputable def p_Tokenizer_is_ready:List Nat:=[180]
end
section
@[irreducible] noncomputable def f_Builder_to:Fn:=opq (runFn [] p_Builder_to [] b_Builder_to false)
@[irreducible] noncomputable def f_OpenStack_current:Fn:=opq (runFn [] p_OpenStack_current [] b_OpenStack_current false)
@[irreducible] noncomputable def f_OpenStack_many:Fn:=opq (runFn [] p_OpenStack_many [] b_OpenStack_many false)
@[irreducible] noncomputable def f_OpenStack_pop:Fn:=opq (runFn [] p_OpenStack_pop [] b_OpenStack_pop false)
@[irreducible] noncomputable def f__law_leave:Fn:=opq (runFn [(256,f_OpenStack_current),(263,f_OpenStack_many),(249,f_OpenStack_pop)] p__law_leave [] b__law_leave false)
@[irreducible] noncomputable def f_OpenStack_push:Fn:=opq (runFn [] p_OpenStack_push [] b_OpenStack_push false)
@[irreducible] noncomputable def f_Tree_remove:Fn:=opq (runFn [] p_Tree_remove [] b_Tree_remove false)
@[irreducible] noncomputable def f_above:Fn:=opq (runFn [] p_above [] b_above true)
@[irreducible] noncomputable def f_Tree_insert:Fn:=opq (runFn [(401,f_Tree_remove),(450,f_above)] p_Tree_insert [.int (-1)] b_Tree_insert false)
@[irreducible] noncomputable def f_Tree_append:Fn:=opq (runFn [(387,f_Tree_insert)] p_Tree_append [] b_Tree_append false)
@[irreducible] noncomputable def f_Tree_add:Fn:=opq (runFn [] p_Tree_add [.str "",.str "",.tuple [],.str ""] b_Tree_add false)
@[irreducible] noncomputable def f_Tree_element:Fn:=opq (runFn [(349,f_Tree_add)] p_Tree_element [.str "html",.tuple []] b_Tree_element false)
@[irreducible] noncomputable def f__law_open:Fn:=opq (runFn [(256,f_OpenStack_current),(242,f_OpenStack_push),(394,f_Tree_append),(358,f_Tree_element)] p__law_open [] b__law_open false)
@[irreducible] noncomputable def f__law_raws:Fn:=opq (runFn [] p__law_raws [] b__law_raws false)
@[irreducible] noncomputable def f__law_body:Fn:=opq (runFn [(479,f_Builder_to),(829,f__law_leave),(822,f__law_open),(775,f__law_raws)] p__law_body [] b__law_body false)
@[irreducible] noncomputable def f_Builder_adjusted:Fn:=opq (runFn [(256,f_OpenStack_current),(263,f_OpenStack_many)] p_Builder_adjusted [] b_Builder_adjusted false)
@[irreducible] noncomputable def f__law_foreign:Fn:=opq (runFn [(507,f_Builder_adjusted),(829,f__law_leave),(822,f__law_open)] p__law_foreign [] b__law_foreign false)
@[irreducible] noncomputable def f_Builder_use:Fn:=opq (runFn [(836,f__law_body),(850,f__law_foreign)] p_Builder_use [] b_Builder_use false)
@[irreducible] noncomputable def f_Builder_is_foreign:Fn:=opq (runFn [(507,f_Builder_adjusted)] p_Builder_is_foreign [] b_Builder_is_foreign false)
@[irreducible] noncomputable def f_is_html_point:Fn:=opq (runFn [] p_is_html_point [] b_is_html_point false)
@[irreducible] noncomputable def f_is_math_point:Fn:=opq (runFn [] p_is_math_point [] b_is_math_point false)
@[irreducible] noncomputable def f_is_html_turn:Fn:=opq (runFn [(507,f_Builder_adjusted),(514,f_Builder_is_foreign),(221,f_is_html_point),(214,f_is_math_point)] p_is_html_turn [] b_is_html_turn false)
@[irreducible] noncomputable def f_Builder_process:Fn:=opq (runFn [(486,f_Builder_use),(528,f_is_html_turn)] p_Builder_process [] b_Builder_process false)
@[irreducible] noncomputable def f__law_inner:Fn:=opq (runFn [(493,f_Builder_process),(479,f_Builder_to),(249,f_OpenStack_pop)] p__law_inner [] b__law_inner false)
@[irreducible] noncomputable def f_Builder_use1:Fn:=opq (runFn [(836,f__law_body),(850,f__law_foreign),(843,f__law_inner)] p_Builder_use [] b_Builder_use false)
@[irreducible] noncomputable def f_Builder_process1:Fn:=opq (runFn [(486,f_Builder_use1),(528,f_is_html_turn)] p_Builder_process [] b_Builder_process false)
@[irreducible] noncomputable def f_Builder_feed:Fn:=opq (runFn [(493,f_Builder_process1)] p_Builder_feed [] b_Builder_feed false)
@[irreducible] noncomputable def f_Tokenizer_to:Fn:=opq (runFn [] p_Tokenizer_to [] b_Tokenizer_to false)
@[irreducible] noncomputable def f_hand_over:Fn:=opq (runFn [(500,f_Builder_feed),(514,f_Builder_is_foreign),(627,f_Tokenizer_to)] p_hand_over [] b_hand_over false)
@[irreducible] noncomputable def f_Tokenizer_is_ready:Fn:=opq (runFn [] p_Tokenizer_is_ready [] b_Tokenizer_is_ready false)
@[irreducible] noncomputable def f_Tokenizer_emit:Fn:=opq (runFn [] p_Tokenizer_emit [] b_Tokenizer_emit false)
@[irreducible] noncomputable def f_Tokenizer_emit_eof:Fn:=opq (runFn [] p_Tokenizer_emit_eof [] b_Tokenizer_emit_eof false)
@[irreducible] noncomputable def f_Tokenizer_emit_sign:Fn:=opq (runFn [] p_Tokenizer_emit_sign [] b_Tokenizer_emit_sign false)
@[irreducible] noncomputable def f_Tokenizer_next:Fn:=opq (runFn [] p_Tokenizer_next [] b_Tokenizer_next false)
@[irreducible] noncomputable def f__law_held:Fn:=opq (runFn [(648,f_Tokenizer_emit),(676,f_Tokenizer_emit_eof),(655,f_Tokenizer_emit_sign),(620,f_Tokenizer_next),(627,f_Tokenizer_to)] p__law_held [] b__law_held false)
@[irreducible] noncomputable def f_Tokenizer_again:Fn:=opq (runFn [] p_Tokenizer_again [] b_Tokenizer_again false)
@[irreducible] noncomputable def f_Tokenizer_emit_text:Fn:=opq (runFn [] p_Tokenizer_emit_text [] b_Tokenizer_emit_text false)
@[irreducible] noncomputable def f__law_reference:Fn:=opq (runFn [(634,f_Tokenizer_again),(655,f_Tokenizer_emit_sign),(662,f_Tokenizer_emit_text),(620,f_Tokenizer_next),(627,f_Tokenizer_to)] p__law_reference [] b__law_reference false)
@[irreducible] noncomputable def f_Tokenizer_error:Fn:=opq (runFn [] p_Tokenizer_error [] b_Tokenizer_error false)
@[irreducible] noncomputable def f_Tokenizer_looks:Fn:=opq (runFn [] p_Tokenizer_looks [.bool false] b_Tokenizer_looks false)
@[irreducible] noncomputable def f_Tokenizer_take:Fn:=opq (runFn [] p_Tokenizer_take [] b_Tokenizer_take false)
@[irreducible] noncomputable def f_Tokenizer_wait:Fn:=opq (runFn [] p_Tokenizer_wait [] b_Tokenizer_wait false)
@[irreducible] noncomputable def f__law_ends:Fn:=opq (runFn [] p__law_ends [] b__law_ends false)
@[irreducible] noncomputable def f__law_names:Fn:=opq (runFn [] p__law_names [] b__law_names false)
@[irreducible] noncomputable def f__law_tag_open:Fn:=opq (runFn [(634,f_Tokenizer_again),(648,f_Tokenizer_emit),(655,f_Tokenizer_emit_sign),(662,f_Tokenizer_emit_text),(641,f_Tokenizer_error),(691,f_Tokenizer_looks),(620,f_Tokenizer_next),(698,f_Tokenizer_take),(627,f_Tokenizer_to),(705,f_Tokenizer_wait),(768,f__law_ends),(761,f__law_names)] p__law_tag_open [] b__law_tag_open false)
@[irreducible] noncomputable def f_data_state:Fn:=opq (runFn [(676,f_Tokenizer_emit_eof),(655,f_Tokenizer_emit_sign),(641,f_Tokenizer_error),(620,f_Tokenizer_next),(627,f_Tokenizer_to)] p_data_state [] b_data_state false)
@[irreducible] noncomputable def f_Tokenizer_step:Fn:=opq (runFn [(815,f__law_held),(808,f__law_reference),(801,f__law_tag_open),(535,f_data_state)] p_Tokenizer_step [] b_Tokenizer_step false)
@[irreducible] noncomputable def f_drive:Fn:=opq (runFn [(514,f_Builder_is_foreign),(733,f_Tokenizer_is_ready),(726,f_Tokenizer_step),(28,f_hand_over)] p_drive [] b_drive false)
@[irreducible] noncomputable def f_start_state:Fn:=opq (runFn [] p_start_state [] b_start_state false)
@[irreducible] noncomputable def f_is_surrogate:Fn:=opq (runFn [] p_is_surrogate [] b_is_surrogate false)
@[irreducible] noncomputable def f_is_noncharacter:Fn:=opq (runFn [] p_is_noncharacter [] b_is_noncharacter false)
@[irreducible] noncomputable def f_is_control:Fn:=opq (runFn [] p_is_control [] b_is_control false)
@[irreducible] noncomputable def f_input_error:Fn:=opq (runFn [(207,f_is_control),(200,f_is_noncharacter),(193,f_is_surrogate)] p_input_error [] b_input_error false)
@[irreducible] noncomputable def f__law_digit:Fn:=opq (runFn [] p__law_digit [] b__law_digit false)
@[irreducible] noncomputable def f__law_spots:Fn:=opq (runFn [] p__law_spots [] b__law_spots false)
@[irreducible] noncomputable def f__law_kind:Fn:=opq (runFn [] p__law_kind [] b__law_kind true)
@[irreducible] noncomputable def f__law_text:Fn:=opq (runFn [(754,f__law_digit)] p__law_text [] b__law_text false)
@[irreducible] noncomputable def f_Formatting_init:Fn:=opq (runFn [] p_Formatting_init [] b_Formatting_init false)
@[irreducible] noncomputable def f_OpenStack_init:Fn:=opq (runFn [] p_OpenStack_init [] b_OpenStack_init false)
@[irreducible] noncomputable def f_Tree_init:Fn:=opq (runFn [(349,f_Tree_add)] p_Tree_init [] b_Tree_init false)
@[irreducible] noncomputable def f_Builder_init:Fn:=opq (runFn [(154,runNew 154 f_Formatting_init),(322,runNew 322 f_OpenStack_init),(439,runNew 439 f_Tree_init)] p_Builder_init [.bool false] b_Builder_init false)
@[irreducible] noncomputable def f_Stream_init:Fn:=opq (runFn [] p_Stream_init [] b_Stream_init false)
@[irreducible] noncomputable def f_Tokenizer_init:Fn:=opq (runFn [(580,runNew 580 f_Stream_init)] p_Tokenizer_init [.str "data",.str ""] b_Tokenizer_init false)
@[irreducible] noncomputable def f__law_begin:Fn:=opq (runFn [(517,runNew 517 f_Builder_init),(479,f_Builder_to),(242,f_OpenStack_push),(743,runNew 743 f_Tokenizer_init),(394,f_Tree_append),(358,f_Tree_element)] p__law_begin [] b__law_begin false)
@[irreducible] noncomputable def f__law_seen:Fn:=opq (runFn [] p__law_seen [] b__law_seen false)
@[irreducible] noncomputable def f__law_is_turn:Fn:=opq (runFn [] p__law_is_turn [] b__law_is_turn false)
@[irreducible] noncomputable def f__law_told:Fn:=opq (runFn [(768,f__law_ends),(761,f__law_names)] p__law_told [] b__law_told false)
@[irreducible] noncomputable def f__law_section:Fn:=opq (runFn [] p__law_section [] b__law_section false)
@[irreducible] noncomputable def f__law_due:Fn:=opq (runFn [(869,f__law_is_turn),(775,f__law_raws),(883,f__law_section),(876,f__law_told)] p__law_due [] b__law_due true)
@[irreducible] noncomputable def f_Stream_end:Fn:=opq (runFn [] p_Stream_end [] b_Stream_end false)
@[irreducible] noncomputable def f_Tokenizer_end:Fn:=opq (runFn [(570,f_Stream_end)] p_Tokenizer_end [] b_Tokenizer_end false)
@[irreducible] noncomputable def f_Stream_feed:Fn:=opq (runFn [(542,f_input_error)] p_Stream_feed [] b_Stream_feed false)
@[irreducible] noncomputable def f_Tokenizer_feed:Fn:=opq (runFn [(563,f_Stream_feed)] p_Tokenizer_feed [] b_Tokenizer_feed false)
@[irreducible] noncomputable def f_law:Fn:=opq (runFn [(613,f_Tokenizer_end),(606,f_Tokenizer_feed),(857,f__law_begin),(754,f__law_digit),(888,f__law_due),(787,f__law_kind),(862,f__law_seen),(782,f__law_spots),(794,f__law_text),(35,f_drive),(42,f_start_state)] p_law [] b_law false)
end
section
structure S where
 ix:Int
 state:Str
 back:Str
 last:Str
 out:List PyData
 errs:List PyData
 frn:Bool
 wait:Bool
 done:Bool
 signs:List PyData
 closed:Bool
 ret:Bool
 serrs:List PyData
 mode:Str
 orig:Str
 wish:Str
 ctx:Int
 notes:List PyData
 bdone:Bool
 kinds:List PyData
 sp:List Str
 nms:List Str
 attrs:List PyData
 texts:List PyData
 pa:List Int
 nC:Nat
 its:List Int
 jb:Nat
 j0:Nat
noncomputable def rulesT:List (Str × AV):=[("in body",.fn 836),("text",.fn 843),("foreign content",.fn 850)]
noncomputable def statesT:List (Str × AV):=[("data",.fn 535),("tag open",.fn 801),("character reference",.fn 808),("RCDATA",.fn 815),("RAWTEXT",.fn 815),("script data",.fn 815),("PLAINTEXT",.fn 815)]
noncomputable def tokF (s:S):List (Nat × AV):=[(194,.loc 18),(197,.loc 20),(41,.d (.int s.ix)),(193,.d (.str s.state)),(44,.d (.str s.back)),(150,.loc 23),(79,.loc 24),(65,.d .none),(47,.d (.str "")),(53,.d (.int 0)),(128,.d (.str s.last)),(107,.d (.bool s.frn)),(122,.d (.bool s.wait)),(104,.d (.bool s.done))]
noncomputable def strF (s:S):List (Nat × AV):=[(182,.loc 21),(101,.d (.bool s.closed)),(116,.d (.bool s.ret)),(79,.loc 22)]
noncomputable def bldF (s:S):List (Nat × AV):=[(176,.fd rulesT),(209,.loc 1),(191,.loc 10),(86,.loc 12),(137,.d (.str s.mode)),(149,.d (.str s.orig)),(138,.loc 14),(91,.d (.int (-1))),(85,.d (.int (-1))),(151,.loc 15),(109,.d (.bool true)),(117,.d (.bool false)),(108,.d (.bool false)),(57,.d (.int s.ctx)),(167,.d (.str "no-quirks")),(79,.loc 16),(155,.loc 17),(217,.d (.str s.wish)),(118,.d (.bool false)),(99,.d (.bool false)),(104,.d (.bool s.bdone))]
noncomputable def treF:List (Nat × AV):=[(127,.loc 2),(187,.loc 3),(142,.loc 4),(42,.loc 5),(203,.loc 6),(154,.loc 7),(50,.loc 8),(56,.loc 9)]
noncomputable def stkF:List (Nat × AV):=[(209,.loc 1),(123,.loc 11)]
noncomputable def fmtF:List (Nat × AV):=[(209,.loc 1),(123,.loc 13)]
noncomputable def mk (s:S):St :=
 { objs:=[(24,.dl s.errs),(23,.dl s.out),(22,.dl s.serrs),(21,.dl s.signs),(20,.inst 580 (strF s)),(19,.inst 743 (tokF s)),(18,.dict statesT),(17,.dl []),(16,.dl s.notes),(15,.dict []),(14,.dl []),(13,.dl []),(12,.inst 154 fmtF),(11,.dl (s.its.map .int)),(10,.inst 322 stkF),(9,.dict []),(8,.jl s.nC),(7,.dl (s.pa.map .int)),(6,.dl s.texts),(5,.dl s.attrs),(4,.dl (s.nms.map .str)),(3,.dl (s.sp.map .str)),(2,.dl s.kinds),(1,.inst 439 treF),(0,.inst 517 (bldF s))],next:=25,jb:=s.jb }
noncomputable def S.ix_ (s:S) (x:Int):S:={ s with ix:=x }
noncomputable def S.state_ (s:S) (x:Str):S:={ s with state:=x }
noncomputable def S.back_ (s:S) (x:Str):S:={ s with back:=x }
noncomputable def S.last_ (s:S) (x:Str):S:={ s with last:=x }
noncomputable def S.out_ (s:S) (x:List PyData):S:={ s with out:=x }
noncomputable def S.errs_ (s:S) (x:List PyData):S:={ s with errs:=x }
noncomputable def S.frn_ (s:S) (x:Bool):S:={ s with frn:=x }
noncomputable def S.wait_ (s:S) (x:Bool):S:={ s with wait:=x }
noncomputable def S.done_ (s:S) (x:Bool):S:={ s with done:=x }
noncomputable def S.signs_ (s:S) (x:List PyData):S:={ s with signs:=x }
noncomputable def S.closed_ (s:S) (x:Bool):S:={ s with closed:=x }
noncomputable def S.ret_ (s:S) (x:Bool):S:={ s with ret:=x }
noncomputable def S.serrs_ (s:S) (x:List PyData):S:={ s with serrs:=x }
noncomputable def S.mode_ (s:S) (x:Str):S:={ s with mode:=x }
noncomputable def S.orig_ (s:S) (x:Str):S:={ s with orig:=x }
noncomputable def S.wish_ (s:S) (x:Str):S:={ s with wish:=x }
noncomputable def S.ctx_ (s:S) (x:Int):S:={ s with ctx:=x }
noncomputable def S.notes_ (s:S) (x:List PyData):S:={ s with notes:=x }
noncomputable def S.bdone_ (s:S) (x:Bool):S:={ s with bdone:=x }
noncomputable def S.kinds_ (s:S) (x:List PyData):S:={ s with kinds:=x }
noncomputable def S.sp_ (s:S) (x:List Str):S:={ s with sp:=x }
noncomputable def S.nms_ (s:S) (x:List Str):S:={ s with nms:=x }
noncomputable def S.attrs_ (s:S) (x:List PyData):S:={ s with attrs:=x }
noncomputable def S.texts_ (s:S) (x:List PyData):S:={ s with texts:=x }
noncomputable def S.pa_ (s:S) (x:List Int):S:={ s with pa:=x }
noncomputable def S.nC_ (s:S) (x:Nat):S:={ s with nC:=x }
noncomputable def S.its_ (s:S) (x:List Int):S:={ s with its:=x }
noncomputable def S.jb_ (s:S) (x:Nat):S:={ s with jb:=x }
noncomputable def S.j0_ (s:S) (x:Nat):S:={ s with j0:=x }
theorem map1 {α β:Type} (f:α → β) (l:List α) (x:α):l.map f ++ [f x] = (l ++ [x]).map f:=by rw [List.map_append];rfl
theorem nd_x {st st':St} {k:St → Prop} (e:st = st') (h:k st'):nd st k:=e ▸ nd_i h
section
variable {s:S}
theorem nd_errs {x:List PyData}:St.put (mk s) 24 (.dl x) = mk (s.errs_ x):=rfl
theorem nd_out {x:List PyData}:St.put (mk s) 23 (.dl x) = mk (s.out_ x):=rfl
theorem nd_serrs {x:List PyData}:St.put (mk s) 22 (.dl x) = mk (s.serrs_ x):=rfl
theorem nd_signs {x:List PyData}:St.put (mk s) 21 (.dl x) = mk (s.signs_ x):=rfl
theorem nd_notes {x:List PyData}:St.put (mk s) 16 (.dl x) = mk (s.notes_ x):=rfl
theorem nd_texts {x:List PyData}:St.put (mk s) 6 (.dl x) = mk (s.texts_ x):=rfl
theorem nd_attrs {x:List PyData}:St.put (mk s) 5 (.dl x) = mk (s.attrs_ x):=rfl
theorem nd_kinds {x:List PyData}:St.put (mk s) 2 (.dl x) = mk (s.kinds_ x):=rfl
theorem nd_its {x:Int}:St.put (mk s) 11 (.dl (s.its.map .int ++ [.int x])) = mk (s.its_ (s.its ++ [x])):=by rw [map1];rfl
theorem nd_pa {x:Int}:St.put (mk s) 7 (.dl (s.pa.map .int ++ [.int x])) = mk (s.pa_ (s.pa ++ [x])):=by rw [map1];rfl
theorem nd_nms {x:Str}:St.put (mk s) 4 (.dl (s.nms.map .str ++ [.str x])) = mk (s.nms_ (s.nms ++ [x])):=by rw [map1];rfl
theorem nd_sp {x:Str}:St.put (mk s) 3 (.dl (s.sp.map .str ++ [.str x])) = mk (s.sp_ (s.sp ++ [x])):=by rw [map1];rfl
theorem nd_popIts:St.put (mk s) 11 (.dl (s.its.map .int).dropLast) = mk (s.its_ s.its.dropLast):=by rw [← List.map_dropLast];rfl
theorem nd_setPa {n:Nat} {x:Int}:St.put (mk s) 7 (.dl ((s.pa.map .int).set n (.int x))) = mk (s.pa_ (s.pa.set n x)):=by rw [← List.map_set];rfl
theorem nd_nC {x:Nat}:St.put (mk s) 8 (.jl x) = mk (s.nC_ x):=rfl
theorem nd_jb {x:Nat}:{ mk s with jb:=x } = mk (s.jb_ x):=rfl
theorem nd_ix {x:Int}:St.setF (mk s) 19 41 (.d (.int x)) = mk (s.ix_ x):=rfl
theorem nd_state {x:Str}:St.setF (mk s) 19 193 (.d (.str x)) = mk (s.state_ x):=rfl
theorem nd_back {x:Str}:St.setF (mk s) 19 44 (.d (.str x)) = mk (s.back_ x):=rfl
theorem nd_last {x:Str}:St.setF (mk s) 19 128 (.d (.str x)) = mk (s.last_ x):=rfl
theorem nd_frn {x:Bool}:St.setF (mk s) 19 107 (.d (.bool x)) = mk (s.frn_ x):=rfl
theorem nd_wait {x:Bool}:St.setF (mk s) 19 122 (.d (.bool x)) = mk (s.wait_ x):=rfl
theorem nd_done {x:Bool}:St.setF (mk s) 19 104 (.d (.bool x)) = mk (s.done_ x):=rfl
theorem nd_closed {x:Bool}:St.setF (mk s) 20 101 (.d (.bool x)) = mk (s.closed_ x):=rfl
theorem nd_ret {x:Bool}:St.setF (mk s) 20 116 (.d (.bool x)) = mk (s.ret_ x):=rfl
theorem nd_mode {x:Str}:St.setF (mk s) 0 137 (.d (.str x)) = mk (s.mode_ x):=rfl
theorem nd_orig {x:Str}:St.setF (mk s) 0 149 (.d (.str x)) = mk (s.orig_ x):=rfl
theorem nd_ctx {x:Int}:St.setF (mk s) 0 57 (.d (.int x)) = mk (s.ctx_ x):=rfl
theorem nd_wish {x:Str}:St.setF (mk s) 0 217 (.d (.str x)) = mk (s.wish_ x):=rfl
theorem nd_bdone {x:Bool}:St.setF (mk s) 0 104 (.d (.bool x)) = mk (s.bdone_ x):=rfl
theorem nd_skip:St.setF (mk s) 0 118 (.d (.bool false)) = mk s:=rfl
theorem nd_ack:St.setF (mk s) 0 99 (.d (.bool false)) = mk s:=rfl
end
end
section
noncomputable def Does (f:Fn) (xs:List AV) (st:St) (v:AV) (st':St):Prop:=∀ K:EK,K v st' → f xs st K
theorem Does.go {f:Fn} {xs:List AV} {st:St} {v:AV} {st':St} {K:EK} (h:Does f xs st v st') (k:K v st'):f xs st K:=h K k
noncomputable def bindD:List Nat → List PyData → Locs → Option Locs
 | [],ds,acc => cond ds.isEmpty (some acc) none
 | p :: ps,ds,acc => @List.casesOn _ (fun _ => Option Locs) ds none fun d r => bindD ps r ((p,.d d) :: acc)
noncomputable def bindQ (ds:List PyData):List Nat → List AV → Locs → Option Locs
 | [],avs,acc => cond avs.isEmpty (some acc) none
 | p :: ps,avs,acc => @List.casesOn _ (fun _ => Option Locs) avs (bindD (p :: ps) (ds.drop (ds.length - (ps.length + 1))) acc) fun a r => bindQ ds ps r ((p,a) :: acc)
theorem cond_e {α:Type} {b:Bool} {x y:α} (h:cond b (some x) none = some y):b = true ∧ x = y:=by
 cases b with
 | false => exact n0 h
 | true => exact ⟨rfl,Option.some.inj h⟩
theorem bindD_e {L:Locs} {ps:List Nat}:∀ {ds:List PyData} {acc:Locs},bindD ps ds acc = some L → ps.length = ds.length ∧ L = (ps.zip (ds.map .d)).reverse ++ acc:=by
 induction ps with
 | nil => exact fun {ds acc} h => have q:=cond_e h;em_e (C:=fun ds => [].length = ds.length ∧ L = ([].zip (ds.map AV.d)).reverse ++ acc) q.1 ⟨rfl,q.2.symm⟩
 | cons p ps ih =>
  intro ds acc h
  cases ds with
  | nil => exact n0 h
  | cons d r => have q:=ih h;exact ⟨congrArg (· + 1) q.1,by rw [q.2,List.map_cons,List.zip_cons_cons,List.reverse_cons,List.append_assoc];rfl⟩
theorem bindQ_e {L:Locs} {ds:List PyData} {ps:List Nat}:∀ {avs:List AV} {acc:Locs},bindQ ds ps avs acc = some L → avs.length ≤ ps.length ∧ ps.length ≤ avs.length + ds.length ∧ L = (ps.zip (avs ++ (ds.drop (ds.length - (ps.length - avs.length))).map .d)).reverse ++ acc:=by
 induction ps with
 | nil => exact fun {avs acc} h => have q:=cond_e h;em_e (C:=fun avs => avs.length ≤ [].length ∧ [].length ≤ avs.length + ds.length ∧ L = ([].zip (avs ++ (ds.drop (ds.length - ([].length - avs.length))).map AV.d)).reverse ++ acc) q.1 ⟨Nat.le_refl _,Nat.zero_le _,q.2.symm⟩
 | cons p ps ih =>
  intro avs acc h
  cases avs with
  | nil =>
   have q:=bindD_e h
   refine ⟨Nat.zero_le _,?_,q.2⟩
   have e:(p :: ps).length = ds.length - (ds.length - (ps.length + 1)):=q.1.trans (List.length_drop ..)
   rw [e,List.length_nil,Nat.zero_add];exact Nat.sub_le ..
  | cons a r =>
   have q:=ih h
   refine ⟨Nat.succ_le_succ q.1,by rw [List.length_cons,List.length_cons,Nat.add_right_comm];exact Nat.succ_le_succ q.2.1,?_⟩
   rw [q.2.2,List.length_cons,List.length_cons,Nat.add_sub_add_right,List.cons_append,List.zip_cons_cons,List.reverse_cons,List.append_assoc];rfl
theorem run_q {f:Fn} {T ps ds b} {avs:List AV} {L:Locs} {st:St} {K:EK} (e:f = opq (runFn T ps ds b false)) (hb:bindQ ds ps avs [] = some L) (h:wpSs T b L st (rK K)):f avs st K :=
 have q:=bindQ_e hb
 run_i e (by unfold bindP;rw [Nat.ble_eq_true_of_le q.1,Nat.ble_eq_true_of_le q.2.1];exact congrArg some (q.2.2.trans (List.append_nil _)).symm) h
theorem run_qf {f:Fn} {T ps ds b} {avs:List AV} {L:Locs} {st:St} {K:EK} (e:f = opq (runFn T ps ds b true)) (hb:bindQ ds ps avs [] = some L) (h:wpSs T b L st (rK fun v st' => fin true st.next v st' K)):f avs st K :=
 have q:=bindQ_e hb
 have hb':bindP ps ds avs = some L:=by unfold bindP;rw [Nat.ble_eq_true_of_le q.1,Nat.ble_eq_true_of_le q.2.1];exact congrArg some (q.2.2.trans (List.append_nil _)).symm
 by subst e;rw [opq_eq];unfold runFn;rw [hb'];exact h
theorem idx_ok {i:Int} (h:-(2 ^ 62) < i ∧ i < 2 ^ 62):rngI i = true:=by
 cases i with
 | ofNat n => exact Nat.ble_eq_true_of_le (show n < 4611686018427387904 from Int.ofNat_lt.mp h.2)
 | negSucc n => exact Nat.ble_eq_true_of_le (show n < 4611686018427387903 by omega)
theorem pyIdx_pos {α:Type} {xs:List α} {n:Nat} {a:α} (h:xs[n]? = some a):pyIdx xs (n:Int) = some a:=by
 have hl:(n:Int) < (xs.length:Int):=Int.ofNat_lt.mpr (List.getElem?_eq_some_iff.mp h).1
 unfold pyIdx seqIndex?
 rw [if_neg (Int.not_lt.mpr (Int.natCast_nonneg n)),if_pos (show (decide ((0:Int) ≤ n) && decide ((n:Int) < xs.length)) = true by rw [decide_eq_true (Int.natCast_nonneg n),decide_eq_true hl];rfl)]
 exact h
theorem tup0 {α β:Type} {f:α → β} {x:α} {xs:List α}:pyIdx ((x :: xs).map f) 0 = some (f x):=pyIdx_pos (n:=0) rfl
theorem tup1 {α β:Type} {f:α → β} {x y:α} {xs:List α}:pyIdx ((x :: y :: xs).map f) 1 = some (f y):=pyIdx_pos (n:=1) rfl
theorem lk_all {β:Type} {l:List (Str × β)} {p:β → Bool} {q:Str} {v:β} (h:l.all (fun e => p e.2) = true) (e:l.lookup q = some v):p v = true:=by
 induction l with
 | nil => exact n0 e
 | cons x r ih =>
  rw [List.lookup_cons] at e
  cases z:q == x.1 with
  | true => rw [z] at e;exact Option.some.inj e ▸ an_l h
  | false => rw [z] at e;exact ih (an_r h) e
theorem memOK_i {x:PyData} {ys:List PyData} (o:PyData.canLay0 x = true) (m:PyData.canLayAll0 ys = true) (d:decide (x.depth ≤ 64) = true):memOK x ys = true:=by
 unfold memOK;rw [o,m,d];rfl
theorem lay_i {x:PyData} {ys:List PyData} {B:Prop} (o:memOK x ys = true) (h:B):gd (memOK x ys) B:=ifc_t o h
end
section
noncomputable def PF (env:Env) (a:Addr):Prop:=a = env.locals ∨ ∃ n,env.cells.lookup n = some a
noncomputable def VarAt (env:Env) (m cm:Str → Option Value) (x:Str) (v:Value):Prop :=
 (env.kindOf x = some .local ∧ m x = some v) ∨ ((env.kindOf x = some .cell ∨ env.kindOf x = some .free) ∧ (env.cells.lookup x).isSome = true ∧ cm x = some v)
structure FrOK (P:Params) (G:Gh) (h:Heap) (env:Env) (m cm:Str → Option Value) (sc:Sc) (locs:Locs):Prop where
 kind:env.scope.kind = .function
 gl:env.globals = mainGlobals
 bl:env.builtins = builtinsNs
 ns:h.Ns env.locals m
 cell:∀ n c,env.cells.lookup n = some c → h.IsCell c (cm n)
 glob:∀ x,sc.lookup x = some .globalImplicit → env.kindOf x = some .globalImplicit
 locl:∀ x,env.kindOf x = some .local → sc.lookup x = some .local
 has:∀ x,sc.lookup x = some .cell ∨ sc.lookup x = some .free → (env.cells.lookup x).isSome = true
 vars:∀ i av,locs.lookup i = some av → isLoc sc i = true → ∃ v,VR P G v av ∧ VarAt env m cm (nm i) v
 apart:∀ n n' c,env.cells.lookup n = some c → env.cells.lookup n' = some c → n = n'
 ne:∀ n c,env.cells.lookup n = some c → c ≠ env.locals
 priv:∀ a,PF env a → G.own a = none ∧ G.fz a = none
section
variable {P:Params} {G G':Gh} {h h':Heap} {env:Env} {m cm:Str → Option Value} {sc:Sc} {L:Locs}
theorem FrOK.live (F:FrOK P G h env m cm sc L) {a:Addr} (p:PF env a):∃ o,h.get? a = some o :=
 p.elim (fun e => e ▸ F.ns.elim fun o q => q.elim fun _ q => q.elim fun _ q => ⟨o,q.1⟩) fun ⟨n,hc⟩ => (F.cell n a hc).elim fun o q => ⟨o,q.1⟩
theorem FrOK.heap (F:FrOK P G h env m cm sc L) (hk:∀ a o,PF env a → h.get? a = some o → h'.get? a = some o):FrOK P G h' env m cm sc L :=
 { F with ns:=F.ns.elim fun o q => q.elim fun es q => q.elim fun ep q => ⟨o,es,ep,hk _ _ (.inl rfl) q.1,q.2⟩,cell:=fun n c hc => (F.cell n c hc).elim fun o q => ⟨o,hk _ _ (.inr ⟨n,hc⟩) q.1,q.2⟩ }
theorem FrOK.ext (F:FrOK P G h env m cm sc L) (x:Ext noP G h G' h'):FrOK P G' h' env m cm sc L :=
  { F.heap (h':=h') fun a o p e => x.keep a o e (F.priv a p).1 id with
    vars:=fun i av hi hs => (F.vars i av hi hs).elim fun v q => ⟨v,q.1.mono x.gx,q.2⟩
    priv:=fun a p => (F.live p).elim fun o ho => ⟨Classical.byContradiction fun q => (x.own a q).elim (fun z => z (F.priv a p).1) fun z => n0 (z.symm.trans ho),
      Classical.byContradiction fun q => (x.fzn a q).elim (fun z => z (F.priv a p).2) fun z => z.elim (fun z => z (F.priv a p).1) fun z => n0 (z.symm.trans ho)⟩ }
end
structure Rm (n:Nat) (A:Around):Prop where
 hd:A.handled = none
 dep:A.depth + n ≤ 900
 un:A.units + 20 * n ≤ 9000
theorem cLine_val:cLine = 9900:=rfl
theorem Rm.u100 {n:Nat} {A:Around} (R:Rm n A):A.units + 100 < cLine:=cLine_val ▸ Nat.lt_of_le_of_lt (Nat.add_le_add_right (Nat.le_trans (Nat.le_add_right _ _) R.un) 100) (by decide)
noncomputable abbrev nope:Value → Shared → Prop:=fun _ _ => False
structure Zx where
 prog:Program
 w:World
 B:Heap
 K:Frag
 n:Nat
 T:Tab
structure Cx where
 A:Around
 env:Env
 sc:Sc
structure Pt where
 G:Gh
 s:Shared
noncomputable abbrev Zx.P (z:Zx):Params:=z.w.params
noncomputable abbrev wp (z:Zx) (c:Cx) {α:Type} (t:Sem α) (Q:α → Shared → Prop) (s:Shared):Prop:=wpAny (model z.prog z.w) c.A t Q nope s
structure Step (x y:Pt):Prop where
 eq:y.s = { x.s with heap:=y.s.heap,toks:=y.s.toks }
 le:x.s.toks ≤ y.s.toks
 ext:Ext noP x.G x.s.heap y.G y.s.heap
noncomputable abbrev RepP (z:Zx) (x:Pt) (st:St):Prop:=Rep z.P z.B x.G x.s.heap st
noncomputable abbrev VRP (z:Zx) (x:Pt) (v:Value) (a:AV):Prop:=VR z.P x.G v a
structure Sit (z:Zx) (c:Cx) (L:Locs) (x:Pt) (st:St):Prop where
 rm:Rm z.n c.A
 tok:0 < x.s.toks
 rep:RepP z x st
 fr:∃ m cm,FrOK z.P x.G x.s.heap c.env m cm c.sc L
section
variable {z:Zx} {c:Cx} {L:Locs} {x y y':Pt} {st st':St} {K:EK} {Q:Value → Shared → Prop} {v:Value} {av:AV}
theorem Step.refl (x:Pt):Step x x:=⟨rfl,Nat.le_refl _,.refl _ _ _⟩
theorem Step.trans (X:Step x y) (Y:Step y y'):Step x y':=⟨by rw [Y.eq,X.eq],Nat.le_trans X.le Y.le,X.ext.trans Y.ext⟩
theorem Step.of {G':Gh} {h':Heap} {tk:Nat} (X:Ext noP x.G x.s.heap G' h') (le:x.s.toks ≤ tk):Step x ⟨G',{ x.s with heap:=h',toks:=tk }⟩:=⟨rfl,le,X⟩
theorem Step.tk {tk:Nat} (le:x.s.toks ≤ tk):Step x ⟨x.G,{ x.s with toks:=tk }⟩:=⟨rfl,le,.refl _ _ _⟩
theorem Sit.next (S:Sit z c L x st) (X:Step x y) (R:RepP z y st'):Sit z c L y st' :=
 ⟨S.rm,Nat.lt_of_lt_of_le S.tok X.le,R,S.fr.elim fun m q => q.elim fun cm F => ⟨m,cm,F.ext X.ext⟩⟩
noncomputable def Post (z:Zx) (c:Cx) (L:Locs) (x:Pt) (K:EK) (Q:Value → Shared → Prop):Prop:=∀ v av y st',Step x y → Sit z c L y st' → VRP z y v av → K av st' → Q v y.s
noncomputable def Leaf (z:Zx) (x:Pt) (K:EK) (Q:Value → Shared → Prop):Prop:=∀ v av y st',Step x y → RepP z y st' → VRP z y v av → K av st' → Q v y.s
theorem Post.leaf (po:Post z c L x K Q) (X:Step x y) (S:Sit z c L y st):Leaf z y K Q:=fun v av y' st' Y R => po v av y' st' (X.trans Y) (S.next Y R)
theorem Leaf.here (po:Leaf z x K Q) (R:RepP z x st) (V:VRP z x v av) (k:K av st):Q v x.s:=po v av x st (.refl x) R V k
theorem Leaf.tok (po:Leaf z x K Q) (R:RepP z x st) (V:VRP z x v av) (k:K av st) {tk:Nat} (le:x.s.toks ≤ tk):Q v { x.s with toks:=tk }:=po v av ⟨x.G,{ x.s with toks:=tk }⟩ st (.tk le) R V k
theorem Leaf.tok1 (po:Leaf z x K Q) (R:RepP z x st) (V:VRP z x v av) (k:K av st):Q v { x.s with toks:=x.s.toks + 1 }:=po.tok R V k (Nat.le_succ _)
theorem toks_up {α:Type} {t:Sem α} {Q:α → Shared → Prop} {s:Shared} (h:wp z c t (fun v s' => s.toks ≤ s'.toks → Q v s') s):wp z c t Q s:=wpAny_mono (wpAny_toks h) (fun _ _ q => q.2 q.1) fun _ _ e => e.2
theorem up {α:Type} {t:Sem α} {A:Around} {M:Model} {s:Shared} {E:Value → Shared → Prop} {Q Q':α → Shared → Prop} (h:wpAny M A t Q E s) (k:∀ v s',Q v s' → Q' v s'):wpAny M A t Q' E s:=wpAny_mono h k fun _ _ e => e
noncomputable def EvOK (z:Zx) (me:ME):Prop:=∀ {c L x st K Q e},okE c.sc false me e = true → Sit z c L x st → wpE z.T me L st K → Post z c L x K Q → wp z c (eval e c.env) Q x.s
noncomputable def TPost (z:Zx) (c:Cx) (L:Locs) (x:Pt) (K:Bool → St → Prop) (Q:Bool → Shared → Prop):Prop:=∀ b y st',Step x y → Sit z c L y st' → K b st' → Q b y.s
noncomputable def TrueOK (z:Zx) (me:ME):Prop:=∀ {c L x st K Q e},okE c.sc true me e = true → Sit z c L x st → (wpE z.T me L st fun v st => v.bool fun b => K b st) → TPost z c L x K Q → wp z c (isTrue e c.env (eval e c.env)) Q x.s
noncomputable def EvsOK (z:Zx) (ms:MEs):Prop:=∀ {c L x st es Q} {K:List AV → St → Prop} {pos:Pos},okEs c.sc false ms es = true → Sit z c L x st → wpEs z.T ms L st K →
 (∀ vs avs y st',Step x y → Sit z c L y st' → avs.length = es.length → All2 (VR z.P y.G) vs avs → K avs st' → Q vs y.s) → wp z c (spliced (backTo pos (starEach es c.env))) Q x.s
section
variable {G:Gh}
theorem VR.el {P:Params} {C:Value → AV → Prop} (V:VR P G v av) (hd:∀ v x,DR G.fz v x → C v (.d x)) (hl:∀ n,n < G.nx → C (.ref (G.ad n)) (.loc n)) (hf:∀ a,C (.ref a) (.fn a)) (hu:∀ i t,0 ≤ i → i < 1099511627776 → C (.int i t) .unk) (hj:∀ a,G.own a = some .junk → C (.ref a) .junk)
  (ht:∀ a vs n xs,G.fz a = some (tupObj vs n) → All2 (VR0 P G) vs xs → C (.ref a) (.tup xs)) (hk:∀ a es n kvs,3 < a → G.fz a = some (dictOf es n) → All2 (ER P G) es kvs → C (.ref a) (.fd kvs)):C v av :=
 VR.rec (motive:=fun v a _ => C v a) (fun h => VR0.rec (motive:=fun v a _ => C v a) (hd _ _) (hl _) (hf _) (hu _ _) (hj _) h) (ht _ _ _ _) (hk _ _ _ _) V
theorem DR.el {f:Addr → Option Obj} {x:PyData} {C:Value → PyData → Prop} (V:DR f v x) (h0:C .none .none) (hb:∀ b,C (.bool b) (.bool b)) (hi:∀ i t,C (.int i t) (.int i)) (hs:∀ x t,C (.str x t) (.str x))
  (hl:∀ a vs n xs,f a = some (listOf vs n) → All2 (DR f) vs.toList xs → C (.ref a) (.list xs)) (ht:∀ a vs n xs,f a = some (tupObj vs n) → All2 (DR f) vs xs → C (.ref a) (.tuple xs)):C v x :=
 DR.casesOn (motive_1:=fun v x _ => C v x) V h0 hb hi hs (hl _ _ _ _) (ht _ _ _ _)
theorem dat_e {k:PyData → Prop} {C:Value → Prop} (V:VR z.P G v av) (h:av.dat k) (f:∀ v d,DR G.fz v d → k d → C v):C v :=
 V.el (C:=fun v a => a.dat k → C v) f (fun _ _ h => False.elim h) (fun _ h => False.elim h) (fun _ _ _ _ h => False.elim h) (fun _ _ h => False.elim h) (fun _ _ _ _ _ _ h => False.elim h) (fun _ _ _ _ _ _ _ h => False.elim h) h
theorem datC_e {k:PyData → Prop} {C:Prop} (V:VR z.P G v av) (h:av.dat k) (f:∀ d,DR G.fz v d → k d → C):C :=
 V.el (C:=fun v a => a.dat k → (∀ d,DR G.fz v d → k d → C) → C) (fun _ _ D h f => f _ D h) (fun _ _ h => False.elim h) (fun _ h => False.elim h) (fun _ _ _ _ h => False.elim h) (fun _ _ h => False.elim h) (fun _ _ _ _ _ _ h => False.elim h) (fun _ _ _ _ _ _ _ h => False.elim h) h f
section
variable {C:Value → Prop}
theorem int_e {k:Int → Prop} (V:VR z.P G v av) (h:av.int k) (f:∀ i t,k i → C (.int i t)):C v :=
 dat_e (k:=oInt False k) V h fun _ _ D => D.el (C:=fun v x => oInt False k x → C v) (fun h => False.elim h) (fun _ h => False.elim h) f (fun _ _ h => False.elim h) (fun _ _ _ _ _ _ h => False.elim h) (fun _ _ _ _ _ _ h => False.elim h)
theorem str_e {k:Str → Prop} (V:VR z.P G v av) (h:av.str k) (f:∀ i t,k i → C (.str i t)):C v :=
 dat_e (k:=oStr False k) V h fun _ _ D => D.el (C:=fun v x => oStr False k x → C v) (fun h => False.elim h) (fun _ h => False.elim h) (fun _ _ h => False.elim h) f (fun _ _ _ _ _ _ h => False.elim h) (fun _ _ _ _ _ _ h => False.elim h)
theorem bool_e {k:Bool → Prop} (V:VR z.P G v av) (h:av.bool k) (f:∀ i,k i → C (.bool i)):C v :=
 dat_e (k:=oBool False k) V h fun _ _ D => D.el (C:=fun v x => oBool False k x → C v) (fun h => False.elim h) f (fun _ _ h => False.elim h) (fun _ _ h => False.elim h) (fun _ _ _ _ _ _ h => False.elim h) (fun _ _ _ _ _ _ h => False.elim h)
theorem non_e {k:Prop} (V:VR z.P G v av) (h:av.non k) (f:k → C .none):C v :=
 dat_e (k:=fun x => @PyData.casesOn (fun _ => Prop) x k (fun _ => False) (fun _ => False) (fun _ => False) (fun _ => False) (fun _ => False) (fun _ => False)) V h fun _ _ D =>
  D.el (C:=fun v x => @PyData.casesOn (fun _ => Prop) x k (fun _ => False) (fun _ => False) (fun _ => False) (fun _ => False) (fun _ => False) (fun _ => False) → C v) f (fun _ h => False.elim h) (fun _ _ h => False.elim h) (fun _ _ h => False.elim h) (fun _ _ _ _ _ _ h => False.elim h) (fun _ _ _ _ _ _ h => False.elim h)
theorem flst_e {k:List PyData → Prop} (V:VR z.P G v av) (h:av.dat (oLst False k)) (f:∀ a vs n xs,G.fz a = some (listOf vs n) → All2 (DR G.fz) vs.toList xs → k xs → C (.ref a)):C v :=
 dat_e V h fun _ _ D => D.el (C:=fun v x => oLst False k x → C v) (fun h => False.elim h) (fun _ h => False.elim h) (fun _ _ h => False.elim h) (fun _ _ h => False.elim h) f (fun _ _ _ _ _ _ h => False.elim h)
theorem ftup_e {k:List PyData → Prop} (V:VR z.P G v av) (h:av.dat (oTup False k)) (f:∀ a vs n xs,G.fz a = some (tupObj vs n) → All2 (DR G.fz) vs xs → k xs → C (.ref a)):C v :=
 dat_e V h fun _ _ D => D.el (C:=fun v x => oTup False k x → C v) (fun h => False.elim h) (fun _ h => False.elim h) (fun _ _ h => False.elim h) (fun _ _ h => False.elim h) (fun _ _ _ _ _ _ h => False.elim h) f
theorem at_e {k:Nat → Prop} {C:AV → Value → Prop} (V:VR z.P G v av) (h:av.at k) (f:∀ n,n < G.nx → k n → C (.loc n) (.ref (G.ad n))):C av v :=
 V.el (C:=fun v a => a.at k → C a v) (fun _ _ _ h => False.elim h) f (fun _ h => False.elim h) (fun _ _ _ _ h => False.elim h) (fun _ _ h => False.elim h) (fun _ _ _ _ _ _ h => False.elim h) (fun _ _ _ _ _ _ _ h => False.elim h) h
theorem fun_e {k:Addr → Prop} (V:VR z.P G v av) (h:av.fun k) (f:∀ a,k a → C (.ref a)):C v :=
 V.el (C:=fun v a => a.fun k → C v) (fun _ _ _ h => False.elim h) (fun _ _ h => False.elim h) f (fun _ _ _ _ h => False.elim h) (fun _ _ h => False.elim h) (fun _ _ _ _ _ _ h => False.elim h) (fun _ _ _ _ _ _ _ h => False.elim h) h
theorem jnk_e {k:Prop} (V:VR z.P G v av) (h:av.jnk k) (f:∀ a,G.own a = some .junk → k → C (.ref a)):C v :=
 V.el (C:=fun v a => a.jnk k → C v) (fun _ _ _ h => False.elim h) (fun _ _ h => False.elim h) (fun _ h => False.elim h) (fun _ _ _ _ h => False.elim h) f (fun _ _ _ _ _ _ h => False.elim h) (fun _ _ _ _ _ _ _ h => False.elim h) h
theorem unk_e {k:Prop} (V:VR z.P G v av) (h:av.unkn k) (f:∀ i t,0 ≤ i → i < 1099511627776 → k → C (.int i t)):C v :=
 V.el (C:=fun v a => a.unkn k → C v) (fun _ _ _ h => False.elim h) (fun _ _ h => False.elim h) (fun _ h => False.elim h) f (fun _ _ h => False.elim h) (fun _ _ _ _ _ _ h => False.elim h) (fun _ _ _ _ _ _ _ h => False.elim h) h
theorem tpl_e {k:List AV → Prop} (V:VR z.P G v av) (h:av.tpl k) (f:∀ a vs n xs,G.fz a = some (tupObj vs n) → All2 (VR z.P G) vs xs → k xs → C (.ref a)):C v :=
 V.el (C:=fun v a => a.tpl k → C v) (fun _ _ D h => D.el (C:=fun v x => oTup False (fun xs => k (xs.map .d)) x → C v) (fun h => False.elim h) (fun _ h => False.elim h) (fun _ _ h => False.elim h) (fun _ _ h => False.elim h) (fun _ _ _ _ _ _ h => False.elim h) (fun _ _ _ _ g r h => f _ _ _ _ g (r.map fun _ _ h => VR.d h) h) h)
  (fun _ _ h => False.elim h) (fun _ h => False.elim h) (fun _ _ _ _ h => False.elim h) (fun _ _ h => False.elim h) (fun _ _ _ _ g r h => f _ _ _ _ g (r.mono fun _ _ => .s) h) (fun _ _ _ _ _ _ _ h => False.elim h) h
end
section
variable {C:Value → Prop}
theorem ob_e {n:Nat} {k:AObj → Prop} {C:Prop} (R:RepP z x st) (h:oSome False k (st.get n)) (f:∀ o,st.get n = some o → x.G.own (x.G.ad n) = some (.obj n) → OR z.P x.G x.s.heap n o → k o → C):C :=
 opt_e h fun o e k => have q:=R.objs n o e;f o e q.2.1 q.2.2 k
theorem OR.el {P:Params} {G:Gh} {h:Heap} {n:Nat} {o:AObj} {C:AObj → Prop} (R:OR P G h n o) (hl:∀ xs vs j,h.get? (G.ad n) = some (listOf vs j) → All2 (DR G.fz) vs.toList xs → C (.dl xs)) (hj:∀ m vs j,h.get? (G.ad n) = some (listOf vs j) → All2 (fun v _ => VR0 P G v .junk) vs.toList (List.replicate m ()) → C (.jl m))
  (hd:∀ kvs es j,h.get? (G.ad n) = some (dictOf es j) → All2 (ER P G) es kvs → C (.dict kvs)) (hi:∀ c fs es j,h.get? (G.ad n) = some (instObj c (G.dx n)) → G.own (G.dx n) = some (.dic n) → h.get? (G.dx n) = some (dictOf es j) → FnU P G es fs → C (.inst c fs)):C o :=
 OR.casesOn (motive:=fun o _ => C o) R (hl _ _ _) (hj _ _ _) (hd _ _ _) (hi _ _ _ _)
theorem dl_e {n:Nat} {k:List PyData → Prop} {C:Prop} (R:RepP z x st) (h:st.dl n k) (f:∀ xs vs j,st.get n = some (.dl xs) → x.G.own (x.G.ad n) = some (.obj n) → x.s.heap.get? (x.G.ad n) = some (listOf vs j) → All2 (DR x.G.fz) vs.toList xs → k xs → C):C :=
 ob_e (k:=oDl False k) R h fun _ e w o => o.el (C:=fun o => st.get n = some o → oDl False k o → C) (fun _ _ _ g d e h => f _ _ _ e w g d h) (fun _ _ _ _ _ _ h => False.elim h) (fun _ _ _ _ _ _ h => False.elim h) (fun _ _ _ _ _ _ _ _ _ h => False.elim h) e
theorem jl_e {n:Nat} {k:Nat → Prop} {C:Prop} (R:RepP z x st) (h:st.jl n k) (f:∀ m vs j,st.get n = some (.jl m) → x.G.own (x.G.ad n) = some (.obj n) → x.s.heap.get? (x.G.ad n) = some (listOf vs j) → All2 (fun v _ => VR0 z.P x.G v .junk) vs.toList (List.replicate m ()) → k m → C):C :=
 ob_e (k:=oJl False k) R h fun _ e w o => o.el (C:=fun o => st.get n = some o → oJl False k o → C) (fun _ _ _ _ _ _ h => False.elim h) (fun _ _ _ g d e h => f _ _ _ e w g d h) (fun _ _ _ _ _ _ h => False.elim h) (fun _ _ _ _ _ _ _ _ _ h => False.elim h) e
theorem dict_e {n:Nat} {k:List (Str × AV) → Prop} {C:Prop} (R:RepP z x st) (h:st.dict n k) (f:∀ kvs es j,st.get n = some (.dict kvs) → x.G.own (x.G.ad n) = some (.obj n) → x.s.heap.get? (x.G.ad n) = some (dictOf es j) → All2 (ER z.P x.G) es kvs → k kvs → C):C :=
 ob_e (k:=oDict False k) R h fun _ e w o => o.el (C:=fun o => st.get n = some o → oDict False k o → C) (fun _ _ _ _ _ _ h => False.elim h) (fun _ _ _ _ _ _ h => False.elim h) (fun _ _ _ g d e h => f _ _ _ e w g d h) (fun _ _ _ _ _ _ _ _ _ h => False.elim h) e
theorem lst_e {k:List PyData → Prop} (R:RepP z x st) (V:VRP z x v av) (h:av.lst st k) (f:∀ a vs n xs,x.s.heap.get? a = some (listOf vs n) → All2 (DR x.G.fz) vs.toList xs → k xs → C (.ref a)):C v :=
 V.el (C:=fun v a => a.lst st k → C v) (fun _ _ D h => D.el (C:=fun v x => oLst False k x → C v) (fun h => False.elim h) (fun _ h => False.elim h) (fun _ _ h => False.elim h) (fun _ _ h => False.elim h) (fun _ _ _ _ g r h => f _ _ _ _ (R.fz _ _ g).1 r h) (fun _ _ _ _ _ _ h => False.elim h) h)
  (fun _ _ h => dl_e R h fun xs vs j _ _ g d k => f _ _ _ _ g d k) (fun _ h => False.elim h) (fun _ _ _ _ h => False.elim h) (fun _ _ h => False.elim h) (fun _ _ _ _ _ _ h => False.elim h) (fun _ _ _ _ _ _ _ h => False.elim h) h
theorem not_sys {a:Addr} (l:3 < a):(a == sysModules) = false:=beq_eq_false_iff_ne.mpr (Nat.ne_of_gt (Nat.lt_of_lt_of_le (by decide:1 < 4) l))
theorem dic_e {k:List (Str × AV) → Prop} (R:RepP z x st) (V:VRP z x v av) (h:av.dic st k) (f:∀ a es n kvs,(a == sysModules) = false → x.s.heap.get? a = some (dictOf es n) → All2 (ER z.P x.G) es kvs → k kvs → C (.ref a)):C v :=
 V.el (C:=fun v a => a.dic st k → C v) (fun _ _ _ h => False.elim h) (fun _ _ h => dict_e R h fun kvs es j _ o g d k => f _ _ _ _ (not_sys (R.hi _ _ o)) g d k)
  (fun _ h => False.elim h) (fun _ _ _ _ h => False.elim h) (fun _ _ h => False.elim h) (fun _ _ _ _ _ _ h => False.elim h) (fun _ _ _ _ l g r h => f _ _ _ _ (not_sys l) (R.fz _ _ g).1 r h) h
end
end
theorem data0_reads {d:PyData} (R:RepP z x st) (V:VR0 z.P x.G v av) (h:av.data0 st = some d):∃ as,Reads x.s.heap v d as :=
 have fz:∀ a o,x.G.fz a = some o → x.s.heap.get? a = some o:=fun a o q => (R.fz a o q).1
 (VR.s V).el (C:=fun v a => a.data0 st = some d → ∃ as,Reads x.s.heap v d as) (fun _ _ D h => Option.some.inj h ▸ D.reads fz)
  (fun n _ h => dl_e (k:=fun xs => some (PyData.list xs) = some d) R (Option.casesOn (motive:=fun o => oSome none (oDl none fun xs => some (PyData.list xs)) o = some d → oSome False (oDl False fun xs => some (PyData.list xs) = some d) o) (st.get n) n0 (fun o => AObj.casesOn (motive:=fun o => oDl none (fun xs => some (PyData.list xs)) o = some d → oDl False (fun xs => some (PyData.list xs) = some d) o) o (fun _ h => h) (fun _ => n0) (fun _ => n0) (fun _ _ => n0)) h)
   fun xs vs j _ _ g D e => Option.some.inj e ▸ (show ∃ as,Reads x.s.heap _ (.list xs) as from
    DR.rec_1 (fz:=x.G.fz) (motive_1:=fun v x' _ => ∃ as,Reads x.s.heap v x' as) (motive_2:=fun vs xs _ => ∃ as,ReadsAll x.s.heap vs xs as) ⟨_,.none⟩ (fun b => ⟨_,.bool b⟩) (fun i t => ⟨_,.int i t⟩) (fun i t => ⟨_,.str i t⟩)
     (fun h _ ⟨_,q⟩ => ⟨_,.list (fz _ _ h) rfl rfl q⟩) (fun h _ ⟨_,q⟩ => ⟨_,.tuple (fz _ _ h) rfl rfl q⟩) ⟨_,.nil⟩ (fun _ _ ⟨_,q⟩ ⟨_,p⟩ => ⟨_,.cons q p⟩) D |>.elim fun _ q => ⟨_,.list g rfl rfl q⟩))
  (fun _ h => n0 h) (fun _ _ _ _ h => n0 h) (fun _ _ h => n0 h) (fun _ _ _ _ _ _ h => n0 h) (fun _ _ _ _ _ _ _ h => n0 h) h
theorem bindc {α β γ:Type} {o:Option α} {p:Option β} {f:α → β → γ} {c:γ} {C:Prop} (h:oSome none (fun y => oSome none (fun ys => some (f y ys)) p) o = some c) (k:∀ a b,o = some a → p = some b → f a b = c → C):C:=by
 cases o with
 | none => exact n0 h
 | some a => cases p with
  | none => exact n0 h
  | some b => exact k a b rfl rfl (Option.some.inj h)
theorem datas_reads {vs:List Value} {as:List AV} (R:RepP z x st) (r:All2 (VR0 z.P x.G) vs as):∀ {ds:List PyData},datas (AV.data0 st) as = some ds → ∃ bs,ReadsAll x.s.heap vs ds bs :=
 All2.rec (motive:=fun vs as _ => ∀ {ds:List PyData},datas (AV.data0 st) as = some ds → ∃ bs,ReadsAll x.s.heap vs ds bs) (fun h => Option.some.inj h ▸ ⟨_,.nil⟩)
  (@fun _ _ _ _ a _ ih _ h => bindc (f:=List.cons) h fun y ys e1 e2 e => e ▸ (data0_reads R a e1).elim fun _ q => (ih e2).elim fun _ p => ⟨_,.cons q p⟩) r
theorem data_reads {d:PyData} (R:RepP z x st) (V:VRP z x v av) (h:av.data st = some d):∃ as,Reads x.s.heap v d as :=
 V.el (C:=fun v a => a.data st = some d → ∃ as,Reads x.s.heap v d as) (fun _ _ D h => data0_reads R (.d D) h) (fun _ l h => data0_reads R (.loc l) h) (fun _ h => n0 h) (fun _ _ _ _ h => n0 h) (fun _ _ h => n0 h)
  (fun a vs n xs g r h => bindc (o:=some ()) (f:=fun _ => PyData.tuple) h fun _ ds _ e q => q ▸ (datas_reads R r e).elim fun as q => ⟨_,.tuple (R.fz _ _ g).1 rfl rfl q⟩) (fun _ _ _ _ _ _ _ h => n0 h) h
end
end
section
section
variable {z:Zx} {c:Cx} {L:Locs} {x y:Pt} {st st':St} {K:EK} {Q:Value → Shared → Prop} {va vb:Value} {a b:AV}
theorem bigLen_line {n:Nat} (h:n ≤ bigLen):n ≤ sizeLine:=sizeLine_eq ▸ Nat.le_trans h (by decide)
theorem big' {n:Nat} (h:decide (n ≤ bigLen) = true):n ≤ sizeLine:=bigLen_line (of_decide_eq_true h)
theorem dats_dr {P:Params} {G:Gh} {vs:List Value} {as:List AV} (r:All2 (VR P G) vs as):∀ {ds:List PyData},dats as = some ds → All2 (DR G.fz) vs ds :=
 All2.rec (motive:=fun vs as _ => ∀ {ds:List PyData},dats as = some ds → All2 (DR G.fz) vs ds) (fun h => Option.some.inj h ▸ .nil)
  (@fun _ _ _ _ V _ ih _ h => bindc (f:=List.cons) h fun d ds e1 e2 e => e ▸ .cons (V.el (C:=fun v a => onD none some a = some d → DR G.fz v d) (fun _ _ D h => Option.some.inj h ▸ D) (fun _ _ => n0) (fun _ => n0) (fun _ _ _ _ => n0) (fun _ _ => n0) (fun _ _ _ _ _ _ => n0) (fun _ _ _ _ _ _ _ => n0) e1) (ih e2)) r
theorem VR.simple {P:Params} {G:Gh} (V:VR P G va a):a.simple = true → VR0 P G va a :=
 V.el (C:=fun v a => a.simple = true → VR0 P G v a) (fun _ _ D _ => .d D) (fun _ l _ => .loc l) (fun _ _ => .fn) (fun _ _ p q _ => .unk p q) (fun _ j _ => .junk j) (fun _ _ _ _ _ _ => nb0) (fun _ _ _ _ _ _ _ => nb0)
theorem simples {P:Params} {G:Gh} {vs:List Value} {as:List AV} (r:All2 (VR P G) vs as):as.all AV.simple = true → All2 (VR0 P G) vs as :=
 All2.rec (motive:=fun vs as _ => as.all AV.simple = true → All2 (VR0 P G) vs as) (fun _ => .nil) (fun V _ ih h => .cons (V.simple (an_l h)) (ih (an_r h))) r
theorem mkTup_vr {P:Params} {G:Gh} {vs:List Value} {as:List AV} {t:AV} {p:Addr} {n:Nat} (g:G.fz p = some (tupObj vs n)) (r:All2 (VR P G) vs as) (h:mkTup as = some t):VR P G (.ref p) t:=by
  unfold mkTup at h
  cases e:dats as with
  | some ds => rw [e] at h;exact Option.some.inj h ▸ .d (.tuple g (dats_dr r e))
  | none =>
    rw [e] at h
    cases e2:as.all AV.simple with
    | true => have h:cond (as.all AV.simple) (some (AV.tup as)) none = some t:=h
              rw [e2] at h;exact Option.some.inj h ▸ .tup g (simples r e2)
    | false => have h:cond (as.all AV.simple) (some (AV.tup as)) none = some t:=h
               rw [e2] at h;exact n0 h
theorem frz_go {o:Obj} {av:AV} (R:RepP z x st) (hf:o.isFreed = false) (V:∀ G',Gx x.G G' → G'.fz x.s.heap.objs.size = some o → VR z.P G' (.ref x.s.heap.objs.size) av) (k:K av st) (po:Leaf z x K Q):Q (.ref x.s.heap.objs.size) { x.s with heap:=x.s.heap.push o } :=
 have n:=fresh_none x.s.heap (Nat.le_refl _)
 have q:=alloc_fz (o:=o) R (fun _ _ e => Heap.get?_push_of_some _ e) n (Heap.get?_push_size _ hf)
 po _ av ⟨_,{ x.s with heap:=x.s.heap.push o }⟩ st (.of q.1 (Nat.le_refl _)) q.2 (V _ q.1.gx Gh.frz_at) k
theorem mkList_go {l:Bool} {vs:List Value} {xs:List PyData} (R:RepP z x st) (D:All2 (DR x.G.fz) vs xs) (h:mkList l xs st K) (po:Leaf z x K Q):Q (.ref x.s.heap.objs.size) { x.s with heap:=x.s.heap.push (listOf vs.toArray 0) }:=by
 cases l with
 | false => exact frz_go R rfl (fun G' gx e => .d (.list e (D.mono fun _ _ => DR.mono gx.fz))) h po
 | true =>
  obtain ⟨G',X,R',V⟩:=alloc_own (ob:=.dl xs) (o:=listOf vs.toArray 0) R rfl fun G' gx e => .dl (e ▸ Heap.get?_push_size _ rfl) (D.mono fun _ _ => DR.mono gx.fz)
  exact po _ _ ⟨G',{ x.s with heap:=x.s.heap.push (listOf vs.toArray 0) }⟩ _ (.of X (Nat.le_refl _)) R' V (nd_e h)
theorem mkTup_go {vs:List Value} {xs:List AV} {t:AV} (R:RepP z x st) (D:All2 (VR z.P x.G) vs xs) (h:mkTup xs = some t) (k:K t st) (po:Leaf z x K Q):Q (.ref x.s.heap.objs.size) { x.s with heap:=x.s.heap.push (tupObj vs 0) } :=
 frz_go R rfl (fun G' gx e => mkTup_vr e (D.mono fun _ _ => VR.mono gx) h) k po
theorem bin_go {o:BK} (R:RepP z x st) (Va:VRP z x va a) (Vb:VRP z x vb b) (h:binW o a b st K) (po:Leaf z x K Q):wp z c (binaryOp o.op va vb) Q x.s:=by
 cases o with
 | addI => exact int_e (C:=fun v => wp z c (binaryOp .Add v vb) Q x.s) Va h fun i t h => int_e (C:=fun v => wp z c (binaryOp .Add (.int i t) v) Q x.s) Vb h fun j u h => PySem.P.add_int (po.tok1 R .int h)
 | sub => exact int_e (C:=fun v => wp z c (binaryOp .Sub v vb) Q x.s) Va h fun i t h => int_e (C:=fun v => wp z c (binaryOp .Sub (.int i t) v) Q x.s) Vb h fun j u h => PySem.P.sub_int (po.tok1 R .int h)
 | mod => exact toks_up (int_e (C:=fun v => wp z c (binaryOp .Mod v vb) _ x.s) Va h fun i t h => int_e (C:=fun v => wp z c (binaryOp .Mod (.int i t) v) _ x.s) Vb h fun j u h => gd_e h fun q h => mod_int' (beq_eq_false_iff_ne.mp (Bool.not_eq_true' _ |>.mp q)) fun le => po.tok R .int h le)
 | fdiv => exact toks_up (int_e (C:=fun v => wp z c (binaryOp .FloorDiv v vb) _ x.s) Va h fun i t h => int_e (C:=fun v => wp z c (binaryOp .FloorDiv (.int i t) v) _ x.s) Vb h fun j u h => gd_e h fun q h =>
   have q1:=of_decide_eq_true (an_l q);have q2:=of_decide_eq_true (an_r q)
   floordiv_int (Int.ne_of_gt q1) (fun le => po.tok R .int h le) (.inl (PyProof.noPylong_small (by omega))))
 | addS => exact toks_up (str_e (C:=fun v => wp z c (binaryOp .Add v vb) _ x.s) Va h fun i t h => str_e (C:=fun v => wp z c (binaryOp .Add (.str i t) v) _ x.s) Vb h fun j u h => gd_e h fun q h => PyProof.Rows.add_str (fun _ _ le => po.tok R .str h le) (big' q))
 | addL l =>
  exact lst_e (C:=fun v => wp z c (binaryOp .Add v vb) _ x.s) R Va h fun p vs n xs g1 d1 h => lst_e (C:=fun v => wp z c (binaryOp .Add (.ref p) v) _ x.s) R Vb h fun q us m ys g2 d2 h => gd_e h fun e h => by
   refine PySem.P.add_list g1 g2 ?_ (by rw [← Array.length_toList,← Array.length_toList,d1.length,d2.length];exact big' e)
   have q:=mkList_go R (d1.append d2) h po
   rw [show (vs.toList ++ us.toList).toArray = vs ++ us from by simp] at q
   exact q
 | addT =>
  exact tpl_e (C:=fun v => wp z c (binaryOp .Add v vb) _ x.s) (k:=fun xs => b.tpl fun ys => gd (!xs.isEmpty && !ys.isEmpty && decide (xs.length + ys.length ≤ bigLen)) (opt (mkTup (xs ++ ys)) fun t => K t st)) Va h fun p vs n xs g1 d1 h => tpl_e (C:=fun v => wp z c (binaryOp .Add (.ref p) v) _ x.s) Vb h fun q us m ys g2 d2 h => gd_e h fun e h => opt_e h fun t et k => by
   have e1:∀ {l:List Value} {r:List AV},All2 (VR z.P x.G) l r → (!r.isEmpty) = true → l ≠ []:=fun d e z => by subst z;cases d;cases e
   refine PySem.P.add_tuple (R.fz _ _ g1).1 (R.fz _ _ g2).1 (by simpa using e1 d1 (an_l (an_l e))) (by simpa using e1 d2 (an_r (an_l e))) ?_ (by rw [List.size_toArray,List.size_toArray,d1.length,d2.length];exact big' (an_r e))
   have q:=mkTup_go R (d1.append d2) et k po
   simpa using q
theorem str_beq (x y:Str):(x.cps.toList == y.cps.toList) = (x == y):=by
 rw [Bool.eq_iff_iff,beq_iff_eq,beq_iff_eq]
 exact ⟨fun h => Str.ext' (Array.toList_inj.mp h),fun h => h ▸ rfl⟩
section
variable {KB:Bool → Prop}
noncomputable def BLeaf (z:Zx) (x:Pt) (st:St) (KB:Bool → Prop) (Q:Value → Shared → Prop):Prop:=Leaf z x (fun v st' => v.bool fun b => KB b ∧ st' = st) Q
theorem BLeaf.here (po:BLeaf z x st KB Q) (R:RepP z x st) {b:Bool} (k:KB b):Q (.bool b) x.s:=Leaf.here po R .bool ⟨k,rfl⟩
theorem BLeaf.tok1 (po:BLeaf z x st KB Q) (R:RepP z x st) {b:Bool} (k:KB b):Q (.bool b) { x.s with toks:=x.s.toks + 1 }:=Leaf.tok1 po R .bool ⟨k,rfl⟩
theorem ents_find {P:Params} {G:Gh} {es:List DictEntry} {kvs:List (Str × AV)} (r:All2 (ER P G) es kvs) (k:Str):(kvs.lookup k = none ∧ findBy Value.isStrOf es.toArray k = none) ∨ ∃ av v,kvs.lookup k = some av ∧ findBy Value.isStrOf es.toArray k = some v ∧ VR0 P G v av:=by
 induction r with
 | nil => exact .inl ⟨rfl,rfl⟩
 | cons e _ ih =>
  cases e with
  | mk V =>
   rename_i k₀ t v a
   by_cases q:k = k₀
   ·exact .inr ⟨a,v,by rw [List.lookup_cons,beq_iff_eq.mpr q],by simp [findBy,Value.isStrOf,q],V⟩
   ·have q':(k == k₀) = false:=beq_eq_false_iff_ne.mpr q
    have q2:Value.isStrOf k (.str k₀ t) = false:=by simp only [Value.isStrOf,beq_eq_false_iff_ne];first | exact q | exact fun z => q z.symm
    have e:∀ es:List DictEntry,findBy Value.isStrOf (⟨PyData.keyHash P k₀,.str k₀ t,v⟩ :: es).toArray k = findBy Value.isStrOf es.toArray k:=fun es => by
     unfold findBy;rw [List.find?_toArray,List.find?_toArray,List.find?_cons];simp only [q2]
    rw [e,List.lookup_cons,q']
    exact ih
theorem ents_keys {P:Params} {G:Gh} {es:List DictEntry} {kvs:List (Str × AV)} (r:All2 (ER P G) es kvs):∀ e ∈ es,∃ x t,e.key = .str x t ∧ e.hash = PyData.keyHash P x:=by
 induction r with
 | nil => intro e h;cases h
 | cons e _ ih =>
  intro e' h
  rcases List.mem_cons.mp h with q | h
  ·subst q;cases e;exact ⟨_,_,rfl,rfl⟩
  ·exact ih e' h
theorem ents_map (z:Zx) {G:Gh} {h:Heap} {a:Addr} {es:List DictEntry} {kvs:List (Str × AV)} {n:Nat} (hg:h.get? a = some (dictOf es n)) (E:All2 (ER z.P G) es kvs):h.MapOf (strKind z.prog z.w) a (fun k => findBy Value.isStrOf es.toArray k) :=
 ⟨_,es.toArray,n,hg,⟨rfl,rfl,rfl⟩,rfl,fun e he => (ents_keys E e (by simpa using he)).elim fun x q => q.elim fun t q => ⟨x,by rw [q.1];exact strKind_is z.prog z.w x t,q.2⟩,fun _ => rfl⟩
theorem memOK_e {ys:List PyData} {d:PyData} (hu:c.A.units + 100 < cLine) (h:memOK d ys = true):d.canLay0 = true ∧ PyData.canLayAll0 ys = true ∧ c.A.units + 1 + min (PyData.depthAll ys) d.depth < cLine :=
 ⟨an_l (an_l h),an_r (an_l h),Nat.lt_of_le_of_lt (Nat.add_le_add_left (Nat.le_trans (Nat.min_le_right _ _) (of_decide_eq_true (an_r h))) _) (by omega)⟩
theorem inT_go (R:RepP z x st) (hu:c.A.units + 100 < cLine) (Va:VRP z x va a) (Vb:VRP z x vb b) {op:CmpOp} {f:Bool → Bool}
  (ht:∀ {as bs:List Addr} {d:PyData} {ys:List PyData} {Q:Value → Shared → Prop},Reads x.s.heap vb (.tuple ys) bs → Reads x.s.heap va d as → PyData.canLayAll0 ys = true → d.canLay0 = true → c.A.units + 1 + min (PyData.depthAll ys) d.depth < cLine → Q (.bool (f (memD d ys))) x.s → wp z c (compareOp op va vb) Q x.s)
  (hl:∀ {as bs:List Addr} {d:PyData} {ys:List PyData} {Q:Value → Shared → Prop},Reads x.s.heap vb (.list ys) bs → Reads x.s.heap va d as → PyData.canLayAll0 ys = true → d.canLay0 = true → c.A.units + 1 + min (PyData.depthAll ys) d.depth < cLine → Q (.bool (f (memD d ys))) x.s → wp z c (compareOp op va vb) Q x.s)
  (h:inT a b st fun r => KB (f r)) (po:BLeaf z x st KB Q):wp z c (compareOp op va vb) Q x.s :=
 datC_e Va h fun d D h => opt_e h fun y ey h => (data_reads R (.d D) rfl).elim fun _ ra => (data_reads R Vb ey).elim fun _ rb =>
  PyData.casesOn (motive_1:=fun y => Reads x.s.heap vb y _ → seqD y (fun ys => gd (memOK d ys) (KB (f (memD d ys)))) → wp z c (compareOp op va vb) Q x.s) y (fun _ h => False.elim h) (fun _ _ h => False.elim h) (fun _ _ h => False.elim h) (fun _ _ h => False.elim h)
   (fun ys rb h => gd_e h fun q k => have m:=memOK_e hu q;hl rb ra m.2.1 m.1 m.2.2 (po.here R k)) (fun ys rb h => gd_e h fun q k => have m:=memOK_e hu q;ht rb ra m.2.1 m.1 m.2.2 (po.here R k)) (fun _ _ h => False.elim h) rb h
theorem inK_go (R:RepP z x st) (Va:VRP z x va a) (Vb:VRP z x vb b) {op:CmpOp} {f:Bool → Bool}
  (hk:∀ {k:Str} {t:Tok} {d:Addr} {m:Str → Option Value} {Q:Value → Shared → Prop},(strKind z.prog z.w).is k (.str k t) = true → (d == sysModules) = false → x.s.heap.MapOf (strKind z.prog z.w) d m → Q (.bool (f (m k).isSome)) { x.s with toks:=x.s.toks + 1 } → wp z c (compareOp op (.str k t) (.ref d)) Q x.s)
  (h:inK a b st fun r => KB (f r)) (po:BLeaf z x st KB Q):wp z c (compareOp op va vb) Q x.s :=
 str_e (C:=fun v => wp z c (compareOp op v vb) Q x.s) Va h fun k t h => dic_e (C:=fun v => wp z c (compareOp op (.str k t) v) Q x.s) R Vb h fun d es n kvs lo g E h =>
  hk (strKind_is z.prog z.w k t) lo (ents_map z g E) (po.tok1 R (by
   rcases ents_find E k with q | ⟨av,v,q1,q2,_⟩
   ·rw [q.1] at h;rw [q.2];exact h
   ·rw [q1] at h;rw [q2];exact h))
theorem eqD_go (R:RepP z x st) (Va:VRP z x va a) (Vb:VRP z x vb b) {f:Bool → Bool} {t:Sem Value}
  (he:∀ {da db:PyData} {as bs:List Addr} {Q:Value → Shared → Prop},Reads x.s.heap va da as → Reads x.s.heap vb db bs → SeqAt.shaped da = true → SeqAt.shaped db = true → Q (.bool (f (PyData.eqv da db))) x.s → wp z c t Q x.s)
  (h:eqD a b st fun r => KB (f r)) (po:BLeaf z x st KB Q):wp z c t Q x.s :=
 opt_e h fun d e1 h => opt_e h fun d' e2 h => gd_e h fun q k => (data_reads R Va e1).elim fun _ r1 => (data_reads R Vb e2).elim fun _ r2 => he r1 r2 (an_l q) (an_r q) (po.here R k)
theorem ii_go (Va:VRP z x va a) (Vb:VRP z x vb b) {t:Value → Value → Sem Value} {k:Int → Int → Prop} (h:a.int fun i => b.int fun j => k i j) (f:∀ i j u w,k i j → wp z c (t (.int i u) (.int j w)) Q x.s):wp z c (t va vb) Q x.s :=
 int_e (C:=fun v => wp z c (t v vb) Q x.s) Va h fun i u h => int_e (C:=fun v => wp z c (t (.int i u) v) Q x.s) Vb h fun j w h => f i j u w h
theorem ss_go (Va:VRP z x va a) (Vb:VRP z x vb b) {t:Value → Value → Sem Value} {k:Str → Str → Prop} (h:a.str fun i => b.str fun j => k i j) (f:∀ i j u w,k i j → wp z c (t (.str i u) (.str j w)) Q x.s):wp z c (t va vb) Q x.s :=
 str_e (C:=fun v => wp z c (t v vb) Q x.s) Va h fun i u h => str_e (C:=fun v => wp z c (t (.str i u) v) Q x.s) Vb h fun j w h => f i j u w h
theorem cmp_go {o:CK} (R:RepP z x st) (hu:c.A.units + 100 < cLine) (Va:VRP z x va a) (Vb:VRP z x vb b) (h:cmpW o a b st KB) (po:BLeaf z x st KB Q):wp z c (compareOp o.op va vb) Q x.s:=by
 have hu1:c.A.units + 64 < cLine:=by omega
 cases o with
 | lt => exact ii_go Va Vb h fun i j u w k => PySem.P.lt_int (po.here R k)
 | gt => exact ii_go Va Vb h fun i j u w k => PySem.P.gt_int (po.here R k)
 | le => exact ii_go Va Vb h fun i j u w k => PySem.P.le_int (po.here R k)
 | ge => exact ii_go Va Vb h fun i j u w k => PySem.P.ge_int (po.here R k)
 | eqI => exact ii_go Va Vb h fun i j u w k => PyProof.Rows.eq_int (po.here R k)
 | neI => exact ii_go Va Vb h fun i j u w k => PyProof.Rows.ne_int (po.here R k)
 | eqS => exact ss_go Va Vb h fun i j u w k => PySem.P.eq_str (by rw [str_beq];exact po.here R k)
 | neS => exact ss_go Va Vb h fun i j u w k => PySem.P.ne_str (by unfold bne;rw [str_beq];exact po.here R k)
 | eqD => exact eqD_go (f:=id) R Va Vb (fun r1 r2 h1 h2 q => eq_dataH r1 r2 h1 h2 hu1 q) h po
 | neD => exact eqD_go (f:=(! ·)) R Va Vb (fun r1 r2 h1 h2 q => ne_dataH r1 r2 h1 h2 hu1 q) h po
 | inT => exact inT_go (f:=id) R hu Va Vb (fun r2 r1 m2 m1 m3 q => SeqAt.in_tuple_reads r2 r1 m2 m1 m3 q) (fun r2 r1 m2 m1 m3 q => SeqAt.in_list_reads r2 r1 m2 m1 m3 q) h po
 | ninT => exact inT_go (f:=(! ·)) R hu Va Vb (fun r2 r1 m2 m1 m3 q => SeqAt.notIn_tuple_reads r2 r1 m2 m1 m3 q) (fun r2 r1 m2 m1 m3 q => SeqAt.notIn_list_reads r2 r1 m2 m1 m3 q) h po
 | inK => exact inK_go (f:=id) R Va Vb (fun k lo m q => wpAny_in_of k lo m q) h po
 | ninK => exact inK_go (f:=(! ·)) R Va Vb (fun k lo m q => wpAny_notIn_of k lo m q) h po
 | inS => exact toks_up (ss_go Va Vb h fun i j u w k => SB.contains fun le => Leaf.tok po R .bool ⟨k,rfl⟩ le)
end
end
end
section
section
variable {z:Zx} {c:Cx} {L:Locs} {x y:Pt} {st st':St} {K:EK} {Q:Value → Shared → Prop} {va vb:Value} {a b:AV}
theorem plain_sub {slice:Expr} (h:plainIdx slice = true) (o i:Value):subscripted slice false o i = operate [o,i] (getItem o i):=by
 cases slice <;> first | rfl | exact nb0 h
theorem seqIndex_some {k:Int} {n j:Nat} (h:seqIndex? k n = some j):(0 ≤ k ∧ j = k.toNat) ∨ (k < 0 ∧ -(n:Int) ≤ k ∧ j = (k + n).toNat):=by
 unfold seqIndex? at h
 dsimp only at h
 by_cases hk:k < 0
 ·simp only [hk,if_true] at h
  split at h
  ·rename_i q
   simp only [Bool.and_eq_true,decide_eq_true_eq] at q
   exact .inr ⟨hk,by omega,(Option.some.inj h).symm⟩
  ·exact n0 h
 ·simp only [hk,if_false] at h
  split at h
  ·exact .inl ⟨Int.not_lt.mp hk,(Option.some.inj h).symm⟩
  ·exact n0 h
theorem list_at {A:Around} {s:Shared} {p:Addr} {vs:Array Value} {n:Nat} {k:Int} {u:Tok} {j:Nat} {v:Value} {Q:Value → Shared → Prop} (hl:s.heap.get? p = some (listOf vs n)) (hk:-(2 ^ 62) < k ∧ k < 2 ^ 62)
  (hj:seqIndex? k vs.toList.length = some j) (hv:vs.toList[j]? = some v) (h:Q v s):wpAny (model z.prog z.w) A (getItem (.ref p) (.int k u)) Q nope s:=by
 have L:s.heap.IsList p vs:=⟨_,hl,rfl,n,rfl⟩
 rw [Array.getElem?_toList] at hv
 rw [Array.length_toList] at hj
 rcases seqIndex_some hj with ⟨h0,rfl⟩ | ⟨h0,h1,rfl⟩
 ·exact wpAny_getItem_list L h0 (Int.lt_trans hk.2 (by decide)) hv h
 ·exact wpAny_getItem_list_neg L h0 h1 (Int.le_trans (by decide) (Int.le_of_lt hk.1)) hv h
theorem pyIdx_e {α:Type} {xs:List α} {i:Int} {k:α → Prop} {C:Prop} (h:opt (pyIdx xs i) k) (f:∀ j v,seqIndex? i xs.length = some j → xs[j]? = some v → k v → C):C :=
 opt_e h fun v e k => (Option.bind_eq_some_iff.mp e).elim fun j q => f j v q.1 q.2 k
theorem rng_e {i:Int} (h:rngI i = true):-(2 ^ 62) < i ∧ i < 2 ^ 62:=by
 cases i with
 | ofNat n => have q:n < 4611686018427387904:=Nat.le_of_ble_eq_true h;exact ⟨Int.lt_of_lt_of_le (by decide) (Int.natCast_nonneg n),Int.ofNat_lt.mpr q⟩
 | negSucc n => have q:n < 4611686018427387903:=Nat.le_of_ble_eq_true h;omega
theorem rng63 {i:Int} (h:rngI i = true):i < 2 ^ 63:=Int.lt_trans (rng_e h).2 (by decide)
theorem rng_fits {i:Int} (h:rngI i = true):fitsSsize i = true:=by
 have:=rng_e h
 delta fitsSsize
 simp only [Bool.not_eq_true',Bool.or_eq_false_iff,decide_eq_false_iff_not]
 omega
section
variable {value slice:Expr} {KV:AV → Prop}
noncomputable abbrev tl (value slice:Expr) (a b:Value):Sem Value:=subscriptTail value slice a b
theorem ix_e (hp:plainIdx slice = true) (Vb:VRP z x vb b) {k:Int → Prop} (h:b.int fun i => gd (rngI i) (k i)) (f:∀ i t,rngI i = true → k i → wp z c (tl value slice va (.int i t)) Q x.s):wp z c (tl value slice va vb) Q x.s :=
 int_e (C:=fun v => wp z c (tl value slice va v) Q x.s) Vb h fun i t h => gd_e h (f i t)
theorem idx_seq (hp:plainIdx slice = true) (R:RepP z x st) (Va:VRP z x va a) {i:Int} {t:Tok} (q:rngI i = true) (h:a.lst st fun xs => opt (pyIdx xs i) fun d => KV (.d d)) (po:Leaf z x (fun v st' => KV v ∧ st' = st) Q):wp z c (tl value slice va (.int i t)) Q x.s :=
 lst_e (C:=fun v => wp z c (tl value slice v _) Q x.s) R Va h fun p vs n xs g D h => pyIdx_e h fun j d hj hx k => (D.get hx).elim fun v q' => tail_any ⟨_,g,rfl⟩ slot_list_getitem.lookup (list_at g (rng_e q) (D.length.symm ▸ hj) q'.1 (po.here R (.d q'.2) ⟨k,rfl⟩)) (plain_sub hp _ _)
theorem idx_tup (hp:plainIdx slice = true) (R:RepP z x st) (Va:VRP z x va a) {i:Int} {t:Tok} (q:rngI i = true) (h:a.tpl fun xs => opt (pyIdx xs i) KV) (po:Leaf z x (fun v st' => KV v ∧ st' = st) Q):wp z c (tl value slice va (.int i t)) Q x.s :=
 have r:=rng_e q
 tpl_e (C:=fun v => wp z c (tl value slice v _) Q x.s) Va h fun p vs n xs g D h => pyIdx_e h fun j d hj hx k => (D.get hx).elim fun v q' => tail_any ⟨_,(R.fz _ _ g).1,rfl⟩ F.slot_tuple_getitem.lookup
  (PySem.P.getItem_tuple (R.fz _ _ g).1 (Int.le_trans (by decide) (Int.le_of_lt r.1)) (Int.lt_trans r.2 (by decide)) (by rw [List.size_toArray,D.length];exact hj) (by rw [List.getElem?_toArray];exact q'.1) (po.here R q'.2 ⟨k,rfl⟩)) (plain_sub hp _ _)
theorem idx_jl (hp:plainIdx slice = true) (R:RepP z x st) (Va:VRP z x va a) {i:Int} {t:Tok} (q:rngI i = true) (h:a.at fun n => st.jl n fun m => gd (decide (0 ≤ i) && decide (i < m)) (KV .junk)) (po:Leaf z x (fun v st' => KV v ∧ st' = st) Q):wp z c (tl value slice va (.int i t)) Q x.s :=
 at_e (C:=fun _ v => wp z c (tl value slice v (.int i t)) Q x.s) (k:=fun n => st.jl n fun m => gd (decide (0 ≤ i) && decide (i < m)) (KV .junk)) Va h fun n _ h => jl_e R h fun m vs j _ _ g D h => gd_e h fun e k =>
  (D.get (i:=i.toNat) (b:=()) (List.getElem?_replicate.trans (if_pos ((Int.toNat_lt (of_decide_eq_true (an_l e))).mpr (of_decide_eq_true (an_r e)))))).elim fun v q' =>
   tail_any ⟨_,g,rfl⟩ slot_list_getitem.lookup (wpAny_getItem_list ⟨_,g,rfl,j,rfl⟩ (of_decide_eq_true (an_l e)) (rng63 q) (by rw [← Array.getElem?_toList];exact q'.1) (po.here R (.s q'.2) ⟨k,rfl⟩)) (plain_sub hp _ _)
theorem idx_str (hp:plainIdx slice = true) (R:RepP z x st) (Va:VRP z x va a) {i:Int} {t:Tok} (q:rngI i = true) (h:a.str fun x => gd (decide (-(x.length:Int) ≤ i) && decide (i < x.length)) (KV (.d (.str (Txt.item x i))))) (po:Leaf z x (fun v st' => KV v ∧ st' = st) Q):wp z c (tl value slice va (.int i t)) Q x.s :=
 toks_up (str_e (C:=fun v => wp z c (tl value slice v _) _ x.s) Va h fun s u h => gd_e h fun e k =>
  tail_any (typeIs_str _ _ _) F.slot_str_getitem.lookup (SB.getItem (rng_fits q) (charAt_isSome (of_decide_eq_true (an_l e)) (of_decide_eq_true (an_r e))) fun le => po.tok R .str ⟨k,rfl⟩ le) (plain_sub hp _ _))
theorem idx_key (hp:plainIdx slice = true) (R:RepP z x st) (Va:VRP z x va a) (Vb:VRP z x vb b) (h:b.str fun i => a.dic st fun es => opt (es.lookup i) KV) (po:Leaf z x (fun v st' => KV v ∧ st' = st) Q):wp z c (tl value slice va vb) Q x.s :=
 str_e (C:=fun v => wp z c (tl value slice va v) Q x.s) Vb h fun i t h => toks_up (dic_e (C:=fun v => wp z c (tl value slice v _) _ x.s) R Va h fun d es n kvs lo g E h => opt_e h fun av e k =>
  have em:=ents_map z g E
  (ents_find E i).elim (fun q => n0 (q.1.symm.trans e)) fun q => q.elim fun av' q => q.elim fun v q => tail_any em.typeIs slot_dict_getitem.lookup (wpAny_getItem_of (strKind_is z.prog z.w _ _) em q.2.1 fun le => po.tok R (.s (Option.some.inj (q.1.symm.trans e) ▸ q.2.2)) ⟨k,rfl⟩ le) (plain_sub hp _ _))
theorem idx_go {o:XK} (hp:plainIdx slice = true) (R:RepP z x st) (Va:VRP z x va a) (Vb:VRP z x vb b) (h:idxW o a b st KV) (po:Leaf z x (fun v st' => KV v ∧ st' = st) Q):wp z c (tl value slice va vb) Q x.s :=
 XK.casesOn (motive:=fun o => idxW o a b st KV → wp z c (tl value slice va vb) Q x.s) o (fun h => ix_e hp Vb h fun _ _ q h => idx_seq hp R Va q h po) (fun h => ix_e hp Vb h fun _ _ q h => idx_tup hp R Va q h po)
  (fun h => ix_e hp Vb h fun _ _ q h => idx_jl hp R Va q h po) (fun h => ix_e hp Vb h fun _ _ q h => idx_str hp R Va q h po) (fun h => idx_key hp R Va Vb h po) h
end
noncomputable def OptInt:Option Int → Value → Prop
 | none,v => v = .none
 | some i,v => ∃ t,v = .int i t
noncomputable abbrev slO (l u:Value):Obj:={ cls:=.type "slice",data:=.fields #[l,u,.none] }
theorem lgo_str {v:Expr} {s:Str} {t:Tok} {r:Value}:letTemporaryGo v (.str s t) r = pure ():=by cases v <;> rfl
theorem sl_go {value:Expr} {l u:Option Expr} {p:Pos} {vl vu:Value} {lo hi:Option Int} {s:Str} {t:Tok} (R:RepP z x st) (hl:OptInt lo vl) (hu:OptInt hi vu) (hz:s.length ≤ sizeLine) (k:K (.d (.str (Txt.slice s lo hi))) st) (po:Leaf z x K Q) :
  wp z c (subscriptTail value (.Slice l u none p) (.str s t) (.ref x.s.heap.objs.size)) Q { x.s with heap:=x.s.heap.push (slO vl vu) }:=by
 let PP:Heap → Prop:=fun h' => Ext noP x.G x.s.heap x.G h' ∧ Rep z.P z.B x.G h' st
 have hk:KeptH PP:=fun h ob q => have k2:=alloc_no q.2 ob;⟨q.1.trans k2.1,k2.2⟩
 have hI:PP x.s.heap:=⟨.refl _ _ _,R⟩
 refine toks_up (s:={ x.s with heap:=x.s.heap.push (slO vl vu) }) ?_
 have fin:∀ h' t' k,PP h' → (fun v s' => x.s.toks ≤ s'.toks → Q v s') (.str (Txt.slice s lo hi) t') { x.s with heap:=h',toks:=k }:=fun h' t' tk q le => po _ _ ⟨x.G,{ x.s with heap:=h',toks:=tk }⟩ st (.of q.1 le) q.2 .str k
 cases lo with
 | none =>
  cases hl
  cases hi with
  | none => cases hu;exact PyProof.Rows.tail_of_ItemOn (ops:=[_,_]) (SBH.sliceItem_nn hk hI fin hz) rfl (fun _ => lgo_str)
  | some j => obtain ⟨_,rfl⟩:=hu;exact PyProof.Rows.tail_of_ItemOn (ops:=[_,_]) (SBH.sliceItem_ns hk hI fin hz) rfl (fun _ => lgo_str)
 | some i =>
  obtain ⟨_,rfl⟩:=hl
  cases hi with
  | none => cases hu;exact PyProof.Rows.tail_of_ItemOn (ops:=[_,_]) (SBH.sliceItem_sn hk hI fin hz) rfl (fun _ => lgo_str)
  | some j => obtain ⟨_,rfl⟩:=hu;exact PyProof.Rows.tail_of_ItemOn (ops:=[_,_]) (SBH.sliceItem_ss hk hI fin hz) rfl (fun _ => lgo_str)
theorem init_go {value:Expr} {l u:Option Expr} {p:Pos} {tu:Tok} {ad:Addr} {vs:Array Value} {n:Nat} {xs:List PyData} (R:RepP z x st) (g:x.s.heap.get? ad = some (listOf vs n)) (D:All2 (DR x.G.fz) vs.toList xs) (hz:xs.length ≤ sizeLine) (k:K (.d (.list xs.dropLast)) st) (po:Leaf z x K Q) :
  wp z c (subscriptTail value (.Slice l u none p) (.ref ad) (.ref x.s.heap.objs.size)) Q { x.s with heap:=x.s.heap.push (slO .none (.int (-1) tu)) }:=by
 have key:=alloc_no R (slO .none (.int (-1) tu))
 have hL:(x.s.heap.push (slO .none (.int (-1) tu))).IsList ad vs:=⟨_,Heap.get?_push_of_some _ g,rfl,n,rfl⟩
 refine tail_any hL.typeIs slot_list_getitem.lookup (wpAny_getItem_list_slice hL (Heap.IsSliceOf.new _ _ _ _) .none (.int (-1) _) .none (fun q => by cases q) ?_ (by rw [← Array.length_toList,D.length];exact hz)) rfl
 rw [show slicePick vs none (some (-1)) none = (vs.toList.take (vs.size - 1)).toArray from slicePick_butLast vs 1 (Nat.le_refl _)]
 refine mkList_go (x:=⟨x.G,{ x.s with heap:=x.s.heap.push (slO .none (.int (-1) tu)) }⟩) (l:=false) (K:=K) key.2 ?_ k fun v av y st' X => po v av y st' (.trans (.of key.1 (Nat.le_refl _)) X)
 rw [List.dropLast_eq_take,← D.length,Array.length_toList]
 exact D.take _
end
end
section
section
variable {z:Zx} {c:Cx} {L:Locs} {x y:Pt} {st st':St} {K:EK} {Q:Value → Shared → Prop} {v va vb:Value} {a b:AV}
theorem big_lt {n:Nat} (h:n ≤ bigLen):(n:Int) < 2 ^ 63:=by unfold bigLen at h;omega
theorem len_go {o:NK} (R:RepP z x st) (V:VRP z x v a) {KV:AV → Prop} (h:lenW o a st KV) (po:Leaf z x (fun v st' => KV v ∧ st' = st) Q):wp z c (call (.builtin "len") [v]) Q x.s:=by
  cases o with
  | str => exact str_e (C:=fun v => wp z c (call (.builtin "len") [v]) Q x.s) V h fun s t h => gd_e h fun q k => PySem.P.len_str (Int.not_le.mpr (big_lt (of_decide_eq_true q))) (po.tok R .int ⟨k,rfl⟩ (Nat.le_add_right _ 2))
  | lst => exact lst_e (C:=fun v => wp z c (call (.builtin "len") [v]) Q x.s) R V h fun p vs n xs g D h => gd_e h fun q k => by
            have e:vs.size = xs.length:=by rw [← D.length,Array.length_toList]
            refine call_len_list ⟨_,g,rfl,n,rfl⟩ (e ▸ big_lt (of_decide_eq_true q)) ?_
            rw [e];exact po.tok R .int ⟨k,rfl⟩ (Nat.le_add_right _ 2)
  | junk => exact jnk_e (C:=fun v => wp z c (call (.builtin "len") [v]) Q x.s) V h fun p j h => gd_e h fun q k => (R.junk p j).elim fun vs q' => q'.elim fun n q' =>
              have le:=Nat.le_trans q'.2 (of_decide_eq_true q)
              call_len_list ⟨_,q'.1,rfl,n,rfl⟩ (big_lt le) (po.tok R (.s (.unk (Int.natCast_nonneg _) (Int.ofNat_lt.mpr (Nat.lt_of_le_of_lt le (show bigLen < 1099511627776 by decide))))) ⟨k,rfl⟩ (Nat.le_add_right _ 2))
theorem ord_go {s:Str} {t:Tok} (R:RepP z x st) (q:(s.cps.toList.length == 1) = true) (k:K (.d (.int (s.cps.toList.headD 0))) st) (po:Leaf z x K Q):wp z c (call (.builtin "ord") [.str s t]) Q x.s:=by
 obtain ⟨d,e⟩:=List.length_eq_one_iff.mp (beq_iff_eq.mp q)
 rw [e] at k
 have e:s = ⟨#[d]⟩:=Str.ext' (Array.toList_inj.mp (by rw [e]))
 subst e
 exact PySem.P.ord_of_char (po.tok1 R .int k)
theorem chr_go {i:Int} {t:Tok} (R:RepP z x st) (q:(decide (0 ≤ i) && decide (i < 1114112)) = true) (k:K (.d (.str ⟨#[i.toNat]⟩)) st) (po:Leaf z x K Q):wp z c (call (.builtin "chr") [.int i t]) Q x.s :=
 chr_of_range (of_decide_eq_true (an_l q)) (Int.le_of_lt_add_one (of_decide_eq_true (an_r q))) (po.tok1 R .str k)
theorem find_go {s u:Str} {t t':Tok} (R:RepP z x st) (k:K (.d (.int (Txt.find s u))) st) (po:Leaf z x K Q):wp z c (call (.builtin "str.find") [.str s t,.str u t']) Q x.s:=SC.find (po.tok1 R .int k)
theorem repl_go {s a b:Str} {t t1 t2:Tok} (R:RepP z x st) (ht:t1 ≠ 0) (hu:t2 ≠ 0) (htu:t1 ≠ t2) (h1:s.length ≤ 1048576) (h2:b.length ≤ 14) (h3:(a == b) = false) (k:K (.d (.str (Txt.replace s a b))) st) (po:Leaf z x K Q) :
  wp z c (call (.builtin "str.replace") [.str s t,.str a t1,.str b t2]) Q x.s:=toks_up (SC.replaceW ht hu htu h3 h1 h2 fun _ _ le => po.tok R .str k le)
theorem newList_at (R:RepP z x st) {h':Heap} {tk:Nat} {p:Addr} {vs:List Value} {n:Nat} {xs:List PyData} (hk:∀ b o,x.s.heap.get? b = some o → h'.get? b = some o) (hn:x.s.heap.get? p = none) (ha:h'.get? p = some (listOf vs.toArray n)) (hv:All2 (DR x.G.fz) vs xs)
  (le:x.s.toks ≤ tk) (k:K (.d (.list xs)) st) (po:Leaf z x K Q):Q (.ref p) { x.s with heap:=h',toks:=tk } :=
 have q:=alloc_fz R hk hn ha
 po _ _ ⟨_,{ x.s with heap:=h',toks:=tk }⟩ st (.of q.1 le) q.2 (.d (.list Gh.frz_at (hv.mono fun _ _ => DR.mono q.1.gx.fz))) k
theorem strs_dr {f:Addr → Option Obj}:∀ {l:List (Str × Tok)},All2 (DR f) (strValues l) ((l.map (·.1)).map .str):=by
 intro l
 induction l with
 | nil => exact .nil
 | cons p l ih => exact .cons (.str p.1 p.2) ih
theorem split_go {s:Str} {t:Tok} (R:RepP z x st) (h1:s.length ≤ 1048576) (h2:(PySem.Builtin.Str.spaceWords s (s.length + 1)).length ≤ sizeLine) (k:K (.d (.list ((Txt.words s).map .str))) st) (po:Leaf z x K Q):wp z c (call (.builtin "str.split") [.str s t]) Q x.s:=by
 refine toks_up (call_meets F.slot_str_split (typeIs_str _ _ _) F.entry_str_split (F.args_str_split_1 _) (meets_str_split_space s t (by rw [sizeLine_eq];omega) h2) ?_)
 have fin:∀ (l:List (Str × Tok)) (tk:Nat),l.map (·.1) = Txt.words s → x.s.toks ≤ tk → Q (.ref x.s.heap.objs.size) { x.s with toks:=tk,heap:=x.s.heap.push { cls:=.type "list",data:=.seq (strValues l).toArray } }:=fun l tk e le =>
  newList_at (vs:=strValues l) (n:=0) R (fun _ _ e => Heap.get?_push_of_some _ e) (fresh_none _ (Nat.le_refl _)) (Heap.get?_push_size _ rfl) (e ▸ strs_dr) le k po
 cases hw:PySem.Builtin.Str.spaceWords s (s.length + 1) == [(0,s.length)]
 ·simp only [Bool.false_eq_true,if_false]
  rw [strsFrom_eq]
  exact fin (numbered x.s.toks (PySem.wordsOf s)) _ ((numbered_texts _ _).trans (if_neg (ne_true_of_eq_false hw)).symm)
 ·simp only [if_true]
  exact fin [(s,t)] x.s.toks (if_pos hw).symm
theorem getd_go {es:List DictEntry} {kvs:List (Str × AV)} {p:Addr} {n:Nat} {s:Str} {t:Tok} (R:RepP z x st) (lo:(p == sysModules) = false) (g:x.s.heap.get? p = some (dictOf es n)) (E:All2 (ER z.P x.G) es kvs) (V:VRP z x v a) (k:K ((kvs.lookup s).getD a) st) (po:Leaf z x K Q) :
  wp z c (call (.builtin "dict.get") [.ref p,.str s t,v]) Q x.s:=by
 have hm:=ents_map z g E
 refine call_meetsIn F.slot_dict_get hm.typeIs F.entry_dict_get (F.args_dict_get_3 _ _ _) (meets_dict_get_default (strKind z.prog z.w) p (strKind_is z.prog z.w s t) lo v) ⟨_,hm,?_⟩
 rcases ents_find E s with q | ⟨av,u,q1,q2,U⟩
 ·rw [q.1] at k;rw [q.2];exact po.tok1 R V k
 ·rw [q1] at k;rw [q2];exact po.tok1 R (.s U) k
theorem lstOf_go (R:RepP z x st) {p:Addr} {n:Nat} (g:x.s.heap.get? p = some (tupObj [] n)) (k:K (.d (.list [])) st) (po:Leaf z x K Q):wp z c (call (.type "list") [.ref p]) Q x.s :=
 toks_up (call_list_seq _ (T:="tuple") (.inr rfl) g rfl rfl (fun _ _ hk hs le => newList_at (vs:=[]) R hk (fresh_none _ (Nat.le_refl _)) hs .nil le k po) (Nat.zero_le _))
theorem items_ints {f:Addr → Option Obj} {a:Int}:∀ (n:Nat) (acc:List Value),acc.length = n → (∀ (j:Nat) (v:Value),acc[j]? = some v → ∃ t,v = .int (a + (j:Int) * 1) t) → All2 (DR f) acc ((List.range n).map fun (k:Nat) => PyData.int (a + k)):=by
 intro n
 induction n with
 | zero => intro acc hl _;rw [List.length_eq_zero_iff.mp hl];exact .nil
 | succ n ih =>
  intro acc hl h
  rcases List.eq_nil_or_concat acc with rfl | ⟨i,x,rfl⟩
  ·cases hl
  ·have hl':i.length = n:=by simpa using hl
   rw [List.range_succ,List.map_append,List.concat_eq_append]
   refine .append (ih i hl' fun j v hj => h j v ?_) ?_
   ·have:j < i.length:=(List.getElem?_eq_some_iff.mp hj).1
    simp [List.getElem?_append_left this,hj]
   ·obtain ⟨t,rfl⟩:=h n x (by simp [← hl'])
    simp only [List.map_cons,List.map_nil,Int.mul_one]
    exact .cons (.int _ _) .nil
theorem lstRng_go (R:RepP z x st) (hh:c.A.handled = none) {i j:Int} {t u w:Tok} {r:Addr} (hr:IsRange x.s.heap r i j 1 t u w) (q:(decide (0 ≤ i) && decide (i < bigLen) && decide (0 ≤ j) && decide (j < bigLen)) = true)
  (k:K (.d (.list ((List.range (j - i).toNat).map fun (k:Nat) => .int (i + k)))) st) (po:Leaf z x K Q):wp z c (call (.type "list") [.ref r]) Q x.s:=by
 have h0:=of_decide_eq_true (an_l (an_l (an_l q)));have h1:=of_decide_eq_true (an_r (an_l (an_l q)));have h2:=of_decide_eq_true (an_r (an_l q));have h3:=of_decide_eq_true (an_r q)
 unfold bigLen at h1 h3
 have hn:Builtin.Range.rangeSize i j 1 = ((j - i).toNat:Nat):=by rw [rangeSize_one];split <;> omega
 refine toks_up (call_list_range hh hr (small_one (by omega) (by omega) (by omega) (by omega)) hn (by omega) fun h' tk acc c hk hs hI le => ?_)
 exact newList_at (vs:=acc.toList) (n:=c) R hk (fresh_none _ (Nat.le_refl _)) hs (items_ints _ _ (by rw [Array.length_toList];exact hI.1) fun j v hj => hI.2 j v (by rw [← Array.getElem?_toList];exact hj)) le k po
theorem mapSeq_list (f:Array Value → Array Value) (vs:Array Value) (k:Nat):Obj.mapSeq f (listOf vs k) = listOf (f vs) (if (f vs).size == vs.size then k else k + 1):=rfl
theorem seq_upd {h:Heap} {p:Addr} {vs:Array Value} {k:Nat} (g:h.get? p = some (listOf vs k)) (f:Array Value → Array Value):(h.update p (Obj.mapSeq f)).get? p = some (listOf (f vs) (if (f vs).size == vs.size then k else k + 1)):=by
 have q:=Heap.get?_update_self (Obj.mapSeq f) g (by rw [mapSeq_list];rfl)
 rw [mapSeq_list] at q;exact q
theorem put_go {n:Nat} {ob ob':AObj} {h':Heap} {tk:Nat} (R:RepP z x st) (e:st.get n = some ob) (o:x.G.own (x.G.ad n) = some (.obj n)) (hs:Heap.SameBut (x.G.ad n) x.s.heap h') (c:OR z.P x.G h' n ob') (hl:∃ o,h'.get? (x.G.ad n) = some o) (le:x.s.toks ≤ tk)
  (V:VRP z x v a) (k:K a (st.put n ob')) (po:Leaf z x K Q):Q v { x.s with heap:=h',toks:=tk } :=
 have u:=upd_obj (f:=fun _ => ob') R e hs (.inl o) hl c
 po v a ⟨x.G,{ x.s with heap:=h',toks:=tk }⟩ _ (.of u.1 le) u.2 V k
theorem app_go {n:Nat} {vs:Array Value} {j:Nat} {ob':AObj} (R:RepP z x st) {ob:AObj} (e:st.get n = some ob) (o:x.G.own (x.G.ad n) = some (.obj n)) (g:x.s.heap.get? (x.G.ad n) = some (listOf vs j)) (hz:vs.size < sizeLine)
  (c':∀ h' k,h'.get? (x.G.ad n) = some (listOf (vs.push v) k) → OR z.P x.G h' n ob') (k:K (.d .none) (st.put n ob')) (po:Leaf z x K Q):wp z c (call (.builtin "list.append") [.ref (x.G.ad n),v]) Q x.s :=
 wpAny_list_append_plain ⟨j,g⟩ (fun h' ⟨k',hp⟩ hs => put_go (tk:=x.s.toks) R e o hs (c' h' k' hp) ⟨_,hp⟩ (Nat.le_refl _) .none k po) (Nat.le_of_lt hz)
end
end
section
noncomputable def leS (a b:Str):Prop:=ltCps b.cps.toList a.cps.toList = false
theorem leS_iff (a b:Str):leS a b ↔ a.cps.toList ≤ b.cps.toList:=by
 unfold leS;rw [ltCps_eq,decide_eq_false_iff_not,List.not_lt]
theorem leS_trans {a b c:Str} (h:leS a b) (k:leS b c):leS a c:=by
 rw [leS_iff] at *;exact List.le_trans h k
theorem leS_anti {a b:Str} (h:leS a b) (k:leS b a):a = b:=by
 rw [leS_iff] at *;exact Str.ext' (Array.toList_inj.mp (List.le_antisymm h k))
theorem leS_total (a b:Str):leS a b ∨ leS b a:=by
 rw [leS_iff,leS_iff];exact List.le_total _ _
theorem rising_pw:∀ (l:List Str) (p:Str),risingS p l = true → (p :: l).Pairwise leS
  | [],p,_ => by simp
  | x :: r,p,h => by
    have h':(!ltCps x.cps.toList p.cps.toList && risingS x r) = true:=h
    rw [Bool.and_eq_true,Bool.not_eq_true'] at h'
    have ih:=rising_pw r x h'.2
    refine List.pairwise_cons.mpr ⟨fun y hy => ?_,ih⟩
    rcases List.mem_cons.mp hy with rfl | hy
    · exact h'.1
    · exact leS_trans h'.1 ((List.pairwise_cons.mp ih).1 y hy)
theorem sortedS_pw:∀ {l:List Str},sortedS l = true → l.Pairwise leS
 | [],_ => .nil
 | x :: r,h => rising_pw r x h
theorem insS_perm (x:Str):∀ l,(insSortS x l).Perm (x :: l)
  | [] => .refl _
  | y :: r => by
    unfold insSortS
    cases ltCps y.cps.toList x.cps.toList with
    | true => exact ((insS_perm x r).cons y).trans (.swap x y r)
    | false => exact .refl _
theorem insS_pw (x:Str):∀ {l:List Str},l.Pairwise leS → (insSortS x l).Pairwise leS
  | [],_ => by simp [insSortS]
  | y :: r,h => by
    unfold insSortS
    have h':=List.pairwise_cons.mp h
    cases q:ltCps y.cps.toList x.cps.toList with
    | true =>
      refine List.pairwise_cons.mpr ⟨fun z hz => ?_,insS_pw x h'.2⟩
      rcases List.mem_cons.mp ((insS_perm x r).mem_iff.mp hz) with rfl | hz
      · rcases leS_total y z with k | k
        · exact k
        · unfold leS at k;rw [q] at k;cases k
      · exact h'.1 z hz
    | false =>
      have q':leS x y:=q
      refine List.pairwise_cons.mpr ⟨fun z hz => ?_,h⟩
      rcases List.mem_cons.mp hz with rfl | hz
      · exact q'
      · exact leS_trans q' (h'.1 z hz)
theorem sortS_perm:∀ l:List Str,(l.foldr insSortS []).Perm l
 | [] => .refl _
 | x :: r => (insS_perm x _).trans ((sortS_perm r).cons x)
theorem sortS_pw:∀ l:List Str,(l.foldr insSortS []).Pairwise leS
 | [] => .nil
 | x :: r => insS_pw x (sortS_pw r)
theorem sortS_uniq {a l:List Str} (p:a.Perm l) (h:sortedS a = true):a = l.foldr insSortS [] :=
 (p.trans (sortS_perm l).symm).eq_of_pairwise (fun _ _ _ _ h1 h2 => leS_anti h1 h2) (sortedS_pw h) (sortS_pw l)
theorem insI_perm (x:Int):∀ l,(insSorted x l).Perm (x :: l)
  | [] => .refl _
  | y :: r => by
    unfold insSorted
    cases decide (x ≤ y) with
    | true => exact .refl _
    | false => exact ((insI_perm x r).cons y).trans (.swap x y r)
theorem insI_pw (x:Int):∀ {l:List Int},l.Pairwise (· ≤ ·) → (insSorted x l).Pairwise (· ≤ ·)
  | [],_ => by simp [insSorted]
  | y :: r,h => by
    unfold insSorted
    have h':=List.pairwise_cons.mp h
    cases q:decide (x ≤ y) with
    | true =>
      have q:=of_decide_eq_true q
      refine List.pairwise_cons.mpr ⟨fun z hz => ?_,h⟩
      rcases List.mem_cons.mp hz with rfl | hz
      · exact q
      · exact Int.le_trans q (h'.1 z hz)
    | false =>
      have q:=of_decide_eq_false q
      refine List.pairwise_cons.mpr ⟨fun z hz => ?_,insI_pw x h'.2⟩
      rcases List.mem_cons.mp ((insI_perm x r).mem_iff.mp hz) with rfl | hz
      · exact Int.le_of_lt (Int.not_le.mp q)
      · exact h'.1 z hz
theorem sortI_perm:∀ l:List Int,(l.foldr insSorted []).Perm l
 | [] => .refl _
 | x :: r => (insI_perm x _).trans ((sortI_perm r).cons x)
theorem sortI_pw:∀ l:List Int,(l.foldr insSorted []).Pairwise (· ≤ ·)
 | [] => .nil
 | x :: r => insI_pw x (sortI_pw r)
theorem sortI_uniq {a l:List Int} (p:a.Perm l) (h:a.Pairwise (· ≤ ·)):a = l.foldr insSorted [] :=
 (p.trans (sortI_perm l).symm).eq_of_pairwise (fun _ _ _ _ h1 h2 => Int.le_antisymm h1 h2) h (sortI_pw l)
section
variable {z:Zx} {c:Cx} {L:Locs} {x y:Pt} {st st':St} {K:EK} {Q:Value → Shared → Prop} {v va vb:Value} {a b:AV}
theorem drs_ints {f:Addr → Option Obj} {vs:List Value} {xs:List PyData} (r:All2 (DR f) vs xs):∀ {ns:List Int},intsOf xs = some ns → IntsAre vs ns :=
 All2.rec (motive:=fun vs xs _ => ∀ {ns:List Int},intsOf xs = some ns → IntsAre vs ns) (fun h => Option.some.inj h ▸ .nil)
  (@fun _ _ _ _ V _ ih _ h => bindc (f:=List.cons) h fun i ns e1 e2 e => e ▸ DR.el (C:=fun v x => oInt none some x = some i → IntsAre (v :: _) (i :: ns)) V n0 (fun _ => n0) (fun j t h => Option.some.inj h ▸ .cons _ _ (ih e2)) (fun _ _ => n0) (fun _ _ _ _ _ _ => n0) (fun _ _ _ _ _ _ => n0) e1) r
theorem ints_drs {f:Addr → Option Obj} {vs:List Value} {ns:List Int} (h:IntsAre vs ns):All2 (DR f) vs (ns.map .int):=by
 induction h with
 | nil => exact .nil
 | cons _ _ _ ih => exact .cons (.int _ _) ih
theorem strs_drs {f:Addr → Option Obj} {vs:List Value} {ns:List Str} (h:StrsAre vs ns):All2 (DR f) vs (ns.map .str):=by
 induction h with
 | nil => exact .nil
 | cons _ _ _ ih => exact .cons (.str _ _) ih
theorem srtI_go {p:Addr} {vs:Array Value} {n:Nat} {xs:List PyData} {ns:List Int} (R:RepP z x st) (g:x.s.heap.get? p = some (listOf vs n)) (D:All2 (DR x.G.fz) vs.toList xs) (hi:intsOf xs = some ns) (hz:Nat.ble ns.length 16 = true) (k:K (.d (.list ((ns.foldr insSorted []).map .int))) st) (po:Leaf z x K Q) :
  wp z c (call (.builtin "sorted") [.ref p]) Q x.s:=by
 have I:=drs_ints D hi
 refine sorted_ints ⟨_,g,rfl,n,by simp⟩ I (by rw [I.length];exact Nat.lt_of_le_of_lt (Nat.le_of_ble_eq_true hz) (show 16 < 64 by decide)) fun out ns' i1 p o => ?_
 rw [← sortI_uniq p o] at k
 obtain ⟨e,he⟩:=sortedAll_at x.s.heap vs.toList out
 exact newList_at (vs:=out.toList) (tk:=x.s.toks) R (fun _ _ => sortedAll_old) (fresh_none _ (Nat.le_succ _)) (by simpa using he) (ints_drs i1) (Nat.le_refl _) k po
inductive EV1 (P:Params) (G:Gh):Str × Value → Str × AV → Prop
 | mk {k v a}:VR0 P G v a → EV1 P G (k,v) (k,a)
noncomputable abbrev EV (P:Params) (G:Gh):=All2 (EV1 P G)
section
variable {P:Params} {G G':Gh} {r:List (Str × Value)} {t:List (Str × AV)}
theorem EV.keys (h:EV P G r t):r.map (·.1) = t.map (·.1):=by
 induction h with
 | nil => rfl
 | cons e _ ih => cases e;exact congrArg _ ih
theorem EV.mono (X:Gx G G') (h:EV P G r t):EV P G' r t:=All2.mono (fun _ _ e => EV1.casesOn (motive:=fun a b _ => EV1 P G' a b) e fun h => .mk (h.mono X)) h
theorem stored_cons (k k':Str) (v v':Value) (r:List (Str × Value)) (nd:k' ∉ r.map (·.1)):PySem.stored ((k',v') :: r) k v = if k' = k then (k',v) :: r else (k',v') :: PySem.stored r k v:=by
 unfold PySem.stored
 by_cases q:k' = k
 ·subst q
  have:r.map (fun kv => if kv.1 = k' then (kv.1,v) else kv) = r:=by
   induction r with
   | nil => rfl
   | cons p r ih =>
    rw [List.map_cons,List.mem_cons,not_or] at nd
    rw [List.map_cons,ih nd.2,if_neg fun z => nd.1 z.symm]
  simp [this]
 ·simp only [List.any_cons,q,decide_false,Bool.false_or,if_false,List.map_cons,List.cons_append]
  split <;> rfl
theorem EV.put (h:EV P G r t) (nd:(t.map (·.1)).Nodup) (k:Str) {v:Value} {a:AV} (V:VR0 P G v a):EV P G (PySem.stored r k v) (putK k a t):=by
 induction h with
 | nil => exact .cons (.mk V) .nil
 | cons e h ih =>
  cases e with
  | mk U =>
   rename_i k' v' a'
   have nd':=List.nodup_cons.mp nd
   rw [stored_cons k k' v v' _ (EV.keys h ▸ nd'.1)]
   unfold putK
   by_cases q:k' = k
   ·subst q;rw [if_pos rfl,beq_self_eq_true];exact .cons (.mk V) h
   ·rw [if_neg q,beq_eq_false_iff_ne.mpr (Ne.symm q)];exact .cons (.mk U) (ih nd'.2)
theorem ents_pairs (z:Zx) {G:Gh} {es:List DictEntry} {kvs:List (Str × AV)} (h:All2 (ER z.P G) es kvs):∃ vals,Pairs (strKind z.prog z.w) es vals ∧ EV z.P G vals kvs:=by
 induction h with
 | nil => exact ⟨[],.nil,.nil⟩
 | cons e _ ih =>
  cases e with
  | mk V => exact ih.elim fun vals q => ⟨_,.cons (strKind_is z.prog z.w _ _) rfl q.1,.cons (.mk V) q.2⟩
theorem pairs_ents {z:Zx} {G:Gh} {es:List DictEntry} {vals:List (Str × Value)} {kvs:List (Str × AV)} (p:Pairs (strKind z.prog z.w) es vals) (hk:∀ e ∈ es,∃ k,(strKind z.prog z.w).is k e.key = true ∧ e.hash = (strKind z.prog z.w).hash k) (E:EV z.P G vals kvs):All2 (ER z.P G) es kvs:=by
 induction p generalizing kvs with
 | nil => cases E;exact .nil
 | cons h1 h2 p ih =>
  cases E with
  | cons e r =>
   cases e with
   | mk V =>
    obtain ⟨k',a,b⟩:=hk _ (List.mem_cons_self ..)
    have e1:=(strKind z.prog z.w).inj _ _ _ a h1
    subst e1
    rename_i e _ _ _ _ _
    obtain ⟨hs,key,val⟩:=e
    obtain ⟨t,rfl⟩:=Value.isStrOf_shape h1
    dsimp only at h2 b
    subst h2;subst b
    exact .cons (.mk V) (ih (fun e he => hk e (List.mem_cons_of_mem _ he)) r)
theorem dictOf_of (z:Zx) {G:Gh} {h:Heap} {p:Addr} {es:List DictEntry} {kvs:List (Str × AV)} {n:Nat} (hg:h.get? p = some (dictOf es n)) (E:All2 (ER z.P G) es kvs) (nd:(kvs.map (·.1)).Nodup):∃ vals,h.DictOf (strKind z.prog z.w) p vals ∧ EV z.P G vals kvs :=
 (ents_pairs z E).elim fun vals q => ⟨vals,⟨_,es.toArray,n,hg,⟨rfl,rfl,rfl⟩,rfl,fun e he => (ents_keys E e (by simpa using he)).elim fun x r => r.elim fun t r => ⟨x,by rw [r.1];exact strKind_is z.prog z.w x t,r.2⟩,by simpa using q.1,by rw [EV.keys q.2];exact nd⟩,q.2⟩
theorem of_dictOf {z:Zx} {G:Gh} {h:Heap} {p:Addr} {vals:List (Str × Value)} {kvs:List (Str × AV)} (D:h.DictOf (strKind z.prog z.w) p vals) (e:EV z.P G vals kvs):∃ es n,h.get? p = some (dictOf es n) ∧ All2 (ER z.P G) es kvs:=by
 obtain ⟨⟨c,d,dt,sl⟩,es,n,ho,⟨h1,h2,h3⟩,hd,hk,p,_⟩:=D
 dsimp only at h1 h2 h3 hd
 subst h1 h2 h3 hd
 exact ⟨es.toList,n,ho,pairs_ents p (fun e he => hk e (by simpa using he)) e⟩
end
theorem strs_of_pairs {vals:List (Str × Value)}:∀ {acc:List Value},acc.length = vals.length → (∀ (j:Nat) (v:Value),acc[j]? = some v → ∃ k x,vals[j]? = some (k,x) ∧ (PySem.strKind z.prog z.w).is k v = true) → StrsAre acc (vals.map (·.1)):=by
 induction vals with
 | nil => intro acc hl _;rw [List.length_eq_zero_iff.mp hl];exact .nil
 | cons p vals ih =>
  intro acc hl h
  cases acc with
  | nil => cases hl
  | cons v acc =>
   obtain ⟨k',x',e1,e2⟩:=h 0 v rfl
   cases e1
   obtain ⟨t,rfl⟩:=Value.isStrOf_shape e2
   exact .cons k' t (ih (by simpa using hl) fun j v hj => h (j + 1) v hj)
theorem srtK_go {p:Addr} {es:List DictEntry} {n:Nat} {kvs:List (Str × AV)} (R:RepP z x st) (hh:c.A.handled = none) (lo:(p == sysModules) = false) (g:x.s.heap.get? p = some (dictOf es n)) (E:All2 (ER z.P x.G) es kvs) (q:(Nat.ble kvs.length 16 && decide (kvs.map (·.1)).Nodup) = true)
  (k:K (.d (.list (((kvs.map (·.1)).foldr insSortS []).map .str))) st) (po:Leaf z x K Q):wp z c (call (.builtin "sorted") [.ref p]) Q x.s:=by
 have hz:=Nat.le_of_ble_eq_true (an_l q)
 obtain ⟨vals,D,EE⟩:=dictOf_of z g E (of_decide_eq_true (an_r q))
 have hlen:vals.length = kvs.length:=All2.length EE
 obtain ⟨o,es',ep,r⟩:=D
 have DA:x.s.heap.DictAt (PySem.strKind z.prog z.w) p vals ep:=⟨o,es',r⟩
 refine toks_up (Calls.call_function_entry kind_sorted plain_sorted entry_sorted (args_sorted1 _) ?_)
 unfold Builtin.«sorted»
 refine wpAny_bind (m:=checkCount "sorted" 1 1 _) (wpAny_pure ?_)
 have h16:vals.length ≤ 16:=hlen ▸ hz
 have hsz:vals.length ≤ sizeLine:=sizeLine_eq ▸ Nat.le_trans h16 (by decide)
 refine wpAny_bind (kdu_collect (kdl_dict lo) hh DA hsz fun h' tk acc hk hI => ?_)
 refine wpAny_bind (wpAny_newList (hsz:=by rw [Array.length_toList,hI.1];exact hsz) ?_)
 have hS:StrsAre acc.toList (vals.map (·.1)):=strs_of_pairs (z:=z) (by rw [Array.length_toList];exact hI.1) fun j v hj => hI.2 j v (by simpa using hj)
 have hoL:(h'.push (seqObj "list" acc.toList.toArray 0)).get? h'.objs.size = some (seqObj "list" acc.toList.toArray 0):=Heap.get?_push_size _ rfl
 have fr:x.s.heap.get? h'.objs.size = none:=none_of_alive (fun a o e => ⟨o,hk a o e⟩) (fresh_none h' (Nat.le_refl _))
 refine wpAny_bind (wpAny_holding (wpAny_call_entry PyProof.Rows.slot_list_sort ⟨_,hoL,rfl⟩ PyProof.Rows.entry_list_sort (list_sort_treeK strKind_oneLt hoL hS.keysOf (fun v₁ v₂ rest e => keyKind_strs (by rw [← e];exact hS)) (by rw [Array.length_toList,hI.1];exact Nat.lt_of_le_of_lt h16 (by decide)) fun st' hp hs => ⟨_,rfl,?_⟩) (args_list_sort _)))
 obtain ⟨ss',h1,h2,h3⟩:=sorted_out_str hS hp hs
 refine wpAny_pure ⟨_,rfl,fun le => ?_⟩
 rw [← EV.keys EE,← sortS_uniq h2 h3] at k
 obtain ⟨n',hc⟩:=sortedHeap_at (out:=(arrOf st').map (·.2)) hoL
 refine newList_at (vs:=((arrOf st').map (·.2)).toList) R (fun b o eo => ?_) fr (by rw [Array.toArray_toList];exact hc) (strs_drs h1) le k po
 have hb:=hk b o eo
 have lt:=Heap.lt_size hb
 rw [sortedHeap_old (Nat.ne_of_lt lt) (by rw [size_push'];exact Nat.lt_succ_of_lt lt)]
 exact Heap.get?_push_of_some _ hb
end
end
section
open PySem PySem.W PyProof.Rows PySem.Calls PySem.Spec Builtin Builtin.ObjectAttr
section
variable {prog:Program} {w:World} {A:Around} {s:Shared} {K:Frag}
theorem store_raw {R:Result → Shared → Prop} {x C dx:Addr} {es:List DictEntry} {n:Nat} {name:Str} {tk:Tok} {v:Value} {sl:Array (Option Value)} (X:K.In s.heap)
  (hx:s.heap.get? x = some ⟨.ref C,some dx,.plain,sl⟩) (hdx:s.heap.get? dx = some (dictOf es n)) (hp:plainOver K C = true) (ht:takerIn K C name = some none) (hh:hasDictIn K C = true)
  (hk:es.any (·.refKey) = false) (hz:es.length ≤ 1000)
  (h:R (.ok (.ret .none)) { s with heap:=s.heap.update dx (Obj.putName name (PyData.keyHash w.params name) (.str name s.toks) v),toks:=s.toks + 1 }) :
  codeAny (model prog w) A (.call (.builtin "object.__setattr__") ⟨[.ref x,.str name tk,v],[]⟩) R s:=by
 have I:InstAt s.heap x ⟨.ref C,some dx,.plain,sl⟩ C (some (dictOf es n)):=⟨hx,rfl,rfl,hdx⟩
 refine osa_open X I hp ht fun b => ?_
 obtain ⟨cd,hc,hd'⟩:=any_some hh
 have hnew:Obj.putName name (PyData.keyHash w.params name) (.str name s.toks) v (dictOf es n) = dictOf (putL name (PyData.keyHash w.params name) (.str name s.toks) v es) (putN name es n):=putName_dict ..
 have D':(s.heap.update dx (Obj.putName name (PyData.keyHash w.params name) (.str name s.toks) v)).get? dx = some (dictOf (putL name (PyData.keyHash w.params name) (.str name s.toks) v es) (putN name es n)):=by
  rw [← hnew]
  exact Heap.get?_update_self _ hdx (by rw [hnew];rfl)
 have len:(putL name (PyData.keyHash w.params name) (.str name s.toks) v es).length ≤ es.length + 1:=by
  clear hnew D' hz hk I hdx h
  induction es with
  | nil => simp [putL]
  | cons a r ih => unfold putL;split <;> simp only [List.length_cons] <;> omega
 show wpAny _ _ (storeInOwnDict (.ref x) (.ref C) (.str name tk) name v b) _ _ s
 unfold storeInOwnDict
 refine wpAny_bind (wpAny_pure (wpAny_bind (wpAny_bind (wpAny_loadPart hx (wpAny_bind ((looks_clsIn X hc).here ?_))))))
 rw [hd']
 refine wpAny_pure (a:=some dx) ?_
 unfold storeInDict
 refine wpAny_bind (wpAny_pure (wpAny_bind ?_))
 unfold nsSet
 refine wpAny_bind (wpAny_bind (wpAny_askSetting (wpAny_pure (wpAny_bind (wpAny_mkText (wpAny_bind (wpAny_loadPart hdx ?_)))))))
 have c:(!(es.toArray).any (·.key.isStr name) && (es.toArray).any (·.refKey)) = false:=by
  rw [← Array.any_toList (p:=fun d:DictEntry => d.refKey)]
  simp only [hk,Bool.and_false]
 dsimp only
 rw [aRefKeyMayBeTheName_at,c]
 refine wpAny_updatePart hdx ?_
 refine wpAny_bind (wpAny_lookBehind D' (pastItsLine_dict (by rw [List.size_toArray,sizeLine_eq];omega)) ?_)
 exact wpAny_pure h
theorem set_raw {Q:Unit → Shared → Prop} {x C dx:Addr} {es:List DictEntry} {n:Nat} {name:Str} {v:Value} {sl:Array (Option Value)} (X:K.In s.heap)
  (hx:s.heap.get? x = some ⟨.ref C,some dx,.plain,sl⟩) (hdx:s.heap.get? dx = some (dictOf es n)) (hs:findIn K (.ref C) "__setattr__" = some (some (.builtin "object.__setattr__")))
  (hp:plainOver K C = true) (ht:takerIn K C name = some none) (hh:hasDictIn K C = true) (hk:es.any (·.refKey) = false) (hz:es.length ≤ 1000)
  (h:Q () { s with heap:=s.heap.update dx (Obj.putName name (PyData.keyHash w.params name) (.str name (s.toks + 1)) v),toks:=s.toks + 2 }) :
  wpAny (model prog w) A (setAttr (.ref x) name v) Q nope s :=
 set_plain (od:=some (dictOf es n)) X ⟨hx,rfl,rfl,hdx⟩ hs (store_raw (s:={ s with toks:=s.toks + 1 }) X hx hdx hp ht hh hk hz h)
theorem setItem_list_raw {l:Addr} {items:Array Value} {n:Nat} {k:Int} {t:Tok} {v:Value} {Q:Unit → Shared → Prop} (ho:s.heap.get? l = some (listOf items n))
  (h0:0 ≤ k) (hfit:k < 2 ^ 63) (hn:k < items.size)
  (hQ:Q () { s with heap:=s.heap.update l (Obj.mapSeq (·.setIfInBounds k.toNat v)) }) :
  wpAny (model prog w) A (setItem (.ref l) (.int k t) v) Q nope s:=by
 have hl:s.heap.IsList l items:=⟨_,ho,rfl,n,rfl⟩
 have hd:(listOf items n).data = .seq items n:=rfl
 unfold setItem
 try with_reducible refine wpAny_holding ?_
 first | refine wpAny_bind (wpAny_pure ?_) | skip
 refine wpAny_bind (wpAny_sequenceKey hl.typeIs (by decide) ?_)
 refine wpAny_bind (wpAny_callSpecial?_slot (name:=Str.ofString "__setitem__") hl.typeIs slot_list_setitem
  (wpAny_call_entry slot_list_setitem hl.typeIs entry_list_setitem ?_ (args_list_setitem _ _ _)))
 show wpAny _ _ (Builtin.List.listSubscript? (.int k t) >>= _) _ _ s
 refine wpAny_bind (wpAny_listSubscript_int (fitsIndex_of h0 hfit) ?_)
 clear hfit
 obtain ⟨j,rfl⟩:=Int.eq_ofNat_of_zero_le h0
 have hj:j < items.size:=by omega
 have hx':items[j]? = some items[j]:=Array.getElem?_eq_getElem hj
 show wpAny _ _ ((seqItemAt l j >>= fun r => pure (r.map (j,·))) >>= _) _ _ s
 refine wpAny_bind (wpAny_bind (wpAny_seqItemAt ho hd (wpAny_pure ?_)))
 rw [hx']
 show wpAny _ _ (setSeqItemAt l j v >>= _) _ _ s
 refine wpAny_bind (wpAny_setSeqItemAt ho hd ?_)
 first
  | exact wpAny_bind (wpAny_pure (wpAny_pure ⟨.none,rfl,wpAny_pure hQ⟩))
  | exact wpAny_pure ⟨.none,rfl,wpAny_pure hQ⟩
end
end
section
section
variable {z:Zx} {c:Cx} {L:Locs} {x y:Pt} {st st':St} {K:EK} {Q:Value → Shared → Prop} {v va vb:Value} {a b:AV}
theorem fnts_get {P:Params} {G:Gh} {es:List DictEntry} {fs:List (Nat × AV)} (r:All2 (FR P G) es fs) {i:Nat} (hi:i < 219):(fs.lookup i = none ∧ getL (nm i) es = some none) ∨ ∃ av v,fs.lookup i = some av ∧ getL (nm i) es = some (some v) ∧ VR P G v av:=by
 induction r with
 | nil => exact .inl ⟨rfl,rfl⟩
 | cons e _ ih =>
  cases e with
  | mk l V =>
   rename_i j hs t v a
   by_cases q:i = j
   ·exact .inr ⟨a,v,by rw [List.lookup_cons,beq_iff_eq.mpr q],by delta getL;simp [Value.isStr,q],V⟩
   ·have ne:(nm j == nm i) = false:=beq_eq_false_iff_ne.mpr fun z => q (nm_inj hi l z.symm)
    have e:∀ es:List DictEntry,getL (nm i) (⟨hs,.str (nm j) t,v⟩ :: es) = getL (nm i) es:=fun es => by delta getL;simp [Value.isStr,ne,DictEntry.refKey]
    rw [e,List.lookup_cons,beq_eq_false_iff_ne.mpr q]
    exact ih
theorem fnts_ref {P:Params} {G:Gh} {es:List DictEntry} {fs:List (Nat × AV)} (r:All2 (FR P G) es fs):es.any (·.refKey) = false:=by
 induction r with
 | nil => rfl
 | cons e _ ih => cases e;exact ih
theorem putF_any (i:Nat) (x:AV) (fs:List (Nat × AV)) (j:Nat) (h:j ∈ (putF i x fs).map (·.1)):j = i ∨ j ∈ fs.map (·.1):=by
 induction fs with
 | nil => exact .inl (List.mem_singleton.mp h)
 | cons p fs ih =>
  unfold putF at h
  cases q:i == p.1 with
  | true => rw [q] at h;exact (List.mem_cons.mp h).imp id (List.mem_cons_of_mem _)
  | false => rw [q] at h;exact (List.mem_cons.mp h).elim (fun z => .inr (z ▸ List.mem_cons_self ..)) fun z => (ih z).imp id (List.mem_cons_of_mem _)
theorem fnts_put {P:Params} {G:Gh} {i:Nat} (hi:i < 219) {hsh:Int} {t:Tok} {v:Value} {a:AV} (V:VR P G v a) {es:List DictEntry} {fs:List (Nat × AV)} (r:All2 (FR P G) es fs) (u:Uniq fs):FnU P G (putL (nm i) hsh (.str (nm i) t) v es) (putF i a fs):=by
 induction r with
 | nil => exact ⟨.cons (.mk hi V) .nil,List.nodup_cons.mpr ⟨fun h => (nomatch h),List.nodup_nil⟩⟩
 | cons e r ih =>
  cases e with
  | mk l U =>
   rename_i j hs t' v' a'
   have nd:=List.nodup_cons.mp u
   unfold putL putF
   by_cases q:i = j
   ·subst q
    rw [beq_self_eq_true,show (Value.str (nm i) t').isStr (nm i) = true from beq_self_eq_true _]
    exact ⟨.cons (.mk l V) r,u⟩
   ·have ne:(Value.str (nm j) t').isStr (nm i) = false:=beq_eq_false_iff_ne.mpr fun z => q (nm_inj hi l z.symm)
    rw [beq_eq_false_iff_ne.mpr q,ne]
    have k:=ih nd.2
    exact ⟨.cons (.mk l U) k.f,List.nodup_cons.mpr ⟨fun h => (putF_any i a _ j h).elim (fun z => q z.symm) nd.1,k.u⟩⟩
structure AF (K:Frag) (c i:Nat):Prop where
 get:plainGet K c (nm i) = true
 hasD:hasDictIn K c = true
 no:findIn K (.ref c) (nm i) = some Option.none
 lt:i < 219
 taker:takerIn K c (nm i) = some Option.none
 over:plainOver K c = true
 set:findIn K (.ref c) "__setattr__" = some (some (.builtin "object.__setattr__"))
theorem aFact_of {K:Frag} (F:KF K) {c i:Nat} (h:aT.contains (c,i) = true):AF K c i :=
 have q:=List.all_eq_true.mp F.a (c,i) (List.contains_iff_mem.mp h)
 ⟨an_l (an_l (an_l (an_l (an_l (an_l q))))),an_r (an_l (an_l (an_l (an_l (an_l q))))),beq_iff_eq.mp (an_r (an_l (an_l (an_l (an_l q))))),of_decide_eq_true (an_r (an_l (an_l (an_l q)))),beq_iff_eq.mp (an_r (an_l (an_l q))),an_r (an_l q),beq_iff_eq.mp (an_r q)⟩
structure MF (K:Frag) (c m:Nat) (f:Addr):Prop where
 get:plainGet K c (nm m) = true
 find:findIn K (.ref c) (nm m) = some (some (.ref f))
 fn:isFn K (.ref f) = true
 keep:keepIn K (.ref f) = true
 lt:m < 219
theorem mFact_of {K:Frag} (F:KF K) {c m f:Nat} (h:mT.contains (c,m,f) = true):MF K c m f :=
 have q:=List.all_eq_true.mp F.m (c,m,f) (List.contains_iff_mem.mp h)
 ⟨an_l (an_l (an_l (an_l q))),beq_iff_eq.mp (an_r (an_l (an_l (an_l q)))),an_r (an_l (an_l q)),an_r (an_l q),of_decide_eq_true (an_r q)⟩
theorem handed_vr {P:Params} {G:Gh} (V:VR P G v a):handedIn v = true :=
 V.el (C:=fun v _ => handedIn v = true) (fun _ _ D => D.el (C:=fun v _ => handedIn v = true) rfl (fun _ => rfl) (fun _ _ => rfl) (fun _ _ => rfl) (fun _ _ _ _ _ _ => rfl) (fun _ _ _ _ _ _ => rfl)) (fun _ _ => rfl) (fun _ => rfl) (fun _ _ _ _ => rfl) (fun _ _ => rfl) (fun _ _ _ _ _ _ => rfl) (fun _ _ _ _ _ _ _ => rfl)
theorem inst_e {n:Nat} {k:Addr → List (Nat × AV) → Prop} {C:Prop} (R:RepP z x st) (h:oSome False (oInst False k) (st.get n)) (f:∀ cl fs es j,st.get n = some (.inst cl fs) → x.G.own (x.G.ad n) = some (.obj n) → x.s.heap.get? (x.G.ad n) = some (instObj cl (x.G.dx n)) → x.G.own (x.G.dx n) = some (.dic n) →
  x.s.heap.get? (x.G.dx n) = some (dictOf es j) → FnU z.P x.G es fs → k cl fs → C):C :=
 ob_e (k:=oInst False k) R h fun _ e w o => o.el (C:=fun o => st.get n = some o → oInst False k o → C) (fun _ _ _ _ _ _ h => False.elim h) (fun _ _ _ _ _ _ h => False.elim h) (fun _ _ _ _ _ _ h => False.elim h) (fun _ _ _ _ g o g2 d e h => f _ _ _ _ e w g o g2 d h) e
theorem oi_opt {α:Type} {o:Option AObj} {f:Addr → List (Nat × AV) → Option α} {r:α} (h:oSome none (oInst none f) o = some r):oSome False (oInst False fun c fs => f c fs = some r) o :=
 Option.casesOn (motive:=fun o => oSome none (oInst none f) o = some r → oSome False (oInst False fun c fs => f c fs = some r) o) o n0 (fun o => AObj.casesOn (motive:=fun o => oInst none f o = some r → oInst False (fun c fs => f c fs = some r) o) o (fun _ => n0) (fun _ => n0) (fun _ => n0) fun _ _ h => h) h
theorem oi_bool {o:Option AObj} {f:Addr → List (Nat × AV) → Bool} (h:oSome false (oInst false f) o = true):oSome False (oInst False fun c fs => f c fs = true) o :=
 Option.casesOn (motive:=fun o => oSome false (oInst false f) o = true → oSome False (oInst False fun c fs => f c fs = true) o) o nb0 (fun o => AObj.casesOn (motive:=fun o => oInst false f o = true → oInst False (fun c fs => f c fs = true) o) o (fun _ => nb0) (fun _ => nb0) (fun _ => nb0) fun _ _ h => h) h
theorem inst_get (F:KF z.K) (KX:z.K.In z.B) (R:RepP z x st) {n C i:Nat} {av:AV} (ha:aT.contains (C,i) = true) (h:st.fld n C i = some av) (k:K av st) (po:Leaf z x K Q):wp z c (getAttr (.ref (x.G.ad n)) (nm i) true) Q x.s :=
 inst_e R (oi_opt h) fun cl fs es j e w g o g2 d hh => by
  have I:InstAt x.s.heap (x.G.ad n) (instObj cl (x.G.dx n)) cl (some (dictOf es j)):=⟨g,rfl,rfl,g2⟩
  cases q:cl == C with
  | false => rw [q] at hh;exact n0 hh
  | true =>
   rw [q] at hh
   have q:=beq_iff_eq.mp q;subst q
   have f:=aFact_of F ha
   rcases fnts_get d.f f.lt with q | ⟨av',v,q1,q2,V⟩
   ·exact n0 (q.1.symm.trans hh)
   ·have e:=Option.some.inj (q1.symm.trans hh);subst e
    exact get_value (KX.keeps R.old) I (plainGet_of f.get).1 (findObj_own f.hasD f.no rfl q2) (handed_vr V) (po.tok1 R V k)
theorem inst_set (F:KF z.K) (KX:z.K.In z.B) (R:RepP z x st) {n C i:Nat} (V:VRP z x v a) (ha:aT.contains (C,i) = true) (h:st.isI n C = true) (k:K (.d .none) (st.setF n i a)) (po:Leaf z x K Q):wp z c (setAttr (.ref (x.G.ad n)) (nm i) v) (fun _ s' => Q .none s') x.s :=
 inst_e R (oi_bool h) fun cl fs es j e w g o g2 d hh => by
  have I:InstAt x.s.heap (x.G.ad n) (instObj cl (x.G.dx n)) cl (some (dictOf es j)):=⟨g,rfl,rfl,g2⟩
  have q:=beq_iff_eq.mp (an_l hh);subst q
  have f:=aFact_of F ha
  refine set_raw (KX.keeps R.old) g g2 f.set f.over f.taker f.hasD (fnts_ref d.f) (d.f.length ▸ Nat.le_trans (Nat.le_of_ble_eq_true (an_r hh)) (by decide)) ?_
  have hnew:=putName_dict (nm i) (PyData.keyHash z.P (nm i)) (.str (nm i) (x.s.toks + 1)) v es j
  have hD:(x.s.heap.update (x.G.dx n) (Obj.putName (nm i) (PyData.keyHash z.P (nm i)) (.str (nm i) (x.s.toks + 1)) v)).get? (x.G.dx n) = some (dictOf (putL (nm i) (PyData.keyHash z.P (nm i)) (.str (nm i) (x.s.toks + 1)) v es) (putN (nm i) es j)):=by
   rw [← hnew];exact Heap.get?_update_self _ g2 (by rw [hnew];rfl)
  have ne:x.G.dx n ≠ x.G.ad n:=fun z => nomatch ((z ▸ w).symm.trans o)
  have U:=upd_obj (f:=AObj.putF i a) R e (Heap.SameBut.update x.s.heap (x.G.dx n) _) (.inr o) ⟨_,hD⟩ (.inst (by rw [Heap.get?_update_other _ _ ne];exact g) o hD (fnts_put f.lt V d.f d.u))
  exact po .none (.d .none) ⟨x.G,{ x.s with heap:=_,toks:=x.s.toks + 2 }⟩ _ (.of U.1 (Nat.le_add_right _ 2)) U.2 .none k
theorem inst_meth (F:KF z.K) (KX:z.K.In z.B) (R:RepP z x st) {n C m:Nat} {f:Addr} {pl:Sem Bool} {QM:Value × List Value → Shared → Prop} (hm:mT.contains (C,m,f) = true) (h:st.isM n C m = true) (k:QM (.ref f,[.ref (x.G.ad n)]) x.s):wpAny (model z.prog z.w) c.A (getMethod (.ref (x.G.ad n)) (nm m) pl) QM nope x.s :=
 inst_e R (oi_bool h) fun cl fs es j e w g o g2 d hh => by
  have I:InstAt x.s.heap (x.G.ad n) (instObj cl (x.G.dx n)) cl (some (dictOf es j)):=⟨g,rfl,rfl,g2⟩
  have q:=beq_iff_eq.mp (an_l hh);subst q
  have f:=mFact_of F hm
  have hn:=Option.isNone_iff_eq_none.mp (an_r hh)
  have q:=(fnts_get d.f f.lt).elim (fun q => q.2) fun ⟨_,_,q,_⟩ => n0 (hn.symm.trans q)
  exact method_fn (KX.keeps R.old) I (plainGet_of f.get).1 (plainGet_of f.get).2 f.find (beq_iff_eq.mp f.fn) (by show (lookIn (nm m) (dictOf es j)).map _ = _;rw [lookIn_dict,q];rfl) k
theorem pop_go {n:Nat} {xs:List PyData} {d:PyData} {vs:Array Value} {j:Nat} {pos:Pos} (R:RepP z x st) (e:st.get n = some (.dl xs)) (o:x.G.own (x.G.ad n) = some (.obj n)) (g:x.s.heap.get? (x.G.ad n) = some (listOf vs j)) (D:All2 (DR x.G.fz) vs.toList xs) (hx:xs.getLast? = some d) (hz:xs.length ≤ sizeLine)
  (k:K (.d d) (st.put n (.dl xs.dropLast))) (po:Leaf z x K Q):wp z c (callWith pos (.builtin "list.pop") [.ref (x.G.ad n)] [] []) Q x.s:=by
 have hlen:vs.size = xs.length:=Array.length_toList.symm.trans D.length
 obtain ⟨y,hy,dy⟩:=D.get (show xs[vs.size - 1]? = some d by rw [hlen,← List.getLast?_eq_getElem?];exact hx)
 rw [Array.getElem?_toList] at hy
 have hpos:vs.size - 1 < vs.size:=(Array.getElem?_eq_some_iff.mp hy).1
 have he:(vs.eraseIdxIfInBounds (vs.size - 1)).toList = vs.toList.take (vs.size - 1):=by
  rw [Array.eraseIdxIfInBounds_eq,dif_pos hpos,Array.toList_eraseIdx,List.eraseIdx_eq_take_drop_succ,Nat.sub_add_cancel (Nat.lt_of_le_of_lt (Nat.zero_le _) hpos),← Array.length_toList,List.drop_length,List.append_nil]
 have hD:=seq_upd g fun xs => xs.eraseIdxIfInBounds (vs.size - 1)
 refine PySem.P.pop_list g hy ?_ (by rw [hlen];exact hz)
 refine put_go (tk:=x.s.toks) R e o (Heap.SameBut.update x.s.heap (x.G.ad n) _) (.dl hD ?_) ⟨_,hD⟩ (Nat.le_refl _) (.d dy) k po
 rw [he,List.dropLast_eq_take,← hlen];exact D.take _
theorem ins_go {p:Addr} {i:Int} {t:Tok} (R:RepP z x st) (j:x.G.own p = some .junk) (h0:0 ≤ i) (h1:i < 1099511627776) (hz:st.jb < bigLen) (k:K (.d .none) { st with jb:=st.jb + 1 }) (po:Leaf z x K Q):wp z c (call (.builtin "list.insert") [.ref p,.int i t,v]) Q x.s:=by
 obtain ⟨vs,n,hg,hs⟩:=R.junk _ j
 have hsz:vs.size ≤ sizeLine:=bigLen_line (Nat.le_trans hs (Nat.le_of_lt hz))
 refine call_meets F.slot_list_insert ⟨_,hg,rfl⟩ F.entry_list_insert (F.args_list_insert_3 _ _ _) (PySem.AutoSeq1.list_insert_list_int_val_1 p vs n i t v (by simp [Builtin.List.listFitsIndex];omega) hsz) ⟨hg,?_⟩
 refine (fun (f:Array Value → Array Value) (hf:(f vs).size ≤ vs.size + 1) => (?_:Q .none { x.s with heap:=x.s.heap.update p (Obj.mapSeq f) })) _ (by exact PySem.AutoSeq1.size_inserted vs _ _)
 have U:=upd_junk R (Heap.SameBut.update x.s.heap p (Obj.mapSeq f)) j (seq_upd hg f) (Nat.le_trans hf (Nat.add_le_add_right hs 1))
 exact po .none _ ⟨x.G,{ x.s with heap:=_ }⟩ _ (.of U.1 (Nat.le_refl _)) U.2 .none k
theorem setI_go {n:Nat} {xs:List PyData} {d:PyData} {vs:Array Value} {j:Nat} {i:Int} {t:Tok} (R:RepP z x st) (e:st.get n = some (.dl xs)) (o:x.G.own (x.G.ad n) = some (.obj n)) (g:x.s.heap.get? (x.G.ad n) = some (listOf vs j)) (D:All2 (DR x.G.fz) vs.toList xs) (Dv:DR x.G.fz v d)
  (q:(decide (0 ≤ i) && decide (i < xs.length) && decide (xs.length ≤ bigLen)) = true) (k:K (.d .none) (st.put n (.dl (xs.set i.toNat d)))) (po:Leaf z x K Q):wp z c (setItem (.ref (x.G.ad n)) (.int i t) v) (fun _ s' => Q .none s') x.s:=by
 have h0:=of_decide_eq_true (an_l (an_l q));have h1:=of_decide_eq_true (an_r (an_l q))
 have hlen:vs.size = xs.length:=Array.length_toList.symm.trans D.length
 have hD:=seq_upd g (·.setIfInBounds i.toNat v)
 refine setItem_list_raw g h0 (Int.lt_trans h1 (big_lt (of_decide_eq_true (an_r q)))) (hlen ▸ h1) ?_
 refine put_go (a:=.d .none) (tk:=x.s.toks) R e o (Heap.SameBut.update x.s.heap (x.G.ad n) _) (.dl hD ?_) ⟨_,hD⟩ (Nat.le_refl _) .none k po
 rw [Array.toList_setIfInBounds];exact D.set Dv _
theorem setK_go {n:Nat} {kvs:List (Str × AV)} {es:List DictEntry} {j:Nat} {s:Str} {t:Tok} (R:RepP z x st) (e:st.get n = some (.dict kvs)) (o:x.G.own (x.G.ad n) = some (.obj n)) (g:x.s.heap.get? (x.G.ad n) = some (dictOf es j)) (E:All2 (ER z.P x.G) es kvs) (V:VR0 z.P x.G v a)
  (q:(Nat.ble kvs.length 999 && decide (kvs.map (·.1)).Nodup) = true) (k:K (.d .none) (st.put n (.dict (putK s a kvs)))) (po:Leaf z x K Q):wp z c (setItem (.ref (x.G.ad n)) (.str s t) v) (fun _ s' => Q .none s') x.s:=by
 have nd:=of_decide_eq_true (an_r q)
 obtain ⟨vals,D,EE⟩:=dictOf_of z g E nd
 refine toks_up (wpAny_setItem_pairs (strKind_is z.prog z.w s t) D (fun h' D' hs le => ?_) (by rw [All2.length EE,sizeLine_eq];have:=Nat.le_of_ble_eq_true (an_l q);omega))
 obtain ⟨es',n',g1,g2⟩:=of_dictOf D' (EV.put EE nd s V)
 exact put_go (a:=.d .none) R e o hs (.dict g1 g2) ⟨_,g1⟩ le .none k po
end
end
section
theorem nm_plain:∀ i,i < 219 → nm i ≠ "__classdict__":=by decide +kernel
theorem nm_debug:∀ i,i < 219 → (nm i == ("__debug__":Str)) = false:=by decide +kernel
theorem or_e {a b:Bool} {C:Prop} (h:(a || b) = true) (f:a = true → C) (g:b = true → C):C:=(Bool.or_eq_true a b ▸ h).elim f g
theorem blt_lt {a b:Nat} (h:Nat.blt a b = true):a < b:=Nat.le_of_ble_eq_true h
structure FnOK (z:Zx) (a:Addr) (F:Fn):Prop where
 keep:keepIn z.K (.ref a) = true
 run:∀ {A x st K Q avs vs},Rm z.n A → 0 < x.s.toks → RepP z x st → All2 (VR z.P x.G) vs avs → F avs st K → Leaf z x K Q → wpAny (model z.prog z.w) A (call (.ref a) vs) Q nope x.s
structure Zok (z:Zx):Prop where
 K:z.K.In z.B
 F:KF z.K
 g:∃ mg,z.B.Ns mainGlobals mg
 b:∃ mb,z.B.Ns builtinsNs mb ∧ ∀ x:Str,x ≠ "__name__" → mb x = bootBuiltins x
 tab:∀ a F,z.T.lookup a = some F → FnOK z a F
section
variable {z:Zx} {c:Cx} {L:Locs} {x y:Pt} {st st':St} {K:EK} {Q:Value → Shared → Prop} {v va vb:Value} {av:AV} {a b:ME} {e:Expr}
theorem Zok.at (Z:Zok z) {p:Addr} {avs:List AV} (h:z.T.at p avs st K):FnOK z p (z.T.at p):=by
 cases q:z.T.lookup p with
 | none =>
  have h:oSome (fun _ _ _ => False) id (z.T.lookup p) avs st K:=h
  rw [q] at h;exact h.elim
 | some F => rw [show z.T.at p = oSome (fun _ _ _ => False) id (z.T.lookup p) from rfl,q];exact Z.tab p F q
theorem loadN (S:Sit z c L x st) {i:Nat} {M:Model} {E:Value → Shared → Prop} (hl:isLoc c.sc i = true) (he:L.lookup i = some av) (k:∀ v,VRP z x v av → Q v x.s):wpAny M c.A (loadName c.env (nm i)) Q E x.s :=
 S.fr.elim fun m q => q.elim fun cm F => (F.vars i av he hl).elim fun v q => q.2.elim (fun q' => wpAny_loadName_local F.kind q'.1 F.ns q'.2 (k v q.1)) fun q' => (Option.isSome_iff_exists.mp q'.2.1).elim fun p hp =>
  have hc:=q'.2.2 ▸ F.cell _ _ hp
  q'.1.elim (fun h => wpAny_loadName_cell F.kind h hp hc (k v q.1)) fun h => wpAny_loadName_free F.kind h hp hc (k v q.1) (beq_eq_false_iff_ne.mpr (nm_plain i (blt_lt (an_l hl))))
theorem name_v (S:Sit z c L x st) {i:Nat} {pos:Pos} (hl:isLoc c.sc i = true) (he:L.lookup i = some av) (k:∀ v,VRP z x v av → Q v x.s):wp z c (eval (.Name (nm i) pos) c.env) Q x.s:=wpAny_Name (loadN S hl he k) (nm_debug i (blt_lt (an_l hl)))
structure GF (K:Frag) (i:Nat) (a:Addr):Prop where
 ns:nsIn K mainGlobals (nm i) = some (some (.ref a))
 lt:i < 219
 keep:keepIn K (.ref a) = true
theorem gFact_of {K:Frag} (F:KF K) {i a:Nat} (h:gT.contains (i,a) = true):GF K i a :=
 have q:=List.all_eq_true.mp F.g (i,a) (List.contains_iff_mem.mp h)
 ⟨beq_iff_eq.mp (an_l (an_l q)),of_decide_eq_true (an_r (an_l q)),an_r q⟩
theorem name_g (Z:Zok z) (S:Sit z c L x st) {i a:Nat} {pos:Pos} (hg:isGl c.sc (nm i) = true) (ht:gT.contains (i,a) = true) (k:Q (.ref a) x.s):wp z c (eval (.Name (nm i) pos) c.env) Q x.s :=
 have f:=gFact_of Z.F ht
 Z.g.elim fun mg g => S.fr.elim fun m q => q.elim fun cm F => Name_function_global F.kind (F.glob _ (beq_iff_eq.mp hg)) (loadGlobal_global (by rw [F.gl];exact g.keeps S.rep.old) (mg_of Z.K g f.ns) k) (nm_debug i f.lt)
theorem name_b (Z:Zok z) (S:Sit z c L x st) {n:Str} {w:Value} {pos:Pos} (hg:isGl c.sc n = true) (ht:bT.contains n = true) (hv:bootBuiltins n = some w) (hn:n ≠ "__name__") (hd:(n == ("__debug__":Str)) = false) (k:Q w x.s):wp z c (eval (.Name n pos) c.env) Q x.s :=
 have bf:=beq_iff_eq.mp (List.all_eq_true.mp Z.F.b n (List.contains_iff_mem.mp ht))
 Z.g.elim fun mg g => Z.b.elim fun mb b => S.fr.elim fun m q => q.elim fun cm F => Name_function_global F.kind (F.glob _ (beq_iff_eq.mp hg))
  (loadGlobal_builtin (by rw [F.gl];exact g.keeps S.rep.old) (mg_none_of Z.K g bf) (by rw [F.bl];exact b.1.keeps S.rep.old) ((b.2 n hn).trans hv) k) hd
theorem base_ok {o:Expr} {attr:Str} {env:Env} {M:Model} {A:Around} {s:Shared} {E:Value → Shared → Prop} (hb:baseOK o = true) (h:wpAny M A (eval o env) Q E s):wpAny M A (attributeBase o attr env (eval o env)) Q E s:=by
 generalize eval o env = W at h ⊢
 refine or_e hb (fun hb => ?_) fun hb => onCall_e (C:=fun o => wpAny M A (attributeBase o attr env W) Q E s) hb fun f xs ks p h' => ?_
 ·cases o <;> first | exact h | exact nb0 hb
 ·refine em_e (C:=fun xs => wpAny M A (attributeBase (.Call f xs ks p) attr env W) Q E s) (an_l (an_l h')) ?_
  refine em_e (C:=fun ks => wpAny M A (attributeBase (.Call f [] ks p) attr env W) Q E s) (an_r (an_l h')) ?_
  refine onName_e (C:=fun f => wpAny M A (attributeBase (.Call f [] [] p) attr env W) Q E s) (an_r h') fun n _ h' => ?_
  unfold attributeBase
  simp only [h',Bool.true_or,if_true]
  exact h
theorem star_one {e:Expr} (h:notStar e = true) (es:List Expr) (env:Env):starEach (e :: es) env = (false,eval e env) :: starEach es env:=by
 cases e <;> first | rfl | exact nb0 h
theorem plain_trees {sc:Sc} {t:Bool} {pos:Pos} {env:Env} {ms:MEs} {es:List Expr} (h:okEs sc t ms es = true):(backTo pos (starEach es env)).any (·.1) = false:=by
 induction es generalizing ms with
 | nil => rfl
 | cons e es ih =>
  cases ms with
  | nil => exact nb0 h
  | cons m ms =>
   rw [star_one (an_l (an_l h))]
   exact ih (an_r h)
theorem args_any {A:Around} {s:Shared} {f:Value} {args:List (Bool × Sem Value)} {Q:Args → Shared → Prop} {M:Model} {E:Value → Shared → Prop} (hp:args.any (·.1) = false) (h:wpAny M A (spliced args) (fun vs s' => Q ⟨vs,[]⟩ s') E s) :
  wpAny M A (evalArgs f true args []) Q E s:=by
 cases args with
 | nil => exact wpAny_bind (wpAny_mono h (fun vs s' h' => wpAny_bind (wpAny_pure (wpAny_holding (wpAny_bind (wpAny_pure (wpAny_bind (wpAny_pure (wpAny_pure h')))))))) fun _ _ x => x)
 | cons x r =>
  obtain ⟨b,x⟩:=x
  cases b
  ·exact evalArgs_plain h
  ·exact nomatch hp
theorem evs_nil:EvsOK z .nil:=by
 intro c L x st es Q K pos ok S h po
 exact em_e (C:=fun es => (∀ vs avs y st',Step x y → Sit z c L y st' → avs.length = es.length → All2 (VR z.P y.G) vs avs → K avs st' → Q vs y.s) → wp z c (spliced (backTo pos (starEach es c.env))) Q x.s) ok (fun po => Calls.spliced_nil (po _ _ x st (.refl x) S rfl .nil h)) po
theorem evs_cons {m:ME} {ms:MEs} (H:EvOK z m) (Hs:EvsOK z ms):EvsOK z (.cons m ms):=by
 intro c L x st es Q K pos ok S h po
 cases es with
 | nil => exact nb0 ok
 | cons e es =>
  rw [star_one (an_l (an_l ok))]
  exact Calls.spliced_cons (H (an_r (an_l ok)) S h fun v av y st1 X S1 V h => Hs (an_r ok) S1 h fun vs avs y2 st2 Y S2 hl Vs k => po _ _ y2 st2 (X.trans Y) S2 (congrArg (· + 1) hl) (.cons (V.mono Y.ext.gx) Vs) k)
theorem evs_one {m:ME} (H:EvOK z m):EvsOK z (.cons m .nil):=evs_cons H evs_nil
theorem call_val (Z:Zok z) {p:Addr} {pos:Pos} {first:List Value} {favs:List AV} {es:List Expr} {ms:MEs} (Hs:EvsOK z ms) (ok:okEs c.sc false ms es = true) (S:Sit z c L x st) (hf:All2 (VR z.P x.G) first favs) (hk:keepIn z.K (.ref p) = true) (h:wpEs z.T ms L st fun xs st => z.T.at p (favs ++ xs) st K) (po:Post z c L x K Q) :
  wp z c (callWith pos (.ref p) first (backTo pos (starEach es c.env)) []) Q x.s :=
 callWith_of (P:=fun h => z.K.In h) ((Bool.or_false _).trans (plain_trees ok)) (fun h X => keeps_K hk h X) (args_any (plain_trees ok) (Hs ok S h fun vs avs y st1 X S1 _ Vs h => ⟨Z.K.keeps S1.rep.old,
  (Z.at h).run S1.rm S1.tok S1.rep ((hf.mono fun _ _ => VR.mono X.ext.gx).append Vs) h (po.leaf X S1)⟩))
theorem meth_call {o:Expr} {env:Env} {A:Around} {M:Model} {s:Shared} {name:Str} {apos pos:Pos} {args:List Expr} {E:Value → Shared → Prop} (hb:baseOK o = true) (ok:(backTo pos (starEach args env)).any (·.1) = false) (hl:(apos.endLine == pos.line) = true) (hn:args.length < 20)
  (h:wpAny M A (eval o env) (fun ov s₁ => ∀ pl,wpAny M A (getMethod ov name pl) (fun p s₂ => wpAny M A (callWith pos p.1 p.2 (backTo pos (starEach args env)) []) Q E s₂) E s₁) E s) :
  wpAny M A (eval (.Call (.Attribute o name apos) args [] pos) env) Q E s:=by
 rw [arm_eval_Call]
 refine wpAny_bind (base_ok hb (wpAny_mono h (fun ov s₁ h₁ => wpAny_bind (wpAny_standAt ?_)) fun _ _ e => e))
 have hall:(backTo pos (starEach args env)).all (fun x => !x.1) = true:=List.all_eq_true.mpr fun x hx => by have:=List.any_eq_false.mp ok x hx;simpa using this
 have hform:methodCallForm (args.length + ([]:List Keyword).length) (backTo pos (starEach args env)) (backToKw pos (keywordEach [] env)) = true:=by
  unfold methodCallForm;rw [hall,show backToKw pos (keywordEach [] env) = [] from rfl];simp;omega
 have hpos:methodCallPos true o env apos pos = pure pos:=by unfold methodCallPos;simp [hl]
 unfold methodCall
 rw [hform]
 exact wpAny_bind (wpAny_holding (wpAny_mono (h₁ _) (fun p s₂ h₂ => wpAny_bind (wpAny_of_eq hpos h₂)) fun _ _ e => e))
end
end
section
section
variable {z:Zx} {c:Cx} {L:Locs} {x y:Pt} {st st':St} {K:EK} {Q:Value → Shared → Prop} {v va vb:Value} {av:AV} {a b d:ME} {e:Expr}
theorem plainT_d {e:Expr} (h:plainT e = true) (env:Env) (whole:Sem Value):isTrue e env whole = (do let v ← whole;standAt e.pos;holding [v] (truthy v)):=by
 cases e <;> first | rfl | exact nb0 h
theorem marks_no {e:Expr} (h:noSet e = true) (op:CmpOp):behindInMarks op e = false:=by
 cases e <;> first | rfl | exact nb0 h
theorem true_dflt {me:ME} (H:EvOK z me) (hb:∀ sc e,okE sc true me e = (plainT e && okE sc false me e)):TrueOK z me:=fun {c L x st K Q e} ok S h po => have q:=(hb c.sc e).symm.trans ok
 wpAny_isTrue_value (H (an_r q) S h fun v av y st' X S' V k => bool_e (C:=fun v => wp z c (truthy v) Q y.s) V k fun b k => wpAny_truthy_bool (po b y st' X S' k)) (plainT_d (an_l q) _ _)
theorem ev_never:EvOK z .never:=fun _ _ h _ => h.elim
theorem tr_never:TrueOK z .never:=fun _ _ h _ => h.elim
theorem lit_c {x':PyData} {k:Nat} {p:Pos} (S:Sit z c L x st) (hc:dataC x' = true) (h:K (.d x') st) (po:Leaf z x K Q):wp z c (eval (.Constant (toConst x') k p) c.env) Q x.s :=
 @PyData.casesOn (fun x' => dataC x' = true → K (.d x') st → wp z c (eval (.Constant (toConst x') k p) c.env) Q x.s) x' (fun _ h => wpAny_Constant_none (po.here S.rep .none h)) (fun _ _ h => wpAny_Constant_bool (po.here S.rep .bool h)) (fun _ _ h => wpAny_Constant_int (po.tok1 S.rep .int h))
  (fun _ _ h => wpAny_Constant_str (po.tok1 S.rep .str h)) (fun _ => nb0) (fun _ => nb0) (fun _ => nb0) hc h
theorem lit_n {x':PyData} {k:Const} {n:Nat} {p p':Pos} (S:Sit z c L x st) (hc:oInt false (fun j => k == .int (-j)) x' = true) (h:K (.d x') st) (po:Leaf z x K Q):wp z c (eval (.UnaryOp .USub (.Constant k n p') p) c.env) Q x.s :=
 @PyData.casesOn (fun x' => oInt false (fun j => k == .int (-j)) x' = true → K (.d x') st → wp z c (eval (.UnaryOp .USub (.Constant k n p') p) c.env) Q x.s) x' nb0 (fun _ => nb0) (fun j q h => by
  have e:=beq_iff_eq.mp q;subst e
  exact wpAny_UnaryOp (wpAny_Constant_int (PySem.P.neg_int (by rw [Int.neg_neg];exact po.tok S.rep .int h (Nat.le_add_right _ 2))))) (fun _ => nb0) (fun _ => nb0) (fun _ => nb0) (fun _ => nb0) hc h
theorem ev_lit {x':PyData}:EvOK z (.lit x'):=fun {c L x st K Q e} ok S h po => have po:=po.leaf (.refl x) S
 or_e ok (fun ok => onConstant_e (C:=fun e => wp z c (eval e c.env) Q x.s) ok fun k n p q => beq_iff_eq.mp (an_r q) ▸ lit_c S (an_l q) h po)
  fun ok => onUnaryOp_e (C:=fun e => wp z c (eval e c.env) Q x.s) ok fun o y p q => beq_iff_eq.mp (an_l q) ▸ onConstant_e (C:=fun y => wp z c (eval (.UnaryOp .USub y p) c.env) Q x.s) (an_r q) fun k n p' q => lit_n S q h po
theorem ev_v {i:Nat}:EvOK z (.v i):=fun {c L x st K Q e} ok S h po => onName_e (C:=fun e => wp z c (eval e c.env) Q x.s) ok fun n p q => beq_iff_eq.mp (an_l q) ▸ opt_e h fun v e k => name_v S (an_r q) e fun u V => po u v x st (.refl x) S V k
theorem ev_g (Z:Zok z) {i a:Nat}:EvOK z (.g i a):=fun {c L x st K Q e} ok S h po => onName_e (C:=fun e => wp z c (eval e c.env) Q x.s) ok fun n p q => beq_iff_eq.mp (an_l (an_l q)) ▸ name_g Z S (an_r (an_l q)) (an_r q) (po _ (.fn a) x st (.refl x) S (.s .fn) h)
theorem ev_bin {o:BK} (Ha:EvOK z a) (Hb:EvOK z b):EvOK z (.bin o a b):=fun {c L x st K Q e} ok S h po =>
 onBinOp_e (C:=fun e => wp z c (eval e c.env) Q x.s) ok fun l p r _ q => beq_iff_eq.mp (an_l (an_l q)) ▸ wpAny_BinOp (Ha (an_r (an_l q)) S h fun v av y st1 X S1 V h => Hb (an_r q) S1 h fun u au y2 st2 Y S2 U h => bin_go S2.rep (V.mono Y.ext.gx) U h (po.leaf (X.trans Y) S2))
theorem Post.bleaf {KB:Bool → St → Prop} {Q:Value → Shared → Prop} (po:∀ r y' st',Step x y' → Sit z c L y' st' → KB r st' → Q (.bool r) y'.s) (X:Step x y) (S:Sit z c L y st):BLeaf z y st (fun r => KB r st) Q :=
 fun v av y' st' Y R V k => bool_e (C:=fun v => Q v y'.s) V k fun r k => po r y' st' (X.trans Y) (S.next Y R) (k.2 ▸ k.1)
theorem cmp2 {o:CK} (Ha:EvOK z a) (Hb:EvOK z b) {l r:Expr} {KB:Bool → St → Prop} (h1:okE c.sc false a l = true) (h2:okE c.sc false b r = true) (S:Sit z c L x st) (h:wpE z.T a L st fun x st => wpE z.T b L st fun y st => cmpW o x y st fun r => KB r st)
  (po:∀ r y' st',Step x y' → Sit z c L y' st' → KB r st' → Q (.bool r) y'.s):wp z c (eval l c.env) (fun v s => wp z c (eval r c.env) (fun u s => wp z c (compareOp o.op v u) Q s) s) x.s :=
 Ha h1 S h fun v av y st1 X S1 V h => Hb h2 S1 h fun u au y2 st2 Y S2 U h => cmp_go S2.rep S2.rm.u100 (V.mono Y.ext.gx) U h (Post.bleaf po (X.trans Y) S2)
theorem ev_cmp {o:CK} (Ha:EvOK z a) (Hb:EvOK z b):EvOK z (.cmp o a b):=fun {c L x st K Q e} ok S h po =>
 onCompare_e (C:=fun e => wp z c (eval e c.env) Q x.s) ok fun l os rs p q => on1_e (C:=fun os => wp z c (eval (.Compare l os rs p) c.env) Q x.s) (an_l q) fun o' q1 => on1_e (C:=fun rs => wp z c (eval (.Compare l [o'] rs p) c.env) Q x.s) (an_r q) fun r q2 => beq_iff_eq.mp q1 ▸
  wpAny_Compare1 (cmp2 (o:=o) Ha Hb (an_r (an_l q2)) (an_r q2) S h fun r y' st' X S' k => po _ (.d (.bool r)) y' st' X S' .bool k) (marks_no (an_l (an_l q2)) _)
theorem tr_cmp {o:CK} (Ha:EvOK z a) (Hb:EvOK z b):TrueOK z (.cmp o a b):=fun {c L x st K Q e} ok S h po =>
 onCompare_e (C:=fun e => wp z c (isTrue e c.env (eval e c.env)) Q x.s) ok fun l os rs p q => on1_e (C:=fun os => wp z c (isTrue (.Compare l os rs p) c.env (eval (.Compare l os rs p) c.env)) Q x.s) (an_l q) fun o' q1 => on1_e (C:=fun rs => wp z c (isTrue (.Compare l [o'] rs p) c.env (eval (.Compare l [o'] rs p) c.env)) Q x.s) (an_r q) fun r q2 => beq_iff_eq.mp q1 ▸
  wpAny_isTrue_Compare1 (cmp2 (o:=o) (KB:=K) (Q:=fun v s => wp z c (truthy v) Q s) Ha Hb (an_r (an_l q2)) (an_r q2) S h fun r y' st' X S' k => wpAny_truthy_bool (po r y' st' X S' k)) (marks_no (an_l (an_l q2)) _)
theorem cc2 {pos:Pos} {v:Value} {o o':CmpOp} {X Y:Sem Value}:compareChain pos v [o,o'] [X,Y] = (holding [v] X >>= fun rv => standAt pos >>= fun _ => holding [v,rv] (compareOp o v rv) >>= fun c => release [v,rv] [c] >>= fun _ => holding [c,rv] (truthy c) >>= fun t => if t then compareChain pos rv [o'] [Y] else pure c):=rfl
theorem ev_btw (Ha:EvOK z a) (Hb:EvOK z b) (Hd:EvOK z d):EvOK z (.btw a b d):=fun {c L x st K Q e} ok S h po =>
 onCompare_e (C:=fun e => wp z c (eval e c.env) Q x.s) ok fun l os rs p q => on2_e (C:=fun os => wp z c (eval (.Compare l os rs p) c.env) Q x.s) (an_l q) fun o1 o2 q1 => on2_e (C:=fun rs => wp z c (eval (.Compare l [o1,o2] rs p) c.env) Q x.s) (an_r q) fun r s q2 => by
  have e1:=beq_iff_eq.mp (an_l q1);have e2:=beq_iff_eq.mp (an_r q1);subst e1;subst e2
  rw [arm_eval_Compare]
  refine wpAny_bind (Ha (an_r (an_l (an_l q2))) S h fun v av y1 st1 X S1 V h => ?_)
  show wpAny _ _ (compareChain _ v [_,_] [eval _ c.env,markedBehindIn _ _ (eval _ c.env)]) _ _ _
  rw [markedBehindIn_of_false (marks_no (an_l (an_l (an_l q2))) _)]
  rw [cc2]
  refine wpAny_bind (wpAny_holding (Hb (an_r (an_l q2)) S1 h fun u au y2 st2 Y S2 U h => wpAny_bind (wpAny_standAt (wpAny_bind (wpAny_holding ?_)))))
  refine cmp_go (o:=.le) S2.rep S2.rm.u100 (V.mono Y.ext.gx) U h (Post.bleaf (KB:=fun p st => ifc p (wpE z.T d L st fun w st => cmpW .le au w st fun q => K (.d (.bool q)) st) (K (.d (.bool false)) st)) (fun t y3 st3 W S3 k => ?_) (.refl y2) S2)
  refine wpAny_bind (wpAny_release (wpAny_bind (wpAny_holding (wpAny_truthy_bool ?_))))
  cases t with
  | false => exact wpAny_pure (po _ _ y3 st3 ((X.trans Y).trans W) S3 .bool k)
  | true =>
   exact wpAny_bind (wpAny_holding (Hd (an_r q2) S3 k fun w aw y4 st4 W' S4 V' h => wpAny_bind (wpAny_standAt (wpAny_operating
    (cmp_go (o:=.le) S4.rep S4.rm.u100 (U.mono (W.ext.gx.trans W'.ext.gx)) V' h (Post.bleaf (KB:=fun q st => K (.d (.bool q)) st) (fun q y5 st5 W'' S5 k => po _ _ y5 st5 (((X.trans Y).trans (W.trans W')).trans W'') S5 .bool k) (.refl y4) S4))))))
structure ListOK (z:Zx) (op:BoolOp) (W:MEs → Locs → St → (Bool → St → Prop) → Prop) (ms:MEs):Prop where
 ev:∀ {c L x st es Q} {K:Bool → St → Prop} {pos:Pos},okEs c.sc false ms es = true → es ≠ [] → Sit z c L x st → W ms L st K → (∀ r y st',Step x y → Sit z c L y st' → K r st' → Q (.bool r) y.s) → wp z c (boolOp pos op (evalEach es c.env)) Q x.s
 tr:∀ {c L x st es Q} {K:Bool → St → Prop},okEs c.sc true ms es = true → Sit z c L x st → W ms L st K → TPost z c L x K Q → wp z c (allTrue op es c.env) Q x.s
theorem and_nil:ListOK z .And (wpA z.T) .nil:=⟨fun ok ne => absurd (List.isEmpty_iff.mp ok) ne,fun {c L x st es Q K} ok S h po => em_e (C:=fun es => wp z c (allTrue .And es c.env) Q x.s) ok (wpAny_allTrue_And_nil (po true x st (.refl x) S h))⟩
theorem or_nil:ListOK z .Or (wpO z.T) .nil:=⟨fun ok ne => absurd (List.isEmpty_iff.mp ok) ne,fun {c L x st es Q K} ok S h po => em_e (C:=fun es => wp z c (allTrue .Or es c.env) Q x.s) ok (wpAny_allTrue_Or_nil (po false x st (.refl x) S h))⟩
theorem boolOp_step {op:BoolOp} {s:Bool} {pos:Pos} {X Y:Sem Value} {r:List (Sem Value)} {s0:Shared} (hs:s = (op == .Or)) (h:wp z c X (fun v s' => ∃ b,v = .bool b ∧ (b = s → Q (.bool s) s') ∧ (b = (!s) → wp z c (boolOp pos op (Y :: r)) Q s')) s0):wp z c (boolOp pos op (X :: Y :: r)) Q s0 :=
 wpAny_bind (up h fun v s' ⟨b,e,h1,h2⟩ => e ▸ wpAny_bind (wpAny_standAt (wpAny_bind (wpAny_holding (wpAny_truthy_bool (by
  subst hs
  cases op <;> cases b <;> first | exact h2 rfl | exact wpAny_pure (h1 rfl)))))))
theorem allTrue_step {op:BoolOp} {s:Bool} {e:Expr} {r:List Expr} {s0:Shared} {Q:Bool → Shared → Prop} (hs:s = (op == .Or)) (h:wp z c (isTrue e c.env (eval e c.env)) (fun b s' => (b = s → Q s s') ∧ (b = (!s) → wp z c (allTrue op r c.env) Q s')) s0):wp z c (allTrue op (e :: r) c.env) Q s0:=by
 subst hs
 cases op
 ·exact wpAny_allTrue_And_cons (up h fun b s' p => by cases b <;> first | exact p.1 rfl | exact p.2 rfl)
 ·exact wpAny_allTrue_Or_cons (up h fun b s' p => by cases b <;> first | exact p.1 rfl | exact p.2 rfl)
theorem list_cons {op:BoolOp} {W:MEs → Locs → St → (Bool → St → Prop) → Prop} {m:ME} {ms:MEs} {s:Bool} {D:Locs → (Bool → St → Prop) → Bool → St → Prop} (hs:s = (op == .Or)) (hn:∀ L st K,W .nil L st K = K (!s) st)
  (hW:∀ L st (K:Bool → St → Prop),W (.cons m ms) L st K = wpE z.T m L st fun x st => x.bool fun b => D L K b st) (hD:∀ {L K b st},D L K b st → (b = s → K s st) ∧ (b = (!s) → W ms L st K)) (H:EvOK z m) (HT:TrueOK z m) (Hs:ListOK z op W ms):ListOK z op W (.cons m ms) where
 ev:=fun {c L x st es Q K pos} ok ne S h po => by
  cases es with
  | nil => exact absurd rfl ne
  | cons e es =>
   rw [hW] at h
   cases es with
   | nil =>
    have e2:ms = .nil:=by cases ms with | nil => rfl | cons => exact nb0 (an_r ok)
    subst e2
    refine H (an_r (an_l ok)) S h fun v av y st1 X S1 V h => bool_e (C:=fun v => Q v y.s) V h fun b h => po b y st1 X S1 ?_
    have q:=hD h
    rw [hn] at q
    cases b <;> cases s <;> first | exact q.1 rfl | exact q.2 rfl
   | cons e' es' => exact boolOp_step hs (H (an_r (an_l ok)) S h fun v av y st1 X S1 V h => bool_e (C:=fun v => ∃ b,v = .bool b ∧ (b = s → Q (.bool s) y.s) ∧ (b = (!s) → wp z c (boolOp pos op (eval e' c.env :: evalEach es' c.env)) Q y.s)) V h fun b h =>
     ⟨b,rfl,fun q => po s y st1 X S1 ((hD h).1 q),fun q => Hs.ev (es:=e' :: es') (an_r ok) (List.cons_ne_nil _ _) S1 ((hD h).2 q) fun r y2 st2 Y => po r y2 st2 (X.trans Y)⟩)
 tr:=fun {c L x st es Q K} ok S h po => by
  cases es with
  | nil => exact nb0 ok
  | cons e es =>
   rw [hW] at h
   exact allTrue_step hs (HT (an_r (an_l ok)) S h fun b y st1 X S1 h => ⟨fun q => po s y st1 X S1 ((hD h).1 q),fun q => Hs.tr (an_r ok) S1 ((hD h).2 q) fun r y2 st2 Y => po r y2 st2 (X.trans Y)⟩)
theorem and_cons {m:ME} {ms:MEs} (H:EvOK z m) (HT:TrueOK z m) (Hs:ListOK z .And (wpA z.T) ms):ListOK z .And (wpA z.T) (.cons m ms) :=
 list_cons (s:=false) (D:=fun L K b st => ifc b (wpA z.T ms L st K) (K false st)) rfl (fun _ _ _ => rfl) (fun _ _ _ => rfl) (fun h => ⟨fun q => by subst q;exact h,fun q => by subst q;exact h⟩) H HT Hs
theorem or_cons {m:ME} {ms:MEs} (H:EvOK z m) (HT:TrueOK z m) (Hs:ListOK z .Or (wpO z.T) ms):ListOK z .Or (wpO z.T) (.cons m ms) :=
 list_cons (s:=true) (D:=fun L K b st => ifc b (K true st) (wpO z.T ms L st K)) rfl (fun _ _ _ => rfl) (fun _ _ _ => rfl) (fun h => ⟨fun q => by subst q;exact h,fun q => by subst q;exact h⟩) H HT Hs
theorem len2 {es:List Expr} (h:Nat.ble 2 es.length = true):es ≠ []:=fun e => by subst e;exact nb0 h
theorem ev_and {ms:MEs} (Hs:ListOK z .And (wpA z.T) ms):EvOK z (.and ms):=fun {c L x st K Q e} ok S h po => onBoolOp_e (C:=fun e => wp z c (eval e c.env) Q x.s) ok fun o vs p q => beq_iff_eq.mp (an_l (an_l q)) ▸ (show wp z c (eval (.BoolOp .And vs p) c.env) Q x.s from
 arm_eval_BoolOp .And vs p c.env ▸ Hs.ev (an_r (an_l q)) (len2 (an_r q)) S h fun r y st' X S' k => po _ (.d (.bool r)) y st' X S' .bool k)
theorem ev_or {ms:MEs} (Hs:ListOK z .Or (wpO z.T) ms):EvOK z (.or ms):=fun {c L x st K Q e} ok S h po => onBoolOp_e (C:=fun e => wp z c (eval e c.env) Q x.s) ok fun o vs p q => beq_iff_eq.mp (an_l (an_l q)) ▸ (show wp z c (eval (.BoolOp .Or vs p) c.env) Q x.s from
 arm_eval_BoolOp .Or vs p c.env ▸ Hs.ev (an_r (an_l q)) (len2 (an_r q)) S h fun r y st' X S' k => po _ (.d (.bool r)) y st' X S' .bool k)
theorem tr_and {ms:MEs} (Hs:ListOK z .And (wpA z.T) ms):TrueOK z (.and ms):=fun {c L x st K Q e} ok S h po => onBoolOp_e (C:=fun e => wp z c (isTrue e c.env (eval e c.env)) Q x.s) ok fun o vs p q => beq_iff_eq.mp (an_l (an_l q)) ▸ wpAny_isTrue_BoolOp (Hs.tr (an_r (an_l q)) S h po)
theorem tr_or {ms:MEs} (Hs:ListOK z .Or (wpO z.T) ms):TrueOK z (.or ms):=fun {c L x st K Q e} ok S h po => onBoolOp_e (C:=fun e => wp z c (isTrue e c.env (eval e c.env)) Q x.s) ok fun o vs p q => beq_iff_eq.mp (an_l (an_l q)) ▸ wpAny_isTrue_BoolOp (Hs.tr (an_r (an_l q)) S h po)
theorem ev_not (H:EvOK z a):EvOK z (.not a):=fun {c L x st K Q e} ok S h po => onUnaryOp_e (C:=fun e => wp z c (eval e c.env) Q x.s) ok fun o y p q => beq_iff_eq.mp (an_l q) ▸ wpAny_UnaryOp (H (an_r q) S h fun v av y st' X S' V h =>
 bool_e (C:=fun v => wp z c (unaryOp .Not v) Q y.s) V h fun b k => not_of (wpAny_truthy_bool (po _ (.d (.bool !b)) y st' X S' .bool k)))
theorem tr_not (H:TrueOK z a):TrueOK z (.not a):=fun {c L x st K Q e} ok S h po => onUnaryOp_e (C:=fun e => wp z c (isTrue e c.env (eval e c.env)) Q x.s) ok fun o y p q => beq_iff_eq.mp (an_l q) ▸ (show wp z c (isTrue (.UnaryOp .Not y p) c.env (eval (.UnaryOp .Not y p) c.env)) Q x.s from
 arm_isTrue_UnaryOp y p c.env _ ▸ wpAny_bind (H (K:=fun b st => K (!b) st) (an_r q) S h fun b y st' X S' k => wpAny_pure (po _ y st' X S' k)))
theorem ev_ite (Hc:TrueOK z a) (Ha:EvOK z b) (Hb:EvOK z d):EvOK z (.ite a b d):=fun {c L x st K Q e} ok S h po => onIfExp_e (C:=fun e => wp z c (eval e c.env) Q x.s) ok fun t l r p q =>
 wpAny_IfExp (Hc (K:=fun p st => ifc p (wpE z.T b L st K) (wpE z.T d L st K)) (an_l (an_l q)) S h fun p y st' X S' h => by
  have po:Post z c L y K Q:=fun v av y' st2 Y => po v av y' st2 (X.trans Y)
  cases p
  ·exact Hb (an_r q) S' h po
  ·exact Ha (an_r (an_l q)) S' h po)
theorem tr_ite:TrueOK z (.ite a b d):=fun ok _ _ _ => nb0 ok
theorem tr_btw:TrueOK z (.btw a b d):=fun ok _ _ _ => nb0 ok
end
end
section
section
variable {z:Zx} {c:Cx} {L:Locs} {x y:Pt} {st st':St} {K:EK} {Q:Value → Shared → Prop} {v va vb:Value} {av:AV} {a b d:ME} {e:Expr}
theorem Leaf.k {K':EK} (po:Leaf z x K Q) (f:∀ v st',K' v st' → K v st'):Leaf z x K' Q:=fun v av y st' X R V k => po v av y st' X R V (f _ _ k)
theorem Leaf.same {KV:AV → St → Prop} (po:Leaf z x KV Q):Leaf z x (fun v st' => KV v st ∧ st' = st) Q:=po.k fun v st' k => k.2 ▸ k.1
theorem ev_attr (Z:Zok z) {i cl:Nat} (Ha:EvOK z a):EvOK z (.attr a cl i):=fun {c L x st K Q e} ok S h po =>
 onAttribute_e (C:=fun e => wp z c (eval e c.env) Q x.s) ok fun o n p q => beq_iff_eq.mp (an_l (an_l (an_l q))) ▸ (show wpAny _ _ (attributeBase _ _ c.env (eval _ c.env) >>= fun o => standAt _ >>= fun _ => holding [o] (getAttr o (nm i) true) >>= fun r => letTemporaryGo _ o r >>= fun _ => pure r) _ _ _ from
  wpAny_bind (base_ok (an_r (an_l (an_l q))) (Ha (an_r q) S h fun v av y st1 X S1 V h => wpAny_bind (wpAny_standAt (wpAny_bind (wpAny_holding
   (at_e (C:=fun _ v => wpAny _ c.A (getAttr v (nm i) true) (fun r s => wpAny _ c.A (letTemporaryGo _ v r >>= fun _ => pure r) Q nope s) nope y.s) (k:=fun n => opt (st1.fld n cl i) fun v => K v st1) V h fun n _ h => opt_e h fun w e k =>
    inst_get Z.F Z.K S1.rep (an_r (an_l q)) e k fun v av y2 st2 Y R V k => wpAny_bind (wpAny_letTemporaryGo (wpAny_pure (po.leaf X S1 v av y2 st2 Y R V k))))))))))
theorem ev_idx {o:XK} (Ha:EvOK z a) (Hb:EvOK z b):EvOK z (.idx o a b):=fun {c L x st K Q e} ok S h po =>
 onSubscript_e (C:=fun e => wp z c (eval e c.env) Q x.s) ok fun t s p q => Subscript_ (Ha (an_r (an_l q)) S h fun v av y st1 X S1 V h => Hb (an_r q) S1 h fun u au y2 st2 Y S2 U h => idx_go (an_l (an_l q)) S2.rep (V.mono Y.ext.gx) U h (po.leaf (X.trans Y) S2).same)
theorem ev_slA (Ho:EvOK z a) (Hl:EvOK z b) (Hh:EvOK z d):EvOK z (.slA a b d):=fun {c L x st K Q e} ok S h po =>
 onSubscript_e (C:=fun e => wp z c (eval e c.env) Q x.s) ok fun t s p q => onSlice_e (C:=fun s => wp z c (eval (.Subscript t s p) c.env) Q x.s) (an_l q) fun l u w p' q' => no_e (C:=fun w => wp z c (eval (.Subscript t (.Slice l u w p') p) c.env) Q x.s) (an_l (an_l q')) (
  onS_e (C:=fun l => wp z c (eval (.Subscript t (.Slice l u none p') p) c.env) Q x.s) (an_r (an_l q')) fun l q1 => onS_e (C:=fun u => wp z c (eval (.Subscript t (.Slice (some l) u none p') p) c.env) Q x.s) (an_r q') fun u q2 =>
   Subscript_ (Ho (an_r q) S h fun v av y1 st1 X1 S1 V h => wpAny_Slice (show wp z c (eval l c.env) _ y1.s from Hl q1 S1 h fun i ai y2 st2 X2 S2 I h => (show wp z c (eval u c.env) _ y2.s from Hh q2 S2 h fun j aj y3 st3 X3 S3 J h => wpAny_pure
    (str_e (C:=fun w => wp z c (subscriptTail t _ w (.ref y3.s.heap.objs.size)) Q { y3.s with heap:=y3.s.heap.push (slO i j) }) (V.mono (X2.ext.gx.trans X3.ext.gx)) h fun s u h => int_e (C:=fun i => wp z c (subscriptTail t _ (.str s u) (.ref y3.s.heap.objs.size)) Q { y3.s with heap:=y3.s.heap.push (slO i j) }) (I.mono X3.ext.gx) h fun i w h =>
     int_e (C:=fun j => wp z c (subscriptTail t _ (.str s u) (.ref y3.s.heap.objs.size)) Q { y3.s with heap:=y3.s.heap.push (slO (.int i w) j) }) J h fun j w' h => gd_e h fun g k => sl_go (lo:=some i) (hi:=some j) S3.rep ⟨_,rfl⟩ ⟨_,rfl⟩ (big' g) k (po.leaf (X1.trans (X2.trans X3)) S3))))))
theorem ev_slL (Ho:EvOK z a) (Hl:EvOK z b):EvOK z (.slL a b):=fun {c L x st K Q e} ok S h po =>
 onSubscript_e (C:=fun e => wp z c (eval e c.env) Q x.s) ok fun t s p q => onSlice_e (C:=fun s => wp z c (eval (.Subscript t s p) c.env) Q x.s) (an_l q) fun l u w p' q' => no_e (C:=fun w => wp z c (eval (.Subscript t (.Slice l u w p') p) c.env) Q x.s) (an_l (an_l q')) (
  onS_e (C:=fun l => wp z c (eval (.Subscript t (.Slice l u none p') p) c.env) Q x.s) (an_r q') fun l q1 => no_e (C:=fun u => wp z c (eval (.Subscript t (.Slice (some l) u none p') p) c.env) Q x.s) (an_r (an_l q')) (
   Subscript_ (Ho (an_r q) S h fun v av y1 st1 X1 S1 V h => wpAny_Slice (show wp z c (eval l c.env) _ y1.s from Hl q1 S1 h fun i ai y2 st2 X2 S2 I h => wpAny_pure (wpAny_pure
    (str_e (C:=fun w => wp z c (subscriptTail t _ w (.ref y2.s.heap.objs.size)) Q { y2.s with heap:=y2.s.heap.push (slO i .none) }) (V.mono X2.ext.gx) h fun s u h => int_e (C:=fun i => wp z c (subscriptTail t _ (.str s u) (.ref y2.s.heap.objs.size)) Q { y2.s with heap:=y2.s.heap.push (slO i .none) }) I h fun i w h =>
     gd_e h fun g k => sl_go (lo:=some i) (hi:=none) S2.rep ⟨_,rfl⟩ rfl (big' g) k (po.leaf (X1.trans X2) S2)))))))
theorem ev_slH (Ho:EvOK z a) (Hh:EvOK z b):EvOK z (.slH a b):=fun {c L x st K Q e} ok S h po =>
 onSubscript_e (C:=fun e => wp z c (eval e c.env) Q x.s) ok fun t s p q => onSlice_e (C:=fun s => wp z c (eval (.Subscript t s p) c.env) Q x.s) (an_l q) fun l u w p' q' => no_e (C:=fun w => wp z c (eval (.Subscript t (.Slice l u w p') p) c.env) Q x.s) (an_l (an_l q')) (
  onS_e (C:=fun u => wp z c (eval (.Subscript t (.Slice l u none p') p) c.env) Q x.s) (an_r q') fun u q1 => no_e (C:=fun l => wp z c (eval (.Subscript t (.Slice l (some u) none p') p) c.env) Q x.s) (an_r (an_l q')) (
   Subscript_ (Ho (an_r q) S h fun v av y1 st1 X1 S1 V h => wpAny_Slice (wpAny_pure (show wp z c (eval u c.env) _ y1.s from Hh q1 S1 h fun i ai y2 st2 X2 S2 I h => wpAny_pure
    (str_e (C:=fun w => wp z c (subscriptTail t _ w (.ref y2.s.heap.objs.size)) Q { y2.s with heap:=y2.s.heap.push (slO .none i) }) (V.mono X2.ext.gx) h fun s u h => int_e (C:=fun i => wp z c (subscriptTail t _ (.str s u) (.ref y2.s.heap.objs.size)) Q { y2.s with heap:=y2.s.heap.push (slO .none i) }) I h fun i w h =>
     gd_e h fun g k => sl_go (lo:=none) (hi:=some i) S2.rep rfl ⟨_,rfl⟩ (big' g) k (po.leaf (X1.trans X2) S2)))))))
theorem ev_init (Ho:EvOK z a):EvOK z (.init a):=fun {c L x st K Q e} ok S h po =>
 onSubscript_e (C:=fun e => wp z c (eval e c.env) Q x.s) ok fun t s p q => onSlice_e (C:=fun s => wp z c (eval (.Subscript t s p) c.env) Q x.s) (an_l q) fun l u w p' q' => no_e (C:=fun w => wp z c (eval (.Subscript t (.Slice l u w p') p) c.env) Q x.s) (an_l (an_l q')) (
  onS_e (C:=fun u => wp z c (eval (.Subscript t (.Slice l u none p') p) c.env) Q x.s) (an_r q') fun u q1 => no_e (C:=fun l => wp z c (eval (.Subscript t (.Slice l (some u) none p') p) c.env) Q x.s) (an_r (an_l q')) (
   onUnaryOp_e (C:=fun u => wp z c (eval (.Subscript t (.Slice none (some u) none p') p) c.env) Q x.s) q1 fun o w pw q2 => beq_iff_eq.mp (an_l q2) ▸ onConstant_e (C:=fun w => wp z c (eval (.Subscript t (.Slice none (some (.UnaryOp .USub w pw)) none p') p) c.env) Q x.s) (an_r q2) fun k n pk q3 => beq_iff_eq.mp q3 ▸
   Subscript_ (Ho (an_r q) S h fun v av y1 st1 X1 S1 V h => wpAny_Slice (wpAny_pure (show wp z c (eval (.UnaryOp .USub (.Constant (.int 1) n pk) pw) c.env) _ y1.s from wpAny_UnaryOp (wpAny_Constant_int (PySem.P.neg_int (wpAny_pure
    (flst_e (k:=fun xs => gd (decide (xs.length ≤ bigLen)) (K (.d (.list xs.dropLast)) st1)) (C:=fun w => wp z c (subscriptTail t _ w (.ref y1.s.heap.objs.size)) Q _) V h fun ad vs n xs g D h =>
     gd_e h fun e k => init_go (x:=⟨y1.G,{ y1.s with toks:=y1.s.toks + 1 + 1 }⟩) S1.rep (S1.rep.fz _ _ g).1 D (big' e) k (po.leaf (X1.trans (.tk (Nat.le_add_right _ 2))) (S1.next (.tk (Nat.le_add_right _ 2)) S1.rep)))))))))))
theorem len100 {n:Nat} (h:Nat.blt n 100 = true):n ≤ sizeLine:=sizeLine_eq ▸ Nat.le_trans (Nat.le_of_lt (blt_lt h)) (by decide)
theorem ev_tup {ms:MEs} (Hs:EvsOK z ms):EvOK z (.tup ms):=fun {c L x st K Q e} ok S h po =>
 onTuple_e (C:=fun e => wp z c (eval e c.env) Q x.s) ok fun vs k p q => wpAny_Tuple (Hs (an_r q) S h fun us aus y st1 X S1 hl U h => ⟨U.length.trans hl ▸ len100 (an_l q),opt_e h fun t e k => mkTup_go S1.rep U e k (po.leaf X S1)⟩)
theorem ev_lst {o:LK} {ms:MEs} (Hs:EvsOK z ms):EvOK z (.lst o ms):=fun {c L x st K Q e} ok S h po =>
  onList_e (C:=fun e => wp z c (eval e c.env) Q x.s) ok fun vs p q => wpAny_List (Hs (an_r q) S h fun us aus y st1 X S1 hl U h => ⟨U.length.trans hl ▸ len100 (an_l q),by
    have po:=po.leaf X S1
    cases o with
    | fro => exact opt_e h fun ds e k => mkList_go (l:=false) S1.rep (dats_dr U e) k po
    | loc => exact opt_e h fun ds e k => mkList_go (l:=true) S1.rep (dats_dr U e) k po
    | junk => exact gd_e h fun e k => by
                have e:=List.isEmpty_iff.mp e;subst e;cases U
                exact (alloc_junk S1.rep).elim fun G' q => po _ _ ⟨G',{ y.s with heap:=_ }⟩ _ (.of q.1 (Nat.le_refl _)) q.2.1 q.2.2 k
    | jl => exact gd_e h fun e k => by
              have e:=List.isEmpty_iff.mp e;subst e;cases U
              exact (alloc_own (ob:=.jl 0) (o:=listOf #[] 0) S1.rep rfl fun G' gx e => .jl (e ▸ Heap.get?_push_size _ rfl) .nil).elim fun G' q => po _ _ ⟨G',{ y.s with heap:=_ }⟩ _ (.of q.1 (Nat.le_refl _)) q.2.1 q.2.2 (nd_e k)⟩)
theorem ev_call (Z:Zok z) {i p:Nat} {ms:MEs} (Hs:EvsOK z ms):EvOK z (.call i p ms):=fun {c L x st K Q e} ok S h po =>
 onCall_e (C:=fun e => wp z c (eval e c.env) Q x.s) ok fun f xs ks pos q => em_e (C:=fun ks => wp z c (eval (.Call f xs ks pos) c.env) Q x.s) (an_l (an_l (an_l (an_l q)))) (onName_e (C:=fun f => wp z c (eval (.Call f xs [] pos) c.env) Q x.s) (an_r (an_l (an_l (an_l q)))) fun n np q1 => beq_iff_eq.mp q1 ▸
  wpAny_Call_ofName (name_g Z S (an_r (an_l (an_l q))) (an_r (an_l q)) (call_val (favs:=[]) Z Hs (an_r q) S .nil (gFact_of Z.F (an_r (an_l q))).keep h po)))
end
end
section
set_option maxRecDepth 100000
section
variable {z:Zx} {c:Cx} {L:Locs} {x y:Pt} {st st':St} {K:EK} {Q:Value → Shared → Prop} {v va vb:Value} {av:AV} {a b d:ME} {e:Expr}
theorem ev_callv (Z:Zok z) {i:Nat} {ms:MEs} (Hs:EvsOK z ms):EvOK z (.callv i ms):=fun {c L x st K Q e} ok S h po =>
 onCall_e (C:=fun e => wp z c (eval e c.env) Q x.s) ok fun f xs ks pos q => em_e (C:=fun ks => wp z c (eval (.Call f xs ks pos) c.env) Q x.s) (an_l (an_l (an_l q))) (onName_e (C:=fun f => wp z c (eval (.Call f xs [] pos) c.env) Q x.s) (an_r (an_l (an_l q))) fun n np q1 => beq_iff_eq.mp q1 ▸
  opt_e h fun w e h => wpAny_Call_ofName (name_v S (an_r (an_l q)) e fun v V => fun_e (C:=fun v => wp z c (callWith pos v [] (backTo pos (starEach xs c.env)) []) Q x.s) (k:=fun p => gd (z.T.lookup p).isSome (wpEs z.T ms L st fun xs st => z.T.at p xs st K)) V h fun p h => gd_e h fun g h => call_val (favs:=[]) Z Hs (an_r q) S .nil ((Option.isSome_iff_exists.mp g).elim fun F e => (Z.tab p F e).keep) h po))
theorem ev_meth (Z:Zok z) {cl f m:Nat} {ms:MEs} (Ha:EvOK z a) (Hs:EvsOK z ms):EvOK z (.meth a cl f m ms):=fun {c L x st K Q e} ok S h po =>
 onM_e (C:=fun e => wp z c (eval e c.env) Q x.s) ok fun o ap xs p hb hl q => meth_call hb (plain_trees (an_r q)) hl (blt_lt (an_r (an_l (an_l q)))) (Ha (an_r (an_l q)) S h fun v av y st1 X S1 V h pl =>
  at_e (C:=fun _ v => wpAny _ c.A (getMethod v (nm m) pl) _ nope y.s) (k:=fun n => gd (st1.isM n cl m) (wpEs z.T ms L st1 fun xs st => z.T.at f (.loc n :: xs) st K)) V h fun n l h => gd_e h fun g h => inst_meth Z.F Z.K S1.rep (an_l (an_l (an_l q))) g
   (call_val (favs:=[.loc n]) Z Hs (an_r q) S1 (.cons (.loc l) .nil) (mFact_of Z.F (an_l (an_l (an_l q)))).keep h fun v av y2 st2 Y => po v av y2 st2 (X.trans Y)))
theorem bm1 {id:String} {m:Str} {T:String} {o w:Expr} {ap p:Pos} {self:Value} {pl:Sem Bool} {me:ME} (hT:x.s.TypeIs self T) (pa:PlainAttrs T) (slot:Slot T m id) (hty:typeOf (.builtin id) = pure (.type "method_descriptor")) (hd:∀ a,self = .ref a → ∃ o,x.s.heap.get? a = some o ∧ o.dict = none)
  (H:EvOK z me) (hs:notStar w = true) (ok:okE c.sc false me w = true) (S:Sit z c L x st) (h:wpE z.T me L st K) (po:∀ v av y st',Step x y → Sit z c L y st' → VRP z y v av → K av st' → wp z c (call (.builtin id) [self,v]) Q y.s) :
  wpAny (model z.prog z.w) c.A (getMethod self m pl) (fun q s₂ => wpAny (model z.prog z.w) c.A (callWith p q.1 q.2 (backTo p (starEach [w] c.env)) []) Q nope s₂) nope x.s :=
 getMethod_builtin hT pa slot hty hd (star_one hs [] c.env ▸ callWith_builtin rfl (args_any rfl (Calls.spliced_cons (H ok S h fun v av y st' X S' V k => Calls.spliced_nil (po v av y st' X S' V k)))))
theorem bm2 {id:String} {m:Str} {T:String} {u w:Expr} {p:Pos} {self:Value} {pl:Sem Bool} {m1 m2:ME} {K2:AV → AV → St → Prop} (hT:x.s.TypeIs self T) (pa:PlainAttrs T) (slot:Slot T m id) (hty:typeOf (.builtin id) = pure (.type "method_descriptor")) (hd:∀ a,self = .ref a → ∃ o,x.s.heap.get? a = some o ∧ o.dict = none)
  (H1:EvOK z m1) (H2:EvOK z m2) (hs1:notStar u = true) (hs2:notStar w = true) (ok1:okE c.sc false m1 u = true) (ok2:okE c.sc false m2 w = true) (S:Sit z c L x st) (h:wpE z.T m1 L st fun a st => wpE z.T m2 L st fun b st => K2 a b st)
  (po:∀ v av u au y st',Step x y → Sit z c L y st' → VRP z y v av → VRP z y u au → K2 av au st' → wp z c (call (.builtin id) [self,v,u]) Q y.s) :
  wpAny (model z.prog z.w) c.A (getMethod self m pl) (fun q s₂ => wpAny (model z.prog z.w) c.A (callWith p q.1 q.2 (backTo p (starEach [u,w] c.env)) []) Q nope s₂) nope x.s :=
 getMethod_builtin hT pa slot hty hd (star_one hs1 [w] c.env ▸ star_one hs2 [] c.env ▸ callWith_builtin rfl (args_any rfl (Calls.spliced_cons (H1 ok1 S h fun v av y st1 X S1 V k => Calls.spliced_cons (H2 ok2 S1 k fun u au y2 st2 Y S2 U k => Calls.spliced_nil (po v av u au y2 st2 (X.trans Y) S2 (V.mono Y.ext.gx) U k))))))
theorem pt1 {w:Expr} {p:Pos} {env:Env} (h:notStar w = true):(backTo p (starEach [w] env)).any (·.1) = false:=star_one h [] env ▸ rfl
theorem pt2 {u w:Expr} {p:Pos} {env:Env} (h:notStar u = true) (h':notStar w = true):(backTo p (starEach [u,w] env)).any (·.1) = false:=star_one h [w] env ▸ star_one h' [] env ▸ rfl
noncomputable abbrev PM (z:Zx) (c:Cx) (m:Str) (es:List Expr) (p:Pos) (pl:Sem Bool) (Q:Value → Shared → Prop) (s:Shared) (v:Value):Prop :=
 wpAny (model z.prog z.w) c.A (getMethod v m pl) (fun q s₂ => wpAny (model z.prog z.w) c.A (callWith p q.1 q.2 (backTo p (starEach es c.env)) []) Q nope s₂) nope s
theorem ty_list {s:Shared} {a:Addr} {vs:Array Value} {n:Nat} (g:s.heap.get? a = some (listOf vs n)):s.TypeIs (.ref a) "list" ∧ ∀ b,Value.ref a = .ref b → ∃ o,s.heap.get? b = some o ∧ o.dict = none:=⟨⟨_,g,rfl⟩,fun b e => Value.ref.inj e ▸ ⟨_,g,rfl⟩⟩
theorem no_ref {s:Shared} {t:Str} {k:Tok}:∀ b,Value.str t k = .ref b → ∃ o,s.heap.get? b = some o ∧ o.dict = none:=fun _ e => nomatch e
theorem ev_app (Ha:EvOK z a) (Hb:EvOK z b):EvOK z (.app a b):=fun {c L x st K Q e} ok S h po =>
 onM_e (C:=fun e => wp z c (eval e c.env) Q x.s) ok fun o ap xs p hb hl q => on1_e (C:=fun xs => wp z c (eval (.Call (.Attribute o "append" ap) xs [] p) c.env) Q x.s) (an_r q) fun w q2 => meth_call hb (pt1 (an_l q2)) hl (show 1 < 20 by decide) (Ha (an_l q) S h fun v av y st1 X S1 V h pl =>
  at_e (C:=fun _ v => PM z c "append" [w] p pl Q y.s v) (k:=fun n => st1.dl n fun _ => wpE z.T b L st1 fun b st => b.dat fun d => st.dl n fun xs => gd (decide (xs.length < bigLen)) (nd (st.put n (.dl (xs ++ [d]))) (K (.d .none)))) V h fun n l h => dl_e S1.rep h fun _ _ _ _ _ g _ h => have t:=ty_list g
   bm1 (o:=o) (ap:=ap) t.1 F.plainAttrs_list F.slot_list_append PySem.type_list_append t.2 Hb (an_l q2) (an_r q2) S1 h fun u au y2 st2 Y S2 U h => datC_e U h fun d D h => dl_e S2.rep h fun xs vs j e o g Ds h => gd_e h fun q k =>
    Y.ext.gx.ad n l ▸ app_go S2.rep e o g (Nat.lt_of_lt_of_le (Array.length_toList.symm.trans Ds.length ▸ of_decide_eq_true q) (bigLen_line (Nat.le_refl _))) (fun h' k g => .dl g (by rw [Array.toList_push];exact Ds.append (.cons D .nil))) (nd_e k) (po.leaf (X.trans Y) S2))
theorem ev_appJ (Ha:EvOK z a) (Hb:EvOK z b):EvOK z (.appJ a b):=fun {c L x st K Q e} ok S h po =>
 onM_e (C:=fun e => wp z c (eval e c.env) Q x.s) ok fun o ap xs p hb hl q => on1_e (C:=fun xs => wp z c (eval (.Call (.Attribute o "append" ap) xs [] p) c.env) Q x.s) (an_r q) fun w q2 => meth_call hb (pt1 (an_l q2)) hl (show 1 < 20 by decide) (Ha (an_l q) S h fun v av y st1 X S1 V h pl =>
  at_e (C:=fun _ v => PM z c "append" [w] p pl Q y.s v) (k:=fun n => st1.jl n fun _ => wpE z.T b L st1 fun b st => b.jnk (st.jl n fun m => gd (decide (m < bigLen)) (nd (st.put n (.jl (m + 1))) (K (.d .none))))) V h fun n l h => jl_e S1.rep h fun _ _ _ _ _ g _ h => have t:=ty_list g
   bm1 (o:=o) (ap:=ap) t.1 F.plainAttrs_list F.slot_list_append PySem.type_list_append t.2 Hb (an_l q2) (an_r q2) S1 h fun u au y2 st2 Y S2 U h => Y.ext.gx.ad n l ▸ jnk_e (C:=fun u => wp z c (call (.builtin "list.append") [.ref (y2.G.ad n),u]) Q y2.s) U h fun d D h => jl_e S2.rep h fun m vs j e o g Ds h => gd_e h fun q k =>
    app_go S2.rep e o g (Nat.lt_of_lt_of_le (Array.length_toList.symm.trans (Ds.length.trans List.length_replicate) ▸ of_decide_eq_true q) (bigLen_line (Nat.le_refl _))) (fun h' k g => .jl g (by rw [Array.toList_push,List.replicate_succ'];exact Ds.append (.cons (.junk D) .nil))) (nd_e k) (po.leaf (X.trans Y) S2))
theorem ev_pop (Ha:EvOK z a):EvOK z (.pop a):=fun {c L x st K Q e} ok S h po =>
 onM_e (C:=fun e => wp z c (eval e c.env) Q x.s) ok fun o ap xs p hb hl q => em_e (C:=fun xs => wp z c (eval (.Call (.Attribute o "pop" ap) xs [] p) c.env) Q x.s) (an_r q) (meth_call hb rfl hl (show 0 < 20 by decide) (Ha (an_l q) S h fun v av y st1 X S1 V h pl =>
  at_e (C:=fun _ v => PM z c "pop" [] p pl Q y.s v) (k:=fun n => st1.dl n fun xs => opt xs.getLast? fun d => gd (decide (xs.length ≤ bigLen)) (nd (st1.put n (.dl xs.dropLast)) (K (.d d)))) V h fun n l h => dl_e S1.rep h fun xs vs j e o g D h => opt_e h fun d hx h => gd_e h fun q k => have t:=ty_list g
   getMethod_builtin t.1 F.plainAttrs_list F.slot_list_pop F.type_list_pop t.2 (pop_go S1.rep e o g D hx (big' q) (nd_e k) (po.leaf X S1))))
theorem ev_ins (Ha:EvOK z a) (Hb:EvOK z b) (Hd:EvOK z d):EvOK z (.ins a b d):=fun {c L x st K Q e} ok S h po =>
 onM_e (C:=fun e => wp z c (eval e c.env) Q x.s) ok fun o ap xs p hb hl q => on2_e (C:=fun xs => wp z c (eval (.Call (.Attribute o "insert" ap) xs [] p) c.env) Q x.s) (an_r q) fun u w q2 => meth_call hb (pt2 (an_l (an_l (an_l q2))) (an_r (an_l (an_l q2)))) hl (show 2 < 20 by decide) (Ha (an_l q) S h fun v av y st1 X S1 V h pl =>
  jnk_e (C:=fun v => PM z c "insert" [u,w] p pl Q y.s v) V h fun ad j h => (S1.rep.junk _ j).elim fun vs g => g.elim fun n g => have t:=ty_list g.1
   bm2 (K2:=fun i k st => i.unkn (k.int fun _ => gd (decide (st.jb < bigLen)) (nd { st with jb:=st.jb + 1 } (K (.d .none))))) t.1 F.plainAttrs_list F.slot_list_insert F.type_list_insert t.2 Hb Hd (an_l (an_l (an_l q2))) (an_r (an_l (an_l q2))) (an_r (an_l q2)) (an_r q2) S1 h
    fun i ai k ak y2 st2 Y S2 I Kk h => unk_e (C:=fun i => wp z c (call (.builtin "list.insert") [.ref ad,i,k]) Q y2.s) I h fun i t h0 h1 h => int_e (C:=fun k => wp z c (call (.builtin "list.insert") [.ref ad,.int i t,k]) Q y2.s) Kk h fun m t' h => gd_e h fun q k =>
     ins_go S2.rep (Y.ext.gx.jk _ j) h0 h1 (of_decide_eq_true q) (nd_e k) (po.leaf (X.trans Y) S2))
theorem ev_find (Ha:EvOK z a) (Hb:EvOK z b):EvOK z (.find a b):=fun {c L x st K Q e} ok S h po =>
 onM_e (C:=fun e => wp z c (eval e c.env) Q x.s) ok fun o ap xs p hb hl q => on1_e (C:=fun xs => wp z c (eval (.Call (.Attribute o "find" ap) xs [] p) c.env) Q x.s) (an_r q) fun w q2 => meth_call hb (pt1 (an_l q2)) hl (show 1 < 20 by decide) (Ha (an_l q) S h fun v av y st1 X S1 V h pl =>
  str_e (C:=fun v => PM z c "find" [w] p pl Q y.s v) V h fun s t h =>
   bm1 (o:=o) (ap:=ap) (typeIs_str _ _ _) F.plainAttrs_str F.slot_str_find F.type_str_find no_ref Hb (an_l q2) (an_r q2) S1 h fun u au y2 st2 Y S2 U h => str_e (C:=fun u => wp z c (call (.builtin "str.find") [.str s t,u]) Q y2.s) U h fun u t' k => find_go S2.rep k (po.leaf (X.trans Y) S2))
theorem ev_split (Ha:EvOK z a):EvOK z (.split a):=fun {c L x st K Q e} ok S h po =>
 onM_e (C:=fun e => wp z c (eval e c.env) Q x.s) ok fun o ap xs p hb hl q => em_e (C:=fun xs => wp z c (eval (.Call (.Attribute o "split" ap) xs [] p) c.env) Q x.s) (an_r q) (meth_call hb rfl hl (show 0 < 20 by decide) (Ha (an_l q) S h fun v av y st1 X S1 V h pl =>
  str_e (C:=fun v => PM z c "split" [] p pl Q y.s v) V h fun s t h => gd_e h fun q k => getMethod_builtin (typeIs_str _ _ _) F.plainAttrs_str F.slot_str_split F.type_str_split no_ref (callWith_builtin rfl (args_any rfl (Calls.spliced_nil (split_go S1.rep (of_decide_eq_true (an_l q)) (big' (an_r q)) k (po.leaf X S1)))))))
theorem ev_repl {s u:Str} (Ha:EvOK z a):EvOK z (.repl a s u):=fun {c L x st K Q e} ok S h po =>
 onM_e (C:=fun e => wp z c (eval e c.env) Q x.s) ok fun o ap xs p hb hl q => on2_e (C:=fun xs => wp z c (eval (.Call (.Attribute o "replace" ap) xs [] p) c.env) Q x.s) (an_r q) fun f w q2 =>
  onConstant_e (C:=fun f => wp z c (eval (.Call (.Attribute o "replace" ap) [f,w] [] p) c.env) Q x.s) (an_l q2) fun k1 n1 p1 q3 => onConstant_e (C:=fun w => wp z c (eval (.Call (.Attribute o "replace" ap) [.Constant k1 n1 p1,w] [] p) c.env) Q x.s) (an_r q2) fun k2 n2 p2 q4 => beq_iff_eq.mp q3 ▸ beq_iff_eq.mp q4 ▸
  meth_call hb rfl hl (show 2 < 20 by decide) (Ha (an_r (an_l q)) S h fun v av y st1 X S1 V h pl =>
   str_e (C:=fun v => PM z c "replace" [.Constant (.str s) n1 p1,.Constant (.str u) n2 p2] p pl Q y.s v) V h fun t w h => gd_e h fun g k => getMethod_builtin (typeIs_str _ _ _) F.plainAttrs_str F.slot_str_replace F.type_str_replace no_ref (callWith_builtin rfl (args_any rfl
    (Calls.spliced_cons (wpAny_Constant_str (k:=n1) (pos:=p1) (Calls.spliced_cons (wpAny_Constant_str (k:=n2) (pos:=p2) (Calls.spliced_nil
     (repl_go (x:=⟨y.G,{ y.s with toks:=y.s.toks + 1 + 1 }⟩) S1.rep (Nat.ne_of_gt S1.tok) (Nat.succ_ne_zero _) (Nat.ne_of_lt (Nat.lt_succ_self _)) (of_decide_eq_true g) (Nat.le_of_ble_eq_true (an_l (an_l (an_l q)))) (Bool.not_eq_true' _ |>.mp (an_r (an_l (an_l q)))) k (po.leaf (X.trans (.tk (Nat.le_add_right _ 2))) (S1.next (.tk (Nat.le_add_right _ 2)) S1.rep)))))))))))
theorem ev_getd (Ha:EvOK z a) (Hb:EvOK z b) (Hd:EvOK z d):EvOK z (.getd a b d):=fun {c L x st K Q e} ok S h po =>
 onM_e (C:=fun e => wp z c (eval e c.env) Q x.s) ok fun o ap xs p hb hl q => on2_e (C:=fun xs => wp z c (eval (.Call (.Attribute o "get" ap) xs [] p) c.env) Q x.s) (an_r q) fun u w q2 => meth_call hb (pt2 (an_l (an_l (an_l q2))) (an_r (an_l (an_l q2)))) hl (show 2 < 20 by decide) (Ha (an_l q) S h fun v av y st1 X S1 V h pl =>
  V.el (C:=fun v a => onFd False (fun es => wpE z.T b L st1 fun y st => wpE z.T d L st fun w st => y.str fun i => K ((es.lookup i).getD w) st) a → PM z c "get" [u,w] p pl Q y.s v) (fun _ _ _ h => False.elim h) (fun _ _ h => False.elim h) (fun _ h => False.elim h) (fun _ _ _ _ h => False.elim h) (fun _ _ h => False.elim h) (fun _ _ _ _ _ _ h => False.elim h)
   (fun ad es n kvs lt g E h => have g':=(S1.rep.fz _ _ g).1
    bm2 (K2:=fun i k st => i.str fun i => K ((kvs.lookup i).getD k) st) ⟨_,g',rfl⟩ F.plainAttrs_dict F.slot_dict_get F.type_dict_get (fun b e => Value.ref.inj e ▸ ⟨_,g',rfl⟩) Hb Hd (an_l (an_l (an_l q2))) (an_r (an_l (an_l q2))) (an_r (an_l q2)) (an_r q2) S1 h
     fun i ai k ak y2 st2 Y S2 I Kk h => str_e (C:=fun i => wp z c (call (.builtin "dict.get") [.ref ad,i,k]) Q y2.s) I h fun i t k => getd_go S2.rep (not_sys lt) (S2.rep.fz _ _ (Y.ext.gx.fz _ _ g)).1 (E.mono fun _ _ => ER.mono Y.ext.gx) Kk k (po.leaf (X.trans Y) S2)) h)
theorem boot_len:bootBuiltins "len" = some (.builtin "len"):=by kernel_rfl
theorem boot_ord:bootBuiltins "ord" = some (.builtin "ord"):=by kernel_rfl
theorem boot_chr:bootBuiltins "chr" = some (.builtin "chr"):=by kernel_rfl
theorem boot_sorted:bootBuiltins "sorted" = some (.builtin "sorted"):=by kernel_rfl
theorem boot_list:bootBuiltins "list" = some (.type "list"):=by kernel_rfl
theorem boot_range:bootBuiltins "range" = some (.type "range"):=by kernel_rfl
theorem bT_facts:bT.all (fun n => n != "__name__" && !(n == ("__debug__":Str))) = true:=by decide +kernel
theorem bT_f {n:Str} (h:bT.contains n = true):n ≠ "__name__" ∧ (n == ("__debug__":Str)) = false :=
 have q:=List.all_eq_true.mp bT_facts n (List.contains_iff_mem.mp h)
 ⟨bne_iff_ne.mp (an_l q),Bool.not_eq_true' _ |>.mp (an_r q)⟩
theorem fun1 (Z:Zok z) {id:String} {m:ME} (Hm:EvOK z m) (S:Sit z c L x st) (ht:bT.contains (Str.ofString id) = true) (hb:bootBuiltins (Str.ofString id) = some (.builtin id)) {e:Expr} (ok:onB c.sc (Str.ofString id) (on1 fun w => notStar w && okE c.sc false m w) e = true) (h:wpE z.T m L st K)
  (po:∀ v av y st',Step x y → Sit z c L y st' → VRP z y v av → K av st' → wp z c (call (.builtin id) [v]) Q y.s):wp z c (eval e c.env) Q x.s :=
 onB_e (C:=fun e => wp z c (eval e c.env) Q x.s) ok fun np xs p hg q => on1_e (C:=fun xs => wp z c (eval (.Call (.Name (Str.ofString id) np) xs [] p) c.env) Q x.s) q fun w q =>
  wpAny_Call_ofName (name_b Z S hg ht hb (bT_f ht).1 (bT_f ht).2 (callWith_builtin (pt1 (an_l q)) (args_any (pt1 (an_l q)) (star_one (an_l q) [] c.env ▸ Calls.spliced_cons (Hm (an_r q) S h fun v av y st' X S' V k => Calls.spliced_nil (po v av y st' X S' V k))))))
theorem typ1 (Z:Zok z) {id:String} {m:ME} (Hm:EvOK z m) (S:Sit z c L x st) (ht:bT.contains (Str.ofString id) = true) (hb:bootBuiltins (Str.ofString id) = some (.type id)) {e:Expr} (ok:onB c.sc (Str.ofString id) (on1 fun w => notStar w && okE c.sc false m w) e = true) (h:wpE z.T m L st K)
  (po:∀ v av y st',Step x y → Sit z c L y st' → VRP z y v av → K av st' → wp z c (call (.type id) [v]) Q y.s):wp z c (eval e c.env) Q x.s :=
 onB_e (C:=fun e => wp z c (eval e c.env) Q x.s) ok fun np xs p hg q => on1_e (C:=fun xs => wp z c (eval (.Call (.Name (Str.ofString id) np) xs [] p) c.env) Q x.s) q fun w q =>
  wpAny_Call_ofName (name_b Z S hg ht hb (bT_f ht).1 (bT_f ht).2 (PySem.callWith_type (pt1 (an_l q)) (args_any (pt1 (an_l q)) (star_one (an_l q) [] c.env ▸ Calls.spliced_cons (Hm (an_r q) S h fun v av y st' X S' V k => Calls.spliced_nil (po v av y st' X S' V k))))))
theorem ev_len (Z:Zok z) {o:NK} (Ha:EvOK z a):EvOK z (.len o a):=fun {c L x st K Q e} ok S h po => fun1 (id:="len") Z Ha S (by decide +kernel) boot_len ok h fun v av y st' X S' V h => len_go S'.rep V h (po.leaf X S').same
theorem ev_ord (Z:Zok z) (Ha:EvOK z a):EvOK z (.ord a):=fun {c L x st K Q e} ok S h po => fun1 (id:="ord") Z Ha S (by decide +kernel) boot_ord ok h fun v av y st' X S' V h => str_e (C:=fun v => wp z c (call (.builtin "ord") [v]) Q y.s) V h fun s t h => gd_e h fun q k => ord_go S'.rep q k (po.leaf X S')
theorem ev_chr (Z:Zok z) (Ha:EvOK z a):EvOK z (.chr a):=fun {c L x st K Q e} ok S h po => fun1 (id:="chr") Z Ha S (by decide +kernel) boot_chr ok h fun v av y st' X S' V h => int_e (C:=fun v => wp z c (call (.builtin "chr") [v]) Q y.s) V h fun s t h => gd_e h fun q k => chr_go S'.rep q k (po.leaf X S')
theorem ev_lstOf (Z:Zok z) (Ha:EvOK z a):EvOK z (.lstOf a):=fun {c L x st K Q e} ok S h po => typ1 (id:="list") Z Ha S (by decide +kernel) boot_list ok h fun v av y st' X S' V h =>
 ftup_e (C:=fun v => wp z c (call (.type "list") [v]) Q y.s) (k:=fun xs => gd xs.isEmpty (K (.d (.list [])) st')) V h fun ad vs n xs g D h => gd_e h fun q k => by
  have q:=List.isEmpty_iff.mp q;subst q;cases D
  exact lstOf_go S'.rep (S'.rep.fz _ _ g).1 k (po.leaf X S')
theorem ev_srtI (Z:Zok z) (Ha:EvOK z a):EvOK z (.srtI a):=fun {c L x st K Q e} ok S h po => fun1 (id:="sorted") Z Ha S (by decide +kernel) boot_sorted ok h fun v av y st' X S' V h =>
 flst_e (C:=fun v => wp z c (call (.builtin "sorted") [v]) Q y.s) (k:=fun xs => opt (intsOf xs) fun ns => gd (Nat.ble ns.length 16) (K (.d (.list ((ns.foldr insSorted []).map .int))) st')) V h fun ad vs n xs g D h => opt_e h fun ns e h => gd_e h fun q k => srtI_go S'.rep (S'.rep.fz _ _ g).1 D e q k (po.leaf X S')
theorem ev_srtK (Z:Zok z) (Ha:EvOK z a):EvOK z (.srtK a):=fun {c L x st K Q e} ok S h po => fun1 (id:="sorted") Z Ha S (by decide +kernel) boot_sorted ok h fun v av y st' X S' V h =>
 at_e (C:=fun _ v => wp z c (call (.builtin "sorted") [v]) Q y.s) (k:=fun n => st'.dict n fun es => gd (Nat.ble es.length 16 && decide (es.map (·.1)).Nodup) (K (.d (.list (((es.map (·.1)).foldr insSortS []).map .str))) st')) V h fun n l h => dict_e S'.rep h fun kvs es j _ o g E h => gd_e h fun q k =>
  srtK_go S'.rep S'.rm.hd (not_sys (S'.rep.hi _ _ o)) g E q k (po.leaf X S')
theorem ev_lstRng (Z:Zok z) (Ha:EvOK z a) (Hb:EvOK z b):EvOK z (.lstRng a b):=fun {c L x st K Q e} ok S h po =>
  onB_e (C:=fun e => wp z c (eval e c.env) Q x.s) ok fun np xs p hg q => on1_e (C:=fun xs => wp z c (eval (.Call (.Name "list" np) xs [] p) c.env) Q x.s) q fun w q => onB_e (C:=fun w => wp z c (eval (.Call (.Name "list" np) [w] [] p) c.env) Q x.s) q fun np' xs p' hg' q =>
    on2_e (C:=fun xs => wp z c (eval (.Call (.Name "list" np) [.Call (.Name "range" np') xs [] p'] [] p) c.env) Q x.s) q fun u w q => have ht:=show bT.contains "list" = true from (by decide +kernel);have ht':=show bT.contains "range" = true from (by decide +kernel)
      wpAny_Call_ofName (name_b Z S hg ht boot_list (bT_f ht).1 (bT_f ht).2 (PySem.callWith_type rfl (args_any rfl (show wp z c (spliced [(false,eval (.Call (.Name "range" np') [u,w] [] p') c.env)]) _ x.s from Calls.spliced_cons
        (wpAny_Call_ofName (name_b Z S hg' ht' boot_range (bT_f ht').1 (bT_f ht').2 (PySem.callWith_type (pt2 (an_l (an_l (an_l q))) (an_r (an_l (an_l q)))) (args_any (pt2 (an_l (an_l (an_l q))) (an_r (an_l (an_l q)))) (star_one (an_l (an_l (an_l q))) [w] c.env ▸ star_one (an_r (an_l (an_l q))) [] c.env ▸
          Calls.spliced_cons (Ha (an_r (an_l q)) S h fun i ai y1 st1 X S1 I h => Calls.spliced_cons (Hb (an_r q) S1 h fun j aj y2 st2 Y S2 J h => Calls.spliced_nil
            (int_e (C:=fun i => wp z c (call (.type "range") [i,j]) _ y2.s) (I.mono Y.ext.gx) h fun i t h => int_e (C:=fun j => wp z c (call (.type "range") [.int i t,j]) _ y2.s) J h fun j u h => gd_e h fun g k => call_range_2 (Calls.spliced_nil
              (have kn:=alloc_no S2.rep { cls:=.type "range",data:=.fields #[.int i t,.int j u,.int 1 y2.s.toks] }
               have T:Step y2 ⟨y2.G,{ y2.s with heap:=y2.s.heap.push _,toks:=y2.s.toks + 1 }⟩:=.of kn.1 (Nat.le_succ _)
               lstRng_go (x:=⟨y2.G,{ y2.s with heap:=y2.s.heap.push _,toks:=y2.s.toks + 1 }⟩) kn.2 S2.rm.hd (IsRange.new _ _ _ _ _ _ _) g k (po.leaf ((X.trans Y).trans T) (S2.next T kn.2))))))))))))))))
end
end
section
section
variable {z:Zx} {c:Cx} {L:Locs} {x y:Pt} {st st':St} {K:EK} {Q:Value → Shared → Prop} {v va vb:Value} {av:AV} {a b d:ME} {e:Expr}
theorem keysOK_len {ks:List Str}:∀ {keys:List (Option Expr)},keysOK ks keys = true → ks.length = keys.length ∧ keys.all (·.isSome) = true:=by
 induction ks with
 | nil => intro keys h;exact em_e (C:=fun keys => 0 = keys.length ∧ keys.all (·.isSome) = true) h ⟨rfl,rfl⟩
 | cons k r ih =>
  intro keys h
  cases keys with
  | nil => exact nb0 h
  | cons o t => exact onS_e (C:=fun o => (k :: r).length = (o :: t).length ∧ (o :: t).all (·.isSome) = true) (an_l h) fun e _ => have q:=ih (an_r h);⟨congrArg (· + 1) q.1,q.2⟩
noncomputable def PairsOK (z:Zx) (ms:MEs):Prop:=∀ {c L x st es Q} {K:List AV → St → Prop} {pos:Pos} {ks:List Str} {keys:List (Option Expr)},okEs c.sc false ms es = true → keysOK ks keys = true → ks.length = es.length → Sit z c L x st → wpEs z.T ms L st K →
 (∀ vs vals avs y st',Step x y → Sit z c L y st' → Carries (PySem.strKind z.prog z.w) vs vals → vals.map (·.1) = ks → All2 (VR z.P y.G) (vals.map (·.2)) avs → K avs st' → Q vs y.s) → wp z c (evalPairs (pairTrees keys es c.env pos)) Q x.s
theorem pairs_nil:PairsOK z .nil:=by
 intro c L x st es Q K pos ks keys ok kk hl S h po
 have e:=List.isEmpty_iff.mp ok;subst e
 have e:=List.length_eq_zero_iff.mp hl;subst e
 have e:=List.isEmpty_iff.mp kk;subst e
 exact evalPairs_nil (po [] [] [] x st (.refl x) S trivial rfl .nil h)
theorem pairs_cons {m:ME} {ms:MEs} (H:EvOK z m) (Hs:PairsOK z ms):PairsOK z (.cons m ms):=by
 intro c L x st es Q K pos ks keys ok kk hl S h po
 cases es with
 | nil => exact nb0 ok
 | cons e es => cases ks with
  | nil => cases hl
  | cons k ks => cases keys with
   | nil => exact nb0 kk
   | cons o keys =>
    refine onS_e (C:=fun o => wp z c (evalPairs (pairTrees (o :: keys) (e :: es) c.env pos)) Q x.s) (an_l kk) fun ke hk => onConstant_e (C:=fun ke => wp z c (evalPairs (pairTrees (some ke :: keys) (e :: es) c.env pos)) Q x.s) hk fun kc n p hk => beq_iff_eq.mp hk ▸ ?_
    show wpAny _ _ (evalPairs ((eval (.Constant (.str k) n p) c.env,do let x ← eval e c.env;standAt pos;pure x) :: pairTrees keys es c.env pos)) _ _ _
    have T:Step x ⟨x.G,{ x.s with toks:=x.s.toks + 1 }⟩:=.tk (Nat.le_succ _)
    exact evalPairs_cons (wpAny_Constant_str (wpAny_bind (H (x:=⟨x.G,{ x.s with toks:=x.s.toks + 1 }⟩) (an_r (an_l ok)) (S.next T S.rep) h fun v av y st1 X S1 V h => wpAny_bind (wpAny_standAt (wpAny_pure
     (Hs (an_r ok) (an_r kk) (Nat.succ.inj hl) S1 h fun vs vals avs y2 st2 Y S2 C ek Vs kk => po _ ((k,v) :: vals) (av :: avs) y2 st2 (T.trans (X.trans Y)) S2 ⟨strKind_is z.prog z.w _ _,rfl,C⟩ (congrArg (_ :: ·) ek) (.cons (V.mono Y.ext.gx) Vs) kk))))))
theorem ev_of {P:Params} {G:Gh} {vals:List (Str × Value)}:∀ {ks:List Str} {avs:List AV},vals.map (·.1) = ks → All2 (VR0 P G) (vals.map (·.2)) avs → EV P G vals (ks.zip avs):=by
 induction vals with
 | nil => intro ks avs e V;cases e;exact .nil
 | cons p vals ih =>
  intro ks avs e V
  cases e
  cases V with
  | cons V Vs => exact .cons (.mk V) (ih rfl Vs)
theorem merged_nodup {K:Type} [DecidableEq K]:∀ (kvs acc:List (K × Value)),((acc ++ kvs).map (·.1)).Nodup → merged acc kvs = acc ++ kvs:=by
 intro kvs
 induction kvs with
 | nil => intro acc _;rw [List.append_nil];rfl
 | cons p r ih =>
  intro acc h
  have hk:acc.any (fun kv => kv.1 = p.1) = false:=by
   rw [List.any_eq_false]
   intro q hq
   rw [List.map_append,List.nodup_append] at h
   exact fun z => h.2.2 q.1 (List.mem_map_of_mem hq) p.1 (List.mem_cons_self ..) (of_decide_eq_true z)
  have e:stored acc p.1 p.2 = acc ++ [p]:=by unfold stored;rw [hk];rfl
  show merged (stored acc p.1 p.2) r = _
  rw [e,ih (acc ++ [p]) (by rw [List.append_assoc];exact h),List.append_assoc];rfl
theorem sameBut_keep {a:Addr} {h h':Heap} (hs:Heap.SameBut a h h'):∀ b o,b ≠ a → h.get? b = some o → h'.get? b = some o:=fun b o q e => (hs.2 b q).trans e
theorem ext_own {Pv:Addr → Prop} {G G':Gh} {h h':Heap} (X:Ext Pv G h G' h') {a:Addr} (hl:∃ o,h.get? a = some o) (e:G.own a = none):G'.own a = none :=
 Classical.byContradiction fun q => (X.own a q).elim (fun z => z e) fun z => hl.elim fun o ho => n0 (z.symm.trans ho)
theorem ext_fz {Pv:Addr → Prop} {G G':Gh} {h h':Heap} (X:Ext Pv G h G' h') {a:Addr} (hl:∃ o,h.get? a = some o) (e:G.own a = none) (f:G.fz a = none):G'.fz a = none :=
 Classical.byContradiction fun q => (X.fzn a q).elim (fun z => z f) fun z => z.elim (fun z => z e) fun z => hl.elim fun o ho => n0 (z.symm.trans ho)
theorem dct_end {fro:Bool} {es:List DictEntry} {n:Nat} {kvs:List (Str × AV)} (X:Step x y) (R:RepP z y st) (h0:x.s.heap.get? x.s.heap.objs.size = none) (big:3 < x.s.heap.objs.size) (o:y.G.own x.s.heap.objs.size = none) (f:y.G.fz x.s.heap.objs.size = none) (g:y.s.heap.get? x.s.heap.objs.size = some (dictOf es n)) (E:All2 (ER z.P y.G) es kvs)
  (h:Bool.casesOn (motive:=fun _ => Prop) fro (nd (st.new (.dict kvs)) (K (.loc st.next))) (K (.fd kvs) st)) (po:Leaf z x K Q):Q (.ref x.s.heap.objs.size) y.s:=by
 cases fro with
 | false =>
  have q:=adopt_own (a1:=x.s.heap.objs.size) (a2:=none) (ob:=.dict kvs) X.ext R (fun a e => e.elim (fun e => e ▸ ⟨h0,o,f,big,_,g⟩) fun e => nomatch e) fun gx => .dict (by show y.s.heap.get? (if _ then _ else _) = _;rw [if_pos rfl];exact g) (E.mono fun _ _ => ER.mono gx)
  exact po _ _ ⟨y.G.add _ _,y.s⟩ _ ⟨X.eq,X.le,q.1⟩ q.2.1 (by have v:=VR.loc (P:=z.P) q.2.2.2;rw [q.2.2.1] at v;exact v) (nd_e h)
 | true =>
  have q:=adopt X.ext R h0 o f g
  exact po _ _ ⟨y.G.frz _ _,y.s⟩ _ ⟨X.eq,X.le,q.1⟩ q.2 (.fd big Gh.frz_at (E.mono fun _ _ => ER.mono (Gh.frz_gx f))) h
theorem ev_dct {fro:Bool} {ks:List Str} {ms:MEs} (Hs:PairsOK z ms):EvOK z (.dct fro ks ms):=fun {c L x st K Q e} ok S h po =>
 onDict_e (C:=fun e => wp z c (eval e c.env) Q x.s) ok fun keys es pos q => by
  have hl:ks.length = es.length:=beq_iff_eq.mp (an_l (an_l (an_l (an_l q))))
  have kl:=keysOK_len (an_r (an_l q))
  have hnd:=of_decide_eq_true (an_r (an_l (an_l q)))
  have fr:=fresh_none x.s.heap (Nat.le_refl x.s.heap.objs.size)
  have k0:=alloc_no S.rep { cls:=.type "dict",data:=.dict #[] }
  have g0:(x.s.heap.push { cls:=.type "dict",data:=.dict #[] }).get? x.s.heap.objs.size = some (dictOf [] 0):=Heap.get?_push_size _ rfl
  have X0:Step x ⟨x.G,{ x.s with heap:=x.s.heap.push { cls:=.type "dict",data:=.dict #[] } }⟩:=.of k0.1 (Nat.le_refl _)
  have S0:=S.next X0 k0.2
  have no:=S.rep.own_none fr
  have nf:=S.rep.fz_none fr
  cases keys with
  | nil =>
   have e:=List.length_eq_zero_iff.mp (hl.symm.trans kl.1);subst e
   have e:=List.length_eq_zero_iff.mp kl.1;subst e
   cases ms with
   | nil => exact wpAny_Dict_empty (gd_e (show gd (([]:List AV).all AV.simple) (Bool.casesOn (motive:=fun _ => Prop) fro (nd (st.new (.dict [])) (K (.loc st.next))) (K (.fd []) st)) from h) fun _ h => dct_end X0 k0.2 fr S.rep.big no nf g0 .nil h (po.leaf (.refl x) S))
   | cons m ms => exact nb0 (an_r q)
  | cons ky keys' =>
   refine wpAny_Dict_any kl.2 (kl.1.symm.trans hl) (List.cons_ne_nil _ _) (kl.1 ▸ Nat.le_of_ble_eq_true (an_r (an_l (an_l (an_l q))))) (Hs (x:=⟨x.G,{ x.s with heap:=_ }⟩) (an_r q) (an_r (an_l q)) hl S0 h fun vs vals avs y st1 X S1 C ek Vs h => gd_e h fun hs h => ?_)
   have E1:=ev_of ek (simples Vs hs)
   have l0:∃ o,(x.s.heap.push { cls:=.type "dict",data:=.dict #[] }).get? x.s.heap.objs.size = some o:=⟨_,g0⟩
   have o1:=ext_own X.ext l0 no
   have f1:=ext_fz X.ext l0 no nf
   have D1:y.s.heap.DictOf (PySem.strKind z.prog z.w) x.s.heap.objs.size []:=⟨_,#[],0,X.ext.keep _ _ g0 no id,⟨rfl,rfl,rfl⟩,rfl,fun _ he => (by simp at he),Pairs.nil,List.nodup_nil⟩
   have hz:vals.length ≤ 15:=by rw [← List.length_map (f:=Prod.fst),ek];exact Nat.le_of_ble_eq_true (an_r (an_l (an_l (an_l q))))
   refine wpAny_storeAll vs vals [] y.s _ C D1 (by rw [List.length_nil,Nat.zero_add,sizeLine_eq];exact Nat.le_trans hz (by decide)) fun h' D' hs' => ?_
   rw [merged_nodup vals [] (by rw [List.nil_append,ek];exact hnd),List.nil_append] at D'
   obtain ⟨es',n',g1,g2⟩:=of_dictOf D' E1
   have kp:=sameBut_keep hs'
   have XX:=X0.trans X
   exact dct_end (y:=⟨y.G,{ y.s with heap:=h',toks:=y.s.toks + vs.length }⟩) ⟨by rw [XX.eq],Nat.le_trans XX.le (Nat.le_add_right _ _),XX.ext.poke fr kp⟩ (S1.rep.poke o1 f1 kp) fr S.rep.big o1 f1 g1 g2 h (po.leaf (.refl x) S)
end
end
section
section
variable {z:Zx} {c:Cx} {L:Locs} {x y:Pt} {st st':St} {K:EK} {Q:Value → Shared → Prop} {v va vb:Value} {av:AV} {a b d:ME} {e:Expr}
structure It (z:Zx) (A:Around) (I:Addr) (xs:List AV) (same:St → Prop) (Inv:Nat → Gh → Heap → Prop):Prop where
 live:∀ {i G h},Inv i G h → (∃ o,h.get? I = some o) ∧ G.own I = none ∧ G.fz I = none
 frame:∀ {Pv i G G' h h' st},Inv i G h → Rep z.P z.B G h st → Ext Pv G h G' h' → ¬ Pv I → (∀ a,Pv a → G.own a = none ∧ G.fz a = none) → Inv i G' h'
 other:∀ {i G h h'},Inv i G h → (∀ b o,(b = I ∨ G.own b ≠ none ∨ G.fz b ≠ none) → h.get? b = some o → h'.get? b = some o) → Inv i G h'
 item:∀ {i} {x:Pt} {st a Q E},Inv i x.G x.s.heap → RepP z x st → same st → xs[i]? = some a → (∀ v h' tk,VRP z x v a → Inv (i + 1) x.G h' → (∀ b o,b ≠ I → x.s.heap.get? b = some o → h'.get? b = some o) → Q (some v) { x.s with heap:=h',toks:=tk }) → wpAny (model z.prog z.w) A (pyNext (.ref I)) Q E x.s
 done:∀ {i} {x:Pt} {st Q E},Inv i x.G x.s.heap → RepP z x st → same st → xs[i]? = none → (∀ h' tk,(∀ b o,b ≠ I → x.s.heap.get? b = some o → h'.get? b = some o) → Q none { x.s with heap:=h',toks:=tk }) → wpAny (model z.prog z.w) A (pyNext (.ref I)) Q E x.s
 self:∀ {i} {x:Pt} {Q E},Inv i x.G x.s.heap → Q (.ref I) x.s → wpAny (model z.prog z.w) A (pyIter (.ref I)) Q E x.s
noncomputable def InvW (G0:Gh) (I:Addr) (fr:List Addr) (N:Nat) (W:Nat → Heap → Prop) (i:Nat) (G:Gh) (h:Heap):Prop :=
 G.own I = none ∧ G.fz I = none ∧ W i h ∧ (∀ a ∈ fr,∃ o,G.fz a = some o) ∧ Gx G0 G ∧ i ≤ N
theorem It.walk {G0:Gh} {A:Around} {I:Addr} {fp wr fr:List Addr} {N:Nat} {Pv:Nat → Value → Prop} {Wh:Nat → Heap → Prop} (W:Walks z.prog z.w A I fp wr N Pv Wh) (hfp:∀ b ∈ fp,b = I ∨ b ∈ fr) (hwr:∀ b ∈ wr,b = I) {xs:List AV} (hN:xs.length = N)
  (live:∀ i h,Wh i h → ∃ o,h.get? I = some o) (hP:∀ i v x,Pv i v → xs[i]? = some x → VR z.P G0 v x):It z A I xs (fun _ => True) (InvW G0 I fr N Wh) where
 live:=fun q => ⟨live _ _ q.2.2.1,q.1,q.2.1⟩
 frame:=fun {Pv i G G' h h' st} q R X nI nP => have l:=live _ _ q.2.2.1
  ⟨ext_own X l q.1,ext_fz X l q.1 q.2.1,W.frame _ _ _ q.2.2.1 fun p hp o ho => (hfp p hp).elim (fun e => X.keep p o ho (e ▸ q.1) (e ▸ nI)) fun hp => (q.2.2.2.1 p hp).elim fun o' q' => X.keep p o ho (R.fz _ _ q').2 fun z => n0 ((nP p z).2.symm.trans q'),
   fun p hp => (q.2.2.2.1 p hp).elim fun o q' => ⟨o,X.gx.fz _ _ q'⟩,q.2.2.2.2.1.trans X.gx,q.2.2.2.2.2⟩
 other:=fun {i G h h'} q k => ⟨q.1,q.2.1,W.frame _ _ _ q.2.2.1 fun p hp o ho => k p o ((hfp p hp).imp id fun hp => .inr ((q.2.2.2.1 p hp).elim fun o' q' => q' ▸ some_ne)) ho,q.2.2.2⟩
 item:=fun {i x st a Q E} q R _ hi k => W.item i x.s Q E (hN ▸ (List.getElem?_eq_some_iff.mp hi).1) q.2.2.1 fun v h' tk p st' hk => k v h' tk ((hP i v _ p hi).mono q.2.2.2.2.1) ⟨q.1,q.2.1,st',q.2.2.2.1,q.2.2.2.2.1,hN ▸ (List.getElem?_eq_some_iff.mp hi).1⟩ fun b o hb => hk b o fun z => hb (hwr b z)
 done:=fun {i x st Q E} q R _ hi k => by
  have e:=Nat.le_antisymm q.2.2.2.2.2 (hN ▸ List.getElem?_eq_none_iff.mp hi)
  subst e
  exact W.done x.s Q E q.2.2.1 fun h' tk hk => k h' tk fun b o hb => hk b o fun z => hb (hwr b z)
 self:=fun {i x Q E} q h => W.self i x.s Q E q.2.2.1 h
noncomputable def InvC (I:Addr) (n:Nat) (i:Nat) (G:Gh) (h:Heap):Prop:=G.own I = none ∧ G.fz I = none ∧ h.IsListIter I (G.ad n) i ∧ n < G.nx
theorem It.cur {A:Around} (hh:A.handled = none) (I:Addr) (n:Nat) (ds:List PyData):It z A I (ds.map .d) (fun st => st.get n = some (.dl ds)) (InvC I n) where
 live:=fun q => ⟨q.2.2.1.elim fun o r => ⟨o,r.1⟩,q.1,q.2.1⟩
 frame:=fun {Pv i G G' h h' st} q R X nI nP => have l:=q.2.2.1.elim fun o r => ⟨o,r.1⟩
  ⟨ext_own X l q.1,ext_fz X l q.1 q.2.1,X.gx.ad n q.2.2.2 ▸ q.2.2.1.at fun o ho => X.keep I o ho q.1 nI,Nat.lt_of_lt_of_le q.2.2.2 X.gx.nx⟩
 other:=fun {i G h h'} q k => ⟨q.1,q.2.1,q.2.2.1.at fun o ho => k I o (.inl rfl) ho,q.2.2.2⟩
 item:=fun {i x st a Q E} q R hs hi k => (Option.map_eq_some_iff.mp ((List.getElem?_map ..).symm.trans hi)).elim fun d hd => dl_e (k:=fun xs => xs = ds) R (show oSome False (oDl False fun xs => xs = ds) (st.get n) from hs ▸ rfl) fun xs vs j _ _ g D e =>
  (D.get (e ▸ hd.1)).elim fun v hv => wpAny_pyNext_list_item q.2.2.1 ⟨_,g,rfl,j,rfl⟩ (Array.getElem?_toList.symm.trans hv.1) fun h' hit' hs' => k v h' x.s.toks (hd.2 ▸ .d hv.2) ⟨q.1,q.2.1,hit',q.2.2.2⟩ fun b o hb e => hs'.extBut b o hb e
 done:=fun {i x st Q E} q R hs hi k => dl_e (k:=fun xs => xs = ds) R (show oSome False (oDl False fun xs => xs = ds) (st.get n) from hs ▸ rfl) fun xs vs j _ _ g D e =>
  wpAny_pyNext_list_end hh q.2.2.1 ⟨_,g,rfl,j,rfl⟩ (Array.getElem?_eq_none_iff.mpr (Array.length_toList.symm.trans (D.length.trans (congrArg _ e)) ▸ List.getElem?_eq_none_iff.mp (Option.map_eq_none_iff.mp ((List.getElem?_map ..).symm.trans hi)))) fun h' he' => k h' x.s.toks fun b o hb e => he' b o hb e
 self:=fun {i x Q E} q h => wpAny_pyIter_listiter q.2.2.1 h
noncomputable def ItGo (z:Zx) (A:Around) (x:Pt) (xs:List AV) (same:St → Prop) (Q:Value → Shared → Prop):Prop:=∀ Inv o,It z A x.s.heap.objs.size xs same Inv → Inv 0 x.G (x.s.heap.push o) → Q (.ref x.s.heap.objs.size) { x.s with heap:=x.s.heap.push o }
theorem nil_fp {I:Addr} {b:Addr} {fr:List Addr} (h:b ∈ [I]):b = I ∨ b ∈ fr:=.inl (List.mem_singleton.mp h)
theorem iterL {p:Addr} {vs:Array Value} {n:Nat} {ds:List PyData} (R:RepP z x st) (hh:c.A.handled = none) (f:x.G.fz p = some (listOf vs n)) (D:All2 (DR x.G.fz) vs.toList ds) (po:ItGo z c.A x (ds.map .d) (fun _ => True) Q):wp z c (pyIter (.ref p)) Q x.s:=by
 have g:=(R.fz _ _ f).1
 have fr:=fresh_none x.s.heap (Nat.le_refl x.s.heap.objs.size)
 have ne:p ≠ x.s.heap.objs.size:=fun e => n0 ((e ▸ fr).symm.trans g)
 refine wpAny_pyIter_list ⟨_,g,rfl,n,rfl⟩ (po _ _ (It.walk (G0:=x.G) (fr:=[p]) (Walks.list hh x.s.heap.objs.size p ne vs) (fun b hb => by simpa using hb) (fun b hb => List.mem_singleton.mp hb)
  ((List.length_map ..).trans (D.length.symm.trans Array.length_toList)) (fun i h q => q.1.elim fun o r => ⟨o,r.1⟩) fun i v a hp hx => (Option.map_eq_some_iff.mp ((List.getElem?_map ..).symm.trans hx)).elim fun d hd => (D.get hd.1).elim fun u hu => by
   have e:=Option.some.inj ((Array.getElem?_toList.symm.trans hu.1).symm.trans hp);subst e;exact hd.2 ▸ .d hu.2)
  ⟨R.own_none fr,R.fz_none fr,⟨⟨_,Heap.get?_push_size _ rfl,rfl,rfl⟩,⟨_,Heap.get?_push_of_some _ g,rfl,n,rfl⟩⟩,fun b hb => List.mem_singleton.mp hb ▸ ⟨_,f⟩,.refl _,Nat.zero_le _⟩)
theorem iterT {p:Addr} {vs:List Value} {n:Nat} {ds:List PyData} (R:RepP z x st) (hh:c.A.handled = none) (f:x.G.fz p = some (tupObj vs n)) (D:All2 (DR x.G.fz) vs ds) (po:ItGo z c.A x (ds.map .d) (fun _ => True) Q):wp z c (pyIter (.ref p)) Q x.s:=by
 have g:=(R.fz _ _ f).1
 have fr:=fresh_none x.s.heap (Nat.le_refl x.s.heap.objs.size)
 have ne:p ≠ x.s.heap.objs.size:=fun e => n0 ((e ▸ fr).symm.trans g)
 refine wpAny_pyIter_tuple ⟨_,g,rfl,n,rfl⟩ (po _ _ (It.walk (G0:=x.G) (fr:=[p]) (Walks.tuple hh x.s.heap.objs.size p ne vs.toArray) (fun b hb => by simpa using hb) (fun b hb => List.mem_singleton.mp hb)
  ((List.length_map ..).trans D.length.symm) (fun i h q => q.1.elim fun o r => ⟨o,r.1⟩) fun i v a hp hx => (Option.map_eq_some_iff.mp ((List.getElem?_map ..).symm.trans hx)).elim fun d hd => (D.get hd.1).elim fun u hu => by
   have e:=Option.some.inj ((List.getElem?_toArray.trans hu.1).symm.trans hp);subst e;exact hd.2 ▸ .d hu.2)
  ⟨R.own_none fr,R.fz_none fr,⟨⟨_,Heap.get?_push_size _ rfl,rfl,rfl⟩,⟨_,Heap.get?_push_of_some _ g,rfl,n,rfl⟩⟩,fun b hb => List.mem_singleton.mp hb ▸ ⟨_,f⟩,.refl _,Nat.zero_le _⟩)
theorem iterS {s:Str} {t:Tok} (R:RepP z x st) (hh:c.A.handled = none) (po:ItGo z c.A x (s.cps.toList.map fun c => .d (.str ⟨#[c]⟩)) (fun _ => True) Q):wp z c (pyIter (.str s t)) Q x.s:=by
 have fr:=fresh_none x.s.heap (Nat.le_refl x.s.heap.objs.size)
 have sig:∀ i v a,SignAt s i v → (s.cps.toList.map fun c => AV.d (.str ⟨#[c]⟩))[i]? = some a → VR z.P x.G v a:=by
  rintro i v a ⟨n,u,hc,rfl⟩ hx
  rw [List.getElem?_map,Array.getElem?_toList,hc] at hx
  cases hx;exact .str
 cases ha:s.cps.all (· < 128)
 ·exact wpAny_pyIter_wide ha (po _ _ (It.walk (G0:=x.G) (fr:=[]) (Walks.strWide hh x.s.heap.objs.size s t) (fun _ => nil_fp) (fun b hb => List.mem_singleton.mp hb) (List.length_map ..) (fun i h st => st.elim fun o r => ⟨o,r.1⟩) sig) ⟨R.own_none fr,R.fz_none fr,⟨_,Heap.get?_push_size _ rfl,rfl,rfl⟩,(fun _ h => nomatch h),.refl _,Nat.zero_le _⟩)
 ·exact wpAny_pyIter_ascii ha (po _ _ (It.walk (G0:=x.G) (fr:=[]) (Walks.strAscii hh x.s.heap.objs.size s t) (fun _ => nil_fp) (fun b hb => List.mem_singleton.mp hb) (List.length_map ..) (fun i h st => st.elim fun o r => ⟨o,r.1⟩) sig) ⟨R.own_none fr,R.fz_none fr,⟨_,Heap.get?_push_size _ rfl,rfl,rfl⟩,(fun _ h => nomatch h),.refl _,Nat.zero_le _⟩)
theorem range_iter {r:Addr} {j:Int} {t u w:Tok} (R:RepP z x st) (hh:c.A.handled = none) (hr:IsRange x.s.heap r 0 j 1 t u w) (q:(decide (0 ≤ j) && decide (j < bigLen)) = true) (po:ItGo z c.A x ((List.range j.toNat).map fun (i:Nat) => .d (.int i)) (fun _ => True) Q):wp z c (pyIter (.ref r)) Q x.s:=by
 have fr:=fresh_none x.s.heap (Nat.le_refl x.s.heap.objs.size)
 have h0:=of_decide_eq_true (an_l q);have h1:=of_decide_eq_true (an_r q)
 unfold bigLen at h1
 have hn:Builtin.Range.rangeSize 0 j 1 = j:=by rw [rangeSize_one];split <;> omega
 refine wpAny_pyIter_range hr (small_one (by decide) (by decide) (by omega) (by omega)) (po _ _ (It.walk (G0:=x.G) (fr:=[]) (Walks.range hh x.s.heap.objs.size 0 1 j.toNat) (fun _ => nil_fp) (fun b hb => List.mem_singleton.mp hb) ((List.length_map ..).trans List.length_range)
  (fun i h st => ⟨_,st⟩) fun i v a hp hx => ?_) ⟨R.own_none fr,R.fz_none fr,?_,(fun _ h => nomatch h),.refl _,Nat.zero_le _⟩)
 ·obtain ⟨t,rfl⟩:=hp
  obtain ⟨k,hk,rfl⟩:=Option.map_eq_some_iff.mp ((List.getElem?_map ..).symm.trans hx)
  obtain ⟨_,e⟩:=List.getElem?_eq_some_iff.mp hk
  rw [List.getElem_range] at e;subst e
  rw [Int.zero_add,Int.mul_one];exact .int
 ·rw [hn]
  have e:((j.toNat:Nat):Int) = j:=Int.toNat_of_nonneg h0
  show IsRangeIter _ _ (0 + ((0:Nat):Int) * 1) (((j.toNat:Nat):Int) - ((0:Nat):Int)) 1
  rw [e,show (0:Int) + ((0:Nat):Int) * 1 = 0 by decide,show j - ((0:Nat):Int) = j from Int.sub_zero j]
  exact Heap.get?_push_size _ rfl
theorem items_go (R:RepP z x st) (hh:c.A.handled = none) (V:VRP z x v av) {k:List AV → (St → Prop) → Prop} (h:itemsW av st k) (po:∀ xs same,k xs same → same st → ItGo z c.A x xs same Q):wp z c (pyIter v) Q x.s :=
 V.el (C:=fun v a => itemsW a st k → wp z c (pyIter v) Q x.s) (fun v d D h => D.el (C:=fun v d => itemsW (.d d) st k → wp z c (pyIter v) Q x.s) (fun h => False.elim h) (fun _ h => False.elim h) (fun _ _ h => False.elim h) (fun s t h => iterS R hh (po _ _ h trivial)) (fun _ _ _ _ f D h => iterL R hh f D (po _ _ h trivial)) (fun _ _ _ _ f D h => iterT R hh f D (po _ _ h trivial)) h)
  (fun n l h => dl_e R h fun xs vs j e _ g D h => have fr:=fresh_none x.s.heap (Nat.le_refl x.s.heap.objs.size)
   wpAny_pyIter_list ⟨_,g,rfl,j,rfl⟩ (po _ _ h e _ _ (It.cur hh _ n xs) ⟨R.own_none fr,R.fz_none fr,⟨_,Heap.get?_push_size _ rfl,rfl,rfl⟩,l⟩))
  (fun _ h => False.elim h) (fun _ _ _ _ h => False.elim h) (fun _ _ h => False.elim h) (fun _ _ _ _ _ _ h => False.elim h) (fun _ _ _ _ _ _ _ h => False.elim h) h
noncomputable def IterOK (z:Zx) (mi:MI):Prop:=∀ {c L x st e} {K:List AV → (St → Prop) → St → Prop} {Q:Value → Shared → Prop},okI c.sc mi e = true → Sit z c L x st → wpI z.T mi L st K →
 (∀ y st' xs same,Step x y → Sit z c L y st' → xs.length ≤ bigLen → same st' → K xs same st' → ItGo z c.A y xs same Q) → wp z c (eval e c.env) (fun v s => wp z c (pyIter v) Q s) x.s
theorem iter_of {m:ME} (H:EvOK z m):IterOK z (.of m):=fun {c L x st e K Q} ok S h po => H (an_r ok) S h fun v av y st' X S' V h => items_go S'.rep S'.rm.hd V h fun xs same h hs => gd_e h fun q k => po y st' xs same X S' (of_decide_eq_true q) hs k
theorem rngN_e {y:Int} (h:rngN y = true):(decide (0 ≤ y) && decide (y < bigLen)) = true:=by
 cases y with
 | negSucc _ => exact nb0 h
 | ofNat n => exact Bool.and_eq_true _ _ ▸ ⟨decide_eq_true (Int.natCast_nonneg n),decide_eq_true (Int.ofNat_lt.mpr (show n < bigLen from Nat.le_of_ble_eq_true h))⟩
theorem iter_rng (Z:Zok z) {m:ME} (H:EvOK z m):IterOK z (.rng m):=fun {c L x st e K Q} ok S h po =>
  typ1 (id:="range") Z H S (by decide +kernel) boot_range ok h fun v av y st' X S' V h => int_e (C:=fun v => wp z c (call (.type "range") [v]) _ y.s) V h fun j t h => gd_e h fun q k => have q:=rngN_e q;call_range_1
    (have kn:=alloc_no S'.rep { cls:=.type "range",data:=.fields #[.int 0 y.s.toks,.int j t,.int 1 (y.s.toks + 1)] }
     have T:Step y ⟨y.G,{ y.s with heap:=y.s.heap.push _,toks:=y.s.toks + 1 + 1 }⟩:=.of kn.1 (Nat.le_add_right _ 2)
     range_iter (x:=⟨y.G,{ y.s with heap:=y.s.heap.push _,toks:=y.s.toks + 1 + 1 }⟩) kn.2 S'.rm.hd (IsRange.new _ _ _ _ _ _ _) q (po _ st' _ _ (X.trans T) (S'.next T kn.2) (by rw [List.length_map,List.length_range];exact Nat.le_of_lt ((Int.toNat_lt (of_decide_eq_true (an_l q))).mpr (of_decide_eq_true (an_r q)))) trivial k))
end
end
section
theorem lookup_mem {α β:Type} [BEq α] [LawfulBEq α] {l:List (α × β)} {x:α} {k:β} (h:l.lookup x = some k):(x,k) ∈ l:=by
 induction l with
 | nil => cases h
 | cons p r ih =>
  rw [List.lookup_cons] at h
  cases q:x == p.1 with
  | true => rw [q] at h;rw [beq_iff_eq.mp q,← Option.some.inj h];exact List.mem_cons_self ..
  | false => rw [q] at h;exact List.mem_cons_of_mem _ (ih h)
theorem lk_hit {α β:Type} [BEq α] [LawfulBEq α] {l:List (α × β)} {x:α} {k:β}:List.lookup x ((x,k) :: l) = some k:=by rw [List.lookup_cons,beq_self_eq_true]
theorem lk_miss {α β:Type} [BEq α] [LawfulBEq α] {l:List (α × β)} {x y:α} {k:β} (h:x ≠ y):List.lookup x ((y,k) :: l) = l.lookup x:=by rw [List.lookup_cons,beq_eq_false_iff_ne.mpr h]
theorem folded {e:Expr} (h:noSet e = true) (env:Env) (x:Value):foldedSetIterable e env x = pure x:=by
 cases e <;> first | rfl | exact nb0 h
noncomputable def rel1 (env:Env) (x:Str) (k:NameKind):NameKind:=if (k == .free && env.scope.kind == .function && env.kindOf x == some .cell) = true then .cell else k
theorem relabel_lookup (scope:Scope) (env:Env) (x:Str):(relabel scope env).names.lookup x = (scope.names.lookup x).map (rel1 env x):=by
 have e:(relabel scope env).names = scope.names.map fun q => (q.1,rel1 env q.1 q.2):=by
  refine List.map_congr_left fun q _ => ?_
  obtain ⟨a,k⟩:=q
  show (if (k == NameKind.free && env.scope.kind == .function && env.kindOf a == some .cell) = true then (a,NameKind.cell) else (a,k)) = (a,rel1 env a k)
  unfold rel1
  split <;> rfl
 rw [e]
 generalize scope.names = l
 induction l with
 | nil => rfl
 | cons q r ih =>
  obtain ⟨a,k⟩:=q
  by_cases h:x = a
  ·subst h;rw [List.map_cons,lk_hit,lk_hit];rfl
  ·rw [List.map_cons,lk_miss h,lk_miss h,ih]
noncomputable def closL (env:Env):List (Str × NameKind) → List (Str × Addr) → List (Str × Addr)
 | [],cs => cs
 | q :: r,cs => closL env r (if q.2 == .free then (q.1,(env.cells.lookup q.1).getD 0) :: cs else cs)
theorem clos_pure (env:Env) {names:List (Str × NameKind)}:∀ (cs:List (Str × Addr)),(∀ q ∈ names,q.2 = .free → (env.cells.lookup q.1).isSome = true) →
  (forIn names cs fun (x:Str × NameKind) (cs:List (Str × Addr)) => (if (x.2 == NameKind.free) = true then (do let a ← cellOf env x.1;pure (ForInStep.yield ((x.1,a) :: cs))) else pure (ForInStep.yield cs):Sem (ForInStep (List (Str × Addr))))) = pure (closL env names cs):=by
 induction names with
 | nil => intro cs _;rfl
 | cons q r ih =>
  intro cs h
  rw [List.forIn_cons]
  unfold closL
  have ih:=fun cs => ih cs fun q hq => h q (List.mem_cons_of_mem _ hq)
  cases hk:q.2 == .free with
  | true =>
   obtain ⟨a,ha⟩:=Option.isSome_iff_exists.mp (h _ (List.mem_cons_self ..) (beq_iff_eq.mp hk))
   have hc:cellOf env q.1 = pure a:=by unfold cellOf;rw [ha]
   rw [if_pos rfl,if_pos rfl,hc,ha]
   exact ih _
  | false => rw [if_neg Bool.false_ne_true,if_neg Bool.false_ne_true];exact ih _
theorem closureFor_pure {scope:Scope} {env:Env} (h:∀ q ∈ scope.names,q.2 = .free → (env.cells.lookup q.1).isSome = true):closureFor scope env = pure (closL env scope.names []) :=
 congrArg (fun t:Sem (List (Str × Addr)) => t >>= fun cs => pure cs) (clos_pure env [] h)
theorem closL_lookup (env:Env) {names:List (Str × NameKind)}:∀ {cs:List (Str × Addr)} {x:Str} {c:Addr},(∀ q ∈ names,q.2 = .free → (env.cells.lookup q.1).isSome = true) → (closL env names cs).lookup x = some c → env.cells.lookup x = some c ∨ cs.lookup x = some c:=by
 induction names with
 | nil => intro cs x c _ h;exact .inr h
 | cons q r ih =>
  intro cs x c hn h
  unfold closL at h
  refine (ih (fun q hq => hn q (List.mem_cons_of_mem _ hq)) h).elim .inl fun h => ?_
  cases hk:q.2 == .free with
  | true =>
   obtain ⟨a,ha⟩:=Option.isSome_iff_exists.mp (hn _ (List.mem_cons_self ..) (beq_iff_eq.mp hk))
   rw [hk,if_pos rfl,ha] at h
   by_cases z:x = q.1
   ·subst z;rw [lk_hit] at h;exact .inl (ha.trans h)
   ·rw [lk_miss z] at h;exact .inr h
  | false => rw [hk,if_neg Bool.false_ne_true] at h;exact .inr h
theorem closL_has (env:Env) {names:List (Str × NameKind)}:∀ {cs:List (Str × Addr)} {x:Str},((x,NameKind.free) ∈ names ∨ (cs.lookup x).isSome = true) → ((closL env names cs).lookup x).isSome = true:=by
 induction names with
 | nil => intro cs x h;exact h.elim (fun h => nomatch h) id
 | cons q r ih =>
  intro cs x h
  refine ih (h.elim (fun h => (List.mem_cons.mp h).elim (fun e => .inr ?_) .inl) fun h => .inr ?_)
  ·rw [← e];show List.lookup x ((x,_) :: cs) |>.isSome;rw [lk_hit];rfl
  ·cases hk:q.2 == .free with
   | true =>
    rw [if_pos rfl]
    by_cases z:x = q.1
    ·subst z;rw [lk_hit];rfl
    ·rw [lk_miss z];exact h
   | false => rw [if_neg Bool.false_ne_true];exact h
structure CSc (sc:Sc) (scope:Scope) (x:Str):Prop where
 kind:scope.kind = .function
 loc:scope.names.lookup x = some .local
 cell:∀ q ∈ scope.names,q.2 ≠ .cell
 free:∀ q ∈ scope.names,q.2 = .free → sc.lookup q.1 = some .cell ∨ sc.lookup q.1 = some .free
 one:∀ q ∈ scope.names,q.2 = .local → q.1 = x ∨ q.1 = ".0"
 uniq:∀ q ∈ scope.names,scope.names.lookup q.1 = some q.2
theorem nm_dot:∀ i,i < 219 → nm i ≠ ".0":=by decide +kernel
section
variable {P:Params} {G:Gh} {h:Heap} {env:Env} {m cm m':Str → Option Value} {sc:Sc} {L:Locs} {scope:Scope} {x:Nat} {C:Addr} {it:AV} {v:Value}
theorem comp_fr (hx:x < 219) (Z:CSc sc scope (nm x)) (hcells:∀ q ∈ scope.names,q.2 = .free → (env.cells.lookup q.1).isSome = true) (F:FrOK P G h env m cm sc L) (hC:h.Ns C m') (hv:m' (nm x) = some v) (V:VR P G v it) (no:G.own C = none) (nf:G.fz C = none)
  (hne:∀ k c,env.cells.lookup k = some c → c ≠ C):FrOK P G h (compEnvC scope (closL env scope.names []) C env) m' cm scope.names ((x,it) :: L):=by
 have cl:∀ k c,(closL env scope.names []).lookup k = some c → env.cells.lookup k = some c:=fun k c e => (closL_lookup env hcells e).elim id fun h => n0 h
 have kd:∀ y,(compEnvC scope (closL env scope.names []) C env).kindOf y = (scope.names.lookup y).map (rel1 env y):=fun y => relabel_lookup scope env y
 refine { kind:=Z.kind,gl:=F.gl,bl:=F.bl,ns:=hC,cell:=fun k c e => F.cell k c (cl k c e),glob:=fun y hy => ?_,locl:=fun y hy => ?_,has:=fun y hy => ?_,vars:=fun i av hi hs => ?_,apart:=fun a b c e1 e2 => F.apart a b c (cl _ _ e1) (cl _ _ e2),ne:=fun k c e => hne k c (cl k c e),priv:=fun a p => p.elim (fun e => e ▸ ⟨no,nf⟩) fun e => e.elim fun k e => F.priv a (.inr ⟨k,cl k a e⟩) }
 ·rw [kd,hy];rfl
 ·rw [kd] at hy
  obtain ⟨k,hk,q⟩:=Option.map_eq_some_iff.mp hy
  unfold rel1 at q
  split at q
  ·cases q
  ·rw [hk,q]
 ·rcases hy with hy | hy
  ·exact absurd rfl (Z.cell _ (lookup_mem hy))
  ·exact closL_has env (.inl (lookup_mem hy))
 ·have hlt:i < 219:=blt_lt (an_l hs)
  by_cases q:i = x
  ·subst q
   rw [lk_hit] at hi
   exact ⟨v,Option.some.inj hi ▸ V,.inl ⟨by rw [kd,Z.loc];rfl,hv⟩⟩
  ·rw [lk_miss q] at hi
   refine or_e (an_r hs) (fun hs => or_e hs (fun e => ?_) fun e => absurd rfl (Z.cell _ (lookup_mem (beq_iff_eq.mp e)))) fun e => ?_
   ·exact (Z.one _ (lookup_mem (beq_iff_eq.mp e)) rfl).elim (fun z => absurd (nm_inj hlt hx z) q) fun z => absurd z (nm_dot i hlt)
   ·have e:=beq_iff_eq.mp e
    have me:=lookup_mem e
    have isl:isLoc sc i = true:=by
     unfold isLoc
     rw [Bool.and_eq_true]
     exact ⟨an_l hs,(Z.free _ me rfl).elim (fun z => by rw [z];rfl) fun z => by rw [z];rfl⟩
    obtain ⟨u,U,at_⟩:=F.vars i av hi isl
    have has:=closL_has env (cs:=[]) (.inl me)
    refine ⟨u,U,.inr ?_⟩
    rcases at_ with at_ | at_
    ·have e1:=F.locl _ at_.1
     exact (Z.free _ me rfl).elim (fun z => n0 ((nomatch z.symm.trans e1):(none:Option Nat) = some 0)) fun z => n0 ((nomatch z.symm.trans e1):(none:Option Nat) = some 0)
    ·refine ⟨?_,has,at_.2.2⟩
     rw [kd,e,Option.map_some]
     unfold rel1
     split
     ·exact .inl rfl
     ·exact .inr rfl
end
end
section
section
variable {z:Zx} {c:Cx} {L:Locs} {p x y:Pt} {st st':St} {K:EK} {Q:Value → Shared → Prop} {v va vb:Value} {av:AV} {a b d:ME} {e:Expr}
theorem to_E {α:Type} {t:Sem α} {A:Around} {s:Shared} {Q Q':α → Shared → Prop} {E:Value → Shared → Prop} {M:Model} (h:wpAny M A t Q nope s) (k:∀ v s',Q v s' → Q' v s'):wpAny M A t Q' E s:=wpAny_mono h k fun _ _ e => e.elim
theorem toks_upE {α:Type} {t:Sem α} {A:Around} {M:Model} {E:Value → Shared → Prop} {Q:α → Shared → Prop} {s:Shared} (h:wpAny M A t (fun v s' => s.toks ≤ s'.toks → Q v s') E s):wpAny M A t Q E s:=wpAny_mono (wpAny_toks h) (fun _ _ q => q.2 q.1) fun _ _ e => e.2
noncomputable abbrev CF:=AV → St → (Option PyData → St → Prop) → Prop
noncomputable abbrev ifsT (ifs:List Expr) (env:Env):Sem Bool:=forIn ifs true fun c r => if r = true then do let ok ← isTrue c env (eval c env);pure (ForInStep.yield ok) else pure (ForInStep.yield r)
noncomputable def TurnOK (z:Zx) (c:Cx) (L:Locs) (x:Nat) (ifs:List Expr) (elt:Expr) (f:CF):Prop:=∀ {y st it K QE} {QN:Shared → Prop},Sit z c ((x,it) :: L) y st → f it st K →
 (∀ v d y' st',Step y y' → RepP z y' st' → DR y'.G.fz v d → K (some d) st' → QE v y'.s) → (∀ y' st',Step y y' → RepP z y' st' → K none st' → QN y'.s) → wp z c (ifsT ifs c.env) (fun ok s => if ok = true then wp z c (eval elt c.env) QE s else QN s) y.s
noncomputable abbrev ce (scope:Scope) (env:Env) (C:Addr):Env:=compEnvC scope (closL env scope.names []) C env
structure CW (z:Zx) (p:Pt) (I D C:Addr) (h:Heap):Prop where
 frI:p.s.heap.get? I = none
 frD:p.s.heap.get? D = none
 frC:p.s.heap.get? C = none
 dc:D ≠ C
 di:D ≠ I
 ci:C ≠ I
 k0:∀ b o,p.s.heap.get? b = some o → h.get? b = some o
inductive CI (z:Zx) (p:Pt) (D C:Addr) (xs:List AV) (same:St → Prop) (f:CF) (k:List PyData → St → Prop) (Inv:Nat → Gh → Heap → Prop):Nat → Shared → Prop
 | mk {q y st m vs n ys i}:Step p y → RepP z y st → Inv i y.G y.s.heap → same st → y.G.own D = none ∧ y.G.fz D = none → y.G.own C = none ∧ y.G.fz C = none → y.s.heap.Ns C m → y.s.heap.get? D = some (listOf (vs:List Value).toArray n) → All2 (DR y.G.fz) vs ys →
   compW same f (xs.drop i) st (fun zs st => k (ys ++ zs) st) → ys.length ≤ i → i + q = xs.length + 1 → CI z p D C xs same f k Inv q y.s
theorem ns_live {h:Heap} {C:Addr} {m:Str → Option Value} (hns:h.Ns C m):∃ o,h.get? C = some o:=hns.elim fun o q => q.elim fun _ q => q.elim fun _ q => ⟨o,q.1⟩
theorem Step.poke {h':Heap} {tk:Nat} {a:Addr} (X:Step p y) (h0:p.s.heap.get? a = none) (hk:∀ b o,b ≠ a → y.s.heap.get? b = some o → h'.get? b = some o) (le:y.s.toks ≤ tk):Step p ⟨y.G,{ y.s with heap:=h',toks:=tk }⟩:=⟨by rw [X.eq],Nat.le_trans X.le le,X.ext.poke h0 hk⟩
theorem comp_loop {elt iter:Expr} {ifs:List Expr} {scope:Scope} {pos px:Pos} {x:Nat} {xs:List AV} {same:St → Prop} {f:CF} {k:List PyData → St → Prop} {Inv:Nat → Gh → Heap → Prop} {I D C:Addr} {R:Result → Shared → Prop} {h:Heap} {q:Nat} {s:Shared}
  (hx:x < 219) (Zs:CSc c.sc scope (nm x)) (hcells:∀ q ∈ scope.names,q.2 = .free → (c.env.cells.lookup q.1).isSome = true) (S:Sit z c L p st) (hz:xs.length ≤ bigLen) (W:CW z p I D C h) (It:It z c.A I xs same Inv) (turn:TurnOK z ⟨c.A,ce scope c.env C,scope.names⟩ L x ifs elt f)
  (hR:∀ y vs n zs m st',Step p y → RepP z y st' → All2 (DR y.G.fz) vs zs → y.s.heap.get? D = some (listOf vs.toArray n) → y.G.own D = none ∧ y.G.fz D = none → y.G.own C = none ∧ y.G.fz C = none → y.s.heap.Ns C m → k zs st' → R (.ok .next) y.s) (inv:CI z p D C xs same f k Inv q s) :
  codeAny (model z.prog z.w) c.A (.compLoop (.ListComp elt [⟨.Name (nm x) px,iter,ifs,0⟩] scope pos) 0 (.ref I) (.ref D) (ce scope c.env C)) R s:=by
 refine codeAny_compLoop_tests (CI z p D C xs same f k Inv) (fun q s inv => ?_) q inv
 cases inv with
 | mk X R inv hs hD hC hns gD Ds h hy hq =>
  rename_i y st m vs n ys i
  have lI:=It.live inv
  cases hi:xs[i]? with
  | none =>
   rw [List.drop_eq_nil_iff.mpr (List.getElem?_eq_none_iff.mp hi)] at h
   exact toks_upE (It.done inv R hs hi fun h' tk hk le => hR ⟨y.G,{ y.s with heap:=h',toks:=tk }⟩ vs n ys m st (X.poke W.frI hk le) (R.poke lI.2.1 lI.2.2 hk) Ds (hk _ _ W.di gD) hD hC (hns.at' fun o e => hk _ o W.ci e) (List.append_nil ys ▸ h))
  | some a =>
   obtain ⟨lt,ga⟩:=List.getElem?_eq_some_iff.mp hi
   rw [List.drop_eq_getElem_cons lt,ga] at h
   cases q with
   | zero => exact absurd hq (Nat.ne_of_lt (Nat.lt_succ_of_lt lt))
   | succ q =>
   have hq':i + 1 + q = xs.length + 1:=(Nat.add_right_comm i 1 q).trans hq
   refine toks_upE (It.item inv R hs hi fun v h1 tk V inv' hk le => ?_)
   have X1:=X.poke W.frI hk le
   have R1:=R.poke lI.2.1 lI.2.2 hk
   refine wpAny_assign_Name (wpAny_storeName_local (env:=ce scope c.env C) (lookup_relabel_local Zs.loc) (hns.at' fun o e => hk _ o W.ci e) (fun h2 hn2 hs2 => ?_) (by simp [compEnvC,relabel,Zs.kind]))
   have kp:=sameBut_keep hs2
   have X2:Step p ⟨y.G,{ y.s with heap:=h2,toks:=tk + 1 }⟩:=X1.poke (y:=⟨y.G,{ y.s with heap:=h1,toks:=tk }⟩) W.frC kp (Nat.le_succ _)
   have R2:Rep z.P z.B y.G h2 st:=R1.poke hC.1 hC.2 kp
   have inv2:Inv (i + 1) y.G h2:=It.other inv' fun b o hb => kp b o fun e => hb.elim (fun z => W.ci (e.symm.trans z)) fun hb => hb.elim (fun z => z (e ▸ hC.1)) fun z => z (e ▸ hC.2)
   have g2:h2.get? D = some (listOf vs.toArray n):=kp _ _ W.dc (hk _ _ W.di gD)
   have lC:=ns_live hn2
   have S2:Sit z ⟨c.A,ce scope c.env C,scope.names⟩ ((x,a) :: L) ⟨y.G,{ y.s with heap:=h2,toks:=tk + 1 }⟩ st:=⟨S.rm,Nat.lt_of_lt_of_le S.tok X2.le,R2,S.fr.elim fun m' r => r.elim fun cm F =>
    ⟨_,cm,comp_fr hx Zs hcells (F.ext X2.ext) hn2 (by simp) V hC.1 hC.2 fun k' c' e => (F.cell k' c' e).elim fun o r => fun z => n0 ((z ▸ W.frC).symm.trans r.1)⟩⟩
   refine to_E (turn (K:=fun w st => same st ∧ compW same f (xs.drop (i + 1)) st fun zs st => k (ys ++ oSome zs (· :: zs) w) st) (QN:=fun s => ∃ m,m < q + 1 ∧ CI z p D C xs same f k Inv m s)
    (QE:=fun u s => wpAny (model z.prog z.w) c.A (call (.builtin "list.append") [.ref D,u]) (fun _ s => ∃ m,m < q + 1 ∧ CI z p D C xs same f k Inv m s) nope s) S2 h (fun u d y3 st3 X3 R3 du hk3 => ?_) fun y3 st3 X3 R3 hk3 => ?_) fun ok s3 r => ?_
   ·have g3:y3.s.heap.get? D = some (listOf vs.toArray n):=X3.ext.keep _ _ g2 hD.1 id
    have oD:=ext_own X3.ext ⟨_,g2⟩ hD.1
    have fD:=ext_fz X3.ext ⟨_,g2⟩ hD.1 hD.2
    have oC:=ext_own X3.ext lC hC.1
    have fC:=ext_fz X3.ext lC hC.1 hC.2
    refine wpAny_list_append_plain ⟨n,g3⟩ (fun h5 hp hs5 => hp.elim fun n' hp => ?_) (by rw [List.size_toArray,Ds.length];exact bigLen_line (Nat.le_trans hy (Nat.le_trans (Nat.le_of_lt lt) hz)))
    have kp5:=sameBut_keep hs5
    exact ⟨q,Nat.lt_succ_self _,.mk (y:=⟨y3.G,{ y3.s with heap:=h5 }⟩) (vs:=vs ++ [u]) (ys:=ys ++ [d]) ((X2.trans X3).poke W.frD kp5 (Nat.le_refl _)) (R3.poke oD fD kp5)
     (It.other (It.frame inv2 R2 X3.ext id fun _ z => z.elim) fun b o hb => kp5 b o fun e => hb.elim (fun z => W.di (e.symm.trans z)) fun hb => hb.elim (fun z => z (e ▸ oD)) fun z => z (e ▸ fD)) hk3.1 ⟨oD,fD⟩ ⟨oC,fC⟩
     (hn2.at' fun o e => kp5 _ _ (Ne.symm W.dc) (X3.ext.keep _ o e hC.1 id)) (by rw [← List.push_toArray];exact hp) ((Ds.mono fun _ _ => DR.mono X3.ext.gx.fz).append (.cons du .nil))
     (by simpa using hk3.2) (by rw [List.length_append];exact Nat.add_le_add_right hy 1) hq'⟩
   ·exact ⟨q,Nat.lt_succ_self _,.mk (X2.trans X3) R3 (It.frame inv2 R2 X3.ext id fun _ z => z.elim) hk3.1 ⟨ext_own X3.ext ⟨_,g2⟩ hD.1,ext_fz X3.ext ⟨_,g2⟩ hD.1 hD.2⟩ ⟨ext_own X3.ext lC hC.1,ext_fz X3.ext lC hC.1 hC.2⟩
     (hn2.at' fun o e => X3.ext.keep _ o e hC.1 id) (X3.ext.keep _ _ g2 hD.1 id) (Ds.mono fun _ _ => DR.mono X3.ext.gx.fz) hk3.2 (Nat.le_succ_of_le hy) hq'⟩
   ·cases ok with
    | false => exact r
    | true => exact to_E r fun u s4 r => to_E r fun _ _ r => r
end
end
section
section
variable {z:Zx} {c:Cx} {L:Locs} {p x y:Pt} {st st':St} {K:EK} {Q:Value → Shared → Prop} {v va vb:Value} {av:AV} {a b d:ME} {e:Expr}
theorem comp_core {elt iter:Expr} {ifs:List Expr} {scope:Scope} {pos px:Pos} {x:Nat} {xs:List AV} {same:St → Prop} {f:CF} {k:List PyData → St → Prop} {RR:Value → Addr → Result → Shared → Prop}
  (hx:x < 219) (Zs:CSc c.sc scope (nm x)) (hcells:∀ q ∈ scope.names,q.2 = .free → (c.env.cells.lookup q.1).isSome = true) (S:Sit z c L p st) (hz:xs.length ≤ bigLen) (hs:same st) (h:compW same f xs st k)
  (turn:∀ C,TurnOK z ⟨c.A,ce scope c.env C,scope.names⟩ L x ifs elt f)
  (hR:∀ D C y vs n zs m st',Step p y → RepP z y st' → All2 (DR y.G.fz) vs zs → y.s.heap.get? D = some (listOf vs.toArray n) → y.G.own D = none ∧ y.G.fz D = none → y.G.own C = none ∧ y.G.fz C = none → D ≠ C → p.s.heap.get? D = none → p.s.heap.get? C = none → y.s.heap.Ns C m → k zs st' → RR (.ref D) C (.ok .next) y.s) :
  ItGo z c.A p xs same fun it s => wp z c (newList []) (fun acc s₃ => wp z c (newFunctionEnv scope c.env.globals (closL c.env scope.names []) [] c.env.qual none .none (some c.env)) (fun cenv s₄ =>
   codeAny (model z.prog z.w) c.A (.compStart (.ListComp elt [⟨.Name (nm x) px,iter,ifs,0⟩] scope pos) 0 it acc { cenv with scope:=relabel scope c.env }) (RR acc cenv.locals) s₄) s₃) s:=by
 intro Inv o It inv0
 refine wpAny_newObj_type (wpAny_newFunctionEnv Zs.cell (fun _ h => nomatch h) (fun h1 hns hsb => ?_) Zs.kind)
 dsimp only at hns hsb ⊢
 have n0:=fresh_none p.s.heap (Nat.le_refl p.s.heap.objs.size)
 have sD:(p.s.heap.push o).objs.size = p.s.heap.objs.size + 1:=Heap.size_push ..
 have sC:((p.s.heap.push o).push (listOf #[] 0)).objs.size = p.s.heap.objs.size + 1 + 1:=(Heap.size_push ..).trans (congrArg (· + 1) sD)
 have gD:((p.s.heap.push o).push (listOf #[] 0)).get? (p.s.heap.objs.size + 1) = some (listOf #[] 0):=sD ▸ Heap.get?_push_size (p.s.heap.push o) rfl
 have k1:∀ b ob,(p.s.heap.push o).get? b = some ob → h1.get? b = some ob:=fun b ob e =>
  (hsb.2 b (sC ▸ Nat.ne_of_lt (Nat.lt_succ_of_lt (sD ▸ Heap.lt_size e)))).trans (Heap.get?_push_of_some _ (Heap.get?_push_of_some _ e))
 have gD1:h1.get? (p.s.heap.objs.size + 1) = some (listOf #[] 0):=(hsb.2 _ (sC ▸ Nat.ne_of_lt (Nat.lt_succ_self _))).trans (Heap.get?_push_of_some _ gD)
 have k0:∀ b ob,p.s.heap.get? b = some ob → h1.get? b = some ob:=fun b ob e => k1 b ob (Heap.get?_push_of_some _ e)
 have kn:=keep_no S.rep k0
 have nD:=fresh_none p.s.heap (Nat.le_succ p.s.heap.objs.size)
 have nC:=fresh_none p.s.heap (Nat.le_add_right p.s.heap.objs.size 2)
 generalize eD:(p.s.heap.push o).objs.size = D at *
 generalize eC:((p.s.heap.push o).push (listOf #[] 0)).objs.size = C at *
 subst sD;subst sC
 have W:CW z p p.s.heap.objs.size (p.s.heap.objs.size + 1) (p.s.heap.objs.size + 1 + 1) h1:=⟨n0,nD,nC,Nat.ne_of_lt (Nat.lt_succ_self _),Nat.ne_of_gt (Nat.lt_succ_self _),Nat.ne_of_gt (Nat.lt_succ_of_lt (Nat.lt_succ_self _)),k0⟩
 have X1:Step p ⟨p.G,{ p.s with heap:=h1,toks:=p.s.toks + ([]:List (Str × Value)).length }⟩:=.of kn.1 (Nat.le_add_right _ _)
 have inv1:=It.other inv0 fun b ob _ e => k1 b ob e
 have loop:=comp_loop (elt:=elt) (iter:=iter) (pos:=pos) (px:=px) (R:=RR (.ref (p.s.heap.objs.size + 1)) (p.s.heap.objs.size + 1 + 1)) (q:=xs.length + 1) hx Zs hcells S hz W It (turn _) (fun y vs n zs m st' X R D g oD oC hm hk => hR _ _ y vs n zs m st' X R D g oD oC W.dc nD nC hm hk)
  (.mk (y:=⟨p.G,{ p.s with heap:=h1,toks:=p.s.toks + ([]:List (Str × Value)).length }⟩) (vs:=[]) (ys:=[]) (i:=0) X1 kn.2 inv1 hs ⟨S.rep.own_none nD,S.rep.fz_none nD⟩ ⟨S.rep.own_none nC,S.rep.fz_none nC⟩ hns gD1 .nil h (Nat.le_refl _) (Nat.zero_add _))
 exact codeAny_compStart_list loop (It.self (x:=⟨p.G,{ p.s with heap:=h1,toks:=p.s.toks + ([]:List (Str × Value)).length }⟩) inv1 loop)
theorem csc_of {s:Scope} {sc:Sc} {x:Str} (h1:s.names.lookup x = some .local) (h2:s.kind = .function)
    (h3:s.names.all (fun q => q.2 != .cell && (q.2 != .local || q.1 == x || q.1 == ".0") && (q.2 != .free || sc.lookup q.1 == some .cell || sc.lookup q.1 == some .free) && s.names.lookup q.1 == some q.2) = true):CSc sc s x :=
  have al:=fun q hq => List.all_eq_true.mp h3 q hq
  { kind:=h2,loc:=h1,cell:=fun q hq => bne_iff_ne.mp (an_l (an_l (an_l (al q hq)))),uniq:=fun q hq => beq_iff_eq.mp (an_r (al q hq))
    free:=fun q hq e => or_e (an_r (an_l (al q hq))) (fun h => or_e h (fun h => absurd e (bne_iff_ne.mp h)) fun h => .inl (beq_iff_eq.mp h)) fun h => .inr (beq_iff_eq.mp h)
    one:=fun q hq e => or_e (an_r (an_l (an_l (al q hq)))) (fun h => or_e h (fun h => absurd e (bne_iff_ne.mp h)) fun h => .inl (beq_iff_eq.mp h)) fun h => .inr (beq_iff_eq.mp h) }
theorem onC_e {sc:Sc} {i:Nat} {f:Expr → Expr → List Expr → Sc → Bool} {e:Expr} {C:Expr → Prop} (h:onC sc i f e = true) (k:∀ el it ifs s pos px,noSet it = true → i < 219 → CSc sc s (nm i) → f el it ifs s.names = true → C (.ListComp el [⟨.Name (nm i) px,it,ifs,0⟩] s pos)):C e :=
 onListComp_e h fun el gs s pos h => on1_e (C:=fun gs => C (.ListComp el gs s pos)) h fun g h => by
  obtain ⟨t,it,ifs,as⟩:=g
  have h:=h
  have e0:as = 0:=beq_iff_eq.mp (an_r (an_l (an_l (an_l (an_l (an_l h))))))
  subst e0
  exact onName_e (C:=fun t => C (.ListComp el [⟨t,it,ifs,0⟩] s pos)) (an_l (an_l (an_l (an_l (an_l (an_l (an_l h))))))) fun n px q => beq_iff_eq.mp q ▸ k el it ifs s pos px (an_r (an_l (an_l (an_l (an_l (an_l (an_l h))))))) (blt_lt (an_r (an_l (an_l (an_l (an_l h))))))
   (csc_of (beq_iff_eq.mp (an_r (an_l (an_l (an_l h))))) (beq_iff_eq.mp (an_r (an_l (an_l h)))) (an_r (an_l h))) (an_r h)
theorem comp_val {elt iter:Expr} {ifs:List Expr} {scope:Scope} {pos px:Pos} {x':Nat} {mi:MI} {f:CF} (Hi:IterOK z mi) (hn:noSet iter = true) (hx:x' < 219) (Zs:CSc c.sc scope (nm x')) (S:Sit z c L x st) (okI':okI c.sc mi iter = true)
  (h:wpI z.T mi L st fun xs same st => compW same f xs st fun ys st => K (.d (.list ys)) st) (turn:∀ C,TurnOK z ⟨c.A,ce scope c.env C,scope.names⟩ L x' ifs elt f) (po:Post z c L x K Q) :
  wp z c (eval (.ListComp elt [⟨.Name (nm x') px,iter,ifs,0⟩] scope pos) c.env) Q x.s:=by
 have hcells:∀ q ∈ scope.names,q.2 = .free → (c.env.cells.lookup q.1).isSome = true:=fun q hq e => S.fr.elim fun m r => r.elim fun cm F => F.has q.1 (Zs.free q hq e)
 rw [eval_ListComp]
 refine wpAny_comprehension_free (use:=none) rfl (fun x => folded hn c.env x) (closureFor_pure hcells) Zs.kind (fun q hq e => by rw [Zs.uniq q hq,e]) ?_
 refine Hi okI' S h fun y st1 xs same X S1 hz hs h => comp_core (RR:=fun acc C => compPost (model z.prog z.w) c.A nope none Q acc C) hx Zs hcells S1 hz hs h turn ?_
 intro D C y2 vs n zs m st2 Y R D2 g oD oC dc frD frC hm hk
 refine ⟨m,hm,fun h' hs => ?_⟩
 have kp:=sameBut_keep hs
 have q:=adopt (o:=listOf vs.toArray n) (Y.ext.poke frC kp) (R.poke oC.1 oC.2 kp) frD oD.1 oD.2 (kp _ _ dc g)
 have T:Step y ⟨y2.G.frz D (listOf vs.toArray n),{ y2.s with heap:=h' }⟩:=⟨by rw [Y.eq],Y.le,q.1⟩
 exact po _ _ ⟨y2.G.frz D _,{ y2.s with heap:=h' }⟩ _ (X.trans T) (S1.next T q.2) (.d (.list Gh.frz_at (D2.mono fun _ _ => DR.mono (Gh.frz_gx oD.2).fz))) hk
theorem turn_plain {e:ME} {elt:Expr} {c':Cx} {x':Nat} (H:EvOK z e) (ok:okE c'.sc false e elt = true):TurnOK z c' L x' [] elt (fun it st k => wpE z.T e ((x',it) :: L) st fun v st => v.dat fun y => k (some y) st) :=
 fun {y st it K QE QN} S h pe pn => wpAny_tests_nil (H ok S h fun v av y' st' X S' V h => datC_e V h fun d D k => pe v d y' st' X S'.rep D k)
theorem turn_if {e t:ME} {elt te:Expr} {c':Cx} {x':Nat} (H:EvOK z e) (Ht:TrueOK z t) (ok:okE c'.sc false e elt = true) (okt:okE c'.sc true t te = true):TurnOK z c' L x' [te] elt (fun it st k => wpE z.T t ((x',it) :: L) st fun t st => t.bool fun t => ifc t (wpE z.T e ((x',it) :: L) st fun v st => v.dat fun y => k (some y) st) (k none st)) :=
 fun {y st it K QE QN} S h pe pn => wpAny_tests_one (Ht (K:=fun t st => ifc t (wpE z.T e ((x',it) :: L) st fun v st => v.dat fun y => K (some y) st) (K none st)) okt S h fun t y1 st1 X S1 h => by
  cases t
  ·exact pn y1 st1 X S1.rep h
  ·exact H ok S1 h fun v av y' st' Y S' V h => datC_e V h fun d D k => pe v d y' st' (X.trans Y) S'.rep D k)
theorem ev_comp {e:ME} {x':Nat} {src:MI} (H:EvOK z e) (Hi:IterOK z src):EvOK z (.comp e x' src):=fun {c L x st K Q e'} ok S h po =>
 onC_e (C:=fun e => wp z c (eval e c.env) Q x.s) (show onC c.sc x' (fun el it ifs s => ifs.isEmpty && okI c.sc src it && okE s false e el) e' = true from ok) fun el it ifs s pos px hn hx Zs q =>
  em_e (C:=fun ifs => wp z c (eval (.ListComp el [⟨.Name (nm x') px,it,ifs,0⟩] s pos) c.env) Q x.s) (an_l (an_l q)) (comp_val Hi hn hx Zs S (an_r (an_l q)) h (fun C => turn_plain (c':=⟨c.A,ce s c.env C,s.names⟩) H (an_r q)) po)
theorem ev_compIf {e t:ME} {x':Nat} {src:MI} (H:EvOK z e) (Ht:TrueOK z t) (Hi:IterOK z src):EvOK z (.compIf e x' src t):=fun {c L x st K Q e'} ok S h po =>
 onC_e (C:=fun e => wp z c (eval e c.env) Q x.s) (show onC c.sc x' (fun el it ifs s => on1 (okE s true t) ifs && okI c.sc src it && okE s false e el) e' = true from ok) fun el it ifs s pos px hn hx Zs q =>
  on1_e (C:=fun ifs => wp z c (eval (.ListComp el [⟨.Name (nm x') px,it,ifs,0⟩] s pos) c.env) Q x.s) (an_l (an_l q)) fun te q1 => comp_val Hi hn hx Zs S (an_r (an_l q)) h (fun C => turn_if (c':=⟨c.A,ce s c.env C,s.names⟩) H Ht (an_r q) q1) po
structure AllE (z:Zx) (me:ME):Prop where
 e:EvOK z me
 t:TrueOK z me
structure AllEs (z:Zx) (ms:MEs):Prop where
 s:EvsOK z ms
 a:ListOK z .And (wpA z.T) ms
 o:ListOK z .Or (wpO z.T) ms
 p:PairsOK z ms
theorem AllE.dflt {me:ME} (H:EvOK z me) (hb:∀ sc e,okE sc true me e = (plainT e && okE sc false me e)):AllE z me:=⟨H,true_dflt H hb⟩
theorem all_sound (Z:Zok z) (me:ME):AllE z me :=
 ME.rec (motive_1:=fun me => AllE z me) (motive_2:=fun ms => AllEs z ms) (motive_3:=fun mi => IterOK z mi)
  ⟨ev_never,tr_never⟩ (fun _ => .dflt ev_lit fun _ _ => rfl) (fun _ => .dflt ev_v fun _ _ => rfl) (fun _ _ => .dflt (ev_g Z) fun _ _ => rfl)
  (fun _ _ _ ha hb => .dflt (ev_bin ha.e hb.e) fun _ _ => rfl) (fun _ _ _ ha hb => ⟨ev_cmp ha.e hb.e,tr_cmp ha.e hb.e⟩) (fun _ _ _ ha hb hc => ⟨ev_btw ha.e hb.e hc.e,tr_btw⟩)
  (fun _ h => ⟨ev_and h.a,tr_and h.a⟩) (fun _ h => ⟨ev_or h.o,tr_or h.o⟩) (fun _ h => ⟨ev_not h.e,tr_not h.t⟩) (fun _ _ _ hc ha hb => ⟨ev_ite hc.t ha.e hb.e,tr_ite⟩)
  (fun _ _ _ h => .dflt (ev_attr Z h.e) fun _ _ => rfl) (fun _ _ _ ha hb => .dflt (ev_idx ha.e hb.e) fun _ _ => rfl) (fun _ _ _ h1 h2 h3 => .dflt (ev_slA h1.e h2.e h3.e) fun _ _ => rfl)
  (fun _ _ h1 h2 => .dflt (ev_slL h1.e h2.e) fun _ _ => rfl) (fun _ _ h1 h2 => .dflt (ev_slH h1.e h2.e) fun _ _ => rfl) (fun _ h => .dflt (ev_init h.e) fun _ _ => rfl)
  (fun _ h => .dflt (ev_tup h.s) fun _ _ => rfl) (fun _ _ h => .dflt (ev_lst h.s) fun _ _ => rfl) (fun _ _ _ h => .dflt (ev_dct h.p) fun _ _ => rfl)
  (fun _ _ _ h => .dflt (ev_call Z h.s) fun _ _ => rfl) (fun _ _ h => .dflt (ev_callv Z h.s) fun _ _ => rfl) (fun _ _ _ _ _ ho h => .dflt (ev_meth Z ho.e h.s) fun _ _ => rfl)
  (fun _ _ ho hx => .dflt (ev_app ho.e hx.e) fun _ _ => rfl) (fun _ _ ho hx => .dflt (ev_appJ ho.e hx.e) fun _ _ => rfl) (fun _ ho => .dflt (ev_pop ho.e) fun _ _ => rfl) (fun _ _ _ ho ha hx => .dflt (ev_ins ho.e ha.e hx.e) fun _ _ => rfl)
  (fun _ _ ho hx => .dflt (ev_find ho.e hx.e) fun _ _ => rfl) (fun _ _ _ ho => .dflt (ev_repl ho.e) fun _ _ => rfl) (fun _ ho => .dflt (ev_split ho.e) fun _ _ => rfl) (fun _ _ _ ho ha hx => .dflt (ev_getd ho.e ha.e hx.e) fun _ _ => rfl)
  (fun _ _ h => .dflt (ev_len Z h.e) fun _ _ => rfl) (fun _ h => .dflt (ev_ord Z h.e) fun _ _ => rfl) (fun _ h => .dflt (ev_chr Z h.e) fun _ _ => rfl) (fun _ _ ha hb => .dflt (ev_lstRng Z ha.e hb.e) fun _ _ => rfl)
  (fun _ h => .dflt (ev_lstOf Z h.e) fun _ _ => rfl) (fun _ h => .dflt (ev_srtI Z h.e) fun _ _ => rfl) (fun _ h => .dflt (ev_srtK Z h.e) fun _ _ => rfl)
  (fun _ _ _ he hs => .dflt (ev_comp he.e hs) fun _ _ => rfl) (fun _ _ _ _ he hs hc => .dflt (ev_compIf he.e hc.t hs) fun _ _ => rfl)
  ⟨evs_nil,and_nil,or_nil,pairs_nil⟩ (fun _ _ he h => ⟨evs_cons he.e h.s,and_cons he.e he.t h.a,or_cons he.e he.t h.o,pairs_cons he.e h.p⟩) (fun _ he => iter_of he.e) (fun _ he => iter_rng Z he.e) me
theorem all_iter (Z:Zok z) (mi:MI):IterOK z mi:=MI.casesOn (motive_3:=fun mi => IterOK z mi) mi (fun e => iter_of (all_sound Z e).e) fun e => iter_rng Z (all_sound Z e).e
end
end
section
noncomputable abbrev Cx.of (A:Around) (env:Env):Cx:=⟨A,env,env.scope.names⟩
structure SStep (env:Env) (x y:Pt):Prop where
 eq:y.s = { x.s with heap:=y.s.heap,toks:=y.s.toks }
 le:x.s.toks ≤ y.s.toks
 ext:Ext (PF env) x.G x.s.heap y.G y.s.heap
section
variable {z:Zx} {A:Around} {env:Env} {L:Locs} {x y y':Pt} {st st':St} {k:SK} {Q:Flow → Shared → Prop} {v:Value} {av:AV} {a b d:ME}
theorem SStep.refl (env:Env) (x:Pt):SStep env x x:=⟨rfl,Nat.le_refl _,.refl _ _ _⟩
theorem SStep.trans (X:SStep env x y) (Y:SStep env y y'):SStep env x y':=⟨by rw [Y.eq,X.eq],Nat.le_trans X.le Y.le,X.ext.trans Y.ext⟩
theorem Step.ss (X:Step x y):SStep env x y:=⟨X.eq,X.le,X.ext.up⟩
structure SPost (z:Zx) (A:Around) (env:Env) (x:Pt) (k:SK) (Q:Flow → Shared → Prop):Prop where
 n:∀ y L st,SStep env x y → Sit z (.of A env) L y st → k.n L st → Q .next y.s
 c:∀ y L st,SStep env x y → Sit z (.of A env) L y st → k.c L st → Q .cont y.s
 r:∀ v av y st,SStep env x y → RepP z y st → VRP z y v av → k.r av st → Q (.ret v) y.s
theorem SPost.from (po:SPost z A env x k Q) (X:SStep env x y):SPost z A env y k Q:=⟨fun y' L st Y => po.n y' L st (X.trans Y),fun y' L st Y => po.c y' L st (X.trans Y),fun v av y' st Y => po.r v av y' st (X.trans Y)⟩
noncomputable def StOK (z:Zx) (m:MS):Prop:=∀ {A env L x st k Q s},okS env.scope.names m s = true → Sit z (.of A env) L x st → wpS z.T m L st k → SPost z A env x k Q → wp z (.of A env) (exec s env) Q x.s
noncomputable def StsOK (z:Zx) (m:MSs):Prop:=∀ {A env L x st k Q s},okSs env.scope.names m s = true → Sit z (.of A env) L x st → wpSs z.T m L st k → SPost z A env x k Q → wp z (.of A env) (execs s env) Q x.s
theorem sts_nil:StsOK z .nil:=fun {A env L x st k Q s} ok S h po => em_e (C:=fun s => wp z (.of A env) (execs s env) Q x.s) ok (wpAny_execs_nil (po.n x L st (.refl _ _) S h))
theorem sts_cons {m:MS} {r:MSs} (H:StOK z m) (Hr:StsOK z r):StsOK z (.cons m r):=fun {A env L x st k Q s} ok S h po => by
 cases s with
 | nil => exact nb0 ok
 | cons s ss => exact wpAny_execs_cons (H (an_l ok) S h ⟨fun y L st X S h => Hr (an_r ok) S h (po.from X),po.c,po.r⟩)
theorem st_never:StOK z .never:=fun _ _ h _ => h.elim
theorem st_pass:StOK z .pass:=fun {A env L x st k Q s} ok S h po => stPass_e (C:=fun s => wp z (.of A env) (exec s env) Q x.s) ok fun p _ => wpAny_Pass (po.n x L st (.refl _ _) S h)
theorem st_cont:StOK z .cont:=fun {A env L x st k Q s} ok S h po => stContinue_e (C:=fun s => wp z (.of A env) (exec s env) Q x.s) ok fun p _ => wpAny_Continue (po.c x L st (.refl _ _) S h)
theorem st_retN:StOK z .retN:=fun {A env L x st k Q s} ok S h po => stReturn_e (C:=fun s => wp z (.of A env) (exec s env) Q x.s) ok fun o p q => no_e (C:=fun o => wp z (.of A env) (exec (.Return o p) env) Q x.s) q (wpAny_Return_none (po.r _ _ x st (.refl _ _) S.rep .none h))
theorem st_ret (H:EvOK z a):StOK z (.ret a):=fun {A env L x st k Q s} ok S h po => stReturn_e (C:=fun s => wp z (.of A env) (exec s env) Q x.s) ok fun o p q => onS_e (C:=fun o => wp z (.of A env) (exec (.Return o p) env) Q x.s) q fun e q =>
 wpAny_Return_some (H (c:=.of A env) q S h fun v av y st' X S' V k => po.r v av y st' X.ss S'.rep V k)
theorem comp_no {e:Expr} (h:notComp e = true) {o:Option Expr} {n:Nat} {env:Env}:swapsWith e o n env = pure false:=by
 cases e <;> first | rfl | exact nb0 h
theorem st_expr (H:EvOK z a):StOK z (.expr a):=fun {A env L x st k Q s} ok S h po => stExpr_e (C:=fun s => wp z (.of A env) (exec s env) Q x.s) ok fun e p q =>
 wpAny_Expr_any (H (c:=.of A env) (an_r q) S h fun v av y st' X S' V k => po.n y L st' X.ss S' k) (S.fr.elim fun m q => q.elim fun cm F => by unfold interactive;rw [show env.scope.kind = .function from F.kind];rfl) (comp_no (an_l q))
theorem st_ifs {m1 m2:MSs} (Hc:TrueOK z a) (H1:StsOK z m1) (H2:StsOK z m2):StOK z (.ifs a m1 m2):=fun {A env L x st k Q s} ok S h po => stIf_e (C:=fun s => wp z (.of A env) (exec s env) Q x.s) ok fun t s1 s2 p q =>
 wpAny_If (Hc (c:=.of A env) (K:=fun p st => ifc p (wpSs z.T m1 L st k) (wpSs z.T m2 L st k)) (an_l (an_l q)) S h fun p y st' X S' h => by
  cases p
  ·exact H2 (an_r q) S' h (po.from X.ss)
  ·exact H1 (an_r (an_l q)) S' h (po.from X.ss))
theorem st_setattr (Z:Zok z) {cl i:Nat} (Ho:EvOK z a) (H:EvOK z b):StOK z (.setattr a cl i b):=fun {A env L x st k Q s} ok S h po => stAssign_e (C:=fun s => wp z (.of A env) (exec s env) Q x.s) ok fun ts e p q =>
 on1_e (C:=fun ts => wp z (.of A env) (exec (.Assign ts e p) env) Q x.s) (an_l (an_l q)) fun t q1 => onAttribute_e (C:=fun t => wp z (.of A env) (exec (.Assign [t] e p) env) Q x.s) q1 fun o n ap q1 => beq_iff_eq.mp (an_l (an_l (an_l q1))) ▸
  plainObj_wpAny_Assign_Attribute (H (c:=.of A env) (an_r q) S h fun v av y1 st1 X S1 V h => Ho (c:=.of A env) (an_r q1) S1 h fun u au y2 st2 Y S2 U h =>
   at_e (C:=fun _ u => wp z (.of A env) (setAttr u (nm i) v) (fun _ => Q .next) y2.s) (k:=fun n => gd (st2.isI n cl) (nd (st2.setF n i av) fun st => k.n L st)) U h fun n l h => gd_e h fun g h =>
    inst_set (c:=.of A env) (K:=fun _ st => k.n L st) (Q:=fun _ => Q .next) Z.F Z.K S2.rep (V.mono Y.ext.gx) (an_r (an_l q1)) g (nd_e h) fun _ _ y3 st3 W R _ hk => po.n y3 L st3 ((X.trans Y).trans W).ss (S2.next W R) hk) (comp_no (an_r (an_l q)))
theorem st_setI (Ho:EvOK z a) (Hk:EvOK z b) (H:EvOK z d):StOK z (.setI a b d):=fun {A env L x st k Q s} ok S h po => stAssign_e (C:=fun s => wp z (.of A env) (exec s env) Q x.s) ok fun ts e p q =>
 on1_e (C:=fun ts => wp z (.of A env) (exec (.Assign ts e p) env) Q x.s) (an_l (an_l q)) fun t q1 => onSubscript_e (C:=fun t => wp z (.of A env) (exec (.Assign [t] e p) env) Q x.s) q1 fun o i sp q1 =>
  wpAny_Assign_Subscript (H (c:=.of A env) (an_r q) S h fun v av y1 st1 X S1 V h => Ho (c:=.of A env) (an_l q1) S1 h fun u au y2 st2 Y S2 U h => Hk (c:=.of A env) (an_r q1) S2 h fun w aw y3 st3 Y' S3 W h =>
   datC_e (V.mono (Y.ext.gx.trans Y'.ext.gx)) h fun dv Dv h => at_e (C:=fun _ u => wp z (.of A env) (setItem u w v) (fun _ => Q .next) y3.s) (k:=fun n => aw.int fun i => st3.dl n fun xs => gd (decide (0 ≤ i) && decide (i < xs.length) && decide (xs.length ≤ bigLen)) (nd (st3.put n (.dl (xs.set i.toNat dv))) fun st => k.n L st)) (U.mono Y'.ext.gx) h fun n l h =>
    int_e (C:=fun w => wp z (.of A env) (setItem (.ref (y3.G.ad n)) w v) (fun _ => Q .next) y3.s) W h fun i t h => dl_e S3.rep h fun xs vs j e o g D h => gd_e h fun q h =>
     setI_go (c:=.of A env) (K:=fun _ st => k.n L st) (Q:=fun _ => Q .next) S3.rep e o g D Dv q (nd_e h) fun _ _ y4 st4 T R _ hk => po.n y4 L st4 ((X.trans (Y.trans Y')).trans T).ss (S3.next T R) hk) (comp_no (an_r (an_l q)))
theorem st_setK (Ho:EvOK z a) (Hk:EvOK z b) (H:EvOK z d):StOK z (.setK a b d):=fun {A env L x st k Q s} ok S h po => stAssign_e (C:=fun s => wp z (.of A env) (exec s env) Q x.s) ok fun ts e p q =>
 on1_e (C:=fun ts => wp z (.of A env) (exec (.Assign ts e p) env) Q x.s) (an_l (an_l q)) fun t q1 => onSubscript_e (C:=fun t => wp z (.of A env) (exec (.Assign [t] e p) env) Q x.s) q1 fun o i sp q1 =>
  wpAny_Assign_Subscript (H (c:=.of A env) (an_r q) S h fun v av y1 st1 X S1 V h => Ho (c:=.of A env) (an_l q1) S1 h fun u au y2 st2 Y S2 U h => Hk (c:=.of A env) (an_r q1) S2 h fun w aw y3 st3 Y' S3 W h =>
   at_e (C:=fun _ u => wp z (.of A env) (setItem u w v) (fun _ => Q .next) y3.s) (k:=fun n => aw.str fun i => st3.dict n fun es => gd (Nat.ble es.length 999 && decide (es.map (·.1)).Nodup && av.simple) (nd (st3.put n (.dict (putK i av es))) fun st => k.n L st)) (U.mono Y'.ext.gx) h fun n l h =>
    str_e (C:=fun w => wp z (.of A env) (setItem (.ref (y3.G.ad n)) w v) (fun _ => Q .next) y3.s) W h fun i t h => dict_e S3.rep h fun kvs es j e o g E h => gd_e h fun q h =>
     setK_go (c:=.of A env) (K:=fun _ st => k.n L st) (Q:=fun _ => Q .next) S3.rep e o g E ((V.mono (Y.ext.gx.trans Y'.ext.gx)).simple (an_r q)) (an_l q) (nd_e h) fun _ _ y4 st4 T R _ hk => po.n y4 L st4 ((X.trans (Y.trans Y')).trans T).ss (S3.next T R) hk) (comp_no (an_r (an_l q)))
theorem FrOK.more {P:Params} {G:Gh} {h h':Heap} {m cm m' cm':Str → Option Value} {sc:Sc} {i:Nat} (F:FrOK P G h env m cm sc L) (hi:i < 219) (hm:∀ y,y ≠ nm i → m' y = m y) (hc:∀ y,y ≠ nm i → cm' y = cm y) (hn:h'.Ns env.locals m')
  (hcell:∀ k c,env.cells.lookup k = some c → h'.IsCell c (cm' k)) {v:Value} (V:VR P G v av) (hv:VarAt env m' cm' (nm i) v):FrOK P G h' env m' cm' sc ((i,av) :: L) :=
 have vars:∀ j bv,((i,av) :: L).lookup j = some bv → isLoc sc j = true → ∃ v,VR P G v bv ∧ VarAt env m' cm' (nm j) v:=fun j bv hj hs => (Classical.em (j = i)).elim (fun q => by subst q;exact ⟨v,Option.some.inj (lk_hit.symm.trans hj) ▸ V,hv⟩) fun q =>
  have ne:nm j ≠ nm i:=fun z => q (nm_inj (blt_lt (an_l hs)) hi z)
  (F.vars j bv ((lk_miss q).symm.trans hj) hs).elim fun u U => ⟨u,U.1,U.2.imp (fun w => ⟨w.1,(hm _ ne).trans w.2⟩) fun w => ⟨w.1,w.2.1,(hc _ ne).trans w.2.2⟩⟩
 ⟨F.kind,F.gl,F.bl,hn,hcell,F.glob,F.locl,F.has,vars,F.apart,F.ne,F.priv⟩
theorem sto_lt {sc:Sc} {i:Nat} (h:isSto sc i = true):i < 219:=blt_lt (an_l h)
theorem sto_kd {sc:Sc} {i:Nat} (h:isSto sc i = true):sc.lookup (nm i) = some .local ∨ sc.lookup (nm i) = some .cell:=or_e (an_r h) (fun h => .inl (beq_iff_eq.mp h)) fun h => .inr (beq_iff_eq.mp h)
theorem store_go {i:Nat} (S:Sit z (.of A env) L x st) (hi:isSto env.scope.names i = true) (V:VRP z x v av) {Q:Unit → Shared → Prop} {M:Model} {E:Value → Shared → Prop}
  (k:∀ y,SStep env x y → y.G = x.G → Sit z (.of A env) ((i,av) :: L) y st → (∀ b o,¬ PF env b → x.s.heap.get? b = some o → y.s.heap.get? b = some o) → Q () y.s):wpAny M A (storeName env (nm i) v) Q E x.s:=by
 obtain ⟨m,cm,F⟩:=S.fr
 have poke:∀ {h':Heap} {p:Addr},PF env p → (∃ o,h'.get? p = some o) → Heap.SameBut p x.s.heap h' → Ext (PF env) x.G x.s.heap x.G h' ∧ Rep z.P z.B x.G h' st:=fun {h' p} hp hl hs =>
  have pr:=F.priv p hp
  ⟨⟨fun a o e q r => sameBut_keep hs a o (fun z => r (z ▸ hp)) e,fun a o e => (Classical.em (a = p)).elim (fun q => q ▸ hl) fun q => ⟨o,sameBut_keep hs a o q e⟩,fun _ e => .inl e,fun _ e => .inl e,.refl _⟩,S.rep.poke pr.1 pr.2 (sameBut_keep hs)⟩
 rcases sto_kd hi with kd | kd
 ·refine wpAny_storeName_local kd F.ns (fun h' hn hs => ?_) (by rw [show env.scope.kind = .function from F.kind];rfl)
  have P:=poke (.inl rfl) (ns_live hn) hs
  exact k ⟨x.G,{ x.s with heap:=h',toks:=x.s.toks + 1 }⟩ ⟨rfl,Nat.le_succ _,P.1⟩ rfl ⟨S.rm,Nat.lt_succ_of_lt S.tok,P.2,_,cm,F.more (sto_lt hi) (fun y hy => by simp [hy]) (fun _ _ => rfl) hn (fun q c hc => (F.cell q c hc).elim fun o r => ⟨o,sameBut_keep hs _ _ (F.ne q c hc) r.1,r.2⟩) V
   (.inl ⟨kd,by simp⟩)⟩ fun b o hb e => sameBut_keep hs b o (fun z => hb (.inl z)) e
 ·obtain ⟨c,hc⟩:=Option.isSome_iff_exists.mp (F.has (nm i) (.inl kd))
  refine wpAny_storeName_cell F.kind kd hc (F.cell _ _ hc) fun h' hv hs => ?_
  have P:=poke (.inr ⟨_,hc⟩) (hv.elim fun o r => ⟨o,r.1⟩) hs
  refine k ⟨x.G,{ x.s with heap:=h' }⟩ ⟨rfl,Nat.le_refl _,P.1⟩ rfl ⟨S.rm,S.tok,P.2,m,fun y => if y = nm i then some v else cm y,F.more (sto_lt hi) (fun _ _ => rfl) (fun y hy => if_neg hy) (F.ns.sameBut hs (Ne.symm (F.ne _ _ hc))) (fun q c' hc' => ?_) V
   (.inr ⟨.inl kd,by rw [hc];rfl,if_pos rfl⟩)⟩ fun b o hb e => sameBut_keep hs b o (fun z => hb (.inr ⟨_,z ▸ hc⟩)) e
  by_cases w:c' = c
  ·subst w
   have e:=F.apart _ _ _ hc' hc
   subst e;simp only [if_true];exact hv
  ·have ne:q ≠ nm i:=fun e => w (Option.some.inj (hc'.symm.trans (e ▸ hc)))
   simp only [if_neg ne]
   exact (F.cell q c' hc').elim fun o r => ⟨o,sameBut_keep hs _ _ w r.1,r.2⟩
theorem st_store {i:Nat} (X:SStep env x y) (S:Sit z (.of A env) L y st) (hi:isSto env.scope.names i = true) (V:VRP z y v av) (h:k.n ((i,av) :: L) st) (po:SPost z A env x k Q) {M:Model} {E:Value → Shared → Prop}:wpAny M A (storeName env (nm i) v) (fun _ => Q .next) E y.s :=
 store_go S hi V fun y2 Y _ S2 _ => po.n y2 _ st (X.trans Y) S2 h
theorem sto_loc {sc:Sc} {i:Nat} (h:isSto sc i = true):isLoc sc i = true:=by
 unfold isLoc;rw [Bool.and_eq_true];exact ⟨an_l h,Bool.or_eq_true _ _ ▸ .inl (an_r h)⟩
theorem st_aug {i:Nat} (H:EvOK z a):StOK z (.aug i a):=fun {A env L x st k Q s} ok S h po => stAugAssign_e (C:=fun s => wp z (.of A env) (exec s env) Q x.s) ok fun t o e p q => have eo:=beq_iff_eq.mp (an_r (an_l q));eo ▸
 onName_e (C:=fun t => wp z (.of A env) (exec (.AugAssign t .Add e p) env) Q x.s) (an_l (an_l (an_l q))) fun n np q1 => beq_iff_eq.mp q1 ▸ opt_e h fun u e1 h => wpAny_AugAssign_Name (loadN S (sto_loc (an_r (an_l (an_l q)))) e1 fun v0 V0 => int_e (C:=fun v0 => wp z (.of A env) (eval e env) (fun v s => wp z (.of A env) (inplaceOp .Add v0 v) _ s) x.s) V0 h fun i0 t0 h =>
  H (c:=.of A env) (an_r q) S h fun v av y st1 X S1 V h => int_e (C:=fun v => wp z (.of A env) (inplaceOp .Add (.int i0 t0) v) _ y.s) V h fun j t h => PySem.P.iadd_int (have T:Step y ⟨y.G,{ y.s with toks:=y.s.toks + 1 }⟩:=.tk (Nat.le_succ _)
   st_store (y:=⟨y.G,{ y.s with toks:=y.s.toks + 1 }⟩) (X.trans T).ss (S1.next T S1.rep) (an_r (an_l (an_l q))) .int h po))
theorem st_augattr (Z:Zok z) {cl i:Nat} {sub:Bool} (Ho:EvOK z a) (H:EvOK z b):StOK z (.augattr a cl i sub b):=fun {A env L x st k Q s} ok S h po => stAugAssign_e (C:=fun s => wp z (.of A env) (exec s env) Q x.s) ok fun t o e p q => have eo:=beq_iff_eq.mp (an_r (an_l q));eo ▸
 onAttribute_e (C:=fun t => wp z (.of A env) (exec (.AugAssign t (cond sub .Sub .Add) e p) env) Q x.s) (an_l (an_l q)) fun oo n ap q1 => beq_iff_eq.mp (an_l (an_l q1)) ▸ wpAny_AugAssign_AttributeAny (Ho (c:=.of A env) (an_r q1) S h fun v av y1 st1 X S1 V h =>
  at_e (C:=fun _ v => wp z (.of A env) (getAttr v (nm i) true) (fun old s => wp z (.of A env) (eval e env) (fun u s => wp z (.of A env) (inplaceOp (cond sub .Sub .Add) old u) (fun w s => wp z (.of A env) (setAttr v (nm i) w) (fun _ => Q .next) s) s) s) y1.s) V h fun n l h => opt_e h fun u e1 h =>
   inst_get (c:=.of A env) (K:=fun w st => w = u ∧ st = st1) Z.F Z.K S1.rep (an_r (an_l q1)) e1 ⟨rfl,rfl⟩ fun w aw y2 st2 Y R2 W hw => by
    obtain ⟨rfl,rfl⟩:=hw
    refine int_e (C:=fun w => wp z (.of A env) (eval e env) (fun u s => wp z (.of A env) (inplaceOp (cond sub .Sub .Add) w u) _ s) y2.s) W h fun i0 t0 h => H (c:=.of A env) (an_r q) (S1.next Y R2) h fun u au y3 st3 Y' S3 U h => int_e (C:=fun u => wp z (.of A env) (inplaceOp (cond sub .Sub .Add) (.int i0 t0) u) _ y3.s) U h fun j t h => gd_e h fun g h => ?_
    have ad:=(Y.ext.gx.trans Y'.ext.gx).ad n l
    have T:Step y3 ⟨y3.G,{ y3.s with toks:=y3.s.toks + 1 }⟩:=.tk (Nat.le_succ _)
    have fin:∀ {t:Tok},wp z (.of A env) (setAttr (.ref (y1.G.ad n)) (nm i) (.int (cond sub (i0 - j) (i0 + j)) t)) (fun _ => Q .next) { y3.s with toks:=y3.s.toks + 1 }:=fun {t} => ad ▸ inst_set (c:=.of A env) (x:=⟨y3.G,{ y3.s with toks:=y3.s.toks + 1 }⟩) (K:=fun _ st => k.n L st) (Q:=fun _ => Q .next) Z.F Z.K S3.rep .int (an_r (an_l q1)) g (nd_e h)
     fun _ _ y4 st4 T' R _ hk => po.n y4 L st4 ((X.trans (Y.trans Y')).trans (T.trans T')).ss (S3.next (T.trans T') R) hk
    cases sub
    ·exact PySem.P.iadd_int fin
    ·exact PySem.P.isub_int fin)
end
end
section
section
variable {z:Zx} {A:Around} {env:Env} {L:Locs} {x y y':Pt} {st st':St} {k:SK} {Q:Flow → Shared → Prop} {v:Value} {av:AV} {a b d:ME}
theorem comp_asg {elt iter:Expr} {ifs:List Expr} {scope:Scope} {pos px py spos:Pos} {x' i:Nat} {mi:MI} {f:CF} (Hi:IterOK z mi) (hn:noSet iter = true) (hx:x' < 219) (Zs:CSc env.scope.names scope (nm x')) (S:Sit z (.of A env) L x st) (okI':okI env.scope.names mi iter = true)
  (h:wpI z.T mi L st fun xs same st => compW same f xs st fun ys st => k.n ((i,.d (.list ys)) :: L) st) (turn:∀ C,TurnOK z ⟨A,ce scope env C,scope.names⟩ L x' ifs elt f) (hi:isSto env.scope.names i = true) (po:SPost z A env x k Q) :
  wp z (.of A env) (exec (.Assign [.Name (nm i) py] (.ListComp elt [⟨.Name (nm x') px,iter,ifs,0⟩] scope pos) spos) env) Q x.s:=by
 have hsw:swapsWith (.ListComp elt [⟨.Name (nm x') px,iter,ifs,0⟩] scope pos) (some (.Name (nm i) py)) spos.line env =
   pure (env.blockKind == .function && env.kindOf (nm i) == some .local && py.line == pos.line && !(scope.names.any fun (n,k) => n == nm i && (k == .local || k == .cell))):=rfl
 generalize (env.blockKind == .function && env.kindOf (nm i) == some .local && py.line == pos.line && !(scope.names.any fun (n,k) => n == nm i && (k == .local || k == .cell))) = bb at hsw
 cases bb with
 | false => exact wpAny_Assign_Name (comp_val (c:=.of A env) (K:=fun v st => k.n ((i,v) :: L) st) Hi hn hx Zs S okI' h turn fun v av y st' X S' V h => st_store X.ss S' hi V h po) hsw
 | true =>
  have hcells:∀ q ∈ scope.names,q.2 = .free → (env.cells.lookup q.1).isSome = true:=fun q hq e => S.fr.elim fun m r => r.elim fun cm F => F.has q.1 (Zs.free q hq e)
  rw [exec_Assign_Name_used _ _ _ _ hsw]
  refine wpAny_bind (wpAny_standAt (wpAny_bind ?_))
  show wpAny _ A (do let _ ← comprehension (.ListComp elt [⟨.Name (nm x') px,iter,ifs,0⟩] scope pos) scope env _ (newList []) false (eval iter env) (some (assign (.Name (nm i) py) env))) _ _ _
  refine wpAny_bind (wpAny_mono (wpAny_comprehension_free (use:=some (assign (.Name (nm i) py) env)) (Q:=fun _ => Q .next) rfl (fun x => folded hn env x) (closureFor_pure hcells) Zs.kind
   (fun q hq e => by rw [Zs.uniq q hq,e]) ?_) (fun _ s' hq => wpAny_pure (wpAny_pure hq)) fun _ _ e => e)
  refine Hi (c:=.of A env) okI' S h fun y st1 xs same X S1 hz hs h => comp_core (c:=.of A env) (RR:=fun acc C => compPost (model z.prog z.w) A nope (some (assign (.Name (nm i) py) env)) (fun _ => Q .next) acc C) hx Zs hcells S1 hz hs h turn ?_
  intro D C y2 vs n zs m st2 Y R D2 g oD oC dc frD frC hm hk
  have q:=adopt (o:=listOf vs.toArray n) Y.ext R frD oD.1 oD.2 g
  have T:Step y ⟨y2.G.frz D (listOf vs.toArray n),y2.s⟩:=⟨Y.eq,Y.le,q.1⟩
  have neC:¬ PF env C:=fun p => S1.fr.elim fun m r => r.elim fun cm F => (F.live p).elim fun o e => n0 (frC.symm.trans e)
  refine wpAny_assign_Name (store_go (x:=⟨y2.G.frz D (listOf vs.toArray n),y2.s⟩) (S1.next T q.2) hi (.d (.list Gh.frz_at (D2.mono fun _ _ => DR.mono (Gh.frz_gx oD.2).fz))) fun y3 X3 eG S3 kp => ⟨m,hm.at' fun o e => kp C o neC e,fun h' hs => ?_⟩)
  have kp2:=sameBut_keep hs
  have XX:=(X.ss.trans T.ss).trans X3
  have oC2:y3.G.own C = none ∧ y3.G.fz C = none:=⟨eG ▸ oC.1,eG ▸ (Gh.frz_ne (Ne.symm dc)).trans oC.2⟩
  exact po.n ⟨y3.G,{ y3.s with heap:=h' }⟩ _ st2 ⟨by rw [XX.eq],XX.le,XX.ext.poke (none_of_alive X.ext.alive frC) kp2⟩ ⟨S3.rm,S3.tok,S3.rep.poke oC2.1 oC2.2 kp2,S3.fr.elim fun m r => r.elim fun cm F => ⟨m,cm,F.heap fun a o p e => kp2 a o (fun z => neC (z ▸ p)) e⟩⟩ hk
theorem st_assign (Z:Zok z) {i:Nat} {e:ME}:StOK z (.assign i e):=fun {A env L x st k Q s} ok S h po => stAssign_e (C:=fun s => wp z (.of A env) (exec s env) Q x.s) ok fun ts e' p q =>
 on1_e (C:=fun ts => wp z (.of A env) (exec (.Assign ts e' p) env) Q x.s) (an_l (an_l (an_l q))) fun t q1 => onName_e (C:=fun t => wp z (.of A env) (exec (.Assign [t] e' p) env) Q x.s) q1 fun n np q1 => beq_iff_eq.mp q1 ▸
  have hi:=an_r (an_l (an_l q))
  or_e (an_r q) (fun hc => wpAny_Assign_Name ((all_sound Z e).e (c:=.of A env) (K:=fun v st => k.n ((i,v) :: L) st) (an_r (an_l q)) S h fun v av y st' X S' V h => st_store X.ss S' hi V h po) (comp_no hc)) fun hc => or_e hc
   (fun hc => ME.comp.elim (motive_1:=fun e => okE env.scope.names false e e' = true → wpE z.T e L st (fun v st => k.n ((i,v) :: L) st) → wp z (.of A env) (exec (.Assign [.Name (nm i) np] e' p) env) Q x.s) e (beq_iff_eq.mp hc)
    (fun el x' src ok h => onC_e (C:=fun e' => wp z (.of A env) (exec (.Assign [.Name (nm i) np] e' p) env) Q x.s) (show onC env.scope.names x' (fun el' it ifs s => ifs.isEmpty && okI env.scope.names src it && okE s false el el') e' = true from ok) fun el' it ifs s pos px hn hx Zs q =>
     em_e (C:=fun ifs => wp z (.of A env) (exec (.Assign [.Name (nm i) np] (.ListComp el' [⟨.Name (nm x') px,it,ifs,0⟩] s pos) p) env) Q x.s) (an_l (an_l q)) (comp_asg (all_iter Z src) hn hx Zs S (an_r (an_l q)) h (fun C => turn_plain (c':=⟨A,ce s env C,s.names⟩) (all_sound Z el).e (an_r q)) hi po)) (an_r (an_l q)) h)
   (fun hc => ME.compIf.elim (motive_1:=fun e => okE env.scope.names false e e' = true → wpE z.T e L st (fun v st => k.n ((i,v) :: L) st) → wp z (.of A env) (exec (.Assign [.Name (nm i) np] e' p) env) Q x.s) e (beq_iff_eq.mp hc)
    (fun el x' src t ok h => onC_e (C:=fun e' => wp z (.of A env) (exec (.Assign [.Name (nm i) np] e' p) env) Q x.s) (show onC env.scope.names x' (fun el' it ifs s => on1 (okE s true t) ifs && okI env.scope.names src it && okE s false el el') e' = true from ok) fun el' it ifs s pos px hn hx Zs q =>
     on1_e (C:=fun ifs => wp z (.of A env) (exec (.Assign [.Name (nm i) np] (.ListComp el' [⟨.Name (nm x') px,it,ifs,0⟩] s pos) p) env) Q x.s) (an_l (an_l q)) fun te q1 => comp_asg (all_iter Z src) hn hx Zs S (an_r (an_l q)) h (fun C => turn_if (c':=⟨A,ce s env C,s.names⟩) (all_sound Z el).e (all_sound Z t).t (an_r q) q1) hi po) (an_r (an_l q)) h)
theorem asg_order {is:List Nat}:∀ {ts:List Expr} {vs:List Value} {avs:List AV} {L:Locs} {x:Pt} {Q:Unit → Shared → Prop} {M:Model} {E:Value → Shared → Prop},namesOK env.scope.names is ts = true → All2 (VR z.P x.G) vs avs → is.length = avs.length → Sit z (.of A env) L x st →
  (∀ y,SStep env x y → Sit z (.of A env) ((is.zip avs).reverse ++ L) y st → Q () y.s) → wpAny M A (assignInOrder ((assignEach ts env).map (·.2)) vs) Q E x.s:=by
 induction is with
 | nil =>
  intro ts vs avs L x Q M E h V hl S k
  cases avs with
  | cons _ _ => exact absurd hl.symm (Nat.succ_ne_zero _)
  | nil =>
   cases V
   exact em_e (C:=fun ts => wpAny M A (assignInOrder ((assignEach ts env).map (·.2)) []) Q E x.s) h (assignInOrder_nil (k x (.refl _ _) S))
 | cons i is ih =>
  intro ts vs avs L x Q M E h V hl S k
  cases V with
  | nil => exact absurd hl (Nat.succ_ne_zero _)
  | cons V1 Vr => cases ts with
   | nil => exact nb0 h
   | cons t ts =>
    rename_i v av vs avs
    exact onName_e (C:=fun t => wpAny M A (assignInOrder ((assignEach (t :: ts) env).map (·.2)) (v :: vs)) Q E x.s) (an_l (an_l h)) fun n p q => beq_iff_eq.mp q ▸ assignInOrder_cons (PyProof.Rows.assign_Name (store_go S (an_r (an_l h)) V1 fun y X eG S' _ =>
     ih (an_r h) (Vr.mono fun _ _ => VR.mono X.ext.gx) (Nat.succ.inj hl) S' fun y2 X2 S2 => k y2 (X.trans X2) (by rw [List.zip_cons_cons,List.reverse_cons,List.append_assoc];exact S2)))
theorem names_len {sc:Sc} {is:List Nat}:∀ {ts:List Expr},namesOK sc is ts = true → (assignEach ts env).length = is.length ∧ (assignEach ts env).findIdx? (·.1) = none:=by
 induction is with
 | nil => exact fun {ts} h => em_e (C:=fun ts => (assignEach ts env).length = 0 ∧ (assignEach ts env).findIdx? (·.1) = none) h ⟨rfl,rfl⟩
 | cons i is ih =>
  intro ts h
  cases ts with
  | nil => exact nb0 h
  | cons t ts => exact onName_e (C:=fun t => (assignEach (t :: ts) env).length = is.length + 1 ∧ (assignEach (t :: ts) env).findIdx? (·.1) = none) (an_l (an_l h)) fun n p q =>
    ⟨congrArg (· + 1) (ih (an_r h)).1,by rw [show assignEach (.Name n p :: ts) env = (false,assign (.Name n p) env) :: assignEach ts env from rfl,List.findIdx?_cons,(ih (an_r h)).2];rfl⟩
theorem filterMap_full {α β:Type} {f:α → Option β} {l:List α}:(l.filterMap f).length = l.length → ∀ t ∈ l,(f t).isSome = true:=by
 induction l with
 | nil => exact fun _ t h => (List.not_mem_nil h).elim
 | cons a l ih =>
  intro e t h
  rw [List.filterMap_cons] at e
  cases hb:f a with
  | none => rw [hb] at e;exact absurd e (Nat.ne_of_lt (Nat.lt_succ_of_le (List.length_filterMap_le f l)))
  | some b =>
   rw [hb] at e
   exact (List.mem_cons.mp h).elim (fun z => z ▸ hb ▸ rfl) (ih (Nat.succ.inj e) t)
theorem swap_names {ts:List Expr} {line:Nat} (h:someCell env.scope.names ts = true) :
  ((ts.filterMap fun | .Name id pos => if env.kindOf id == some .local && pos.line == line then some id else none | _ => none).length != ts.length) = true:=by
 rw [bne_iff_ne]
 intro e
 obtain ⟨t,ht,hn⟩:=List.any_eq_true.mp h
 have:=filterMap_full e t ht
 revert this
 exact onName_e (C:=fun t => ¬ Option.isSome ((fun | .Name id pos => if env.kindOf id == some .local && pos.line == line then some id else none | _ => none:Expr → Option Str) t) = true) hn fun n p hn => by
  have nk:(env.kindOf n == some .local) = false:=beq_eq_false_iff_ne.mpr (bne_iff_ne.mp hn)
  simp [nk]
theorem swap_ok {ts:List Expr} {k:Nat} {p:Pos} {e:Expr} {n:Nat} (h:swapOK env.scope.names ts e = true):swapsWithSole [.Tuple ts k p] e n env = pure false ∧ swappedStores [.Tuple ts k p] e env = pure none :=
 or_e h (fun h => onTuple_e (C:=fun e => swapsWithSole [.Tuple ts k p] e n env = pure false ∧ swappedStores [.Tuple ts k p] e env = pure none) h fun vs k' p' h => ⟨rfl,by
  unfold swappedStores
  dsimp only
  split
  ·rfl
  ·rename_i n1
   split
   ·rfl
   ·exact or_e (an_l h) (fun z => absurd (by
      have h1:=Nat.le_of_ble_eq_true z
      have h2:=beq_iff_eq.mp (an_r h)
      have:¬ (ts.length = 2):=by omega
      have:¬ (ts.length = 3):=by omega
      simp [*]) n1) fun z => by rw [if_pos];rw [Bool.or_eq_true];exact .inl (swap_names z)⟩)
  fun h => ⟨by show swapsWith e (some (.Tuple ts k p)) n env = pure false;exact comp_no (an_l h),by
   have q:=an_r h
   cases e <;> first | rfl | exact nb0 q⟩
theorem st_assignT (Z:Zok z) {is:List Nat} {e:ME}:StOK z (.assignT is e):=fun {A env L x st k Q s} ok S h po => stAssign_e (C:=fun s => wp z (.of A env) (exec s env) Q x.s) ok fun ts e' p q =>
 on1_e (C:=fun ts => wp z (.of A env) (exec (.Assign ts e' p) env) Q x.s) (an_l q) fun t q1 => onTuple_e (C:=fun t => wp z (.of A env) (exec (.Assign [t] e' p) env) Q x.s) q1 fun xs kk tp q1 =>
  have sw:=swap_ok (n:=p.line) (an_r q1)
  have nl:=names_len (env:=env) (an_l (an_l (an_l q1)))
  Assign_Tuple ((all_sound Z e).e (c:=.of A env) (an_r q) S h fun v av y st' X S' V h => tpl_e (C:=fun v => wp z (.of A env) (assign (.Tuple xs kk tp) env v) (fun _ => Q .next) y.s) V h fun a vs n avs f VV h => gd_e h fun hl h =>
   assign_Tuple_tuple (items:=vs.toArray) S'.rm.hd ⟨_,(S'.rep.fz _ _ f).1,rfl,_,rfl⟩ (by rw [nl.1,List.size_toArray,VV.length];exact beq_iff_eq.mp hl) nl.2 fun h' hx =>
    have kp:=keep_no S'.rep (h':=h') fun b o e => hx b o (Nat.ne_of_lt (Heap.lt_size e)) e
    have T:Step y ⟨y.G,{ y.s with heap:=h' }⟩:=⟨rfl,Nat.le_refl _,kp.1⟩
    asg_order (x:=⟨y.G,{ y.s with heap:=h' }⟩) (an_l (an_l (an_l q1))) VV (beq_iff_eq.mp hl) (S'.next T kp.2) fun y2 X2 S2 => po.n y2 _ st' ((X.trans T).ss.trans X2) S2 h) sw.1 sw.2
noncomputable def swapN (env:Env) (l:Nat):Expr → Option Str:=fun | .Name id pos => if env.kindOf id == some .local && pos.line == l then some id else none | _ => none
theorem swapN_go {n:Str} {p:Pos} {l:Nat} (h:env.scope.names.lookup n = some .local) (e:(p.line == l) = true):swapN env l (.Name n p) = some n :=
 if_pos (show ((env.scope.names.lookup n == some .local) && p.line == l) = true by rw [h,e];rfl)
theorem swap2 {i j:Nat} {p1 p2 q1 q2 r1 r2 tp tp':Pos} {kk kk':Nat} {X0 Y0 X1 Y1:Expr} {n1 n2:Str} {m1 m2:Pos} (F:env.scope.kind = .function) (l1:env.scope.names.lookup (nm i) = some .local) (l2:env.scope.names.lookup (nm j) = some .local) (hne:nm i ≠ nm j) (hp:p1.line = p2.line) (d1:n1 ≠ Str.ofString "__debug__") (d2:n2 ≠ Str.ofString "__debug__") :
  swappedStores [.Tuple [.Name (nm i) p1,.Name (nm j) p2] kk tp] (.Tuple [.Subscript (.Subscript (.Name n1 m1) X0 q1) X1 r1,.Subscript (.Subscript (.Name n2 m2) Y0 q2) Y1 r2] kk' tp') env = pure (some [nm i,nm j]):=by
 have hd:∀ {n:Str},n ≠ Str.ofString "__debug__" → (n == Str.ofString "__debug__") = false:=fun h => beq_eq_false_iff_ne.mpr h
 have hn:List.filterMap (swapN env p1.line) [.Name (nm i) p1,.Name (nm j) p2] = [nm i,nm j] :=
  (List.filterMap_cons_some (swapN_go l1 (beq_self_eq_true _))).trans
   (congrArg (nm i :: ·) (List.filterMap_cons_some (swapN_go l2 (beq_iff_eq.mpr hp.symm))))
 unfold swappedStores
 refine (if_neg (show ¬ (env.blockKind != .function) = true by unfold Env.blockKind;rw [F];exact Bool.false_ne_true)).trans ((if_neg Bool.false_ne_true).trans ?_)
 refine (congrArg (fun names:List Str => if (names.length != 2 || names.eraseDups.length != names.length) = true then pure none else if (false && (false && true)) = true then pure none else
  if (((n1 == Str.ofString "__debug__") && constantsAlone 6 X0) && constantsAlone 7 X1 && ((((n2 == Str.ofString "__debug__") && constantsAlone 6 Y0) && constantsAlone 7 Y1) && true)) = true then unsupported "assign.tuple-of-constant-expressions:order-of-the-stores" else pure (some names)) hn).trans ?_
 refine (if_neg ?_).trans ((if_neg Bool.false_ne_true).trans (if_neg ?_))
 ·have q:(nm j == nm i) = false:=beq_eq_false_iff_ne.mpr (Ne.symm hne)
  have e:[nm i,nm j].eraseDups = [nm i,nm j]:=List.eraseDups_cons.trans (congrArg (nm i :: ·) ((congrArg List.eraseDups (List.filter_cons_of_pos (l:=[]) (p:=fun b => !b == nm i) (show (!(nm j == nm i)) = true by rw [q];rfl))).trans rfl))
  rw [e];exact Bool.false_ne_true
 ·rw [hd d1];exact Bool.false_ne_true
theorem sub2_e {e:Expr} {C:Expr → Prop} (h:isSub2 e = true) (k:∀ (n:Str) m y p z q,n ≠ Str.ofString "__debug__" → C (.Subscript (.Subscript (.Name n m) y p) z q)):C e :=
 onSubscript_e h fun x z q h => onSubscript_e (C:=fun x => C (.Subscript x z q)) h fun w y p h => onName_e (C:=fun w => C (.Subscript (.Subscript w y p) z q)) h fun n m h => k n m y p z q (bne_iff_ne.mp h)
theorem st_assignP (Z:Zok z) {i j:Nat}:StOK z (.assignP i j a b):=fun {A env L x st k Q s} ok S h po => stAssign_e (C:=fun s => wp z (.of A env) (exec s env) Q x.s) ok fun ts e' p q =>
 have ql:=an_l q
 have hi:=an_r (an_l (an_l (an_l (an_l ql))))
 have hj:=an_r (an_l (an_l (an_l ql)))
 on1_e (C:=fun ts => wp z (.of A env) (exec (.Assign ts e' p) env) Q x.s) (an_l (an_l (an_l (an_l (an_l ql))))) fun t q1 => onTuple_e (C:=fun t => wp z (.of A env) (exec (.Assign [t] e' p) env) Q x.s) q1 fun xs kk tp q1 =>
  on2_e (C:=fun xs => wp z (.of A env) (exec (.Assign [.Tuple xs kk tp] e' p) env) Q x.s) q1 fun t1 t2 q1 => onName_e (C:=fun t => wp z (.of A env) (exec (.Assign [.Tuple [t,t2] kk tp] e' p) env) Q x.s) q1 fun n1 p1 q1 => beq_iff_eq.mp (an_l q1) ▸
  onName_e (C:=fun t => wp z (.of A env) (exec (.Assign [.Tuple [.Name (nm i) p1,t] kk tp] e' p) env) Q x.s) (an_r q1) fun n2 p2 q2 => beq_iff_eq.mp (an_l q2) ▸
  onTuple_e (C:=fun e' => wp z (.of A env) (exec (.Assign [.Tuple [.Name (nm i) p1,.Name (nm j) p2] kk tp] e' p) env) Q x.s) (an_r q) fun vs kk' tp' q3 => on2_e (C:=fun vs => wp z (.of A env) (exec (.Assign [.Tuple [.Name (nm i) p1,.Name (nm j) p2] kk tp] (.Tuple vs kk' tp') p) env) Q x.s) q3 fun u1 u2 q3 => by
   have k1:=an_r (an_l q3);have k2:=an_r q3
   have z1:=an_l (an_l (an_l q3));have z2:=an_r (an_l (an_l q3))
   revert k1 k2
   refine sub2_e (C:=fun u1 => okE env.scope.names false a u1 = true → okE env.scope.names false b u2 = true → wp z (.of A env) (exec (.Assign [.Tuple [.Name (nm i) p1,.Name (nm j) p2] kk tp] (.Tuple [u1,u2] kk' tp') p) env) Q x.s) z1 fun n1 m1 X0 q1 X1 r1 d1 => ?_
   refine sub2_e (C:=fun u2 => okE env.scope.names false a (.Subscript (.Subscript (.Name n1 m1) X0 q1) X1 r1) = true → okE env.scope.names false b u2 = true → wp z (.of A env) (exec (.Assign [.Tuple [.Name (nm i) p1,.Name (nm j) p2] kk tp] (.Tuple [.Subscript (.Subscript (.Name n1 m1) X0 q1) X1 r1,u2] kk' tp') p) env) Q x.s) z2 fun n2 m2 Y0 q2' Y1 r2 d2 k1 k2 => ?_
   refine Assign_Tuple_swapped (names:=[nm i,nm j]) (wpAny_Tuple (evs_cons (all_sound Z a).e (evs_cons (all_sound Z b).e evs_nil) (c:=.of A env) (K:=fun vs st => @List.casesOn _ (fun _ => Prop) vs False fun u r => @List.casesOn _ (fun _ => Prop) r False fun w _ => k.n ((i,u) :: (j,w) :: L) st) (show (true && okE env.scope.names false a _ && (true && okE env.scope.names false b _ && true)) = true by rw [k1,k2];rfl) S ?_ fun vs avs y st' X S' hl U h => ⟨?_,?_⟩)) rfl
    (S.fr.elim fun m r => r.elim fun cm F => swap2 F.kind (beq_iff_eq.mp (an_r (an_l (an_l ql)))) (beq_iff_eq.mp (an_r (an_l ql))) (fun e => by have:=an_r ql;rw [e,beq_self_eq_true] at this;exact nb0 this) (beq_iff_eq.mp (an_r q2)) d1 d2)
   ·exact h
   ·exact U.length.trans hl ▸ len100 (show Nat.ble 2 100 = true from rfl)
   ·cases U with
    | nil => exact h.elim
    | cons Va Ur => cases Ur with
     | nil => exact h.elim
     | cons Vb Ur => cases Ur with
      | cons _ _ => exact absurd hl (fun e => Nat.succ_ne_zero _ (Nat.succ.inj (Nat.succ.inj e)))
      | nil =>
       rename_i va xa vb xb
       have g:=Heap.get?_push_size y.s.heap (o:=tupObj [va,vb] 0) rfl
       refine unpackItems_tuple (items:=#[va,vb]) S'.rm.hd ⟨_,g,rfl,_,rfl⟩ fun h' hx => ?_
       have kp:=keep_no S'.rep (h':=h') fun b o e => hx b o (Nat.ne_of_lt (Heap.lt_size (Heap.get?_push_of_some (tupObj [va,vb] 0) e))) (Heap.get?_push_of_some _ e)
       have T:Step y ⟨y.G,{ y.s with heap:=h' }⟩:=⟨rfl,Nat.le_refl _,kp.1⟩
       show wpAny _ _ (assignInOrder [fun v => bindName env (nm j) v,fun v => bindName env (nm i) v] [vb,va]) _ _ _
       exact assignInOrder_cons (bindName_ (store_go (x:=⟨y.G,{ y.s with heap:=h' }⟩) (S'.next T kp.2) hj Vb fun y2 X2 _ S2 _ => assignInOrder_cons (bindName_ (store_go S2 hi (Va.mono X2.ext.gx) fun y3 X3 _ S3 _ =>
        assignInOrder_nil (po.n y3 _ st' ((X.trans T).ss.trans (X2.trans X3)) S3 h)))))
end
end
section
section
variable {z:Zx} {A:Around} {env:Env} {L:Locs} {x y y':Pt} {st st':St} {k:SK} {Q:Flow → Shared → Prop} {v:Value} {av:AV} {a b d:ME}
noncomputable def turnQ (I:Shared → Prop) (Q:Flow → Shared → Prop) (f:Flow) (s:Shared):Prop:=@Flow.casesOn (fun _ => Prop) f (I s) (Q .next s) (I s) fun v => Q (.ret v) s
inductive WI (z:Zx) (A:Around) (env:Env) (x:Pt) (f:Nat → Locs → St → Prop):Nat → Shared → Prop
 | mk {q y L st}:SStep env x y → Sit z (.of A env) L y st → f q L st → WI z A env x f q y.s
theorem st_whl {n:Nat} {m:MSs} (Hc:TrueOK z a) (Hb:StsOK z m):StOK z (.whl n a m):=fun {A env L x st k Q s} ok S h po => stWhile_e (C:=fun s => wp z (.of A env) (exec s env) Q x.s) ok fun t body els p q =>
 em_e (C:=fun els => wp z (.of A env) (exec (.While t body els p) env) Q x.s) (an_l (an_l q)) (wpAny_While (codeAny_whileLoop (WI z A env x fun n L st => wpS z.T (.whl n a m) L st k) (fun r s' inv => by
  cases inv with
  | mk X S' hl =>
   rename_i y Lc sc
   cases r with
   | zero => exact hl.elim
   | succ r =>
   refine to_E (Hc (c:=.of A env) (K:=fun p st => ifc p (wpSs z.T m Lc st (lopK (fun L st k => wpS z.T (.whl r a m) L st k) k)) (k.n Lc st)) (an_r (an_l q)) S' hl fun bb y1 st1 X1 S1 h1 => ?_) fun _ _ q => q
   cases bb with
   | false => exact (if_neg Bool.false_ne_true).mpr (wpAny_execs_nil (po.n y1 Lc st1 (X.trans X1.ss) S1 h1))
   | true => exact (if_pos rfl).mpr (to_E (Hb (Q:=turnQ (fun s => ∃ m',m' < r + 1 ∧ WI z A env x (fun n L st => wpS z.T (.whl n a m) L st k) m' s) Q) (an_r q) S1 h1 ⟨fun y2 L2 st2 X2 S2 h2 => ⟨r,Nat.lt_succ_self _,.mk (X.trans (X1.ss.trans X2)) S2 h2⟩,fun y2 L2 st2 X2 S2 h2 => ⟨r,Nat.lt_succ_self _,.mk (X.trans (X1.ss.trans X2)) S2 h2⟩,
     fun v av y2 st2 X2 R2 V h2 => po.r v av y2 st2 (X.trans (X1.ss.trans X2)) R2 V h2⟩) fun f _ q => by cases f <;> exact q)) n (.mk (.refl _ _) S h)))
inductive FI (z:Zx) (A:Around) (env:Env) (x:Pt) (xs:List AV) (f:List AV → Locs → St → Prop) (Inv:Nat → Gh → Heap → Prop):Nat → Shared → Prop
 | mk {q y L st i}:SStep env x y → Sit z (.of A env) L y st → Inv i y.G y.s.heap → f (xs.drop i) L st → q + i = xs.length → FI z A env x xs f Inv q y.s
theorem SStep.poke {h':Heap} {tk:Nat} {a:Addr} (X:SStep env x y) (h0:x.s.heap.get? a = none) (hk:∀ b o,b ≠ a → y.s.heap.get? b = some o → h'.get? b = some o) (le:y.s.toks ≤ tk):SStep env x ⟨y.G,{ y.s with heap:=h',toks:=tk }⟩:=⟨by rw [X.eq],Nat.le_trans X.le le,X.ext.poke h0 hk⟩
theorem Sit.poke {h':Heap} {tk:Nat} {a:Addr} (S:Sit z (.of A env) L y st) (no:y.G.own a = none) (nf:y.G.fz a = none) (np:¬ PF env a) (hk:∀ b o,b ≠ a → y.s.heap.get? b = some o → h'.get? b = some o) (le:y.s.toks ≤ tk):Sit z (.of A env) L ⟨y.G,{ y.s with heap:=h',toks:=tk }⟩ st :=
 ⟨S.rm,Nat.lt_of_lt_of_le S.tok le,S.rep.poke no nf hk,S.fr.elim fun m r => r.elim fun cm F => ⟨m,cm,F.heap fun a o p e => hk a o (fun z => np (z ▸ p)) e⟩⟩
theorem st_forr {i:Nat} {src:MI} {m:MSs} (Hi:IterOK z src) (Hb:StsOK z m):StOK z (.forr i src m):=fun {A env L x st k Q s} ok S h po => stFor_e (C:=fun s => wp z (.of A env) (exec s env) Q x.s) ok fun t it body els p q =>
 em_e (C:=fun els => wp z (.of A env) (exec (.For t it body els p) env) Q x.s) (an_l (an_l (an_l (an_l (an_l q))))) (onName_e (C:=fun t => wp z (.of A env) (exec (.For t it body [] p) env) Q x.s) (an_r (an_l (an_l (an_l (an_l q))))) fun n np q1 => beq_iff_eq.mp q1 ▸
 wpAny_For (Hi (c:=.of A env) (an_r (an_l q)) S h fun y1 st1 xs same X1 S1 hz hs h1 Inv o W inv0 => by
  have frI:=fresh_none y1.s.heap (Nat.le_refl y1.s.heap.objs.size)
  have KN:=keep_no S1.rep (h':=y1.s.heap.push o) fun b ob e => Heap.get?_push_of_some _ e
  have frI0:=none_of_alive X1.ext.alive frI
  have nPI:¬ PF env y1.s.heap.objs.size:=fun p => S1.fr.elim fun m r => r.elim fun cm F => (F.live p).elim fun o e => n0 (frI.symm.trans e)
  have T:Step y1 ⟨y1.G,{ y1.s with heap:=y1.s.heap.push o }⟩:=⟨rfl,Nat.le_refl _,KN.1⟩
  refine codeAny_forLoop (FI z A env x xs (fun xs L st => loopF (fun x L st => wpSs z.T m ((i,x) :: L) st) xs L st k) Inv) (fun r s' inv => ?_) xs.length (.mk (y:=⟨y1.G,{ y1.s with heap:=y1.s.heap.push o }⟩) (i:=0) (X1.trans T).ss (S1.next T KN.2) inv0 h1.2 rfl) (fun _ => rfl)
  cases inv with
  | mk X S' inv hl hq =>
   rename_i y Lc sc j
   have lI:=W.live inv
   cases hx:xs[j]? with
   | none =>
    rw [List.drop_eq_nil_iff.mpr (List.getElem?_eq_none_iff.mp hx)] at hl
    exact toks_upE (W.done inv S'.rep (h1.1 _) hx fun h' tk hk le => wpAny_execs_nil (po.n _ Lc sc (X.poke frI0 hk le) (S'.poke lI.2.1 lI.2.2 nPI hk le) hl))
   | some a =>
    obtain ⟨lt,ga⟩:=List.getElem?_eq_some_iff.mp hx
    rw [List.drop_eq_getElem_cons lt,ga] at hl
    cases r with
    | zero => exact absurd (Nat.zero_add j ▸ hq) (Nat.ne_of_lt lt)
    | succ r =>
    have hq':r + (j + 1) = xs.length:=(Nat.succ_add_eq_add_succ r j).symm.trans hq
    refine toks_upE (W.item inv S'.rep (h1.1 _) hx fun v h' tk V inv' hk le => ?_)
    have S2:=S'.poke lI.2.1 lI.2.2 nPI hk le
    refine wpAny_assign_Name (store_go (x:=⟨y.G,{ y.s with heap:=h',toks:=tk }⟩) S2 (an_r (an_l (an_l (an_l q)))) V fun y3 X3 _ S3 _ => ?_)
    have XX:=(X.poke frI0 hk le).trans X3
    have fr:∀ {y4:Pt},SStep env y3 y4 → Inv (j + 1) y4.G y4.s.heap:=fun X4 => S2.fr.elim fun m r => r.elim fun cm F => W.frame inv' S2.rep (X3.trans X4).ext nPI F.priv
    exact to_E (Hb (Q:=turnQ (fun s => ∃ m',m' < r + 1 ∧ FI z A env x xs (fun xs L st => loopF (fun x L st => wpSs z.T m ((i,x) :: L) st) xs L st k) Inv m' s) Q) (an_r q) S3 hl ⟨fun y4 L4 st4 X4 S4 h4 => ⟨r,Nat.lt_succ_self _,.mk (XX.trans X4) S4 (fr X4) h4 hq'⟩,fun y4 L4 st4 X4 S4 h4 => ⟨r,Nat.lt_succ_self _,.mk (XX.trans X4) S4 (fr X4) h4 hq'⟩,
     fun v av y4 st4 X4 R4 V h4 => po.r v av y4 st4 (XX.trans X4) R4 V h4⟩) fun f _ q => by cases f <;> exact q) (fun x => folded (an_r (an_l (an_l q))) env x))
end
end
section
section
variable {P:Params} {B:Heap} {G G0:Gh} {h h0:Heap} {st st':St} {k:Nat} {Pv:Addr → Prop} {a:Addr}
noncomputable def Own.cut (k:Nat) (w:Own):Option Own:=@Own.casesOn (fun _ => Option Own) w (fun n => if n < k then some (.obj n) else none) (fun n => if n < k then some (.dic n) else none) (some .junk)
noncomputable def cutF (k:Nat) (st:St) (o:Option Obj) (w:Own):Option Obj:=@Own.casesOn (fun _ => Option Obj) w (fun n => if k ≤ n then oSome none (oDl none fun _ => o) (st.get n) else none) (fun _ => none) none
noncomputable def Gh.cut (G:Gh) (k:Nat) (st:St) (h:Heap):Gh:={ G with fz:=fun a => oSome ((G.own a).bind (cutF k st (h.get? a))) some (G.fz a),own:=fun a => (G.own a).bind (Own.cut k),nx:=k }
theorem ite_e {α:Type} {c:Prop} [Decidable c] {x y:α} (h:(if c then some x else none) = some y):c ∧ x = y:=by
 by_cases q:c
 ·rw [if_pos q] at h;exact ⟨q,Option.some.inj h⟩
 ·rw [if_neg q] at h;exact n0 h
theorem Own.cut_e {w w':Own} (h:w.cut k = some w'):w = w':=by
 cases w with
 | obj n => exact (ite_e h).2
 | dic n => exact (ite_e h).2
 | junk => exact Option.some.inj h
theorem cut_own {w:Own} (e:(G.cut k st h).own a = some w):G.own a = some w:=(Option.bind_eq_some_iff.mp e).elim fun w' q => Own.cut_e q.2 ▸ q.1
theorem cut_no (e:G.own a = none):(G.cut k st h).own a = none:=by show (G.own a).bind _ = none;rw [e];rfl
theorem cut_fz {o:Obj} (e:G.fz a = some o):(G.cut k st h).fz a = some o:=by show oSome _ some (G.fz a) = some o;rw [e]
theorem cut_nf (e:G.own a = none) (f:G.fz a = none):(G.cut k st h).fz a = none:=by show oSome ((G.own a).bind _) some (G.fz a) = none;rw [e,f];rfl
theorem cut_junk (e:G.own a = some .junk):(G.cut k st h).own a = some .junk:=by show (G.own a).bind _ = some _;rw [e];rfl
theorem cut_obj {n:Nat} (e:G.own a = some (.obj n)) (lt:n < k):(G.cut k st h).own a = some (.obj n):=by show (G.own a).bind _ = some _;rw [e];exact if_pos lt
theorem cut_dic {n:Nat} (e:G.own a = some (.dic n)) (lt:n < k):(G.cut k st h).own a = some (.dic n):=by show (G.own a).bind _ = some _;rw [e];exact if_pos lt
theorem All2.all {α β:Type} {R R':α → β → Prop} {p:β → Bool} {as:List α} {bs:List β} (k:∀ a b,R a b → p b = true → R' a b) (h:All2 R as bs):bs.all p = true → All2 R' as bs :=
 All2.rec (motive:=fun as bs _ => bs.all p = true → All2 R' as bs) (fun _ => .nil) (fun r _ ih u => .cons (k _ _ r (an_l u)) (ih (an_r u))) h
theorem vr0_cut {v:Value} {av:AV} (V:VR0 P G v av):av.und0 k = true → VR0 P (G.cut k st h) v av :=
 VR0.rec (motive:=fun v a _ => a.und0 k = true → VR0 P (G.cut k st h) v a) (fun D _ => .d (D.mono fun _ _ => cut_fz)) (fun {n} _ u => VR0.loc (G:=G.cut k st h) (n:=n) (blt_lt u)) (fun _ => .fn) (fun x y _ => .unk x y) (fun j _ => .junk (cut_junk j)) V
theorem er_cut {e:DictEntry} {p:Str × AV} (E:ER P G e p):p.2.und0 k = true → ER P (G.cut k st h) e p:=ER.rec (motive:=fun e p _ => p.2.und0 k = true → ER P (G.cut k st h) e p) (fun V u => .mk (vr0_cut V u)) E
theorem vr_cut {v:Value} {av:AV} (V:VR P G v av):av.und k = true → VR P (G.cut k st h) v av :=
 VR.rec (motive:=fun v a _ => a.und k = true → VR P (G.cut k st h) v a) (fun {v a} V u => .s (vr0_cut V (VR0.casesOn (motive:=fun v a _ => a.und k = true → a.und0 k = true) V (fun _ _ => rfl) (fun _ u => u) (fun _ => rfl) (fun _ _ _ => rfl) (fun _ _ => rfl) u)))
  (fun f r u => .tup (cut_fz f) (r.all (fun _ _ => vr0_cut) u)) (fun l f r u => .fd l (cut_fz f) (r.all (fun _ _ => er_cut) u)) V
theorem fr_cut {e:DictEntry} {p:Nat × AV} (E:FR P G e p):p.2.und k = true → FR P (G.cut k st h) e p:=FR.rec (motive:=fun e p _ => p.2.und k = true → FR P (G.cut k st h) e p) (fun l V u => .mk l (vr_cut V u)) E
theorem or_cut {n:Nat} {ob:AObj} (lt:n < k) (O:OR P G h n ob):ob.und k = true → OR P (G.cut k st h) h n ob :=
 O.el (C:=fun ob => ob.und k = true → OR P (G.cut k st h) h n ob) (fun _ _ _ g d _ => .dl (G:=G.cut k st h) g (d.mono fun _ _ => DR.mono fun _ _ => cut_fz)) (fun _ _ _ g d _ => .jl (G:=G.cut k st h) g (d.mono fun _ _ V => vr0_cut V rfl)) (fun _ _ _ g d u => .dict (G:=G.cut k st h) g (d.all (fun _ _ => er_cut) u))
  (fun _ _ _ _ g o g2 d u => .inst (G:=G.cut k st h) g (cut_dic o lt) g2 ⟨d.f.all (fun _ _ => fr_cut) u,d.u⟩)
theorem data0_loc {n:Nat} {d:PyData} (e:(AV.loc n).data0 st = some d):∃ xs,st.get n = some (.dl xs) ∧ d = .list xs:=by
 have e:oSome none (oDl none fun xs => some (PyData.list xs)) (st.get n) = some d:=e
 cases q:st.get n with
 | none => rw [q] at e;exact n0 e
 | some o =>
  rw [q] at e
  cases o with
  | dl xs => exact ⟨xs,rfl,(Option.some.inj e).symm⟩
  | jl _ => exact n0 e
  | dict _ => exact n0 e
  | inst _ _ => exact n0 e
theorem data0_cut (R:Rep P B G h st) {v:Value} {av:AV} (V:VR0 P G v av):∀ d:PyData,onL true (Nat.ble k) av = true → av.data0 st = some d → DR (G.cut k st h).fz v d :=
 VR0.rec (motive:=fun v a _ => ∀ d:PyData,onL true (Nat.ble k) a = true → a.data0 st = some d → DR (G.cut k st h).fz v d) (fun D _ _ e => Option.some.inj e ▸ D.mono fun _ _ => cut_fz)
  (fun {n} _ d u e => (data0_loc e).elim fun xs q => q.2 ▸ by
   obtain ⟨_,o1,o⟩:=R.objs _ _ q.1
   cases o with
   | dl g D =>
    rename_i vs j
    refine .list (a:=G.ad n) (n:=j) (?_:oSome ((G.own (G.ad n)).bind (cutF k st (h.get? (G.ad n)))) some (G.fz (G.ad n)) = some (listOf vs j)) (D.mono fun _ _ => DR.mono fun _ _ => cut_fz)
    have nf:G.fz (G.ad n) = none:=Classical.byContradiction fun z => (some_of z).elim fun o e => n0 ((R.fz _ _ e).2.symm.trans o1)
    rw [nf,o1,g]
    exact (if_pos (Nat.le_of_ble_eq_true u)).trans (by rw [q.1]))
  (fun _ _ e => n0 e) (fun _ _ _ _ e => n0 e) (fun _ _ _ e => n0 e) V
theorem datas_cut (R:Rep P B G h st) {vs:List Value} {as:List AV} (r:All2 (VR0 P G) vs as):∀ {ds:List PyData},as.all (onL true (Nat.ble k)) = true → datas (AV.data0 st) as = some ds → All2 (DR (G.cut k st h).fz) vs ds :=
 All2.rec (motive:=fun vs as _ => ∀ {ds:List PyData},as.all (onL true (Nat.ble k)) = true → datas (AV.data0 st) as = some ds → All2 (DR (G.cut k st h).fz) vs ds) (fun _ e => Option.some.inj e ▸ .nil)
  (@fun _ _ _ _ V _ ih _ u e => bindc (f:=List.cons) e fun y ys e1 e2 e => e ▸ .cons (data0_cut R V _ (an_l u) e1) (ih (an_r u) e2)) r
theorem dr_cut (R:Rep P B G h st) {v:Value} {av:AV} {d:PyData} (V:VR P G v av) (u:av.ge k = true) (e:av.data st = some d):DR (G.cut k st h).fz v d :=
 VR.el (C:=fun v a => a.ge k = true → a.data st = some d → DR (G.cut k st h).fz v d) V (fun _ _ D _ e => data0_cut R (.d D) _ rfl e) (fun _ l u e => data0_cut R (.loc l) _ u e) (fun _ _ e => n0 e) (fun _ _ _ _ _ e => n0 e) (fun _ _ _ e => n0 e)
  (fun a vs n xs g r u e => bindc (o:=some ()) (f:=fun _ => PyData.tuple) e fun _ ds _ e q => q ▸ .tuple (cut_fz g) (datas_cut R r u e)) (fun _ _ _ _ _ _ _ _ e => n0 e) u e
theorem filter_lookup (l:List (Nat × AObj)) {n:Nat} {ob:AObj} (e:(l.filter fun p => Nat.blt p.1 k).lookup n = some ob):n < k ∧ l.lookup n = some ob:=by
 induction l with
 | nil => exact n0 e
 | cons p l ih =>
  obtain ⟨i,x⟩:=p
  rw [List.filter_cons] at e
  cases q:Nat.blt i k with
  | false =>
   rw [if_neg (by rw [q];exact Bool.false_ne_true)] at e
   have r:=ih e
   exact ⟨r.1,(lk_miss fun z => by subst z;exact Bool.false_ne_true (q.symm.trans (Nat.ble_eq_true_of_le r.1))).trans r.2⟩
  | true =>
   rw [if_pos q] at e
   by_cases z:n = i
   ·subst z;exact ⟨blt_lt q,lk_hit.trans (lk_hit.symm.trans e)⟩
   ·have r:=ih ((lk_miss z).symm.trans e);exact ⟨r.1,(lk_miss z).trans r.2⟩
theorem cut_rep (R:Rep P B G h st) (X:Ext Pv G0 h0 G h) (hk:G0.nx = k) (u:((st.objs.filter fun p => Nat.blt p.1 k).all fun p => p.2.und k) = true) :
  Ext Pv G0 h0 (G.cut k st h) h ∧ Rep P B (G.cut k st h) h { st with objs:=st.objs.filter fun p => Nat.blt p.1 k,next:=k }:=by
 have fzn:∀ a,(G.cut k st h).fz a ≠ none → G.fz a ≠ none ∨ G.own a ≠ none:=fun a e => (Classical.em (G.own a = none)).elim (fun q => .inl fun z => e (cut_nf q z)) .inr
 refine ⟨⟨X.keep,X.alive,fun a e => X.own a ((some_of e).elim fun w e => cut_own e ▸ some_ne),fun a e => (fzn a e).elim (X.fzn a) fun z => .inr (X.own a z),⟨fun a o e => cut_fz (X.gx.fz a o e),X.gx.ad,Nat.le_of_eq hk,fun a e => cut_junk (X.gx.jk a e)⟩⟩,
  { base:=fun a o e => cut_fz (R.base a o e),fz:=fun a o e => ?_,nx:=rfl,objs:=fun n ob e => ?_,junk:=fun a e => R.junk a (cut_own e),live:=fun a w e => R.live a w (cut_own e),hi:=fun a w e => R.hi a w (cut_own e),top:=R.top }⟩
 ·cases q:G.fz a with
  | some o' =>
   have r:=R.fz a o' q
   exact ⟨r.1.trans ((cut_fz q).symm.trans e),cut_no r.2⟩
  | none =>
   have e:oSome ((G.own a).bind (cutF k st (h.get? a))) some (G.fz a) = some o:=e
   rw [q] at e
   obtain ⟨w,e1,e2⟩:=Option.bind_eq_some_iff.mp e
   cases w with
   | dic _ => exact n0 e2
   | junk => exact n0 e2
   | obj n =>
    have e2:(if k ≤ n then oSome none (oDl none fun _ => h.get? a) (st.get n) else none) = some o:=e2
    by_cases z:k ≤ n
    ·rw [if_pos z] at e2
     refine ⟨?_,(by show (G.own a).bind _ = none;rw [e1];exact if_neg (Nat.not_lt.mpr z))⟩
     cases y:st.get n with
     | none => rw [y] at e2;exact n0 e2
     | some ob =>
      rw [y] at e2
      cases ob with
      | dl _ => exact e2
      | jl _ => exact n0 e2
      | dict _ => exact n0 e2
      | inst _ _ => exact n0 e2
    ·rw [if_neg z] at e2;exact n0 e2
 ·have f:=filter_lookup _ e
  have c:=R.objs n ob f.2
  exact ⟨f.1,cut_obj c.2.1 f.1,or_cut f.1 c.2.2 (List.all_eq_true.mp u _ (lookup_mem e))⟩
end
section
variable {z:Zx} {A:Around} {env:Env} {L:Locs} {x y y':Pt} {st st':St} {k:SK} {Q:Flow → Shared → Prop}
theorem filter_lk {ks:List Nat} {L:Locs} {i:Nat} {av:AV} (e:(L.filter fun p => ks.contains p.1).lookup i = some av):i ∈ ks ∧ L.lookup i = some av:=by
 induction L with
 | nil => exact n0 e
 | cons p l ih =>
  obtain ⟨j,x⟩:=p
  rw [List.filter_cons] at e
  cases q:ks.contains j with
  | false =>
   rw [if_neg (by rw [q];exact Bool.false_ne_true)] at e
   have r:=ih e
   exact ⟨r.1,(lk_miss fun z => by subst z;exact Bool.false_ne_true (q.symm.trans (List.contains_iff_mem.mpr r.1))).trans r.2⟩
  | true =>
   rw [if_pos q] at e
   by_cases z:i = j
   ·subst z;exact ⟨List.contains_iff_mem.mp q,lk_hit.trans (lk_hit.symm.trans e)⟩
   ·have r:=ih ((lk_miss z).symm.trans e);exact ⟨r.1,(lk_miss z).trans r.2⟩
theorem sts_scope {ks:List Nat} {m:MSs} (H:StsOK z m):StsOK z (.scope ks m):=fun {A env L x st k Q s} ok S h po => H ok S h ⟨fun y L' st' X S' h => gd_e h.2 fun u h' => gd_e h' fun u' h' =>
    have cr:=cut_rep S'.rep X.ext S.rep.nx u'
    po.n ⟨y.G.cut st.next st' y.s.heap,y.s⟩ _ _ ⟨X.eq,X.le,cr.1⟩ ⟨S'.rm,S'.tok,cr.2,S'.fr.elim fun mm r => r.elim fun cm F => ⟨mm,cm,{ F with
      vars:=fun i av hi hs => have q:=filter_lk hi;(F.vars i av ((h.1 i q.1).trans q.2) hs).elim fun v V => ⟨v,vr_cut V.1 (List.all_eq_true.mp u _ (lookup_mem hi)),V.2⟩
      priv:=fun a p => have q:=F.priv a p;⟨cut_no q.1,cut_nf q.1 q.2⟩ }⟩⟩ (nd_e h'),fun _ _ _ _ _ h => h.elim,po.r⟩
theorem all_sts (Z:Zok z) (m:MSs):StsOK z m :=
 MSs.rec (motive_1:=fun m => StOK z m) (motive_2:=fun m => StsOK z m) st_never (fun _ _ => st_assign Z) (fun _ _ => st_assignT Z) (fun _ _ _ _ => st_assignP Z) (fun o _ _ e => st_setattr Z (all_sound Z o).e (all_sound Z e).e)
  (fun o k e => st_setK (all_sound Z o).e (all_sound Z k).e (all_sound Z e).e) (fun o k e => st_setI (all_sound Z o).e (all_sound Z k).e (all_sound Z e).e) (fun _ e => st_aug (all_sound Z e).e) (fun o _ _ _ e => st_augattr Z (all_sound Z o).e (all_sound Z e).e)
  (fun e => st_expr (all_sound Z e).e) (fun e => st_ret (all_sound Z e).e) st_retN (fun c _ _ ha hb => st_ifs (all_sound Z c).t ha hb) (fun _ c _ hb => st_whl (all_sound Z c).t hb) (fun _ src _ hb => st_forr (all_iter Z src) hb) st_cont st_pass sts_nil (fun _ _ hs hr => sts_cons hs hr) (fun _ _ h => sts_scope h) m
end
end
section
theorem lookup_zip_none {N:List Str} {X:List Value} {n:Str} (h:n ∉ N):(N.zip X).lookup n = none:=by
 induction N generalizing X with
 | nil => rfl
 | cons a N ih =>
  cases X with
  | nil => rfl
  | cons x X =>
   have h1:n ≠ a:=fun e => h (by rw [e];exact .head _)
   rw [List.zip_cons_cons,List.lookup_cons,beq_eq_false_iff_ne.mpr h1]
   exact ih fun q => h (.tail _ q)
theorem lookup_zip_some {N:List Str} {X:List Value} {n:Str} (h:n ∈ N) (hl:N.length = X.length):((N.zip X).lookup n).isSome = true:=by
 induction N generalizing X with
 | nil => cases h
 | cons a N ih =>
  cases X with
  | nil => simp at hl
  | cons x X =>
   rw [List.zip_cons_cons,List.lookup_cons]
   by_cases q:n = a
   ·subst q;simp
   ·rw [beq_eq_false_iff_ne.mpr q]
    rcases List.mem_cons.mp h with z | z
    ·exact absurd z q
    ·exact ih z (by simpa using hl)
theorem fm_congr {α β:Type} {f g:α → Option β}:∀ {l:List α},(∀ x ∈ l,f x = g x) → l.filterMap f = l.filterMap g
 | [],_ => rfl
 | a :: l,h => by rw [List.filterMap_cons,List.filterMap_cons,h a (.head _),fm_congr fun x hx => h x (.tail _ hx)]
theorem look_zip {N:List Str} {X:List Value} (nd:N.Nodup) (hl:N.length = X.length):(N.filterMap fun n => ((N.zip X).lookup n).map (n,·)) = N.zip X:=by
 induction N generalizing X with
 | nil => rfl
 | cons a N ih =>
  cases X with
  | nil => simp at hl
  | cons x X =>
   obtain ⟨h1,h2⟩:=List.nodup_cons.mp nd
   rw [List.zip_cons_cons,List.filterMap_cons]
   simp only [List.lookup_cons,beq_self_eq_true,Option.map_some]
   congr 1
   rw [← ih h2 (by simpa using hl)]
   rw [ih h2 (by simpa using hl)]
   conv => rhs;rw [← ih h2 (by simpa using hl)]
   refine fm_congr fun n hn => ?_
   have:n ≠ a:=by rintro rfl;exact h1 hn
   rw [beq_eq_false_iff_ne.mpr this]
noncomputable def fill (r:List (Str × Value)) (p:Str × Value):List (Str × Value):=if (r.lookup p.1).isNone then r ++ [p] else r
theorem fill_have:∀ (l r:List (Str × Value)),(∀ p ∈ l,(r.lookup p.1).isSome = true) → l.foldl fill r = r
  | [],r,_ => rfl
  | p :: l,r,h => by
    have:fill r p = r:=by
      unfold fill
      have:=h p (.head _)
      rw [if_neg]
      cases q:r.lookup p.1 with
      | none => rw [q] at this;cases this
      | some _ => simp
    rw [List.foldl_cons,this]
    exact fill_have l r fun q hq => h q (.tail _ hq)
theorem lookup_snoc {r:List (Str × Value)} {p:Str × Value} {n:Str}:(r ++ [p]).lookup n = (r.lookup n).or (if n = p.1 then some p.2 else none):=by
 induction r with
 | nil =>
  obtain ⟨a,v⟩:=p
  by_cases q:n = a
  ·subst q;simp
  ·simp [q]
 | cons x r ih =>
  obtain ⟨a,v⟩:=x
  by_cases q:n = a
  ·subst q;simp
  ·simp only [List.cons_append,List.lookup_cons,beq_eq_false_iff_ne.mpr q];exact ih
theorem fill_new:∀ (l r:List (Str × Value)),(l.map (·.1)).Nodup → (∀ p ∈ l,r.lookup p.1 = none) → l.foldl fill r = r ++ l
  | [],r,_,_ => by simp
  | p :: l,r,nd,h => by
    rw [List.map_cons,List.nodup_cons] at nd
    have:fill r p = r ++ [p]:=by unfold fill;rw [h p (.head _)];rfl
    rw [List.foldl_cons,this,fill_new l _ nd.2 fun q hq => ?_,List.append_assoc];· rfl
    rw [lookup_snoc,h q (.tail _ hq)]
    have:q.1 ≠ p.1:=fun e => nd.1 (by rw [← e];exact List.mem_map_of_mem hq)
    simp [this]
theorem zip_take:∀ (N:List Str) (vals:List Value),N.zip vals = (N.take vals.length).zip vals
 | [],vals => by simp
 | _ :: _,[] => by simp
 | a :: N,v :: vals => by rw [List.length_cons,List.take_succ_cons,List.zip_cons_cons,List.zip_cons_cons,zip_take N vals]
structure Cut (N:List Str) (vals D:List Value) (N1 N2:List Str) (D1 D2:List Value):Prop where
 n:N = N1 ++ N2
 d:D = D1 ++ D2
 l1:N1.length = vals.length
 l2:N2.length = D2.length
 l3:D1.length ≤ N1.length
section
variable {N:List Str} {vals D:List Value} {N1 N2:List Str} {D1 D2:List Value}
theorem Cut.sub (C:Cut N vals D N1 N2 D1 D2):N.length - D.length = N1.length - D1.length:=by rw [C.n,C.d,List.length_append,List.length_append,C.l2,Nat.add_sub_add_right]
theorem Cut.z0 (C:Cut N vals D N1 N2 D1 D2):N.zip vals = N1.zip vals:=by rw [zip_take N,← C.l1,C.n,List.take_left]
noncomputable def gB (N:List Str) (vals D:List Value) (n:Str):Option (Str × Value):=((((N.drop (N.length - D.length)).zip D).foldl fill (N.zip vals)).lookup n).map (n,·)
theorem Cut.bind (C:Cut N vals D N1 N2 D1 D2) (nd:N.Nodup):N.filterMap (gB N vals D) = N.zip (vals ++ D2):=by
 show (N.filterMap fun n => ((((N.drop (N.length - D.length)).zip D).foldl fill (N.zip vals)).lookup n).map (n,·)) = _
 have z1:(N.drop (N.length - D.length)).zip D = (N1.drop (N1.length - D1.length)).zip D1 ++ N2.zip D2:=by
  rw [C.sub,C.n,C.d,List.drop_append_of_le_length (Nat.sub_le _ _),List.zip_append (by rw [List.length_drop,Nat.sub_sub_self C.l3])]
 have nd':=nd
 rw [C.n,List.nodup_append] at nd'
 have f1:((N1.drop (N1.length - D1.length)).zip D1).foldl fill (N1.zip vals) = N1.zip vals:=fill_have _ _ fun p hp => lookup_zip_some (List.mem_of_mem_drop (List.of_mem_zip hp).1) C.l1
 have f2:(N2.zip D2).foldl fill (N1.zip vals) = N1.zip vals ++ N2.zip D2:=fill_new _ _ (by rw [List.map_fst_zip (Nat.le_of_eq C.l2)];exact nd'.2.1) fun p hp => lookup_zip_none fun q => nd'.2.2 _ q _ (List.of_mem_zip hp).1 rfl
 have e:N.length = (vals ++ D2).length:=by rw [C.n,List.length_append,List.length_append,C.l1,C.l2]
 rw [z1,C.z0,List.foldl_append,f1,f2,← List.zip_append C.l1,← C.n]
 exact look_zip nd e
theorem Cut.miss (C:Cut N vals D N1 N2 D1 D2):(N.take (N.length - D.length)).filter (fun n => ((N.zip vals).lookup n).isNone) = []:=by
 rw [List.filter_eq_nil_iff]
 intro n hn
 rw [C.sub,C.n,List.take_append_of_le_length (Nat.sub_le _ _)] at hn
 have q:=lookup_zip_some (X:=vals) (List.mem_of_mem_take hn) C.l1
 rw [C.z0]
 exact fun z => (Option.isSome_iff_ne_none.mp q) (Option.isNone_iff_eq_none.mp z)
theorem loop_fill (f:Str × Value → List (Str × Value) → Sem (ForInStep (List (Str × Value)))) (hf:∀ p r,f p r = pure (.yield (fill r p))) (l:List (Str × Value)):∀ r,forIn l r f = pure (l.foldl fill r):=by
 induction l with
 | nil => exact fun _ => rfl
 | cons p l ih => exact fun r => by rw [List.forIn_cons,hf,pure_bind];exact ih _
theorem wpc {α:Type} {M:Model} {A:Around} {E:Value → Shared → Prop} {s:Shared} {t t':Sem α} {Q:α → Shared → Prop} (e:t = t') (h:wpAny M A t' Q E s):wpAny M A t Q E s:=e ▸ h
theorem bind_args {M:Model} {A:Around} {E:Value → Shared → Prop} {s:Shared} {fd:FuncData} {Q:List (Str × Value) → Shared → Prop} (p1:fd.params.posonlyargs = []) (p2:fd.params.kwonlyargs = []) (p3:fd.params.vararg = none) (p4:fd.params.kwarg = none)
  (hn:fd.params.args.map (·.arg) = N) (hd:(fd.defaults = .none ∧ D = []) ∨ ∃ a o items n,fd.defaults = .ref a ∧ s.heap.get? a = some o ∧ o.data = .seq items n ∧ items.toList = D)
  (nd:N.Nodup) (C:Cut N vals D N1 N2 D1 D2) (k:Q (N.zip (vals ++ D2)) s):wpAny M A (bindArgs fd ⟨vals,[]⟩) Q E s:=by
 have hs:wpAny M A (seqItems? fd.defaults) (fun o s' => s' = s ∧ (o.getD #[]).toList = D) E s:=hd.elim (fun q => q.1 ▸ wpAny_pure ⟨rfl,q.2.symm⟩) fun ⟨a,o,items,n,e,ho,hdd,q⟩ => e ▸ wpAny_seqItems ho hdd ⟨rfl,q⟩
 clear hd
 obtain ⟨_,_,ps,_,_,_,_,dfl,_⟩:=fd
 obtain ⟨_,args,_,_,_,_,_⟩:=ps
 cases p1;cases p2;cases p3;cases p4
 replace hn:args.map (fun x:Arg => x.arg) = N:=hn
 subst hn
 have len:(args.map (·.arg)).length = N1.length + N2.length:=by rw [C.n,List.length_append]
 have dl:D.length ≤ (args.map (·.arg)).length:=by rw [len,C.d,List.length_append,C.l2];exact Nat.add_le_add_right C.l3 _
 unfold bindArgs
 refine wpAny_bind (wpAny_pure (wpAny_bind (wpAny_mono hs (fun o s' e => ?_) fun _ _ x => x)))
 obtain ⟨e1,e2⟩:=e
 subst e1
 refine wpc (if_neg (show ¬ (decide (vals.length > (args.map (·.arg)).length) && true) = true from fun z => Nat.not_lt.mpr (C.l1 ▸ len ▸ Nat.le_add_right _ _) (of_decide_eq_true (an_l z)))) ?_
 have e3:(o.getD #[]).toList.drop ((o.getD #[]).toList.length - (args.map (·.arg)).length) = D:=by rw [e2,Nat.sub_eq_zero_of_le dl];rfl
 show wpAny M A (ite ((!(List.filter (fun n => (((args.map (·.arg)).zip vals).lookup n).isNone) ((args.map (·.arg)).take ((args.map (·.arg)).length - ((o.getD #[]).toList.drop ((o.getD #[]).toList.length - (args.map (·.arg)).length)).length))).isEmpty) = true) _ _) Q E _
 rw [e3]
 refine wpc (if_neg (by rw [C.miss];exact Bool.false_ne_true)) (wpAny_bind (wpc (loop_fill _ (fun p r => (apply_ite (fun x => (pure (ForInStep.yield x):Sem (ForInStep (List (Str × Value))))) _ _ _).symm) _ _) (wpAny_pure (wpAny_bind (wpAny_pure (wpc (if_neg Bool.false_ne_true) ?_))))))
 exact wpAny_pure ((congrArg (fun l => Q l _) ((congrArg (List.filterMap (gB (args.map fun x:Arg => x.arg) vals ((o.getD #[]).toList.drop ((o.getD #[]).toList.length - (args.map fun x:Arg => x.arg).length)))) (List.append_nil (args.map fun x:Arg => x.arg))).trans (e3.symm ▸ C.bind nd))).mpr k)
end
end
section
noncomputable def vInt (f:Int → Bool) (v:Value):Bool:=onO fun h:v.ctorIdx = 4 => Value.int.elim (motive:=fun _ => Bool) v h fun i _ => f i
theorem vInt_e {f:Int → Bool} {v:Value} {C:Value → Prop} (h:vInt f v = true) (k:∀ i t,f i = true → C (.int i t)):C v :=
 onO_e h fun x h => Value.int.elim (motive:=fun v => ∀ x:v.ctorIdx = 4,Value.int.elim (motive:=fun _ => Bool) v x (fun i _ => f i) = true → C v) v x (fun i t _ h => k i t h) x h
noncomputable def vStr (f:Str → Bool) (v:Value):Bool:=onO fun h:v.ctorIdx = 6 => Value.str.elim (motive:=fun _ => Bool) v h fun i _ => f i
theorem vStr_e {f:Str → Bool} {v:Value} {C:Value → Prop} (h:vStr f v = true) (k:∀ i t,f i = true → C (.str i t)):C v :=
 onO_e h fun x h => Value.str.elim (motive:=fun v => ∀ x:v.ctorIdx = 6,Value.str.elim (motive:=fun _ => Bool) v x (fun i _ => f i) = true → C v) v x (fun i t _ h => k i t h) x h
noncomputable def vRef (f:Addr → Bool) (v:Value):Bool:=onO fun h:v.ctorIdx = 10 => Value.ref.elim (motive:=fun _ => Bool) v h f
theorem vRef_e {f:Addr → Bool} {v:Value} {C:Value → Prop} (h:vRef f v = true) (k:∀ a,f a = true → C (.ref a)):C v :=
 onO_e h fun x h => Value.ref.elim (motive:=fun v => ∀ x:v.ctorIdx = 10,Value.ref.elim (motive:=fun _ => Bool) v x f = true → C v) v x (fun a _ h => k a h) x h
noncomputable def dSeq (f:Array Value → Bool) (v:Data):Bool:=onO fun h:v.ctorIdx = 2 => Data.seq.elim (motive:=fun _ => Bool) v h fun i _ => f i
theorem dSeq_e {f:Array Value → Bool} {v:Data} {C:Data → Prop} (h:dSeq f v = true) (k:∀ i t,f i = true → C (.seq i t)):C v :=
 onO_e h fun x h => Data.seq.elim (motive:=fun v => ∀ x:v.ctorIdx = 2,Data.seq.elim (motive:=fun _ => Bool) v x (fun i _ => f i) = true → C v) v x (fun i t _ h => k i t h) x h
noncomputable def dFun (f:FuncData → Bool) (v:Data):Bool:=onO fun h:v.ctorIdx = 7 => Data.func.elim (motive:=fun _ => Bool) v h f
theorem dFun_e {f:FuncData → Bool} {v:Data} {C:Data → Prop} (h:dFun f v = true) (k:∀ a,f a = true → C (.func a)):C v :=
 onO_e h fun x h => Data.func.elim (motive:=fun v => ∀ x:v.ctorIdx = 7,Data.func.elim (motive:=fun _ => Bool) v x f = true → C v) v x (fun a _ h => k a h) x h
noncomputable def emptyTup (o:Obj):Bool:=o.cls == .type "tuple" && o.dict.isNone && o.slots.isEmpty && dSeq (fun vs => vs.isEmpty) o.data
theorem emptyTup_e {o:Obj} (h:emptyTup o = true):∃ n,o = tupObj [] n:=by
 obtain ⟨c,d,dt,sl⟩:=o
 have e1:=beq_iff_eq.mp (an_l (an_l (an_l h)))
 have e2:=Option.isNone_iff_eq_none.mp (an_r (an_l (an_l h)))
 have e3:=Array.isEmpty_iff.mp (an_r (an_l h))
 cases e1;cases e2;cases e3
 exact dSeq_e (C:=fun dt => ∃ n,(⟨.type "tuple",none,dt,#[]⟩:Obj) = tupObj [] n) (an_r h) fun vs n h => ⟨n,by rw [Array.isEmpty_iff.mp h]⟩
noncomputable def datOK (K:Frag) (v:Value) (d:PyData):Bool:=@PyData.casesOn (fun _ => Bool) d (v == .none) (fun b => v == .bool b) (fun i => vInt (· == i) v) (fun s => vStr (· == s) v) (fun _ => false) (fun xs => xs.isEmpty && vRef (fun a => oSome false emptyTup (K.lookup a)) v) (fun _ => false)
noncomputable def datsOK (K:Frag):List Value → List PyData → Bool
 | [],ds => ds.isEmpty
 | v :: vs,ds => @List.casesOn _ (fun _ => Bool) ds false fun d r => datOK K v d && datsOK K vs r
noncomputable def dflOK (K:Frag) (v:Value) (ds:List PyData):Bool:=(v == .none && ds.isEmpty) || vRef (fun a => oSome false (fun o => dSeq (fun vs => datsOK K vs.toList ds) o.data) (K.lookup a)) v
noncomputable def bStm (f:List Stmt → Bool) (b:FuncBody):Bool:=@FuncBody.casesOn (fun _ => Bool) b f fun _ => false
noncomputable def fdChk (K:Frag) (ps:List Nat) (ds:List PyData) (b:MSs) (fd:FuncData):Bool :=
 fd.params.posonlyargs.isEmpty && fd.params.args.map (·.arg) == ps.map nm && fd.params.kwonlyargs.isEmpty && fd.params.vararg.isNone && fd.params.kwarg.isNone && dflOK K fd.defaults ds && Nat.ble ds.length ps.length
 && fd.scope.kind == .function && !fd.scope.isGenerator && !fd.scope.isCoroutine && fd.globals == mainGlobals && fd.builtins == builtinsNs && fd.closure.isEmpty
 && codeIn K fd.code fd.qualname && ps.all (isSto fd.scope.names) && decide ps.Nodup && fd.scope.names.all (fun q => q.2 != .free) && bStm (okSs fd.scope.names b) fd.body
noncomputable def fnChk (K:Frag) (f:Addr) (ps:List Nat) (ds:List PyData) (b:MSs):Bool:=oSome false (fun o => dFun (fdChk K ps ds b) o.data) (K.lookup f)
noncomputable def oneLoc (K:Frag) (a:Addr) (i:Nat):Bool:=oSome false (fun o => dFun (fun fd => fd.scope.names.lookup (nm i) == some .local) o.data) (K.lookup a)
theorem look_e {K:Frag} {a:Addr} {f:Obj → Bool} (h:oSome false f (K.lookup a) = true):∃ o,K.lookup a = some o ∧ f o = true:=by
 cases q:K.lookup a with
 | none => rw [q] at h;exact nb0 h
 | some o => rw [q] at h;exact ⟨o,rfl,h⟩
theorem datOK_dr {K:Frag} {B:Heap} {G:Gh} (KX:K.In B) (hb:∀ a o,B.get? a = some o → G.fz a = some o) {v:Value} {d:PyData} (h:datOK K v d = true):DR G.fz v d:=by
 cases d with
 | none => exact beq_iff_eq.mp h ▸ .none
 | bool b => exact beq_iff_eq.mp h ▸ .bool b
 | int i => exact vInt_e (C:=fun v => DR G.fz v (.int i)) h fun j t h => beq_iff_eq.mp h ▸ .int j t
 | str i => exact vStr_e (C:=fun v => DR G.fz v (.str i)) h fun j t h => beq_iff_eq.mp h ▸ .str j t
 | list _ => exact nb0 h
 | dict _ => exact nb0 h
 | tuple xs =>
  have h:(xs.isEmpty && vRef (fun a => oSome false emptyTup (K.lookup a)) v) = true:=h
  have e:=List.isEmpty_iff.mp (an_l h)
  subst e
  exact vRef_e (C:=fun v => DR G.fz v (.tuple [])) (an_r h) fun a h => (look_e h).elim fun o q => (emptyTup_e q.2).elim fun n e => .tuple (vs:=[]) (n:=n) (hb _ _ (e ▸ KX _ _ q.1)) .nil
theorem datsOK_dr {K:Frag} {B:Heap} {G:Gh} (KX:K.In B) (hb:∀ a o,B.get? a = some o → G.fz a = some o) {vs:List Value}:∀ {ds:List PyData},datsOK K vs ds = true → All2 (DR G.fz) vs ds:=by
 induction vs with
 | nil => exact fun {ds} h => em_e (C:=fun ds => All2 (DR G.fz) [] ds) h .nil
 | cons v vs ih => intro ds h;cases ds with
  | nil => exact nb0 h
  | cons d ds => exact .cons (datOK_dr KX hb (an_l h)) (ih (an_r h))
theorem dfl_of {K:Frag} {B:Heap} {G:Gh} (KX:K.In B) (hb:∀ a o,B.get? a = some o → G.fz a = some o) {v:Value} {ds:List PyData} (e:dflOK K v ds = true) :
  ∃ D:List Value,All2 (DR G.fz) D ds ∧ ((v = .none ∧ D = []) ∨ ∃ a o items k,v = .ref a ∧ B.get? a = some o ∧ o.data = .seq items k ∧ items.toList = D) :=
 or_e e (fun e => ⟨[],List.isEmpty_iff.mp (an_r e) ▸ .nil,.inl ⟨beq_iff_eq.mp (an_l e),rfl⟩⟩) fun e => vRef_e (C:=fun v => ∃ D:List Value,All2 (DR G.fz) D ds ∧ ((v = .none ∧ D = []) ∨ ∃ a o items k,v = .ref a ∧ B.get? a = some o ∧ o.data = .seq items k ∧ items.toList = D)) e fun a e => (look_e e).elim fun o q => by
  obtain ⟨c,d,dt,sl⟩:=o
  have q1:=KX _ _ q.1
  have q2:=q.2
  revert q1
  exact dSeq_e (C:=fun dt => B.get? a = some ⟨c,d,dt,sl⟩ → _) q2 fun vs n h g => ⟨_,datsOK_dr KX hb h,.inr ⟨a,_,vs,n,rfl,g,rfl,rfl⟩⟩
structure FdOK (K:Frag) (fd:FuncData) (ps:List Nat) (ds:List PyData) (b:MSs):Prop where
 p1:fd.params.posonlyargs = []
 names:fd.params.args.map (·.arg) = ps.map nm
 p2:fd.params.kwonlyargs = []
 p3:fd.params.vararg = none
 p4:fd.params.kwarg = none
 dfl:dflOK K fd.defaults ds = true
 dlen:ds.length ≤ ps.length
 kind:fd.scope.kind = .function
 gen:fd.scope.isGenerator = false
 co:fd.scope.isCoroutine = false
 gl:fd.globals = mainGlobals
 bl:fd.builtins = builtinsNs
 clo:fd.closure = []
 code:codeIn K fd.code fd.qualname = true
 sto:∀ i ∈ ps,isSto fd.scope.names i = true
 nd:ps.Nodup
 free:∀ q ∈ fd.scope.names,q.2 ≠ .free
 body:∃ ss,fd.body = .stmts ss ∧ okSs fd.scope.names b ss = true
theorem not_e {b:Bool} (h:(!b) = true):b = false:=Bool.not_eq_true' b ▸ h
theorem fdOK_of {K:Frag} {fd:FuncData} {ps:List Nat} {ds:List PyData} {b:MSs} (h:fdChk K ps ds b fd = true):FdOK K fd ps ds b :=
  have h17:=an_l h;have h16:=an_l h17;have h15:=an_l h16;have h14:=an_l h15;have h13:=an_l h14;have h12:=an_l h13;have h11:=an_l h12;have h10:=an_l h11;have h9:=an_l h10;have h8:=an_l h9;have h7:=an_l h8;have h6:=an_l h7;have h5:=an_l h6;have h4:=an_l h5;have h3:=an_l h4;have h2:=an_l h3
  { p1:=List.isEmpty_iff.mp (an_l h2),names:=beq_iff_eq.mp (an_r h2),p2:=List.isEmpty_iff.mp (an_r h3),p3:=Option.isNone_iff_eq_none.mp (an_r h4),p4:=Option.isNone_iff_eq_none.mp (an_r h5),dfl:=an_r h6,dlen:=Nat.le_of_ble_eq_true (an_r h7),kind:=beq_iff_eq.mp (an_r h8),
    gen:=not_e (an_r h9),co:=not_e (an_r h10),gl:=beq_iff_eq.mp (an_r h11),bl:=beq_iff_eq.mp (an_r h12),clo:=List.isEmpty_iff.mp (an_r h13),code:=an_r h14,sto:=List.all_eq_true.mp (an_r h15),nd:=of_decide_eq_true (an_r h16),free:=fun q hq => bne_iff_ne.mp (List.all_eq_true.mp (an_r h17) q hq),
    body:=@FuncBody.casesOn (fun fb => bStm (okSs fd.scope.names b) fb = true → ∃ ss,fb = .stmts ss ∧ okSs fd.scope.names b ss = true) fd.body (fun ss h => ⟨ss,rfl,h⟩) (fun _ h => nb0 h) (an_r h) }
theorem fn_e {K:Frag} {f:Addr} {ps:List Nat} {ds:List PyData} {b:MSs} (h:fnChk K f ps ds b = true):∃ c d fd sl,K.lookup f = some ⟨c,d,.func fd,sl⟩ ∧ FdOK K fd ps ds b:=(look_e h).elim fun o q => by
 obtain ⟨c,d,dt,sl⟩:=o
 have q1:=q.1
 revert q1
 exact dFun_e (C:=fun dt => K.lookup f = some ⟨c,d,dt,sl⟩ → _) q.2 fun fd h g => ⟨c,d,fd,sl,g,fdOK_of h⟩
theorem keep_of_fn {K:Frag} {a:Addr} {ps:List Nat} {ds:List PyData} {b:MSs} (h:fnChk K a ps ds b = true):keepIn K (.ref a) = true:=by
 obtain ⟨c,d,fd,sl,g,_⟩:=fn_e h
 unfold keepIn;simp only [g]
theorem zip_rel {P:Params} {G:Gh} {ps:List Nat}:∀ {vs:List Value} {avs:List AV},All2 (VR P G) vs avs → ∀ {i:Nat} {av:AV},(i,av) ∈ ps.zip avs → ∃ v,(nm i,v) ∈ (ps.map nm).zip vs ∧ VR P G v av:=by
 induction ps with
 | nil => exact fun _ _ _ h => (List.not_mem_nil h).elim
 | cons p ps ih => intro vs avs V i av h;cases V with
  | nil => exact (List.not_mem_nil h).elim
  | cons V r => exact (List.mem_cons.mp h).elim (fun e => by cases e;exact ⟨_,.head _,V⟩) fun h => (ih r h).elim fun u q => ⟨u,.tail _ q.1,q.2⟩
section
variable {kindOf:Str → Option NameKind} {x:Str} {v:Value} {binds:List (Str × Value)}
theorem ite_ne {n:Str} {v:Value} {m:Str → Option Value} (h:x ≠ n):(fun y => if y = n then some v else m y) x = m x:=if_neg h
theorem bindL_skip:∀ {m:Str → Option Value},x ∉ binds.map (·.1) → bindL kindOf binds m x = m x:=by
 induction binds with
 | nil => exact fun _ => rfl
 | cons p r ih =>
  intro m h
  have h:=not_or.mp fun z => h (List.mem_cons.mpr z)
  unfold bindL
  refine (ih h.2).trans ?_
  by_cases q:kindOf p.1 = some .local
  ·rw [if_pos q];exact if_neg h.1
  ·rw [if_neg q]
theorem bindL_look (hk:kindOf x = some .local):∀ {m:Str → Option Value},(binds.map (·.1)).Nodup → (x,v) ∈ binds → bindL kindOf binds m x = some v:=by
 induction binds with
 | nil => exact fun _ h => (List.not_mem_nil h).elim
 | cons p r ih =>
  intro m nd h
  have nd:=List.nodup_cons.mp nd
  unfold bindL
  refine (List.mem_cons.mp h).elim (fun e => ?_) fun h => ih nd.2 h
  subst e
  refine (bindL_skip nd.1).trans ?_
  rw [if_pos hk];exact if_pos rfl
theorem bindC_skip:∀ {m:Str → Option Value},x ∉ binds.map (·.1) → bindC kindOf binds m x = m x:=by
 induction binds with
 | nil => exact fun _ => rfl
 | cons p r ih =>
  intro m h
  have h:=not_or.mp fun z => h (List.mem_cons.mpr z)
  unfold bindC
  refine (ih h.2).trans ?_
  by_cases q:kindOf p.1 = some .local
  ·rw [if_pos q]
  ·rw [if_neg q];exact if_neg h.1
theorem bindC_look (hk:kindOf x ≠ some .local):∀ {m:Str → Option Value},(binds.map (·.1)).Nodup → (x,v) ∈ binds → bindC kindOf binds m x = some v:=by
 induction binds with
 | nil => exact fun _ h => (List.not_mem_nil h).elim
 | cons p r ih =>
  intro m nd h
  have nd:=List.nodup_cons.mp nd
  unfold bindC
  refine (List.mem_cons.mp h).elim (fun e => ?_) fun h => ih nd.2 h
  subst e
  refine (bindC_skip nd.1).trans ?_
  rw [if_neg hk];exact if_pos rfl
end
theorem lk_isSome {x y:Str} {a:Addr} {l:List (Str × Addr)} (h:(l.lookup x).isSome = true):(List.lookup x ((y,a) :: l)).isSome = true:=by
 by_cases q:x = y
 ·subst q;rw [lk_hit];rfl
 ·rw [lk_miss q];exact h
theorem cellsFrom_acc {x:Str} (names:List (Str × NameKind)):∀ (k:Nat) (acc:List (Str × Addr)),(acc.lookup x).isSome = true → ((cellsFrom k names acc).lookup x).isSome = true:=by
 induction names with
 | nil => exact fun _ _ h => h
 | cons p r ih =>
  intro k acc h
  unfold cellsFrom
  by_cases q:(p.2 == NameKind.cell) = true
  ·rw [if_pos q];exact ih _ _ (lk_isSome h)
  ·rw [if_neg q];exact ih _ _ h
theorem cellsFrom_has {x:Str} (names:List (Str × NameKind)):∀ (k:Nat) (acc:List (Str × Addr)),(x,NameKind.cell) ∈ names → ((cellsFrom k names acc).lookup x).isSome = true:=by
 induction names with
 | nil => exact fun _ _ h => (List.not_mem_nil h).elim
 | cons p r ih =>
  intro k acc h
  unfold cellsFrom
  refine (List.mem_cons.mp h).elim (fun e => ?_) fun h => ?_
  ·subst e;rw [if_pos (beq_self_eq_true _)];exact cellsFrom_acc _ _ _ (by rw [lk_hit];rfl)
  ·by_cases q:(p.2 == NameKind.cell) = true
   ·rw [if_pos q];exact ih _ _ h
   ·rw [if_neg q];exact ih _ _ h
theorem pairwise_ne {cs:List (Str × Addr)} (h:cs.Pairwise fun x y => x.2 ≠ y.2):∀ {a b:Str × Addr},a ∈ cs → b ∈ cs → a.2 = b.2 → a = b:=by
 induction cs with
 | nil => exact fun h => (List.not_mem_nil h).elim
 | cons c cs ih =>
  intro a b ha hb e
  have h:=List.pairwise_cons.mp h
  exact (List.mem_cons.mp ha).elim (fun ea => (List.mem_cons.mp hb).elim (fun eb => ea.trans eb.symm) fun hb => absurd (ea ▸ e) (h.1 _ hb)) fun ha => (List.mem_cons.mp hb).elim (fun eb => absurd (eb ▸ e).symm (h.1 _ ha)) fun hb => ih h.2 ha hb e
end
section
theorem nms_nodup {l:List Nat}:l.Nodup → (∀ i ∈ l,i < 219) → (l.map nm).Nodup:=by
 induction l with
 | nil => exact fun _ _ => List.nodup_nil
 | cons i l ih => exact fun nd hl => have nd:=List.nodup_cons.mp nd;List.nodup_cons.mpr ⟨fun q => (List.mem_map.mp q).elim fun j q => nd.1 (nm_inj (hl j (.tail _ q.1)) (hl i (.head _)) q.2 ▸ q.1),ih nd.2 fun j hj => hl j (.tail _ hj)⟩
theorem fin_go {P:Params} {B:Heap} {G0 G:Gh} {h0 h:Heap} {st1:St} {k:Nat} {frz:Bool} {Pv:Addr → Prop} {v:Value} {av:AV} {K:EK} (R:Rep P B G h st1) (X:Ext Pv G0 h0 G h) (hk:G0.nx = k) (V:VR P G v av) (e:fin frz k av st1 K) :
  ∃ G' r st',Ext Pv G0 h0 G' h ∧ Rep P B G' h st' ∧ VR P G' v r ∧ K r st':=by
 cases frz with
 | false => exact ⟨G,av,st1,X,R,V,e⟩
 | true => exact gd_e e fun g e => opt_e e fun d e1 e => gd_e e fun u e => have c:=cut_rep R X hk u;⟨_,_,_,c.1,c.2,.d (dr_cut R V g e1),nd_e e⟩
theorem bindP_e {ps:List Nat} {ds:List PyData} {avs:List AV} {L:Locs} (h:bindP ps ds avs = some L):avs.length ≤ ps.length ∧ ps.length ≤ avs.length + ds.length ∧ L = (ps.zip (avs ++ (ds.drop (ds.length - (ps.length - avs.length))).map .d)).reverse:=by
 unfold bindP at h
 cases q:Nat.ble avs.length ps.length && Nat.ble ps.length (avs.length + ds.length) with
 | false => rw [q] at h;exact n0 h
 | true => rw [q] at h;exact ⟨Nat.le_of_ble_eq_true (an_l q),Nat.le_of_ble_eq_true (an_r q),(Option.some.inj h).symm⟩
theorem newEnv_pos {M:Model} {A:Around} {E:Value → Shared → Prop} {s:Shared} {scope:Scope} {globals:Addr} {binds:List (Str × Value)} {qual:Str} {func:Option Addr} {code:Value} {builtins:Addr} {Q:Env → Shared → Prop}
  (hk:scope.kind = .function)
  (hkind:∀ x ∈ binds,scope.names.lookup x.1 = some .local ∨ (scope.names.lookup x.1 = some .cell ∧ ((cellsFrom (s.heap.objs.size + 1) scope.names []).lookup x.1).isSome = true))
  (hpos:0 < s.toks ∨ ∃ x v,binds = [(x,v)] ∧ scope.names.lookup x = some .local)
  (hQ:∀ env,env = newEnv scope s.heap.objs.size globals (cellsFrom (s.heap.objs.size + 1) scope.names []) qual func code none builtins →
   ∀ s',InCallC s env.locals (bindL env.kindOf binds fun _ => none) env.cells (bindC env.kindOf binds fun _ => none) s' → s.toks ≤ s'.toks → 0 < s'.toks → Q env s') :
  wpAny M A (newFunctionEnv scope globals [] binds qual func code none builtins) Q E s:=by
 rcases hpos with hp | ⟨x,v,rfl,hx⟩
 ·exact wpAny_with_toks (n:=s.toks) (Nat.le_refl _) (wpAny_newFunctionEnv_cells hk hkind fun env e s' i le => hQ env e s' i le (Nat.lt_of_lt_of_le hp le))
 ·have ok:=cellsFrom_ok scope.names (s.heap.push { cls:=.type "frame",data:=.dict #[] }) (s.heap.objs.size + 1) [] ⟨fun _ _ hm => (nomatch hm),List.Pairwise.nil⟩ (by rw [Heap.size_push];exact Nat.le_refl _)
  rw [Heap.size_push] at ok
  have ns0:(pushCells (s.heap.push { cls:=.type "frame",data:=.dict #[] }) scope.names).Ns s.heap.objs.size (fun _ => none):=(Heap.Ns.new s.heap (.type "frame")).keeps (pushCells_keeps _ _)
  have kl:(newEnv scope s.heap.objs.size globals (cellsFrom (s.heap.objs.size + 1) scope.names []) qual func code none builtins).kindOf x = some .local:=hx
  simp only [newFunctionEnv,Option.isSome_none,Bool.false_eq_true,if_false]
  refine wpAny_bind (wpAny_alloc ?_)
  refine wpAny_bind (wpAny_layCells _ (fun name kind cells => by cases kind == NameKind.cell <;> rfl) _ _ _ _ ?_)
  rw [show ({ s with heap:=s.heap.push { cls:=.type "frame",data:=.dict #[] } }:Shared).heap.objs.size = s.heap.objs.size + 1 from Heap.size_push ..]
  rw [List.forIn_cons]
  refine wpAny_bind (wpAny_bind (wpAny_bind (wpAny_storeName_local (env:=newEnv scope s.heap.objs.size globals (cellsFrom (s.heap.objs.size + 1) scope.names []) qual func code none builtins) kl ns0 (fun h' hn hs => ?_) (by show (scope.kind == .class || (scope.kind == .module && _)) = false;rw [hk];rfl))))
  refine wpAny_pure (wpAny_pure (wpAny_pure (hQ _ rfl _ ⟨⟨⟨_,_,rfl⟩,?_,fun b o e => ?_,Nat.le_refl _⟩,fun n c hc => ?_,ok.apart,fun n c hm => (ok.empty n c hm).2⟩ (Nat.le_succ _) (Nat.succ_pos _))))
  ·unfold bindL bindL;rw [if_pos kl];exact hn
  ·exact hs.extBut b o (Nat.ne_of_lt (Heap.lt_size e)) (pushCells_keeps _ _ b o (Heap.get?_push_of_some _ e))
  ·have q:=ok.empty n c (mem_of_lookup hc)
   unfold bindC bindC;rw [if_pos kl]
   exact q.1.elim fun o r => ⟨o,(hs.2 c (fun z => Nat.lt_irrefl _ (z ▸ q.2))).trans r.1,r.2⟩
noncomputable def resQ (Q:Value → Shared → Prop) (q:Result) (s:Shared):Prop:=@Except.casesOn Value Flow (fun _ => Prop) q (fun _ => False) fun f => @Flow.casesOn (fun _ => Prop) f False False False fun v => Q v s
section
variable {z:Zx} {A:Around} {x y:Pt} {st st':St} {K:EK} {Q:Value → Shared → Prop} {vs:List Value} {avs:List AV}
theorem call_fr {fd:FuncData} {ps:List Nat} {ds:List PyData} {b:MSs} {vals:List Value} {ls:List AV} {s':Shared} {env:Env} (H:FdOK z.K fd ps ds b) (R:RepP z x st) (V:All2 (VR z.P x.G) vals ls) (hl:ps.length = vals.length)
  {qn:Str} {fo:Option Addr} {co:Value} (he:env = newEnv fd.scope x.s.heap.objs.size fd.globals (cellsFrom (x.s.heap.objs.size + 1) fd.scope.names []) qn fo co none fd.builtins)
  (i:InCallC x.s env.locals (bindL env.kindOf ((ps.map nm).zip vals) fun _ => none) env.cells (bindC env.kindOf ((ps.map nm).zip vals) fun _ => none) s') :
  (∀ a,PF env a → x.s.heap.get? a = none) ∧ FrOK z.P x.G s'.heap env (bindL env.kindOf ((ps.map nm).zip vals) fun _ => none) (bindC env.kindOf ((ps.map nm).zip vals) fun _ => none) fd.scope.names (ps.zip ls).reverse:=by
 have e3:env.scope = fd.scope:=he ▸ rfl
 have e1:env.locals = x.s.heap.objs.size:=he ▸ rfl
 have e2:env.cells = cellsFrom (x.s.heap.objs.size + 1) fd.scope.names []:=he ▸ rfl
 have e4:env.globals = mainGlobals:=he ▸ H.gl
 have e5:env.builtins = builtinsNs:=he ▸ H.bl
 have kOf:∀ y,env.kindOf y = fd.scope.names.lookup y:=fun y => by unfold Env.kindOf;rw [e3]
 have keysN:((ps.map nm).zip vals).map (·.1) = ps.map nm:=List.map_fst_zip (by rw [List.length_map,hl];exact Nat.le_refl _)
 have nd:(((ps.map nm).zip vals).map (·.1)).Nodup:=by rw [keysN];exact nms_nodup H.nd fun i hi => sto_lt (H.sto i hi)
 have fresh:∀ a,PF env a → x.s.heap.get? a = none:=fun a p => p.elim (fun e => e ▸ e1 ▸ fresh_none _ (Nat.le_refl _)) fun ⟨k,hk⟩ => fresh_none _ (Nat.le_of_lt (e1 ▸ i.above k a (mem_of_lookup hk)))
 refine ⟨fresh,{ kind:=e3 ▸ H.kind,gl:=e4,bl:=e5,ns:=i.toInCall.ns,cell:=i.cell,glob:=fun y hy => (kOf y).trans hy,locl:=fun y hy => (kOf y).symm.trans hy,has:=fun y hy => ?_,vars:=fun j av hi hs => ?_,apart:=fun k k' c h1 h2 => congrArg Prod.fst (pairwise_ne i.apart (mem_of_lookup h1) (mem_of_lookup h2) rfl),ne:=fun k c h1 => Nat.ne_of_gt (i.above k c (mem_of_lookup h1)),priv:=fun a p => ⟨R.own_none (fresh a p),R.fz_none (fresh a p)⟩ }⟩
 ·rw [e2]
  exact hy.elim (fun hy => cellsFrom_has _ _ _ (lookup_mem hy)) fun hy => absurd rfl (H.free _ (lookup_mem hy))
 ·have mem:=List.mem_reverse.mp (lookup_mem hi)
  have hips:=H.sto j (List.of_mem_zip mem).1
  refine (zip_rel V mem).elim fun v hv => ⟨v,hv.2,(sto_kd hips).elim (fun q => .inl ⟨(kOf _).trans q,bindL_look ((kOf _).trans q) nd hv.1⟩) fun q => .inr ⟨.inl ((kOf _).trans q),?_,bindC_look (fun z => nomatch (q.symm.trans ((kOf _).symm.trans z))) nd hv.1⟩⟩
  rw [e2];exact cellsFrom_has _ _ _ (lookup_mem q)
theorem code_core (Z:Zok z) (NL:z.B.NoLimit) {a:Addr} {ps:List Nat} {ds:List PyData} {b:MSs} {frz:Bool} (hc:fnChk z.K a ps ds b = true) (hR:Rm (z.n + 1) A) (htok:0 < x.s.toks ∨ ∃ i v,ps = [i] ∧ vs = [v] ∧ oneLoc z.K a i = true) (R:RepP z x st) (V:All2 (VR z.P x.G) vs avs)
  (h:runFn z.T ps ds b frz avs st K) (po:Leaf z x K Q):codeAny (model z.prog z.w) A (.call (.ref a) ⟨vs,[]⟩) (resQ Q) x.s :=
 (fn_e hc).elim fun c q => q.elim fun d q => q.elim fun fd q => q.elim fun sl q => opt_e h fun L hL h => by
  have H:=q.2
  have hB:=Z.K _ _ q.1
  obtain ⟨ss,hbody,hss⟩:=H.body
  obtain ⟨D,hD,hdf⟩:=dfl_of (G:=x.G) Z.K R.base H.dfl
  obtain ⟨b1,b2,b3⟩:=bindP_e hL
  have lv:=V.length
  have ld:=hD.length
  have hN:(ps.map nm).length = ps.length:=List.length_map ..
  have le1:ps.length - vs.length ≤ D.length:=by rw [lv,ld];exact Nat.sub_le_of_le_add (Nat.add_comm .. ▸ b2)
  have C:Cut (ps.map nm) vs D ((ps.map nm).take vs.length) ((ps.map nm).drop vs.length) (D.take (D.length - (ps.length - vs.length))) (D.drop (D.length - (ps.length - vs.length))) :=
   ⟨(List.take_append_drop ..).symm,(List.take_append_drop ..).symm,by rw [List.length_take,hN,lv];exact Nat.min_eq_left b1,by rw [List.length_drop,List.length_drop,hN,Nat.sub_sub_self le1],
    by rw [List.length_take,List.length_take,hN,lv,Nat.min_eq_left b1];exact Nat.le_trans (Nat.min_le_left ..) (Nat.sub_le_of_le_add (by rw [ld,Nat.add_comm,Nat.sub_add_cancel b1];exact H.dlen))⟩
  have VV:All2 (VR z.P x.G) (vs ++ D.drop (D.length - (ps.length - vs.length))) (avs ++ (ds.drop (ds.length - (ps.length - avs.length))).map .d):=by rw [lv,ld];exact V.append ((hD.drop _).map fun _ _ => .d)
  have lvals:ps.length = (vs ++ D.drop (D.length - (ps.length - vs.length))).length:=by rw [List.length_append,List.length_drop,Nat.sub_sub_self le1,Nat.add_sub_cancel' (lv ▸ b1)]
  have keysN:((ps.map nm).zip (vs ++ D.drop (D.length - (ps.length - vs.length)))).map (·.1) = ps.map nm:=List.map_fst_zip (by rw [hN];exact Nat.le_of_eq lvals)
  refine codeAny_with_toks (n:=x.s.toks) (Nat.le_refl _) (codeAny_call_function (Nat.lt_of_le_of_lt (Nat.le_trans (Nat.le_add_right ..) hR.dep) (by decide)) (R.old _ _ hB) rfl H.co H.gen hbody ((codeRec_of Z.K H.code).imp fun c ⟨o,vs,t,a,b,r⟩ => ⟨o,vs,t,a,R.old _ _ b,r⟩) ?_)
  refine bind_args H.p1 H.p2 H.p3 H.p4 H.names (hdf.imp id fun ⟨a,o,items,k,q1,q2,q3,q4⟩ => ⟨a,o,items,k,q1,R.old _ _ q2,q3,q4⟩) (nms_nodup H.nd fun i hi => sto_lt (H.sto i hi)) C ?_
  rw [H.clo]
  generalize hvv:vs ++ D.drop (D.length - (ps.length - vs.length)) = vals at *
  have one:0 < x.s.toks ∨ ∃ n v,(ps.map nm).zip vals = [(n,v)] ∧ fd.scope.names.lookup n = some .local:=by
   rcases htok with q' | ⟨i,v,e1,e2,e3⟩
   ·exact .inl q'
   ·subst e1
    obtain ⟨u,rfl⟩:=List.length_eq_one_iff.mp lvals.symm
    exact .inr ⟨_,_,rfl,(look_e e3).elim fun o r => by
     have e:=Option.some.inj (q.1.symm.trans r.1);subst e;exact beq_iff_eq.mp r.2⟩
  refine newEnv_pos H.kind (fun y hy => ?_) one fun env he s1 i hle hpos => ⟨(NL.keeps R.old).keeps i.toInCall.keep,codeAny_func ?_⟩
  ·have m:y.1 ∈ ps.map nm:=keysN ▸ List.mem_map_of_mem hy
   exact (List.mem_map.mp m).elim fun i q => q.2 ▸ (sto_kd (H.sto i q.1)).imp id fun k => ⟨k,cellsFrom_has _ _ _ (lookup_mem k)⟩
  ·have F:=call_fr H R VV lvals he i
   have KN:=keep_no R (h':=s1.heap) i.toInCall.keep
   have e3:env.scope = fd.scope:=he ▸ rfl
   have X1:Ext (PF env) x.G x.s.heap x.G s1.heap:=KN.1.up
   have eq1:s1 = { x.s with heap:=s1.heap,toks:=s1.toks }:=by
    obtain ⟨h1,t1,q⟩:=i.toInCall.same
    rw [q]
   have X:SStep env x ⟨x.G,s1⟩:=⟨eq1,hle,X1⟩
   have done:∀ v av y st1,SStep env ⟨x.G,s1⟩ y → RepP z y st1 → VRP z y v av → fin frz st.next av st1 K → Q v y.s:=fun v av y st1 Y R1 V1 f => by
    have XX:=X.trans Y
    obtain ⟨G',r,st2,X',R',V',k⟩:=fin_go R1 (XX.ext.drop F.1) R.nx V1 f
    exact po v r ⟨G',y.s⟩ st2 ⟨XX.eq,XX.le,X'⟩ R' V' k
   exact wpAny_mono (all_sts Z b (A:=A.deeper env) (env:=env) (x:=⟨x.G,s1⟩) (k:=rK fun v st' => fin frz st.next v st' K) (Q:=fun f s => Q (match f with | .ret v => v | _ => .none) s) (e3 ▸ hss)
    ⟨⟨hR.hd,Nat.le_trans (Nat.le_of_eq (Nat.add_right_comm A.depth 1 z.n)) hR.dep,Nat.le_trans (Nat.le_of_eq (Nat.add_right_comm A.units 3 (20 * z.n))) (Nat.le_trans (Nat.add_le_add_left (by decide:3 ≤ 20) _) hR.un)⟩,hpos,KN.2,⟨_,_,e3 ▸ b3 ▸ F.2⟩⟩ h
    ⟨fun y L' st1 Y S1 k => done .none _ y st1 Y S1.rep .none k,fun _ _ _ _ _ k => k.elim,fun v av y st1 Y R1 V1 k => done v av y st1 Y R1 V1 k⟩) (fun _ _ q _ => q) fun _ _ e => e.elim
end
end
section
structure Fun where
 a:Addr
 ps:List Nat
 ds:List PyData
 b:MSs
noncomputable abbrev Zx.on (z:Zx) (n:Nat) (T:Tab):Zx:={ z with n:=n,T:=T }
structure ZZ (z:Zx) (C:List Fun):Prop where
 K:z.K.In z.B
 F:KF z.K
 g:∃ mg,z.B.Ns mainGlobals mg
 b:∃ mb,z.B.Ns builtinsNs mb ∧ ∀ x:Str,x ≠ "__name__" → mb x = bootBuiltins x
 NL:z.B.NoLimit
 c:C.all (fun f => fnChk z.K f.a f.ps f.ds f.b) = true
noncomputable def TabOK (z:Zx) (n:Nat) (T:Tab):Prop:=∀ a F,T.lookup a = some F → FnOK (z.on n []) a F
noncomputable def CFn (z:Zx) (n:Nat) (a:Addr) (F:Fn):Prop:=∀ {A x st K Q avs vs},Rm n A → 0 < x.s.toks → RepP z x st → All2 (VR z.P x.G) vs avs → F avs st K → Leaf z x K Q → codeAny (model z.prog z.w) A (.call (.ref a) ⟨vs,[]⟩) (resQ Q) x.s
section
variable {z:Zx} {C:List Fun} {n k:Nat} {T:Tab} {a:Addr} {F:Fn}
theorem Rm.mono {A:Around} (h:Rm n A) (hk:k ≤ n):Rm k A:=⟨h.hd,Nat.le_trans (Nat.add_le_add_left hk _) h.dep,Nat.le_trans (Nat.add_le_add_left (Nat.mul_le_mul_left _ hk) _) h.un⟩
theorem tab_nil:TabOK z n []:=fun a F h => n0 h
theorem tab_cons (H:FnOK (z.on k []) a F) (HT:TabOK z n T) (hk:Nat.ble k n = true):TabOK z n ((a,F) :: T):=fun b F' h => by
 by_cases q:b = a
 ·subst q;exact Option.some.inj (lk_hit.symm.trans h) ▸ ⟨H.keep,fun R => H.run (R.mono (Nat.le_of_ble_eq_true hk))⟩
 ·exact HT b F' ((lk_miss q).symm.trans h)
theorem ZZ.zok (Z:ZZ z C) (t:TabOK z n T):Zok (z.on n T):=⟨Z.K,Z.F,Z.g,Z.b,fun a F h => ⟨(t a F h).keep,(t a F h).run⟩⟩
theorem ZZ.chk (Z:ZZ z C) (i:Nat) {f:Fun} (h:C[i]? = some f):fnChk z.K f.a f.ps f.ds f.b = true:=List.all_eq_true.mp Z.c f (List.mem_of_getElem? h)
theorem code_sound (Z:ZZ z C) (i:Nat) {f:Fun} (h:C[i]? = some f) (t:TabOK z n T) {frz:Bool}:CFn z (n + 1) f.a (opq (runFn T f.ps f.ds f.b frz)):=fun R tk r V e po =>
 code_core (z:=z.on n T) (Z.zok t) Z.NL (Z.chk i h) R (.inl tk) r V (by rw [opq_eq] at e;exact e) po
theorem fn_of (hk:keepIn z.K (.ref a) = true) (H:CFn z n a F):FnOK (z.on n []) a F where
 keep:=hk
 run:=fun R tk r V e po => wpAny_call (codeAny_mono (H R tk r V e po) fun q s' p => by
  cases q with
  | error _ => exact p.elim
  | ok f => cases f with
   | ret _ => exact p
   | next => exact p.elim
   | brk => exact p.elim
   | cont => exact p.elim)
theorem fn_sound (Z:ZZ z C) (i:Nat) {f:Fun} (h:C[i]? = some f) (t:TabOK z n T) {frz:Bool}:FnOK (z.on (n + 1) []) f.a (opq (runFn T f.ps f.ds f.b frz)):=fn_of (keep_of_fn (Z.chk i h)) (code_sound Z i h t)
theorem new_sound (Z:ZZ z T0) {c f:Nat} (hC:cT.contains (c,f) = true) (H:CFn z n f F):FnOK (z.on (n + 1) []) c (runNew c F) :=
 have q:=List.all_eq_true.mp Z.F.c (c,f) (List.contains_iff_mem.mp hC)
 ⟨an_r q,fun {A x st K Q avs vs} hR htok R V he po => wpAny_call (by
  obtain ⟨G,hh,g,d,t,os⟩:=x
  have KX:z.K.In hh:=fun a o e => R.old a o (Z.K a o e)
  refine make_core (makes_of KX (an_l (an_l (an_l q)))) (looks_findIn KX (beq_iff_eq.mp (an_r (an_l (an_l q))))) (fun self => bind_fn KX self (beq_iff_eq.mp (an_r (an_l q)))) (.inl rfl) ?_
  have g1:((hh.push emptyDict).push (instObj c hh.objs.size)).get? (hh.objs.size + 1) = some (instObj c hh.objs.size):=Heap.size_push hh emptyDict ▸ Heap.get?_push_size (hh.push emptyDict) (o:=instObj c hh.objs.size) rfl
  have g2:((hh.push emptyDict).push (instObj c hh.objs.size)).get? hh.objs.size = some (dictOf [] 0):=Heap.get?_push_of_some _ (Heap.get?_push_size hh (o:=emptyDict) rfl)
  have n1:=fresh_none hh (Nat.le_succ hh.objs.size)
  have n2:=fresh_none hh (Nat.le_refl hh.objs.size)
  have kp:=keep_no R (h':=(hh.push emptyDict).push (instObj c hh.objs.size)) fun b o e => Heap.get?_push_of_some _ (Heap.get?_push_of_some _ e)
  have big:3 < hh.objs.size:=R.big
  have ao:=adopt_own (ob:=.inst c []) (a1:=hh.objs.size + 1) (a2:=some hh.objs.size) kp.1 kp.2 (fun a z => z.elim (fun z => z ▸ ⟨n1,R.own_none n1,R.fz_none n1,Nat.lt_succ_of_lt big,_,g1⟩) fun z => (Option.some.inj z).symm ▸ (⟨n2,R.own_none n2,R.fz_none n2,big,_,g2⟩:hh.get? hh.objs.size = none ∧ G.own hh.objs.size = none ∧ G.fz hh.objs.size = none ∧ 3 < hh.objs.size ∧ ∃ o,((hh.push emptyDict).push (instObj c hh.objs.size)).get? hh.objs.size = some o))
   fun gx => .inst (ents:=[]) (k:=0) (by simp only [Gh.add,if_true];exact g1) (by simp [Gh.add]) (by simp only [Gh.add,if_true];exact g2) ⟨.nil,List.nodup_nil⟩
  have V0:VR z.P (G.add (hh.objs.size + 1) (some hh.objs.size)) (.ref (hh.objs.size + 1)) (.loc st.next):=(congrArg (fun a => VR z.P (G.add (hh.objs.size + 1) (some hh.objs.size)) (.ref a) (.loc st.next)) ao.2.2.1).mp (VR.loc (P:=z.P) ao.2.2.2)
  have X1:Step ⟨G,⟨hh,g,d,t,os⟩⟩ ⟨G.add (hh.objs.size + 1) (some hh.objs.size),⟨(hh.push emptyDict).push (instObj c hh.objs.size),g,d,t,os⟩⟩:=⟨rfl,Nat.le_refl _,ao.1⟩
  have hR':Rm n (A.under (.builtin "type.__call__" ⟨.ref c :: vs,[]⟩)):=by
   have e1:(Code.builtin "type.__call__" ⟨.ref c :: vs,[]⟩).weight ≤ 1:=Nat.le_of_ble_eq_true rfl
   have e2:(Code.builtin "type.__call__" ⟨.ref c :: vs,[]⟩).cUnits ≤ 20:=Nat.le_of_ble_eq_true rfl
   exact ⟨hR.hd,Nat.le_trans (Nat.add_le_add_right (Nat.add_le_add_left e1 _) _) (Nat.le_trans (Nat.le_of_eq (Nat.add_right_comm A.depth 1 n)) hR.dep),Nat.le_trans (Nat.add_le_add_right (Nat.add_le_add_left e2 _) _) (Nat.le_trans (Nat.le_of_eq (Nat.add_right_comm A.units 20 (20 * n))) hR.un)⟩
  refine codeAny_mono (H (x:=⟨G.add (hh.objs.size + 1) (some hh.objs.size),⟨(hh.push emptyDict).push (instObj c hh.objs.size),g,d,t,os⟩⟩) (Q:=fun v s => v = .none ∧ Q (.ref (hh.objs.size + 1)) s) hR' htok ao.2.1 (.cons V0 (V.mono fun _ _ => VR.mono ao.1.gx)) (nd_e he)
   fun v av y st' Y R' V' h => non_e (C:=fun v => v = .none ∧ Q (.ref (hh.objs.size + 1)) y.s) V' h fun h => ⟨rfl,po _ _ y st' (X1.trans Y) R' (V0.mono Y.ext.gx) h⟩) fun q s' p => ?_
  cases q with
  | error _ => exact p.elim
  | ok f => cases f with
   | ret _ => exact p
   | next => exact p.elim
   | brk => exact p.elim
   | cont => exact p.elim)⟩
end
end
section
noncomputable def F_Builder_to:Fun:=⟨479,p_Builder_to,[],b_Builder_to⟩
noncomputable def F_OpenStack_current:Fun:=⟨256,p_OpenStack_current,[],b_OpenStack_current⟩
noncomputable def F_OpenStack_many:Fun:=⟨263,p_OpenStack_many,[],b_OpenStack_many⟩
noncomputable def F_OpenStack_pop:Fun:=⟨249,p_OpenStack_pop,[],b_OpenStack_pop⟩
noncomputable def F__law_leave:Fun:=⟨829,p__law_leave,[],b__law_leave⟩
noncomputable def F_OpenStack_push:Fun:=⟨242,p_OpenStack_push,[],b_OpenStack_push⟩
noncomputable def F_Tree_remove:Fun:=⟨401,p_Tree_remove,[],b_Tree_remove⟩
noncomputable def F_above:Fun:=⟨450,p_above,[],b_above⟩
noncomputable def F_Tree_insert:Fun:=⟨387,p_Tree_insert,[.int (-1)],b_Tree_insert⟩
noncomputable def F_Tree_append:Fun:=⟨394,p_Tree_append,[],b_Tree_append⟩
noncomputable def F_Tree_add:Fun:=⟨349,p_Tree_add,[.str "",.str "",.tuple [],.str ""],b_Tree_add⟩
noncomputable def F_Tree_element:Fun:=⟨358,p_Tree_element,[.str "html",.tuple []],b_Tree_element⟩
noncomputable def F__law_open:Fun:=⟨822,p__law_open,[],b__law_open⟩
noncomputable def F__law_raws:Fun:=⟨775,p__law_raws,[],b__law_raws⟩
noncomputable def F__law_body:Fun:=⟨836,p__law_body,[],b__law_body⟩
noncomputable def F_Builder_adjusted:Fun:=⟨507,p_Builder_adjusted,[],b_Builder_adjusted⟩
noncomputable def F__law_foreign:Fun:=⟨850,p__law_foreign,[],b__law_foreign⟩
noncomputable def F_Builder_use:Fun:=⟨486,p_Builder_use,[],b_Builder_use⟩
noncomputable def F_Builder_is_foreign:Fun:=⟨514,p_Builder_is_foreign,[],b_Builder_is_foreign⟩
noncomputable def F_is_html_point:Fun:=⟨221,p_is_html_point,[],b_is_html_point⟩
noncomputable def F_is_math_point:Fun:=⟨214,p_is_math_point,[],b_is_math_point⟩
noncomputable def F_is_html_turn:Fun:=⟨528,p_is_html_turn,[],b_is_html_turn⟩
noncomputable def F_Builder_process:Fun:=⟨493,p_Builder_process,[],b_Builder_process⟩
noncomputable def F__law_inner:Fun:=⟨843,p__law_inner,[],b__law_inner⟩
noncomputable def F_Builder_feed:Fun:=⟨500,p_Builder_feed,[],b_Builder_feed⟩
noncomputable def F_Tokenizer_to:Fun:=⟨627,p_Tokenizer_to,[],b_Tokenizer_to⟩
noncomputable def F_hand_over:Fun:=⟨28,p_hand_over,[],b_hand_over⟩
noncomputable def F_Tokenizer_is_ready:Fun:=⟨733,p_Tokenizer_is_ready,[],b_Tokenizer_is_ready⟩
noncomputable def F_Tokenizer_emit:Fun:=⟨648,p_Tokenizer_emit,[],b_Tokenizer_emit⟩
noncomputable def F_Tokenizer_emit_eof:Fun:=⟨676,p_Tokenizer_emit_eof,[],b_Tokenizer_emit_eof⟩
noncomputable def F_Tokenizer_emit_sign:Fun:=⟨655,p_Tokenizer_emit_sign,[],b_Tokenizer_emit_sign⟩
noncomputable def F_Tokenizer_next:Fun:=⟨620,p_Tokenizer_next,[],b_Tokenizer_next⟩
noncomputable def F__law_held:Fun:=⟨815,p__law_held,[],b__law_held⟩
noncomputable def F_Tokenizer_again:Fun:=⟨634,p_Tokenizer_again,[],b_Tokenizer_again⟩
noncomputable def F_Tokenizer_emit_text:Fun:=⟨662,p_Tokenizer_emit_text,[],b_Tokenizer_emit_text⟩
noncomputable def F__law_reference:Fun:=⟨808,p__law_reference,[],b__law_reference⟩
noncomputable def F_Tokenizer_error:Fun:=⟨641,p_Tokenizer_error,[],b_Tokenizer_error⟩
noncomputable def F_Tokenizer_looks:Fun:=⟨691,p_Tokenizer_looks,[.bool false],b_Tokenizer_looks⟩
noncomputable def F_Tokenizer_take:Fun:=⟨698,p_Tokenizer_take,[],b_Tokenizer_take⟩
noncomputable def F_Tokenizer_wait:Fun:=⟨705,p_Tokenizer_wait,[],b_Tokenizer_wait⟩
noncomputable def F__law_ends:Fun:=⟨768,p__law_ends,[],b__law_ends⟩
noncomputable def F__law_names:Fun:=⟨761,p__law_names,[],b__law_names⟩
noncomputable def F__law_tag_open:Fun:=⟨801,p__law_tag_open,[],b__law_tag_open⟩
noncomputable def F_data_state:Fun:=⟨535,p_data_state,[],b_data_state⟩
noncomputable def F_Tokenizer_step:Fun:=⟨726,p_Tokenizer_step,[],b_Tokenizer_step⟩
noncomputable def F_drive:Fun:=⟨35,p_drive,[],b_drive⟩
noncomputable def F_start_state:Fun:=⟨42,p_start_state,[],b_start_state⟩
noncomputable def F_is_surrogate:Fun:=⟨193,p_is_surrogate,[],b_is_surrogate⟩
noncomputable def F_is_noncharacter:Fun:=⟨200,p_is_noncharacter,[],b_is_noncharacter⟩
noncomputable def F_is_control:Fun:=⟨207,p_is_control,[],b_is_control⟩
noncomputable def F_input_error:Fun:=⟨542,p_input_error,[],b_input_error⟩
noncomputable def F__law_digit:Fun:=⟨754,p__law_digit,[],b__law_digit⟩
noncomputable def F__law_spots:Fun:=⟨782,p__law_spots,[],b__law_spots⟩
noncomputable def F__law_kind:Fun:=⟨787,p__law_kind,[],b__law_kind⟩
noncomputable def F__law_text:Fun:=⟨794,p__law_text,[],b__law_text⟩
noncomputable def F_Formatting_init:Fun:=⟨88,p_Formatting_init,[],b_Formatting_init⟩
noncomputable def F_OpenStack_init:Fun:=⟨235,p_OpenStack_init,[],b_OpenStack_init⟩
noncomputable def F_Tree_init:Fun:=⟨340,p_Tree_init,[],b_Tree_init⟩
noncomputable def F_Builder_init:Fun:=⟨465,p_Builder_init,[.bool false],b_Builder_init⟩
noncomputable def F_Stream_init:Fun:=⟨556,p_Stream_init,[],b_Stream_init⟩
noncomputable def F_Tokenizer_init:Fun:=⟨599,p_Tokenizer_init,[.str "data",.str ""],b_Tokenizer_init⟩
noncomputable def F__law_begin:Fun:=⟨857,p__law_begin,[],b__law_begin⟩
noncomputable def F__law_seen:Fun:=⟨862,p__law_seen,[],b__law_seen⟩
noncomputable def F__law_is_turn:Fun:=⟨869,p__law_is_turn,[],b__law_is_turn⟩
noncomputable def F__law_told:Fun:=⟨876,p__law_told,[],b__law_told⟩
noncomputable def F__law_section:Fun:=⟨883,p__law_section,[],b__law_section⟩
noncomputable def F__law_due:Fun:=⟨888,p__law_due,[],b__law_due⟩
noncomputable def F_Stream_end:Fun:=⟨570,p_Stream_end,[],b_Stream_end⟩
noncomputable def F_Tokenizer_end:Fun:=⟨613,p_Tokenizer_end,[],b_Tokenizer_end⟩
noncomputable def F_Stream_feed:Fun:=⟨563,p_Stream_feed,[],b_Stream_feed⟩
noncomputable def F_Tokenizer_feed:Fun:=⟨606,p_Tokenizer_feed,[],b_Tokenizer_feed⟩
noncomputable def F_law:Fun:=⟨893,p_law,[],b_law⟩
noncomputable def FL:List Fun:=[F_Builder_to,F_OpenStack_current,F_OpenStack_many,F_OpenStack_pop,F__law_leave,F_OpenStack_push,F_Tree_remove,F_above,F_Tree_insert,F_Tree_append,F_Tree_add,F_Tree_element,F__law_open,F__law_raws,F__law_body,F_Builder_adjusted,F__law_foreign,F_Builder_use,F_Builder_is_foreign,F_is_html_point,F_is_math_point,F_is_html_turn,F_Builder_process,F__law_inner,F_Builder_feed,F_Tokenizer_to,F_hand_over,F_Tokenizer_is_ready,F_Tokenizer_emit,F_Tokenizer_emit_eof,F_Tokenizer_emit_sign,F_Tokenizer_next,F__law_held,F_Tokenizer_again,F_Tokenizer_emit_text,F__law_reference,F_Tokenizer_error,F_Tokenizer_looks,F_Tokenizer_take,F_Tokenizer_wait,F__law_ends,F__law_names,F__law_tag_open,F_data_state,F_Tokenizer_step,F_drive,F_start_state,F_is_surrogate,F_is_noncharacter,F_is_control,F_input_error,F__law_digit,F__law_spots,F__law_kind,F__law_text,F_Formatting_init,F_OpenStack_init,F_Tree_init,F_Builder_init,F_Stream_init,F_Tokenizer_init,F__law_begin,F__law_seen,F__law_is_turn,F__law_told,F__law_section,F__law_due,F_Stream_end,F_Tokenizer_end,F_Stream_feed,F_Tokenizer_feed,F_law]
section
variable {z:Zx} (Z:ZZ z FL)
include Z
theorem s_Builder_to:FnOK (z.on 1 []) 479 f_Builder_to:=by with_unfolding_all exact fn_sound (f:=F_Builder_to) Z 0 rfl tab_nil
theorem s_OpenStack_current:FnOK (z.on 1 []) 256 f_OpenStack_current:=by with_unfolding_all exact fn_sound (f:=F_OpenStack_current) Z 1 rfl tab_nil
theorem s_OpenStack_many:FnOK (z.on 1 []) 263 f_OpenStack_many:=by with_unfolding_all exact fn_sound (f:=F_OpenStack_many) Z 2 rfl tab_nil
theorem s_OpenStack_pop:FnOK (z.on 1 []) 249 f_OpenStack_pop:=by with_unfolding_all exact fn_sound (f:=F_OpenStack_pop) Z 3 rfl tab_nil
theorem s__law_leave:FnOK (z.on 2 []) 829 f__law_leave:=by with_unfolding_all exact fn_sound (f:=F__law_leave) Z 4 rfl (tab_cons (s_OpenStack_current Z) (tab_cons (s_OpenStack_many Z) (tab_cons (s_OpenStack_pop Z) tab_nil rfl) rfl) rfl)
theorem s_OpenStack_push:FnOK (z.on 1 []) 242 f_OpenStack_push:=by with_unfolding_all exact fn_sound (f:=F_OpenStack_push) Z 5 rfl tab_nil
theorem s_Tree_remove:FnOK (z.on 1 []) 401 f_Tree_remove:=by with_unfolding_all exact fn_sound (f:=F_Tree_remove) Z 6 rfl tab_nil
theorem s_above:FnOK (z.on 1 []) 450 f_above:=by with_unfolding_all exact fn_sound (f:=F_above) Z 7 rfl tab_nil
theorem s_Tree_insert:FnOK (z.on 2 []) 387 f_Tree_insert:=by with_unfolding_all exact fn_sound (f:=F_Tree_insert) Z 8 rfl (tab_cons (s_Tree_remove Z) (tab_cons (s_above Z) tab_nil rfl) rfl)
theorem s_Tree_append:FnOK (z.on 3 []) 394 f_Tree_append:=by with_unfolding_all exact fn_sound (f:=F_Tree_append) Z 9 rfl (tab_cons (s_Tree_insert Z) tab_nil rfl)
theorem s_Tree_add:FnOK (z.on 1 []) 349 f_Tree_add:=by with_unfolding_all exact fn_sound (f:=F_Tree_add) Z 10 rfl tab_nil
theorem s_Tree_element:FnOK (z.on 2 []) 358 f_Tree_element:=by with_unfolding_all exact fn_sound (f:=F_Tree_element) Z 11 rfl (tab_cons (s_Tree_add Z) tab_nil rfl)
theorem s__law_open:FnOK (z.on 4 []) 822 f__law_open:=by with_unfolding_all exact fn_sound (f:=F__law_open) Z 12 rfl (tab_cons (s_OpenStack_current Z) (tab_cons (s_OpenStack_push Z) (tab_cons (s_Tree_append Z) (tab_cons (s_Tree_element Z) tab_nil rfl) rfl) rfl) rfl)
theorem s__law_raws:FnOK (z.on 1 []) 775 f__law_raws:=by with_unfolding_all exact fn_sound (f:=F__law_raws) Z 13 rfl tab_nil
theorem s__law_body:FnOK (z.on 5 []) 836 f__law_body:=by with_unfolding_all exact fn_sound (f:=F__law_body) Z 14 rfl (tab_cons (s_Builder_to Z) (tab_cons (s__law_leave Z) (tab_cons (s__law_open Z) (tab_cons (s__law_raws Z) tab_nil rfl) rfl) rfl) rfl)
theorem s_Builder_adjusted:FnOK (z.on 2 []) 507 f_Builder_adjusted:=by with_unfolding_all exact fn_sound (f:=F_Builder_adjusted) Z 15 rfl (tab_cons (s_OpenStack_current Z) (tab_cons (s_OpenStack_many Z) tab_nil rfl) rfl)
theorem s__law_foreign:FnOK (z.on 5 []) 850 f__law_foreign:=by with_unfolding_all exact fn_sound (f:=F__law_foreign) Z 16 rfl (tab_cons (s_Builder_adjusted Z) (tab_cons (s__law_leave Z) (tab_cons (s__law_open Z) tab_nil rfl) rfl) rfl)
theorem s_Builder_use:FnOK (z.on 6 []) 486 f_Builder_use:=by with_unfolding_all exact fn_sound (f:=F_Builder_use) Z 17 rfl (tab_cons (s__law_body Z) (tab_cons (s__law_foreign Z) tab_nil rfl) rfl)
theorem s_Builder_is_foreign:FnOK (z.on 3 []) 514 f_Builder_is_foreign:=by with_unfolding_all exact fn_sound (f:=F_Builder_is_foreign) Z 18 rfl (tab_cons (s_Builder_adjusted Z) tab_nil rfl)
theorem s_is_html_point:FnOK (z.on 1 []) 221 f_is_html_point:=by with_unfolding_all exact fn_sound (f:=F_is_html_point) Z 19 rfl tab_nil
theorem s_is_math_point:FnOK (z.on 1 []) 214 f_is_math_point:=by with_unfolding_all exact fn_sound (f:=F_is_math_point) Z 20 rfl tab_nil
theorem s_is_html_turn:FnOK (z.on 4 []) 528 f_is_html_turn:=by with_unfolding_all exact fn_sound (f:=F_is_html_turn) Z 21 rfl (tab_cons (s_Builder_adjusted Z) (tab_cons (s_Builder_is_foreign Z) (tab_cons (s_is_html_point Z) (tab_cons (s_is_math_point Z) tab_nil rfl) rfl) rfl) rfl)
theorem s_Builder_process:FnOK (z.on 7 []) 493 f_Builder_process:=by with_unfolding_all exact fn_sound (f:=F_Builder_process) Z 22 rfl (tab_cons (s_Builder_use Z) (tab_cons (s_is_html_turn Z) tab_nil rfl) rfl)
theorem s__law_inner:FnOK (z.on 8 []) 843 f__law_inner:=by with_unfolding_all exact fn_sound (f:=F__law_inner) Z 23 rfl (tab_cons (s_Builder_process Z) (tab_cons (s_Builder_to Z) (tab_cons (s_OpenStack_pop Z) tab_nil rfl) rfl) rfl)
theorem s_Builder_use1:FnOK (z.on 9 []) 486 f_Builder_use1:=by with_unfolding_all exact fn_sound (f:=F_Builder_use) Z 17 rfl (tab_cons (s__law_body Z) (tab_cons (s__law_foreign Z) (tab_cons (s__law_inner Z) tab_nil rfl) rfl) rfl)
theorem s_Builder_process1:FnOK (z.on 10 []) 493 f_Builder_process1:=by with_unfolding_all exact fn_sound (f:=F_Builder_process) Z 22 rfl (tab_cons (s_Builder_use1 Z) (tab_cons (s_is_html_turn Z) tab_nil rfl) rfl)
theorem s_Builder_feed:FnOK (z.on 11 []) 500 f_Builder_feed:=by with_unfolding_all exact fn_sound (f:=F_Builder_feed) Z 24 rfl (tab_cons (s_Builder_process1 Z) tab_nil rfl)
theorem s_Tokenizer_to:FnOK (z.on 1 []) 627 f_Tokenizer_to:=by with_unfolding_all exact fn_sound (f:=F_Tokenizer_to) Z 25 rfl tab_nil
theorem s_hand_over:FnOK (z.on 12 []) 28 f_hand_over:=by with_unfolding_all exact fn_sound (f:=F_hand_over) Z 26 rfl (tab_cons (s_Builder_feed Z) (tab_cons (s_Builder_is_foreign Z) (tab_cons (s_Tokenizer_to Z) tab_nil rfl) rfl) rfl)
theorem s_Tokenizer_is_ready:FnOK (z.on 1 []) 733 f_Tokenizer_is_ready:=by with_unfolding_all exact fn_sound (f:=F_Tokenizer_is_ready) Z 27 rfl tab_nil
theorem s_Tokenizer_emit:FnOK (z.on 1 []) 648 f_Tokenizer_emit:=by with_unfolding_all exact fn_sound (f:=F_Tokenizer_emit) Z 28 rfl tab_nil
theorem s_Tokenizer_emit_eof:FnOK (z.on 1 []) 676 f_Tokenizer_emit_eof:=by with_unfolding_all exact fn_sound (f:=F_Tokenizer_emit_eof) Z 29 rfl tab_nil
theorem s_Tokenizer_emit_sign:FnOK (z.on 1 []) 655 f_Tokenizer_emit_sign:=by with_unfolding_all exact fn_sound (f:=F_Tokenizer_emit_sign) Z 30 rfl tab_nil
theorem s_Tokenizer_next:FnOK (z.on 1 []) 620 f_Tokenizer_next:=by with_unfolding_all exact fn_sound (f:=F_Tokenizer_next) Z 31 rfl tab_nil
theorem s__law_held:FnOK (z.on 2 []) 815 f__law_held:=by with_unfolding_all exact fn_sound (f:=F__law_held) Z 32 rfl (tab_cons (s_Tokenizer_emit Z) (tab_cons (s_Tokenizer_emit_eof Z) (tab_cons (s_Tokenizer_emit_sign Z) (tab_cons (s_Tokenizer_next Z) (tab_cons (s_Tokenizer_to Z) tab_nil rfl) rfl) rfl) rfl) rfl)
theorem s_Tokenizer_again:FnOK (z.on 1 []) 634 f_Tokenizer_again:=by with_unfolding_all exact fn_sound (f:=F_Tokenizer_again) Z 33 rfl tab_nil
theorem s_Tokenizer_emit_text:FnOK (z.on 1 []) 662 f_Tokenizer_emit_text:=by with_unfolding_all exact fn_sound (f:=F_Tokenizer_emit_text) Z 34 rfl tab_nil
theorem s__law_reference:FnOK (z.on 2 []) 808 f__law_reference:=by with_unfolding_all exact fn_sound (f:=F__law_reference) Z 35 rfl (tab_cons (s_Tokenizer_again Z) (tab_cons (s_Tokenizer_emit_sign Z) (tab_cons (s_Tokenizer_emit_text Z) (tab_cons (s_Tokenizer_next Z) (tab_cons (s_Tokenizer_to Z) tab_nil rfl) rfl) rfl) rfl) rfl)
theorem s_Tokenizer_error:FnOK (z.on 1 []) 641 f_Tokenizer_error:=by with_unfolding_all exact fn_sound (f:=F_Tokenizer_error) Z 36 rfl tab_nil
theorem s_Tokenizer_looks:FnOK (z.on 1 []) 691 f_Tokenizer_looks:=by with_unfolding_all exact fn_sound (f:=F_Tokenizer_looks) Z 37 rfl tab_nil
theorem s_Tokenizer_take:FnOK (z.on 1 []) 698 f_Tokenizer_take:=by with_unfolding_all exact fn_sound (f:=F_Tokenizer_take) Z 38 rfl tab_nil
theorem s_Tokenizer_wait:FnOK (z.on 1 []) 705 f_Tokenizer_wait:=by with_unfolding_all exact fn_sound (f:=F_Tokenizer_wait) Z 39 rfl tab_nil
theorem s__law_ends:FnOK (z.on 1 []) 768 f__law_ends:=by with_unfolding_all exact fn_sound (f:=F__law_ends) Z 40 rfl tab_nil
theorem s__law_names:FnOK (z.on 1 []) 761 f__law_names:=by with_unfolding_all exact fn_sound (f:=F__law_names) Z 41 rfl tab_nil
theorem s__law_tag_open:FnOK (z.on 2 []) 801 f__law_tag_open:=by with_unfolding_all exact fn_sound (f:=F__law_tag_open) Z 42 rfl (tab_cons (s_Tokenizer_again Z) (tab_cons (s_Tokenizer_emit Z) (tab_cons (s_Tokenizer_emit_sign Z) (tab_cons (s_Tokenizer_emit_text Z) (tab_cons (s_Tokenizer_error Z) (tab_cons (s_Tokenizer_looks Z) (tab_cons (s_Tokenizer_next Z) (tab_cons (s_Tokenizer_take Z) (tab_cons (s_Tokenizer_to Z) (tab_cons (s_Tokenizer_wait Z) (tab_cons (s__law_ends Z) (tab_cons (s__law_names Z) tab_nil rfl) rfl) rfl) rfl) rfl) rfl) rfl) rfl) rfl) rfl) rfl) rfl)
theorem s_data_state:FnOK (z.on 2 []) 535 f_data_state:=by with_unfolding_all exact fn_sound (f:=F_data_state) Z 43 rfl (tab_cons (s_Tokenizer_emit_eof Z) (tab_cons (s_Tokenizer_emit_sign Z) (tab_cons (s_Tokenizer_error Z) (tab_cons (s_Tokenizer_next Z) (tab_cons (s_Tokenizer_to Z) tab_nil rfl) rfl) rfl) rfl) rfl)
theorem s_Tokenizer_step:FnOK (z.on 3 []) 726 f_Tokenizer_step:=by with_unfolding_all exact fn_sound (f:=F_Tokenizer_step) Z 44 rfl (tab_cons (s__law_held Z) (tab_cons (s__law_reference Z) (tab_cons (s__law_tag_open Z) (tab_cons (s_data_state Z) tab_nil rfl) rfl) rfl) rfl)
theorem s_drive:FnOK (z.on 13 []) 35 f_drive:=by with_unfolding_all exact fn_sound (f:=F_drive) Z 45 rfl (tab_cons (s_Builder_is_foreign Z) (tab_cons (s_Tokenizer_is_ready Z) (tab_cons (s_Tokenizer_step Z) (tab_cons (s_hand_over Z) tab_nil rfl) rfl) rfl) rfl)
theorem s_start_state:FnOK (z.on 1 []) 42 f_start_state:=by with_unfolding_all exact fn_sound (f:=F_start_state) Z 46 rfl tab_nil
theorem s_is_surrogate:FnOK (z.on 1 []) 193 f_is_surrogate:=by with_unfolding_all exact fn_sound (f:=F_is_surrogate) Z 47 rfl tab_nil
theorem s_is_noncharacter:FnOK (z.on 1 []) 200 f_is_noncharacter:=by with_unfolding_all exact fn_sound (f:=F_is_noncharacter) Z 48 rfl tab_nil
theorem s_is_control:FnOK (z.on 1 []) 207 f_is_control:=by with_unfolding_all exact fn_sound (f:=F_is_control) Z 49 rfl tab_nil
theorem s_input_error:FnOK (z.on 2 []) 542 f_input_error:=by with_unfolding_all exact fn_sound (f:=F_input_error) Z 50 rfl (tab_cons (s_is_control Z) (tab_cons (s_is_noncharacter Z) (tab_cons (s_is_surrogate Z) tab_nil rfl) rfl) rfl)
theorem s__law_digit:FnOK (z.on 1 []) 754 f__law_digit:=by with_unfolding_all exact fn_sound (f:=F__law_digit) Z 51 rfl tab_nil
theorem s__law_spots:FnOK (z.on 1 []) 782 f__law_spots:=by with_unfolding_all exact fn_sound (f:=F__law_spots) Z 52 rfl tab_nil
theorem s__law_kind:FnOK (z.on 1 []) 787 f__law_kind:=by with_unfolding_all exact fn_sound (f:=F__law_kind) Z 53 rfl tab_nil
theorem s__law_text:FnOK (z.on 2 []) 794 f__law_text:=by with_unfolding_all exact fn_sound (f:=F__law_text) Z 54 rfl (tab_cons (s__law_digit Z) tab_nil rfl)
theorem c_Formatting_init:CFn z 1 88 f_Formatting_init:=by with_unfolding_all exact code_sound (f:=F_Formatting_init) Z 55 rfl tab_nil
theorem c_OpenStack_init:CFn z 1 235 f_OpenStack_init:=by with_unfolding_all exact code_sound (f:=F_OpenStack_init) Z 56 rfl tab_nil
theorem c_Tree_init:CFn z 2 340 f_Tree_init:=by with_unfolding_all exact code_sound (f:=F_Tree_init) Z 57 rfl (tab_cons (s_Tree_add Z) tab_nil rfl)
theorem c_Builder_init:CFn z 4 465 f_Builder_init:=by with_unfolding_all exact code_sound (f:=F_Builder_init) Z 58 rfl (tab_cons (new_sound Z (f:=88) rfl (c_Formatting_init Z)) (tab_cons (new_sound Z (f:=235) rfl (c_OpenStack_init Z)) (tab_cons (new_sound Z (f:=340) rfl (c_Tree_init Z)) tab_nil rfl) rfl) rfl)
theorem c_Stream_init:CFn z 1 556 f_Stream_init:=by with_unfolding_all exact code_sound (f:=F_Stream_init) Z 59 rfl tab_nil
theorem c_Tokenizer_init:CFn z 3 599 f_Tokenizer_init:=by with_unfolding_all exact code_sound (f:=F_Tokenizer_init) Z 60 rfl (tab_cons (new_sound Z (f:=556) rfl (c_Stream_init Z)) tab_nil rfl)
theorem s__law_begin:FnOK (z.on 6 []) 857 f__law_begin:=by with_unfolding_all exact fn_sound (f:=F__law_begin) Z 61 rfl (tab_cons (new_sound Z (f:=465) rfl (c_Builder_init Z)) (tab_cons (s_Builder_to Z) (tab_cons (s_OpenStack_push Z) (tab_cons (new_sound Z (f:=599) rfl (c_Tokenizer_init Z)) (tab_cons (s_Tree_append Z) (tab_cons (s_Tree_element Z) tab_nil rfl) rfl) rfl) rfl) rfl) rfl)
theorem s__law_seen:FnOK (z.on 1 []) 862 f__law_seen:=by with_unfolding_all exact fn_sound (f:=F__law_seen) Z 62 rfl tab_nil
theorem s__law_is_turn:FnOK (z.on 1 []) 869 f__law_is_turn:=by with_unfolding_all exact fn_sound (f:=F__law_is_turn) Z 63 rfl tab_nil
theorem s__law_told:FnOK (z.on 2 []) 876 f__law_told:=by with_unfolding_all exact fn_sound (f:=F__law_told) Z 64 rfl (tab_cons (s__law_ends Z) (tab_cons (s__law_names Z) tab_nil rfl) rfl)
theorem s__law_section:FnOK (z.on 1 []) 883 f__law_section:=by with_unfolding_all exact fn_sound (f:=F__law_section) Z 65 rfl tab_nil
theorem s__law_due:FnOK (z.on 3 []) 888 f__law_due:=by with_unfolding_all exact fn_sound (f:=F__law_due) Z 66 rfl (tab_cons (s__law_is_turn Z) (tab_cons (s__law_raws Z) (tab_cons (s__law_section Z) (tab_cons (s__law_told Z) tab_nil rfl) rfl) rfl) rfl)
theorem s_Stream_end:FnOK (z.on 1 []) 570 f_Stream_end:=by with_unfolding_all exact fn_sound (f:=F_Stream_end) Z 67 rfl tab_nil
theorem s_Tokenizer_end:FnOK (z.on 2 []) 613 f_Tokenizer_end:=by with_unfolding_all exact fn_sound (f:=F_Tokenizer_end) Z 68 rfl (tab_cons (s_Stream_end Z) tab_nil rfl)
theorem s_Stream_feed:FnOK (z.on 3 []) 563 f_Stream_feed:=by with_unfolding_all exact fn_sound (f:=F_Stream_feed) Z 69 rfl (tab_cons (s_input_error Z) tab_nil rfl)
theorem s_Tokenizer_feed:FnOK (z.on 4 []) 606 f_Tokenizer_feed:=by with_unfolding_all exact fn_sound (f:=F_Tokenizer_feed) Z 70 rfl (tab_cons (s_Stream_feed Z) tab_nil rfl)
theorem t_law:TabOK z 13 [(613,f_Tokenizer_end),(606,f_Tokenizer_feed),(857,f__law_begin),(754,f__law_digit),(888,f__law_due),(787,f__law_kind),(862,f__law_seen),(782,f__law_spots),(794,f__law_text),(35,f_drive),(42,f_start_state)]:=(tab_cons (s_Tokenizer_end Z) (tab_cons (s_Tokenizer_feed Z) (tab_cons (s__law_begin Z) (tab_cons (s__law_digit Z) (tab_cons (s__law_due Z) (tab_cons (s__law_kind Z) (tab_cons (s__law_seen Z) (tab_cons (s__law_spots Z) (tab_cons (s__law_text Z) (tab_cons (s_drive Z) (tab_cons (s_start_state Z) tab_nil rfl) rfl) rfl) rfl) rfl) rfl) rfl) rfl) rfl) rfl) rfl)
end
end
section
noncomputable def PlainLaw:Prop:=∀ ns:List Int,ns.length ≤ 63 → ∀ K:EK,(∀ st,K (.d (.bool true)) st) → f_law [.d (.list (ns.map .int))] ⟨[],0,0⟩ K
noncomputable def G0 (h:Heap):Gh:={ fz:=h.get?,own:=fun _ => none,ad:=fun _ => 0,dx:=fun _ => 0,nx:=0 }
theorem rep0 {P:Params} {h:Heap} (ht:∃ o,h.get? 3 = some o):Rep P h (G0 h) h ⟨[],0,0⟩ :=
 ⟨fun _ _ e => e,fun a o e => ⟨e,rfl⟩,rfl,fun n ob e => n0 e,fun a e => n0 e,fun a w e => n0 e,fun a w e => n0 e,ht⟩
structure HF (K:Frag):Prop where
 f:KF K
 c:FL.all (fun f => fnChk K f.a f.ps f.ds f.b) = true
 one:oneLoc K 893 178 = true
 top:(K.lookup 3).isSome = true
theorem law_call {prog:Program} {w:World} {A:Around} {s:Shared} {K:Frag} (H:HF K) (KX:K.In s.heap) (g:∃ mg,s.heap.Ns mainGlobals mg) (b:∃ mb,s.heap.Ns builtinsNs mb ∧ ∀ x:Str,x ≠ "__name__" → mb x = bootBuiltins x) (NL:s.heap.NoLimit) (hR:Rm 14 A) {l:Addr} {vs:List Value} {ns:List Int} {k:Nat}
  (hl:s.heap.get? l = some (listOf vs.toArray k)) (hv:All2 (DR s.heap.get?) vs (ns.map .int)) (hn:ns.length ≤ 63) (PL:PlainLaw) :
  wpAny (model prog w) A (call (.ref 893) [.ref l]) (fun v s' => v = .bool true ∧ (∃ h' tk,s' = { s with heap:=h',toks:=tk }) ∧ ∀ b o,s.heap.get? b = some o → s'.heap.get? b = some o) nope s :=
 have Z:ZZ ⟨prog,w,s.heap,K,0,[]⟩ FL:=⟨KX,H.f,g,b,NL,H.c⟩
 have t:=Z.zok (t_law Z)
 have r:=rep0 (P:=w.params) ((Option.isSome_iff_exists.mp H.top).elim fun o e => ⟨o,KX 3 o e⟩)
 wpAny_call (codeAny_mono (code_core (x:=⟨G0 s.heap,s⟩) (K:=fun v _ => v = .d (.bool true)) (Q:=fun v s' => v = .bool true ∧ (∃ h' tk,s' = { s with heap:=h',toks:=tk }) ∧ ∀ b o,s.heap.get? b = some o → s'.heap.get? b = some o) t NL (Z.chk 71 (f:=F_law) rfl) hR (.inr ⟨178,_,rfl,rfl,H.one⟩) r
  (.cons (.d (.list hl hv)) .nil) (by have h:=PL ns hn (fun v _ => v = .d (.bool true)) fun _ => rfl;unfold f_law at h;rw [opq_eq] at h;exact h)
  fun v av y st' X R V e => bool_e (C:=fun v => v = .bool true ∧ (∃ h' tk,y.s = { s with heap:=h',toks:=tk }) ∧ ∀ b o,s.heap.get? b = some o → y.s.heap.get? b = some o) V (k:=fun b => b = true) (e ▸ rfl) fun b e => ⟨e ▸ rfl,⟨_,_,X.eq⟩,fun b o q => X.ext.keep b o q rfl id⟩) fun q s' p => by
   cases q with
   | error _ => exact p.elim
   | ok f => cases f with
    | ret _ => exact p
    | next => exact p.elim
    | brk => exact p.elim
    | cont => exact p.elim)
end
section
set_option maxRecDepth 100000
set_option maxHeartbeats 2000000
theorem w_words_WL4:True:=by
 k_with_none
 k_with "nd" => first | (with_reducible exact nd_ix) | (with_reducible exact nd_out) | (with_reducible exact nd_errs) | (with_reducible exact nd_state) | (with_reducible exact nd_back) | (with_reducible exact nd_last) | (with_reducible exact nd_wait) | (with_reducible exact nd_done) | (with_reducible exact nd_frn) | (with_reducible exact nd_notes) | (with_reducible exact nd_wish) | (with_reducible exact nd_mode) | (with_reducible exact nd_orig) | (with_reducible exact nd_bdone) | (with_reducible exact nd_skip) | (with_reducible exact nd_ack) | (with_reducible exact nd_its) | (with_reducible exact nd_popIts) | (with_reducible exact nd_jb) | (with_reducible exact nd_setPa) | (with_reducible exact nd_pa) | (with_reducible exact nd_nms) | (with_reducible exact nd_sp) | (with_reducible exact nd_kinds) | (with_reducible exact nd_attrs) | (with_reducible exact nd_texts) | (with_reducible exact nd_nC) | (with_reducible exact nd_signs) | (with_reducible exact nd_serrs) | (with_reducible exact nd_closed) | (with_reducible exact nd_ret) | (with_reducible exact nd_ctx)
 k_with "c" => first | (with_reducible assumption) | assumption | (exact decide_eq_true (by assumption)) | (exact tup0) | (exact tup1) | (exact idx_ok (by assumption)) | (exact rfl) | (decide +kernel)
 k_with "lay" => first | assumption | exact memOK_i (by first | assumption | rfl | decide +kernel) (by first | assumption | decide +kernel) (by first | rfl | decide +kernel)
 k_with "zsum" => assumption
 k_with "zs" => first | (refine' nd_x ?e_ ?_;(case e_ => walk_at "nd")) | (refine ifc_t ?e_ ?_;(case e_ => with_reducible assumption)) | (refine ifc_f ?e_ ?_;(case e_ => with_reducible assumption)) | (refine' opt_i ?e_ ?_;(case e_ => with_reducible assumption)) | (refine ifc_t ?e_ ?_;(case e_ => walk_at "c")) | (refine ifc_f ?e_ ?_;(case e_ => walk_at "c")) | (refine' opt_i ?e_ ?_;(case e_ => walk_at "c")) | (refine' Does.go ?e_ ?_;(case e_ => walk_at "zsum")) | (refine And.intro (fun _ => True.intro) ?_) | (refine' lay_i ?o_ ?_;(case o_ => walk_at "lay"))
 k_with "zfn" => (intro K hK;refine run_q (by with_unfolding_all rfl) rfl ?_;(repeat walk_at "zs");exact hK)
 trivial
section
variable {s:S}
theorem q_next (hl:s.signs.length ≤ bigLen) (hlt:decide (s.ix < (s.signs.length:Int)) = true) {c:PyData} (hc:pyIdx s.signs s.ix = some c) (hn:-(2 ^ 62) < s.ix ∧ s.ix < 2 ^ 62) :
  Does f_Tokenizer_next [.loc 19] (mk s) (.d c) (mk (s.ix_ (s.ix + 1))):=by
 walk_at "zfn"
theorem q_nextE (hl:s.signs.length ≤ bigLen) (hlt:decide (s.ix < (s.signs.length:Int)) = false) :
  Does f_Tokenizer_next [.loc 19] (mk s) (.d (.str "")) (mk (s.ix_ (s.ix + 1))):=by
 walk_at "zfn"
theorem q_to {x:Str}:Does f_Tokenizer_to [.loc 19,.d (.str x)] (mk s) (.d .none) (mk (s.state_ x)):=by
 walk_at "zfn"
theorem q_again {x:Str}:Does f_Tokenizer_again [.loc 19,.d (.str x)] (mk s) (.d .none) (mk ((s.ix_ (s.ix - 1)).state_ x)):=by
 walk_at "zfn"
theorem q_error {x:Str} (hz:s.errs.length < bigLen):Does f_Tokenizer_error [.loc 19,.d (.str x)] (mk s) (.d .none) (mk (s.errs_ (s.errs ++ [.tuple [.str x,.int (s.ix - 1)]]))):=by
 walk_at "zfn"
theorem q_sign {x:Str} (hz:s.out.length < bigLen):Does f_Tokenizer_emit_sign [.loc 19,.d (.str x)] (mk s) (.d .none) (mk (s.out_ (s.out ++ [.tuple [.str "char",.str x]]))):=by
 walk_at "zfn"
theorem q_emit {k:Str} {ds:List PyData} (hk:(k == "start") = false) (hz:s.out.length < bigLen):Does f_Tokenizer_emit [.loc 19,.d (.tuple (.str k :: ds))] (mk s) (.d .none) (mk (s.out_ (s.out ++ [.tuple (.str k :: ds)]))):=by
 walk_at "zfn"
theorem q_emitS {x:Str} {ds:List PyData} (hz:s.out.length < bigLen):Does f_Tokenizer_emit [.loc 19,.d (.tuple (.str "start" :: .str x :: ds))] (mk s) (.d .none) (mk ((s.last_ x).out_ (s.out ++ [.tuple (.str "start" :: .str x :: ds)]))):=by
 walk_at "zfn"
theorem q_eof (hz:s.out.length < bigLen):Does f_Tokenizer_emit_eof [.loc 19] (mk s) (.d .none) (mk ((s.out_ (s.out ++ [.tuple [.str "eof"]])).done_ true)):=by
 walk_at "zfn"
theorem q_take {n:Int}:Does f_Tokenizer_take [.loc 19,.d (.int n)] (mk s) (.d .none) (mk (s.ix_ (s.ix + n))):=by
 walk_at "zfn"
theorem q_wait:Does f_Tokenizer_wait [.loc 19] (mk s) (.d .none) (mk (s.wait_ true)):=by
 walk_at "zfn"
end
end
section
set_option maxRecDepth 100000
set_option maxHeartbeats 2000000
section
variable {s:S}
theorem q_ready0 (h:s.done = true):Does f_Tokenizer_is_ready [.loc 19] (mk s) (.d (.bool false)) (mk s):=by
 walk_at "zfn"
theorem q_ready1 (h:s.done = false) (h2:s.wait = true):Does f_Tokenizer_is_ready [.loc 19] (mk s) (.d (.bool false)) (mk s):=by
 walk_at "zfn"
theorem q_ready2 (h:s.done = false) (h2:s.wait = false) (h3:(!(statesT.lookup s.state).isSome) = false) (h4:s.closed = true):Does f_Tokenizer_is_ready [.loc 19] (mk s) (.d (.bool true)) (mk s):=by
 walk_at "zfn"
theorem q_ready3 (h:s.done = false) (h2:s.wait = false) (h3:(!(statesT.lookup s.state).isSome) = false) (h4:s.closed = false) (hl:s.signs.length ≤ bigLen) {p:Bool} (h5:decide (s.ix < (s.signs.length:Int)) = p):Does f_Tokenizer_is_ready [.loc 19] (mk s) (.d (.bool p)) (mk s):=by
 cases p <;> walk_at "zfn"
theorem q_text (hz:s.out.length + 1 < bigLen):Does f_Tokenizer_emit_text [.loc 19,.d (.str "[]")] (mk s) (.d .none) (mk (s.out_ (s.out ++ [.tuple [.str "char",.str "["]] ++ [.tuple [.str "char",.str "]"]]))):=by
 have h1:s.out.length < bigLen:=by omega
 have h2:(s.out ++ [PyData.tuple [.str "char",.str "["]]).length < bigLen:=by rw [List.length_append];exact hz
 walk_at "zfn"
section
variable (hl:s.signs.length ≤ bigLen)
include hl
theorem lo_cl (h:decide ((s.signs.length:Int) ≤ s.ix + 0) = true) (hc:s.closed = true):Does f_Tokenizer_looks [.loc 19,.d (.str "[")] (mk s) (.d (.int 0)) (mk s):=by
 walk_at "zfn"
theorem lo_op (h:decide ((s.signs.length:Int) ≤ s.ix + 0) = true) (hc:s.closed = false):Does f_Tokenizer_looks [.loc 19,.d (.str "[")] (mk s) (.d (.int (-1))) (mk s):=by
 walk_at "zfn"
variable {d:Str} (h:decide ((s.signs.length:Int) ≤ s.ix + 0) = false) (hd:pyIdx s.signs (s.ix + 0) = some (.str d)) (hn:-(2 ^ 62) < s.ix + 0 ∧ s.ix + 0 < 2 ^ 62)
include h hd hn
theorem lo_ne (h1:(d != "[") = true):Does f_Tokenizer_looks [.loc 19,.d (.str "[")] (mk s) (.d (.int 0)) (mk s):=by
 walk_at "zfn"
theorem lo_eq (h1:d = "["):Does f_Tokenizer_looks [.loc 19,.d (.str "[")] (mk s) (.d (.int 1)) (mk s):=by
 subst h1
 walk_at "zfn"
end
noncomputable def namesD:List (Str × AV):=[("v",.d (.str "svg")),("f",.d (.str "foreignObject")),("d",.d (.str "div")),("t",.d (.str "title")),("c",.d (.str "script")),("s",.d (.str "style")),("p",.d (.str "plaintext")),("g",.d (.str "g"))]
noncomputable def endsD:List (Str × AV):=[("V",.d (.str "svg")),("F",.d (.str "foreignObject")),("D",.d (.str "div")),("T",.d (.str "title")),("S",.d (.str "style")),("G",.d (.str "g"))]
noncomputable def rawsD:List (Str × AV):=[("title",.d (.str "RCDATA")),("style",.d (.str "RAWTEXT")),("script",.d (.str "script data")),("plaintext",.d (.str "PLAINTEXT"))]
theorem q_names {st:St}:Does f__law_names [] st (.fd namesD) st:=by walk_at "zfn"
theorem q_ends {st:St}:Does f__law_ends [] st (.fd endsD) st:=by walk_at "zfn"
theorem q_raws {st:St}:Does f__law_raws [] st (.fd rawsD) st:=by walk_at "zfn"
theorem zw_WL5_1:True:=by
 k_with "zsum" => first | (with_reducible assumption) | (with_reducible exact q_names) | (with_reducible exact q_ends) | (with_reducible exact q_raws) | ((with_reducible refine' q_text ?z1);(case z1 => walk_at "c")) | ((with_reducible refine' q_next ?z1 ?z2 ?z3 ?z4);(case z2 => walk_at "c");(case z1 => walk_at "c");(case z3 => walk_at "c");(case z4 => walk_at "c")) | ((with_reducible refine' q_nextE ?z1 ?z2);(case z2 => walk_at "c");(case z1 => walk_at "c")) | (with_reducible exact q_to) | (with_reducible exact q_again) | ((with_reducible refine' q_sign ?z1);(case z1 => walk_at "c")) | ((with_reducible refine' q_emitS ?z1);(case z1 => walk_at "c")) | ((with_reducible refine' q_emit ?z1 ?z2);(case z1 => walk_at "c");(case z2 => walk_at "c")) | ((with_reducible refine' q_eof ?z1);(case z1 => walk_at "c")) | (with_reducible exact q_take) | (with_reducible exact q_wait) | ((with_reducible refine' q_error ?z1);(case z1 => walk_at "c"))
 trivial
noncomputable abbrev stepT:Tab:=[(815,f__law_held),(808,f__law_reference),(801,f__law_tag_open),(535,f_data_state)]
theorem states_fn {q:Str} {f:Nat} (h:statesT.lookup q = some (.fn f)):(stepT.lookup f).isSome = true:=lk_all (p:=onF true fun a => (stepT.lookup a).isSome) (by decide +kernel) h
theorem q_step {f:Nat} {v:AV} {s':S} (hk:statesT.lookup s.state = some (.fn f)) (h:Does (Tab.at stepT f) [.loc 19] (mk (s.wait_ false)) v (mk s')) (hw:s'.wait = false) :
  Does f_Tokenizer_step [.loc 19] (mk s) (.d .none) (mk s'):=by
 have h1:(!(statesT.lookup s.state).isSome) = false:=by rw [hk];rfl
 have h2:=states_fn hk
 walk_at "zfn"
theorem q_stepW {f:Nat} {v:AV} {s':S} (hk:statesT.lookup s.state = some (.fn f)) (h:Does (Tab.at stepT f) [.loc 19] (mk (s.wait_ false)) v (mk s')) (hw:s'.wait = true) :
  Does f_Tokenizer_step [.loc 19] (mk s) (.d .none) (mk (s'.ix_ s.ix)):=by
 have h1:(!(statesT.lookup s.state).isSome) = false:=by rw [hk];rfl
 have h2:=states_fn hk
 walk_at "zfn"
section
variable {c:Str} (hl:s.signs.length ≤ bigLen) (hlt:decide (s.ix < (s.signs.length:Int)) = true) (hc:pyIdx s.signs s.ix = some (.str c)) (hn:-(2 ^ 62) < s.ix ∧ s.ix < 2 ^ 62) (ho:s.out.length < bigLen) (he:s.errs.length < bigLen)
include hl hlt hc hn ho he
theorem da_amp (h:c = "&"):Does f_data_state [.loc 19] (mk s) (.d .none) (mk (((s.ix_ (s.ix + 1)).back_ "data").state_ "character reference")):=by
 subst h;walk_at "zfn"
theorem da_lt (h:c = "<"):Does f_data_state [.loc 19] (mk s) (.d .none) (mk ((s.ix_ (s.ix + 1)).state_ "tag open")):=by
 subst h;walk_at "zfn"
theorem da_nul (h:c = "\x00"):Does f_data_state [.loc 19] (mk s) (.d .none) (mk (((s.ix_ (s.ix + 1)).errs_ (s.errs ++ [.tuple [.str "unexpected-null-character",.int (s.ix + 1 - 1)]])).out_ (s.out ++ [.tuple [.str "char",.str c]]))):=by
 subst h;walk_at "zfn"
theorem da_chr (h0:(c == "") = false) (h1:(c == "&") = false) (h2:(c == "<") = false) (h3:(c == "\x00") = false):Does f_data_state [.loc 19] (mk s) (.d .none) (mk ((s.ix_ (s.ix + 1)).out_ (s.out ++ [.tuple [.str "char",.str c]]))):=by
 walk_at "zfn"
theorem re_star (h:c = "*") (ho2:s.out.length + 1 < bigLen):Does f__law_reference [.loc 19] (mk s) (.d .none) (mk (((s.ix_ (s.ix + 1)).out_ (s.out ++ [.tuple [.str "char",.str "["]] ++ [.tuple [.str "char",.str "]"]])).state_ s.back)):=by
 subst h
 have h1:((s.ix_ (s.ix + 1)):S).out.length + 1 < bigLen:=ho2
 walk_at "zfn"
theorem re_else (h:(c == "*") = false):Does f__law_reference [.loc 19] (mk s) (.d .none) (mk (((s.ix_ (s.ix + 1 - 1)).out_ (s.out ++ [.tuple [.str "char",.str "&"]])).state_ s.back)):=by
 walk_at "zfn"
theorem he_amp (h:c = "&") (hs:(s.state == "RCDATA") = true):Does f__law_held [.loc 19] (mk s) (.d .none) (mk (((s.ix_ (s.ix + 1)).back_ "RCDATA").state_ "character reference")):=by
 subst h;walk_at "zfn"
theorem he_sol (h:c = "/") (h1:(s.last != "") = true) (h2:(s.state != "PLAINTEXT") = true):Does f__law_held [.loc 19] (mk s) (.d .none) (mk (((s.ix_ (s.ix + 1)).state_ "data").out_ (s.out ++ [.tuple [.str "end",.str s.last,.tuple [],.bool false]]))):=by
 subst h;walk_at "zfn"
theorem he_chr (h0:(c == "") = false) (h1:(c == "&") = false) (h2:(c == "/") = false):Does f__law_held [.loc 19] (mk s) (.d .none) (mk ((s.ix_ (s.ix + 1)).out_ (s.out ++ [.tuple [.str "char",.str c]]))):=by
 walk_at "zfn"
theorem he_ampc (h:c = "&") (hs:(s.state == "RCDATA") = false):Does f__law_held [.loc 19] (mk s) (.d .none) (mk ((s.ix_ (s.ix + 1)).out_ (s.out ++ [.tuple [.str "char",.str c]]))):=by
 subst h;walk_at "zfn"
theorem he_solL (h:c = "/") (h1:(s.last != "") = false):Does f__law_held [.loc 19] (mk s) (.d .none) (mk ((s.ix_ (s.ix + 1)).out_ (s.out ++ [.tuple [.str "char",.str c]]))):=by
 subst h;walk_at "zfn"
theorem he_solP (h:c = "/") (h1:(s.last != "") = true) (h2:(s.state != "PLAINTEXT") = false):Does f__law_held [.loc 19] (mk s) (.d .none) (mk ((s.ix_ (s.ix + 1)).out_ (s.out ++ [.tuple [.str "char",.str c]]))):=by
 subst h;walk_at "zfn"
end
section
variable (hl:s.signs.length ≤ bigLen) (hlt:decide (s.ix < (s.signs.length:Int)) = false) (ho:s.out.length < bigLen)
include hl hlt ho
theorem da_end:Does f_data_state [.loc 19] (mk s) (.d .none) (mk (((s.ix_ (s.ix + 1)).out_ (s.out ++ [.tuple [.str "eof"]])).done_ true)):=by
 walk_at "zfn"
theorem he_end:Does f__law_held [.loc 19] (mk s) (.d .none) (mk (((s.ix_ (s.ix + 1)).out_ (s.out ++ [.tuple [.str "eof"]])).done_ true)):=by
 walk_at "zfn"
theorem re_end:Does f__law_reference [.loc 19] (mk s) (.d .none) (mk (((s.ix_ (s.ix + 1 - 1)).out_ (s.out ++ [.tuple [.str "char",.str "&"]])).state_ s.back)):=by
 walk_at "zfn"
end
section
variable {c:Str} (hl:s.signs.length ≤ bigLen) (hlt:decide (s.ix < (s.signs.length:Int)) = true) (hc:pyIdx s.signs s.ix = some (.str c)) (hn:-(2 ^ 62) < s.ix ∧ s.ix < 2 ^ 62) (ho:s.out.length + 1 < bigLen) (he:s.errs.length < bigLen)
include hl hlt hc hn ho he
theorem ta_name {n:Str} (h1:(c == "!") = false) (h2:namesD.lookup c = some (.d (.str n))):Does f__law_tag_open [.loc 19] (mk s) (.d .none) (mk ((((s.ix_ (s.ix + 1)).state_ "data").last_ n).out_ (s.out ++ [.tuple [.str "start",.str n,.tuple [],.bool false]]))):=by
 have h3:(namesD.lookup c).isSome = true:=by rw [h2];rfl
 have ho':s.out.length < bigLen:=by omega
 walk_at "zfn"
theorem ta_end {n:Str} (h1:(c == "!") = false) (h0:(namesD.lookup c).isSome = false) (h2:endsD.lookup c = some (.d (.str n))):Does f__law_tag_open [.loc 19] (mk s) (.d .none) (mk (((s.ix_ (s.ix + 1)).state_ "data").out_ (s.out ++ [.tuple [.str "end",.str n,.tuple [],.bool false]]))):=by
 have h3:(endsD.lookup c).isSome = true:=by rw [h2];rfl
 have ho':s.out.length < bigLen:=by omega
 walk_at "zfn"
theorem ta_else (h1:(c == "!") = false) (h0:(namesD.lookup c).isSome = false) (h2:(endsD.lookup c).isSome = false):Does f__law_tag_open [.loc 19] (mk s) (.d .none) (mk (((s.ix_ (s.ix + 1 - 1)).state_ "data").out_ (s.out ++ [.tuple [.str "char",.str "<"]]))):=by
 have ho':s.out.length < bigLen:=by omega
 walk_at "zfn"
theorem ta_wait (h:c = "!") (h1:decide ((s.signs.length:Int) ≤ s.ix + 1 + 0) = true) (h2:s.closed = false):Does f__law_tag_open [.loc 19] (mk s) (.d .none) (mk ((s.ix_ (s.ix + 1)).wait_ true)):=by
 subst h
 have k:=lo_op (s:=(s.ix_ (s.ix + 1))) hl h1 h2
 walk_at "zfn"
theorem ta_comC (h:c = "!") (h1:decide ((s.signs.length:Int) ≤ s.ix + 1 + 0) = true) (h2:s.closed = true):Does f__law_tag_open [.loc 19] (mk s) (.d .none) (mk (((s.ix_ (s.ix + 1)).state_ "data").out_ (s.out ++ [.tuple [.str "comment",.str ""]]))):=by
 subst h
 have ho':s.out.length < bigLen:=by omega
 have k:=lo_cl (s:=(s.ix_ (s.ix + 1))) hl h1 h2
 walk_at "zfn"
variable {d:Str} (hf:decide ((s.signs.length:Int) ≤ s.ix + 1 + 0) = false) (hd:pyIdx s.signs (s.ix + 1 + 0) = some (.str d)) (hn2:-(2 ^ 62) < s.ix + 1 + 0 ∧ s.ix + 1 + 0 < 2 ^ 62)
include hf hd hn2
theorem ta_com (h:c = "!") (h1:(d != "[") = true):Does f__law_tag_open [.loc 19] (mk s) (.d .none) (mk (((s.ix_ (s.ix + 1)).state_ "data").out_ (s.out ++ [.tuple [.str "comment",.str ""]]))):=by
 subst h
 have ho':s.out.length < bigLen:=by omega
 have k:=lo_ne (s:=(s.ix_ (s.ix + 1))) hl hf hd hn2 h1
 walk_at "zfn"
theorem ta_sec (h:c = "!") (h1:d = "[") (h2:s.frn = true):Does f__law_tag_open [.loc 19] (mk s) (.d .none) (mk (((s.ix_ (s.ix + 1 + 1)).state_ "data").out_ (s.out ++ [.tuple [.str "char",.str "["]] ++ [.tuple [.str "char",.str "]"]]))):=by
 subst h
 have k:=lo_eq (s:=(s.ix_ (s.ix + 1))) hl hf hd hn2 h1
 walk_at "zfn"
theorem ta_err (h:c = "!") (h1:d = "[") (h2:s.frn = false):Does f__law_tag_open [.loc 19] (mk s) (.d .none) (mk ((((s.ix_ (s.ix + 1 + 1)).state_ "data").errs_ (s.errs ++ [.tuple [.str "cdata-in-html-content",.int (s.ix + 1 + 1 - 1)]])).out_ (s.out ++ [.tuple [.str "comment",.str "[CDATA["]]))):=by
 subst h
 have ho':s.out.length < bigLen:=by omega
 have k:=lo_eq (s:=(s.ix_ (s.ix + 1))) hl hf hd hn2 h1
 walk_at "zfn"
end
theorem ta_eof (hl:s.signs.length ≤ bigLen) (hlt:decide (s.ix < (s.signs.length:Int)) = false) (ho:s.out.length < bigLen):Does f__law_tag_open [.loc 19] (mk s) (.d .none) (mk (((s.ix_ (s.ix + 1 - 1)).state_ "data").out_ (s.out ++ [.tuple [.str "char",.str "<"]]))):=by
 walk_at "zfn"
end
end
section
set_option maxRecDepth 100000
set_option maxHeartbeats 2000000
section
variable {s:S}
theorem its_facts {pre:List Int} {a:Int} (h:s.its = pre ++ [a]) (hz:s.its.length < 100000) :
  (s.its.map PyData.int).length ≤ bigLen ∧ (((s.its.map PyData.int).length:Int) == 0) = false ∧ pyIdx (s.its.map PyData.int) (((s.its.map PyData.int).length:Int) - 1) = some (.int a) ∧ (-(2 ^ 62) < ((s.its.map PyData.int).length:Int) - 1 ∧ ((s.its.map PyData.int).length:Int) - 1 < 2 ^ 62):=by
 rw [h] at hz
 rw [h]
 simp only [List.map_append,List.map_cons,List.map_nil,List.length_append,List.length_map,List.length_cons,List.length_nil] at hz ⊢
 refine ⟨by unfold bigLen;omega,by simp;omega,?_,by omega,by omega⟩
 have e:((pre.length + (0 + 1):Nat):Int) - 1 = (pre.length:Int):=by omega
 rw [e]
 exact pyIdx_pos (by simp)
theorem q_current {pre:List Int} {a:Int} (h:s.its = pre ++ [a]) (hz:s.its.length < 100000):Does f_OpenStack_current [.loc 10] (mk s) (.d (.int a)) (mk s):=by
 obtain ⟨h1,h2,h3,h4⟩:=its_facts h hz
 walk_at "zfn"
theorem q_many (hz:s.its.length < 100000):Does f_OpenStack_many [.loc 10] (mk s) (.d (.int ((s.its.map PyData.int).length:Int))) (mk s):=by
 have h1:(s.its.map PyData.int).length ≤ bigLen:=by rw [List.length_map];unfold bigLen;omega
 walk_at "zfn"
noncomputable def adj (s:S) (a:Int):Int:=bif (((s.its.map PyData.int).length:Int) == 1) && (s.ctx != -1) then s.ctx else a
theorem zw_WL6_1:True:=by
 k_with "zsum" => first | ((with_reducible refine' q_current ?z1 ?z2);(case z1 => walk_at "c");(case z2 => walk_at "c")) | ((with_reducible refine' q_many ?z1);(case z1 => walk_at "c"))
 trivial
theorem q_adj {pre:List Int} {a:Int} (h:s.its = pre ++ [a]) (hz:s.its.length < 100000):Does f_Builder_adjusted [.loc 0] (mk s) (.d (.int (adj s a))) (mk s):=by
 cases h1:(((s.its.map PyData.int).length:Int) == 1) with
 | false =>
  have e:adj s a = a:=by unfold adj;rw [h1];rfl
  rw [e];walk_at "zfn"
 | true =>
  cases h2:(s.ctx != -1) with
  | false =>
   have e:adj s a = a:=by unfold adj;rw [h1,h2];rfl
   rw [e];walk_at "zfn"
  | true =>
   have e:adj s a = s.ctx:=by unfold adj;rw [h1,h2];rfl
   rw [e];walk_at "zfn"
structure Here (s:S) (k:Nat) (sp nm:Str):Prop where
 e:∃ pre a,s.its = pre ++ [a] ∧ adj s a = (k:Int)
 z:s.its.length < 100000
 kz:k < 100000
 hsp:s.sp[k]? = some sp
 hnm:s.nms[k]? = some nm
theorem here_adj {k:Nat} {x y:Str} (H:Here s k x y):Does f_Builder_adjusted [.loc 0] (mk s) (.d (.int (k:Int))) (mk s):=by
 obtain ⟨pre,a,h,e⟩:=H.e
 rw [← e];exact q_adj h H.z
theorem here_psp {k:Nat} {x y:Str} (H:Here s k x y):pyIdx (s.sp.map PyData.str) (k:Int) = some (.str x):=pyIdx_pos (by rw [List.getElem?_map,H.hsp];rfl)
theorem here_pnm {k:Nat} {x y:Str} (H:Here s k x y):pyIdx (s.nms.map PyData.str) (k:Int) = some (.str y):=pyIdx_pos (by rw [List.getElem?_map,H.hnm];rfl)
theorem here_bd {k:Nat} {x y:Str} (H:Here s k x y):-(2 ^ 62) < (k:Int) ∧ (k:Int) < 2 ^ 62:=by have:=H.kz;omega
theorem here_ne {k:Nat} {x y:Str} (H:Here s k x y):((k:Int) != -1) = true:=by simp
theorem q_frn {k:Nat} {x y:Str} (H:Here s k x y):Does f_Builder_is_foreign [.loc 0] (mk s) (.d (.bool (x != "html"))) (mk s):=by
 have h1:=(here_adj H)
 have h2:=(here_psp H)
 have h3:=(here_bd H)
 have h4:=(here_ne H)
 cases h5:(x != "html") <;> walk_at "zfn"
noncomputable def mpt (x y:Str):Bool:=(x == "math") && ([PyData.str "mi",.str "mo",.str "mn",.str "ms",.str "mtext"].any fun z => PyData.eqv z (.str y))
noncomputable def hpt (x y:Str):Bool:=(x == "svg") && ([PyData.str "foreignObject",.str "desc",.str "title"].any fun z => PyData.eqv z (.str y))
theorem q_mpt {k:Nat} {x y:Str} (H:Here s k x y) (ok:PyData.canLay0 (.str y) = true):Does f_is_math_point [.loc 1,.d (.int (k:Int))] (mk s) (.d (.bool (mpt x y))) (mk s):=by
 have h2:=(here_psp H)
 have h3:=(here_bd H)
 have h4:=(here_pnm H)
 unfold mpt
 cases h5:(x == "math") with
 | false => rw [Bool.false_and];walk_at "zfn"
 | true =>
  rw [Bool.true_and]
  cases h6:([PyData.str "mi",.str "mo",.str "mn",.str "ms",.str "mtext"].any fun z => PyData.eqv z (.str y)) <;> walk_at "zfn"
theorem q_hpt {k:Nat} {x y:Str} (H:Here s k x y) (ok:PyData.canLay0 (.str y) = true) (hy:(y != "annotation-xml") = true):Does f_is_html_point [.loc 1,.d (.int (k:Int))] (mk s) (.d (.bool (hpt x y))) (mk s):=by
 have h2:=(here_psp H)
 have h3:=(here_bd H)
 have h4:=(here_pnm H)
 unfold hpt
 cases h5:(x == "svg") with
 | true => rw [Bool.true_and];walk_at "zfn"
 | false => rw [Bool.false_and];cases h7:(x != "math") <;> walk_at "zfn"
section
variable {k:Nat} {x y:Str} (H:Here s k x y)
include H
theorem turn_html {tok:PyData} (hx:(x != "html") = false):Does f_is_html_turn [.loc 0,.d tok] (mk s) (.d (.bool true)) (mk s):=by
 have h1:=q_frn H
 rw [hx] at h1
 walk_at "zfn"
theorem turn_eof:Does f_is_html_turn [.loc 0,.d (.tuple [.str "eof"])] (mk s) (.d (.bool true)) (mk s):=by
 have h1:=q_frn H
 cases hx:(x != "html") <;> (rw [hx] at h1;walk_at "zfn")
variable (hx:(x != "html") = true) (hy:(y != "annotation-xml") = true) (ok:PyData.canLay0 (.str y) = true)
include hx hy ok
theorem turn_char {c:Str}:Does f_is_html_turn [.loc 0,.d (.tuple [.str "char",.str c])] (mk s) (.d (.bool (mpt x y || hpt x y))) (mk s):=by
 have h1:=q_frn H
 rw [hx] at h1
 have h2:=(here_adj H)
 have h3:=q_mpt H ok
 have h4:=q_hpt H ok hy
 cases h5:mpt x y <;> (rw [h5] at h3;cases h6:hpt x y <;> (rw [h6] at h4;simp only [Bool.or_true,Bool.or_false,Bool.true_or,Bool.false_or];walk_at "zfn"))
theorem turn_start {n:Str} {ds:List PyData} (okn:PyData.canLay0 (.str n) = true) (hn:([PyData.str "mglyph",.str "malignmark"].any fun z => PyData.eqv z (.str n)) = false):Does f_is_html_turn [.loc 0,.d (.tuple (.str "start" :: .str n :: ds))] (mk s) (.d (.bool (mpt x y || hpt x y))) (mk s):=by
 have h1:=q_frn H
 rw [hx] at h1
 have h2:=(here_adj H)
 have h3:=q_mpt H ok
 have h4:=q_hpt H ok hy
 have hn':(!([PyData.str "mglyph",.str "malignmark"].any fun z => PyData.eqv z (.str n))) = true:=by rw [hn];rfl
 have g2:=(here_psp H)
 have g3:=(here_bd H)
 have g4:=(here_pnm H)
 have g5:(y == "annotation-xml") = false:=by simpa using hy
 cases h5:mpt x y with
 | true =>
  rw [h5] at h3
  rw [Bool.true_or]
  walk_at "zfn"
 | false =>
  rw [h5] at h3
  cases h7:(x == "math") <;> (cases h6:hpt x y <;> (rw [h6] at h4;simp only [Bool.or_true,Bool.or_false,Bool.true_or,Bool.false_or];walk_at "zfn"))
theorem turn_else {t:Str} {ds:List PyData} (h5:(t == "eof") = false) (h6:(t == "char") = false) (h7:(t != "start") = true):Does f_is_html_turn [.loc 0,.d (.tuple (.str t :: ds))] (mk s) (.d (.bool false)) (mk s):=by
 have h1:=q_frn H
 rw [hx] at h1
 have h2:=(here_adj H)
 walk_at "zfn"
end
end
end
section
set_option maxRecDepth 100000
set_option maxHeartbeats 2000000
section
variable {s:S}
noncomputable def ab (s:S) (xs:List PyData):St:={ mk s with objs:=(25,.dl xs) :: (mk s).objs,next:=26 }
theorem ab_app {xs:List PyData} {x:PyData}:St.put (ab s xs) 25 (.dl (xs ++ [x])) = ab s (xs ++ [x]):=rfl
def PaOK (s:S):Prop:=∀ (k:Nat) (v:Int),s.pa[k]? = some v → v = -1 ∨ ∃ j:Nat,v = (j:Int) ∧ j < k
def UpOK (m:Nat) (ys:List PyData):Prop:=∀ y ∈ ys,∃ i:Nat,y = .int (i:Int) ∧ i < m
theorem UpOK.add {m i:Nat} {ys:List PyData} (h:UpOK m ys) (hi:i < m):UpOK m (ys ++ [.int (i:Int)]):=fun y hy => (List.mem_append.mp hy).elim (h y) fun q => ⟨i,List.mem_singleton.mp q,hi⟩
noncomputable abbrev abL:List MS:=[]
theorem k_bd {k:Nat} (h:k < 1000000):-(2 ^ 62) < (k:Int) ∧ (k:Int) < 2 ^ 62:=⟨Int.lt_of_lt_of_le (by decide) (Int.natCast_nonneg k),Int.lt_trans (Int.ofNat_lt.mpr h) (by decide)⟩
theorem k_nm (k:Nat):((k:Int) != -1) = true:=bne_iff_ne.mpr fun h => nomatch h
theorem above_loop (hp:PaOK s) (hz:s.pa.length < 900) {m:Nat} (hm:m ≤ s.pa.length) {k:SK} (hk:∀ L ys,L.lookup 150 = some (.loc 25) → UpOK m ys → k.n L (ab s ys)):∀ (fuel n:Nat) (up:Int) (xs:List PyData) (L:Locs),L.lookup 210 = some (.d (.int up)) → L.lookup 150 = some (.loc 25) → L.lookup 209 = some (.loc 1) →
  (up = -1 ∨ ∃ j:Nat,up = (j:Int) ∧ j < n) → n ≤ m → n < fuel → xs.length + n < 900 → UpOK m xs →
  loopW (fun L st f => wpE [] (.cmp .neI (.v 210) (.lit (.int (-1)))) L st fun x st => x.bool fun p => f p st) (wpSs [] (.cons (.expr (.app (.v 150) (.v 210))) (.cons (.assign 210 (.idx .seq (.attr (.v 209) 439 154) (.v 210))) .nil))) fuel L (ab s xs) k:=by
 intro fuel
 induction fuel with
 | zero => exact fun n up xs L _ _ _ _ _ h => absurd h (Nat.not_lt_zero n)
 | succ fuel ih =>
  intro n up xs L h1 h2 h3 hu hn hf hx ho
  refine hu.elim (fun e => ?_) fun q => q.elim fun j q => ?_
  ·subst e
   refine opt_i h1 ?_
   exact hk L xs h2 ho
  ·have e:=q.1
   have hj:=q.2
   subst e
   have hv:s.pa[j]? = some (s.pa[j]'(Nat.lt_of_lt_of_le hj (Nat.le_trans hn hm))):=List.getElem?_eq_getElem _
   generalize s.pa[j]'(Nat.lt_of_lt_of_le hj (Nat.le_trans hn hm)) = v at hv
   have hv':=hp j v hv
   have l2:List.lookup 150 ((210,AV.d (.int v)) :: L) = some (.loc 25):=h2
   have l3:List.lookup 209 ((210,AV.d (.int v)) :: L) = some (.loc 1):=h3
   have hxl:xs.length < bigLen:=Nat.lt_of_le_of_lt (Nat.le_add_right _ n) (Nat.lt_trans hx (by decide))
   have hpi:pyIdx (s.pa.map PyData.int) (j:Int) = some (.int v):=pyIdx_pos (by rw [List.getElem?_map,hv];rfl)
   have hb:=k_bd (k:=j) (Nat.lt_of_lt_of_le hj (Nat.le_trans hn (Nat.le_trans hm (Nat.le_of_lt (Nat.lt_trans hz (by decide))))))
   refine opt_i h1 ?_
   refine opt_i h2 ?_
   refine opt_i h1 ?_
   refine ifc_t (decide_eq_true hxl) ?_
   refine nd_x ab_app ?_
   refine opt_i h3 ?_
   refine opt_i h1 ?_
   refine ifc_t (idx_ok hb) ?_
   refine opt_i hpi ?_
   exact ih j v (xs ++ [.int (j:Int)]) ((210,.d (.int v)) :: L) rfl l2 l3 hv' (Nat.le_trans (Nat.le_of_lt hj) hn) (Nat.lt_of_lt_of_le hj (Nat.le_of_lt_succ hf)) (by rw [List.length_append];exact Nat.lt_of_le_of_lt (show xs.length + 1 + j ≤ xs.length + n by omega) hx) (ho.add (Nat.lt_of_lt_of_le hj hn))
theorem q_above (hp:PaOK s) {k:Nat} (hk:k < s.pa.length) (hz:s.pa.length < 900) {K:EK} (h:∀ ys,UpOK k ys → K (.d (.list ys)) (mk s)):f_above [.loc 1,.d (.int (k:Int))] (mk s) K:=by
 have hv:s.pa[k]? = some (s.pa[k]'hk):=List.getElem?_eq_getElem hk
 generalize s.pa[k]'hk = v at hv
 have hpi:pyIdx (s.pa.map PyData.int) (k:Int) = some (.int v):=pyIdx_pos (by rw [List.getElem?_map,hv];rfl)
 have hb:=k_bd (k:=k) (Nat.lt_trans hk (Nat.lt_trans hz (by decide)))
 refine run_qf (by with_unfolding_all rfl) rfl ?_
 refine nd_x (st':=ab s []) rfl ?_
 refine ifc_t (idx_ok hb) ?_
 refine opt_i hpi ?_
 refine above_loop hp hz (Nat.le_of_lt hk) (fun L ys hl ho => ?_) 1000 k v [] ((210,.d (.int v)) :: (150,.loc 25) :: [(145,.d (.int (k:Int))),(209,.loc 1)]) rfl rfl rfl (hp k v hv) (Nat.le_refl k) (Nat.lt_trans hk (Nat.lt_trans hz (by decide))) (Nat.lt_of_le_of_lt (Nat.le_of_eq (Nat.zero_add k)) (Nat.lt_trans hk hz)) (fun y hy => nomatch hy)
 refine opt_i hl ?_
 refine nd_x (st':=mk s) rfl ?_
 exact h ys ho
structure Tr (s:S):Prop where
 nms:s.nms.length = s.sp.length
 pa:s.pa.length = s.sp.length
 kinds:s.kinds.length = s.sp.length
 attrs:s.attrs.length = s.sp.length
 texts:s.texts.length = s.sp.length
 nC:s.nC = s.sp.length
 jb:s.jb ≤ s.sp.length + s.j0 ∧ s.j0 ≤ 2000
 sm:s.sp.length < 800
 par:PaOK s
 its:∀ i ∈ s.its,∃ k:Nat,i = (k:Int) ∧ k < s.sp.length
 itl:s.its.length ≤ s.sp.length
noncomputable def S.add (s:S) (sp nm:Str):S:={ s with kinds:=s.kinds ++ [.str "element"],sp:=s.sp ++ [sp],nms:=s.nms ++ [nm],attrs:=s.attrs ++ [.list []],texts:=s.texts ++ [.str ""],pa:=s.pa ++ [-1],nC:=s.nC + 1 }
theorem q_add {x y:Str} (H:Tr s):Does f_Tree_add [.loc 1,.d (.str "element"),.d (.str x),.d (.str y),.d (.tuple [])] (mk s) (.d (.int (s.sp.length:Int))) (mk (s.add x y)):=by
 have hz:s.sp.length < bigLen:=by have:=H.sm;unfold bigLen;omega
 have h0:(s.sp.map PyData.str).length < bigLen:=by rw [List.length_map];exact hz
 have h1:(s.nms.map PyData.str).length < bigLen:=by rw [List.length_map,H.nms];exact hz
 have h2:(s.pa.map PyData.int).length < bigLen:=by rw [List.length_map,H.pa];exact hz
 have h3:s.kinds.length < bigLen:=by rw [H.kinds];exact hz
 have h4:s.attrs.length < bigLen:=by rw [H.attrs];exact hz
 have h5:s.texts.length < bigLen:=by rw [H.texts];exact hz
 have h6:s.nC < bigLen:=by rw [H.nC];exact hz
 obtain ⟨s1,e1⟩:∃ s1:S,s1 = { s with kinds:=s.kinds ++ [.str "element"],sp:=s.sp ++ [x],nms:=s.nms ++ [y],attrs:=s.attrs ++ [.list []] }:=⟨_,rfl⟩
 have k1:s1.texts.length < bigLen:=by rw [e1];exact h5
 have k2:(s1.pa.map PyData.int).length < bigLen:=by rw [e1];exact h2
 have k3:s1.nC < bigLen:=by rw [e1];exact h6
 have k5:s1.kinds.length = s.sp.length + 1:=by rw [e1,← H.kinds];exact List.length_append
 have k4:s1.kinds.length ≤ bigLen:=by rw [k5];exact hz
 intro K hK
 refine run_q (by with_unfolding_all rfl) rfl ?_
 iterate 7 walk_at "zs"
 refine nd_x (st':=mk s1) (by rw [e1];rfl) ?_
 (repeat walk_at "zs")
 have e:(s1.kinds.length:Int) - 1 = (s.sp.length:Int):=by rw [k5];exact Int.add_sub_cancel (s.sp.length:Int) 1
 show K (.d (.int ((s1.kinds.length:Int) - 1))) (mk (((s1.texts_ (s1.texts ++ [.str ""])).pa_ (s1.pa ++ [-1])).nC_ (s1.nC + 1)))
 rw [e,e1]
 exact hK
theorem q_element {x y:Str} (H:Tr s) (hy:(y == "template") = false):Does f_Tree_element [.loc 1,.d (.str y),.d (.str x)] (mk s) (.d (.int (s.sp.length:Int))) (mk (s.add x y)):=by
 have h1:=q_add (x:=x) (y:=y) H
 cases h2:(x == "html") <;> walk_at "zfn"
theorem q_remove {k:Nat} (h:s.pa[k]? = some (-1)) (hk:k < 100000):Does f_Tree_remove [.loc 1,.d (.int (k:Int))] (mk s) (.d .none) (mk s):=by
 have h1:pyIdx (s.pa.map PyData.int) (k:Int) = some (.int (-1)):=pyIdx_pos (by rw [List.getElem?_map,h];rfl)
 have h2:-(2 ^ 62) < (k:Int) ∧ (k:Int) < 2 ^ 62:=by omega
 walk_at "zfn"
theorem up_not {m i:Nat} {ys:List PyData} (h:UpOK m ys) (hi:m ≤ i):memD (.int (i:Int)) ys = false:=by
 unfold memD
 rw [List.any_eq_false]
 intro y hy q
 exact (h y hy).elim fun j e => absurd (show PyData.eqv (.int (j:Int)) (.int (i:Int)) = true from e.1 ▸ q) (by unfold PyData.eqv;exact fun z => Nat.lt_irrefl _ (Nat.lt_of_lt_of_le e.2 (Int.ofNat.inj (eq_of_beq z) ▸ hi)))
theorem up_lay {m:Nat} {ys:List PyData} (h:UpOK m ys):PyData.canLayAll0 ys = true:=by
 induction ys with
 | nil => unfold PyData.canLayAll0;rfl
 | cons y ys ih =>
  unfold PyData.canLayAll0
  rw [ih fun z hz => h z (.tail _ hz)]
  exact (h y (.head _)).elim fun j e => by rw [e.1];unfold PyData.canLay0;rfl
theorem q_insert {p k:Nat} (hp:PaOK s) (hk:s.pa[k]? = some (-1)) (hpk:p < k) (hkz:s.pa.length < 900) (hC:p < s.nC) (hCz:s.nC < 900) (hj:s.jb < 100000) :
  Does f_Tree_insert [.loc 1,.d (.int (p:Int)),.d (.int (k:Int))] (mk s) (.d .none) (mk ((s.jb_ (s.jb + 1)).pa_ (s.pa.set k (p:Int)))):=by
 have hkl:k < s.pa.length:=(List.getElem?_eq_some_iff.mp hk).1
 have h2:((k:Int) == (p:Int)) = false:=beq_false_of_ne fun e => Nat.lt_irrefl _ (Int.ofNat.inj e ▸ hpk)
 have hb:=k_bd (k:=k) (Nat.lt_trans hkl (Nat.lt_trans hkz (by decide)))
 have hpb:=k_bd (k:=p) (Nat.lt_trans hC (Nat.lt_trans hCz (by decide)))
 have h3:=q_remove hk (Nat.lt_trans hkl (Nat.lt_trans hkz (by decide)))
 have h5:(decide (0 ≤ (p:Int)) && decide ((p:Int) < (s.nC:Int))) = true:=by rw [decide_eq_true (Int.natCast_nonneg p),decide_eq_true (Int.ofNat_lt.mpr hC)];rfl
 have h7:s.jb ≤ bigLen:=Nat.le_of_lt (Nat.lt_trans hj (by decide))
 have h8:s.jb < bigLen:=Nat.lt_trans hj (by decide)
 have h9:(decide (0 ≤ (k:Int)) && decide ((k:Int) < ((s.pa.map PyData.int).length:Int)) && decide ((s.pa.map PyData.int).length ≤ bigLen)) = true:=by
  rw [List.length_map,decide_eq_true (Int.natCast_nonneg k),decide_eq_true (Int.ofNat_lt.mpr hkl),decide_eq_true (Nat.le_of_lt (Nat.lt_trans hkz (by decide)))];rfl
 intro K hK
 refine run_q (by with_unfolding_all rfl) rfl ?_
 (repeat walk_at "zs")
 refine q_above hp (Nat.lt_trans hpk hkl) hkz fun ys hy => ?_
 have a1:=up_not hy (Nat.le_of_lt hpk)
 have a2:=up_lay hy
 (repeat walk_at "zs")
 exact hK
noncomputable def S.opn (s:S) (x y:Str) (p:Int):S:={ s.add x y with jb:=s.jb + 1,pa:=(s.pa ++ [-1]).set s.sp.length p,its:=s.its ++ [(s.sp.length:Int)] }
theorem add_par (H:PaOK s) (x y:Str):PaOK (s.add x y):=by
 intro k v h
 have h':(s.pa ++ [-1])[k]? = some v:=h
 rw [List.getElem?_append] at h'
 split at h'
 ·exact H k v h'
 ·rename_i hk
  have:k - s.pa.length = 0:=by
   cases q:k - s.pa.length with
   | zero => rfl
   | succ j => rw [q] at h';simp at h'
  rw [this] at h'
  simp at h';exact .inl h'.symm
theorem q_push {i:Int} (h:(s.its.map PyData.int).length < bigLen):Does f_OpenStack_push [.loc 10,.d (.int i)] (mk s) (.d .none) (mk (s.its_ (s.its ++ [i]))):=by
 walk_at "zfn"
theorem q_append {p k:Int} {s1:S} (h:Does f_Tree_insert [.loc 1,.d (.int p),.d (.int k)] (mk s) (.d .none) (mk s1)):Does f_Tree_append [.loc 1,.d (.int p),.d (.int k)] (mk s) (.d .none) (mk s1):=by
 walk_at "zfn"
theorem q_openR {p k:Int} {x y:Str} {s1 s2 s3:S} (h1:Does f_Tree_element [.loc 1,.d (.str y),.d (.str x)] (mk s) (.d (.int k)) (mk s1)) (h2:Does f_OpenStack_current [.loc 10] (mk s1) (.d (.int p)) (mk s1))
  (h3:Does f_Tree_append [.loc 1,.d (.int p),.d (.int k)] (mk s1) (.d .none) (mk s2)) (h4:Does f_OpenStack_push [.loc 10,.d (.int k)] (mk s2) (.d .none) (mk s3)) :
  Does f__law_open [.loc 0,.d (.str y),.d (.str x)] (mk s) (.d .none) (mk s3):=by
 walk_at "zfn"
theorem q_open (H:Tr s) {pre:List Int} {p:Nat} (hi:s.its = pre ++ [(p:Int)]) (hp:p < s.sp.length) {x y:Str} (hy:(y == "template") = false) :
  Does f__law_open [.loc 0,.d (.str y),.d (.str x)] (mk s) (.d .none) (mk (s.opn x y (p:Int))):=by
 have hz:s.its.length < 100000:=Nat.lt_of_le_of_lt H.itl (Nat.lt_trans H.sm (by decide))
 have h1:=q_element (x:=x) (y:=y) H hy
 have i3:PaOK (s.add x y):=add_par H.par x y
 unfold S.opn
 obtain ⟨s1,e1⟩:∃ s1:S,s1 = s.add x y:=⟨_,rfl⟩
 have j1:s1.jb = s.jb:=by rw [e1];rfl
 have j2:s1.pa = s.pa ++ [-1]:=by rw [e1];rfl
 have j3:s1.its = s.its:=by rw [e1];rfl
 have j4:s1.nC = s.nC + 1:=by rw [e1];rfl
 rw [← e1] at h1 i3 ⊢
 rw [← j1,← j2,← j3]
 have sm:=H.sm
 have i4:s1.pa[s.sp.length]? = some (-1):=by rw [j2,← H.pa];exact List.getElem?_concat_length ..
 have i5:s1.pa.length < 900:=by rw [j2,List.length_append,H.pa];exact Nat.lt_of_lt_of_le (Nat.add_lt_add_right sm 1) (by decide)
 have i6:p < s1.nC:=by rw [j4,H.nC];exact Nat.lt_succ_of_lt hp
 have i7:s1.nC < 900:=by rw [j4,H.nC];exact Nat.lt_of_lt_of_le (Nat.add_lt_add_right sm 1) (by decide)
 have i8:s1.jb < 100000:=by rw [j1];exact Nat.lt_of_le_of_lt H.jb.1 (Nat.lt_of_lt_of_le (Nat.add_lt_add_of_lt_of_le sm H.jb.2) (by decide))
 have hz1:s1.its.length < 100000:=by rw [j3];exact hz
 exact q_openR h1 (q_current (j3.trans hi) hz1) (q_append (q_insert i3 i4 hp i5 i6 i7 i8)) (q_push (s:=(s1.jb_ (s1.jb + 1)).pa_ (s1.pa.set s.sp.length (p:Int))) (by rw [List.length_map];exact Nat.lt_trans hz1 (by decide)))
theorem leave_no (hz:s.its.length < 100000) {n:Str} (h:decide ((1:Int) < ((s.its.map PyData.int).length:Int)) = false):Does f__law_leave [.loc 0,.d (.str n)] (mk s) (.d .none) (mk s):=by
 have h1:=q_many (s:=s) hz
 walk_at "zfn"
theorem leave_other (hz:s.its.length < 100000) {n y:Str} (h:decide ((1:Int) < ((s.its.map PyData.int).length:Int)) = true) {pre:List Int} {p:Nat} (hi:s.its = pre ++ [(p:Int)]) (hy:s.nms[p]? = some y) (hp:p < 100000) (hn:(y == n) = false):Does f__law_leave [.loc 0,.d (.str n)] (mk s) (.d .none) (mk s):=by
 have h1:=q_many (s:=s) hz
 have h2:=q_current (s:=s) hi hz
 have h3:pyIdx (s.nms.map PyData.str) (p:Int) = some (.str y):=pyIdx_pos (by rw [List.getElem?_map,hy];rfl)
 have h4:-(2 ^ 62) < (p:Int) ∧ (p:Int) < 2 ^ 62:=by omega
 walk_at "zfn"
theorem q_pop (hz:s.its.length < 100000) {pre:List Int} {p:Int} (hi:s.its = pre ++ [p]):Does f_OpenStack_pop [.loc 10] (mk s) (.d (.int p)) (mk (s.its_ pre)):=by
 obtain ⟨h1,h2,h3,h4⟩:=its_facts hi hz
 have h5:(s.its.map PyData.int).getLast? = some (.int p):=by rw [hi,List.map_append];exact List.getLast?_concat ..
 have h6:(s.its.map PyData.int).length ≤ bigLen:=by rw [List.length_map];exact Nat.le_of_lt (Nat.lt_trans hz (by decide))
 have e:pre = s.its.dropLast:=by rw [hi];simp
 rw [e]
 walk_at "zfn"
theorem leave_yes (hz:s.its.length < 100000) {n y:Str} (h:decide ((1:Int) < ((s.its.map PyData.int).length:Int)) = true) {pre:List Int} {p:Nat} (hi:s.its = pre ++ [(p:Int)]) (hy:s.nms[p]? = some y) (hp:p < 100000) (hn:(y == n) = true):Does f__law_leave [.loc 0,.d (.str n)] (mk s) (.d .none) (mk (s.its_ pre)):=by
 have h1:=q_many (s:=s) hz
 have h2:=q_current (s:=s) hi hz
 have h3:pyIdx (s.nms.map PyData.str) (p:Int) = some (.str y):=pyIdx_pos (by rw [List.getElem?_map,hy];rfl)
 have h4:-(2 ^ 62) < (p:Int) ∧ (p:Int) < 2 ^ 62:=by omega
 have h5:=q_pop (s:=s) hz hi
 walk_at "zfn"
end
end
section
set_option maxRecDepth 100000
set_option maxHeartbeats 2000000
theorem zw_WL8_1:True:=by
 k_with "zsum" => first | (with_reducible assumption) | (with_reducible exact q_raws) | (with_reducible exact q_to)
 trivial
section
variable {s s1 s2 s3:S}
theorem q_bto {x:Str}:Does f_Builder_to [.loc 0,.d (.str x)] (mk s) (.d .none) (mk (s.mode_ x)):=by
 walk_at "zfn"
theorem zw_WL8_2:True:=by
 k_with "zsum" => (with_reducible exact q_bto)
 trivial
noncomputable abbrev tStart (n:Str):PyData:=.tuple [.str "start",.str n,.tuple [],.bool false]
noncomputable abbrev tEnd (n:Str):PyData:=.tuple [.str "end",.str n,.tuple [],.bool false]
noncomputable abbrev tChar (n:Str):PyData:=.tuple [.str "char",.str n]
noncomputable abbrev tCom (n:Str):PyData:=.tuple [.str "comment",.str n]
noncomputable abbrev tEof:PyData:=.tuple [.str "eof"]
section
variable (hz:s.notes.length < bigLen)
include hz
theorem bo_plain {t:Str} {ds:List PyData} (h1:(t == "start") = false) (h2:(t == "end") = false) (h3:(t == "eof") = false) :
  Does f__law_body [.loc 0,.d (.tuple (.str t :: ds))] (mk s) (.d .none) (mk (s.notes_ (s.notes ++ [.tuple [.str "in body",.tuple (.str t :: ds)]]))):=by
 walk_at "zfn"
theorem bo_eof:Does f__law_body [.loc 0,.d tEof] (mk s) (.d .none) (mk ((s.notes_ (s.notes ++ [.tuple [.str "in body",tEof]])).bdone_ true)):=by
 walk_at "zfn"
theorem bo_end {n:Str} (h:Does f__law_leave [.loc 0,.d (.str n)] (mk (s.notes_ (s.notes ++ [.tuple [.str "in body",tEnd n]]))) (.d .none) (mk s1)) :
  Does f__law_body [.loc 0,.d (tEnd n)] (mk s) (.d .none) (mk s1):=by
 walk_at "zfn"
theorem bo_start {n y:Str} (hy:y = bif (n == "svg") then "svg" else "html") (h:Does f__law_open [.loc 0,.d (.str n),.d (.str y)] (mk (s.notes_ (s.notes ++ [.tuple [.str "in body",tStart n]]))) (.d .none) (mk s1)) (hr:(rawsD.lookup n).isSome = false) :
  Does f__law_body [.loc 0,.d (tStart n)] (mk s) (.d .none) (mk s1):=by
 cases hq:(n == "svg") <;> (rw [hq] at hy;simp only [cond_false,cond_true] at hy;subst hy;walk_at "zfn")
theorem bo_raw {n y w:Str} (hy:y = bif (n == "svg") then "svg" else "html") (h:Does f__law_open [.loc 0,.d (.str n),.d (.str y)] (mk (s.notes_ (s.notes ++ [.tuple [.str "in body",tStart n]]))) (.d .none) (mk s1)) (hr:rawsD.lookup n = some (.d (.str w))) (hw:(w != "PLAINTEXT") = true) :
  Does f__law_body [.loc 0,.d (tStart n)] (mk s) (.d .none) (mk (((s1.wish_ w).orig_ s1.mode).mode_ "text")):=by
 have hr2:(rawsD.lookup n).isSome = true:=by rw [hr];rfl
 cases hq:(n == "svg") <;> (rw [hq] at hy;simp only [cond_false,cond_true] at hy;subst hy;walk_at "zfn")
theorem bo_rawP {n y w:Str} (hy:y = bif (n == "svg") then "svg" else "html") (h:Does f__law_open [.loc 0,.d (.str n),.d (.str y)] (mk (s.notes_ (s.notes ++ [.tuple [.str "in body",tStart n]]))) (.d .none) (mk s1)) (hr:rawsD.lookup n = some (.d (.str w))) (hw:(w != "PLAINTEXT") = false) :
  Does f__law_body [.loc 0,.d (tStart n)] (mk s) (.d .none) (mk (s1.wish_ w)):=by
 have hr2:(rawsD.lookup n).isSome = true:=by rw [hr];rfl
 cases hq:(n == "svg") <;> (rw [hq] at hy;simp only [cond_false,cond_true] at hy;subst hy;walk_at "zfn")
theorem fo_plain {t:Str} {ds:List PyData} (h1:(t == "start") = false) (h2:(t == "end") = false) :
  Does f__law_foreign [.loc 0,.d (.tuple (.str t :: ds))] (mk s) (.d .none) (mk (s.notes_ (s.notes ++ [.tuple [.str "foreign content",.tuple (.str t :: ds)]]))):=by
 walk_at "zfn"
theorem fo_end {n:Str} (h:Does f__law_leave [.loc 0,.d (.str n)] (mk (s.notes_ (s.notes ++ [.tuple [.str "foreign content",tEnd n]]))) (.d .none) (mk s1)) :
  Does f__law_foreign [.loc 0,.d (tEnd n)] (mk s) (.d .none) (mk s1):=by
 walk_at "zfn"
theorem fo_start {n x y:Str} {k:Nat} (H:Here (s.notes_ (s.notes ++ [.tuple [.str "foreign content",tStart n]])) k x y) (h:Does f__law_open [.loc 0,.d (.str n),.d (.str x)] (mk (s.notes_ (s.notes ++ [.tuple [.str "foreign content",tStart n]]))) (.d .none) (mk s1)) :
  Does f__law_foreign [.loc 0,.d (tStart n)] (mk s) (.d .none) (mk s1):=by
 have h1:=here_adj H
 have hsp:s.sp[k]? = some x:=H.hsp
 have h2:pyIdx (s.sp.map PyData.str) (k:Int) = some (.str x):=pyIdx_pos (by rw [List.getElem?_map,hsp];rfl)
 have h3:=here_bd H
 walk_at "zfn"
theorem in_char {c:Str}:Does f__law_inner [.loc 0,.d (tChar c)] (mk s) (.d .none) (mk (s.notes_ (s.notes ++ [.tuple [.str "text",tChar c]]))):=by
 walk_at "zfn"
theorem in_end {n:Str} {d:AV} (h:Does f_OpenStack_pop [.loc 10] (mk (s.notes_ (s.notes ++ [.tuple [.str "text",tEnd n]]))) d (mk s1)):Does f__law_inner [.loc 0,.d (tEnd n)] (mk s) (.d .none) (mk (s1.mode_ s1.orig)):=by
 walk_at "zfn"
theorem in_eof {d:AV} (h:Does f_OpenStack_pop [.loc 10] (mk (s.notes_ (s.notes ++ [.tuple [.str "text",tEof]]))) d (mk s1)) (h2:Does f_Builder_process [.loc 0,.d tEof] (mk (s1.mode_ s1.orig)) (.d .none) (mk s2)):Does f__law_inner [.loc 0,.d tEof] (mk s) (.d .none) (mk s2):=by
 walk_at "zfn"
end
noncomputable abbrev useT:Tab:=[(836,f__law_body),(850,f__law_foreign),(843,f__law_inner)]
noncomputable abbrev useT0:Tab:=[(836,f__law_body),(850,f__law_foreign)]
theorem q_use {m:Str} {f:Nat} {v:AV} {tok:PyData} (hk:rulesT.lookup m = some (.fn f)) (h2:(useT.lookup f).isSome = true) (h:Does (Tab.at useT f) [.loc 0,.d tok] (mk s) v (mk s1)) :
  Does f_Builder_use1 [.loc 0,.d (.str m),.d tok] (mk s) (.d .none) (mk s1):=by
 have h1:(!(rulesT.lookup m).isSome) = false:=by rw [hk];rfl
 walk_at "zfn"
theorem q_use0 {m:Str} {f:Nat} {v:AV} {tok:PyData} (hk:rulesT.lookup m = some (.fn f)) (h2:(useT0.lookup f).isSome = true) (h:Does (Tab.at useT0 f) [.loc 0,.d tok] (mk s) v (mk s1)) :
  Does f_Builder_use [.loc 0,.d (.str m),.d tok] (mk s) (.d .none) (mk s1):=by
 have h1:(!(rulesT.lookup m).isSome) = false:=by rw [hk];rfl
 walk_at "zfn"
theorem q_proc {tok:PyData} (ht:Does f_is_html_turn [.loc 0,.d tok] (mk s) (.d (.bool true)) (mk s)) (h:Does f_Builder_use1 [.loc 0,.d (.str s.mode),.d tok] (mk s) (.d .none) (mk s1)):Does f_Builder_process1 [.loc 0,.d tok] (mk s) (.d .none) (mk s1):=by
 walk_at "zfn"
theorem q_procF {tok:PyData} (ht:Does f_is_html_turn [.loc 0,.d tok] (mk s) (.d (.bool false)) (mk s)) (h:Does f_Builder_use1 [.loc 0,.d (.str "foreign content"),.d tok] (mk s) (.d .none) (mk s1)):Does f_Builder_process1 [.loc 0,.d tok] (mk s) (.d .none) (mk s1):=by
 walk_at "zfn"
theorem q_proc0 {tok:PyData} (ht:Does f_is_html_turn [.loc 0,.d tok] (mk s) (.d (.bool true)) (mk s)) (h:Does f_Builder_use [.loc 0,.d (.str s.mode),.d tok] (mk s) (.d .none) (mk s1)):Does f_Builder_process [.loc 0,.d tok] (mk s) (.d .none) (mk s1):=by
 walk_at "zfn"
theorem q_feed {t:Str} {ds:List PyData} (hd:s.bdone = false) (ht:(t == "start") = false) (h:Does f_Builder_process1 [.loc 0,.d (.tuple (.str t :: ds))] (mk s) (.d .none) (mk s1)):Does f_Builder_feed [.loc 0,.d (.tuple (.str t :: ds))] (mk s) (.d .none) (mk s1):=by
 walk_at "zfn"
theorem q_feedS {n:Str} (hd:s.bdone = false) (h:Does f_Builder_process1 [.loc 0,.d (tStart n)] (mk s) (.d .none) (mk s1)):Does f_Builder_feed [.loc 0,.d (tStart n)] (mk s) (.d .none) (mk s1):=by
 walk_at "zfn"
noncomputable def granted (s:S):S:=bif s.wish != "" then ((s.state_ s.wish).wish_ "") else s
structure Took (s:S) (k:Nat) (s3:S):Prop where
 go:∃ tok s1 x,pyIdx s.out (k:Int) = some tok ∧ Does f_Builder_feed [.loc 0,.d tok] (mk s) (.d .none) (mk s1) ∧
  Does f_Builder_is_foreign [.loc 0] (mk (granted s1)) (.d (.bool x)) (mk (granted s1)) ∧ s3 = ((granted s1).frn_ x)
 z:s.out.length < 100000
 k:k < s.out.length
noncomputable abbrev hoT:Tab:=[(500,f_Builder_feed),(514,f_Builder_is_foreign),(627,f_Tokenizer_to)]
noncomputable abbrev hoC (L:Locs) (st:St) (f:Bool → St → Prop):Prop:=wpE hoT (.cmp .lt (.v 80) (.len .lst (.attr (.v 207) 743 150))) L st fun x st => x.bool fun p => f p st
noncomputable abbrev hoB:MSs:=(.cons (.expr (.meth (.v 48) 517 500 81 (.cons (.idx .seq (.attr (.v 207) 743 150) (.v 80)) .nil))) (.cons (.aug 80 (.lit (.int 1))) (.cons (.ifs (.cmp .neS (.attr (.v 48) 517 217) (.lit (.str ""))) (.cons (.expr (.meth (.v 207) 743 627 205 (.cons (.attr (.v 48) 517 217) .nil))) (.cons (.setattr (.v 48) 517 217 (.lit (.str ""))) .nil)) .nil) (.cons (.setattr (.v 207) 743 107 (.meth (.v 48) 517 514 107 .nil)) .nil))))
section
variable {k:Nat} {L:Locs} {K:SK} (h1:L.lookup 80 = some (.d (.int (k:Int)))) (h3:L.lookup 207 = some (.loc 19))
include h1 h3
theorem took_body (H:Took s k s3) (h2:L.lookup 48 = some (.loc 0)) (hK:K.n ((80,.d (.int ((k + 1:Nat):Int))) :: L) (mk s3)):wpSs hoT hoB L (mk s) K:=by
 obtain ⟨tok,s1,x,e1,e2,e3,rfl⟩:=H.go
 have hb:=k_bd (k:=k) (Nat.lt_trans H.k (Nat.lt_trans H.z (by decide)))
 unfold granted at e3 hK
 cases hw:(s1.wish != "") <;> (rw [hw] at e3 hK;dsimp only [cond] at e3 hK;(repeat walk_at "zs");exact hK)
theorem ho_t {n:Nat} (hz:s.out.length < 100000) (hk:k < s.out.length) (h:wpSs hoT hoB L (mk s) (lopK (loopW hoC (wpSs hoT hoB) n) K)):loopW hoC (wpSs hoT hoB) (n + 1) L (mk s) K:=by
 have hl:s.out.length ≤ bigLen:=Nat.le_of_lt (Nat.lt_trans hz (by decide))
 have c:decide ((k:Int) < (s.out.length:Int)) = true:=decide_eq_true (Int.ofNat_lt.mpr hk)
 (repeat walk_at "zs")
 exact h
theorem ho_f {n:Nat} (hz:s.out.length < 100000) (hk:s.out.length ≤ k) (h:K.n L (mk s)):loopW hoC (wpSs hoT hoB) (n + 1) L (mk s) K:=by
 have hl:s.out.length ≤ bigLen:=Nat.le_of_lt (Nat.lt_trans hz (by decide))
 have c:decide ((k:Int) < (s.out.length:Int)) = false:=decide_eq_false (Int.not_lt.mpr (Int.ofNat_le.mpr hk))
 (repeat walk_at "zs")
 exact h
end
theorem lop_i {f:Locs → St → SK → Prop} {k:SK} {L:Locs} {st:St} (h:f L st k):(lopK f k).n L st:=h
theorem ho_fun {k:Nat} (h:∀ K:EK,(∀ L,L.lookup 80 = some (.d (.int (s.out.length:Int))) → (seqK (wpSs hoT (.cons (.ret (.v 80)) .nil)) (rK K)).n L (mk s1)) → loopW hoC (wpSs hoT hoB) 1000 [(80,.d (.int (k:Int))),(48,.loc 0),(207,.loc 19)] (mk s) (seqK (wpSs hoT (.cons (.ret (.v 80)) .nil)) (rK K))) :
  Does f_hand_over [.loc 19,.loc 0,.d (.int (k:Int))] (mk s) (.d (.int (s.out.length:Int))) (mk s1):=by
 intro K hK
 refine run_q (by with_unfolding_all rfl) rfl ?_
 exact h K fun L hl => opt_i hl hK
theorem ho0 (hz:s.out.length < 100000):Does f_hand_over [.loc 19,.loc 0,.d (.int (s.out.length:Int))] (mk s) (.d (.int (s.out.length:Int))) (mk s) :=
 ho_fun fun K h => ho_f rfl rfl hz (Nat.le_refl _) (h _ rfl)
theorem ho1 {k:Nat} (H:Took s k s3) (ho:s3.out = s.out) (hk:s.out.length = k + 1):Does f_hand_over [.loc 19,.loc 0,.d (.int (k:Int))] (mk s) (.d (.int (s.out.length:Int))) (mk s3):=by
 refine ho_fun fun K h => ho_t rfl rfl H.z H.k (took_body rfl rfl H rfl ?_)
 refine lop_i ?_
 refine ho_f (n:=998) (k:=k + 1) ?_ ?_ (ho ▸ H.z) (Nat.le_of_eq (ho ▸ hk)) (h _ ?_)
 ·rfl
 ·rfl
 ·rw [hk];rfl
theorem ho2 {s4:S} {k:Nat} (H:Took s k s3) (H2:Took s3 (k + 1) s4) (ho:s3.out = s.out) (ho2:s4.out = s.out) (hk:s.out.length = k + 2):Does f_hand_over [.loc 19,.loc 0,.d (.int (k:Int))] (mk s) (.d (.int (s.out.length:Int))) (mk s4):=by
 refine ho_fun fun K h => ho_t rfl rfl H.z H.k (took_body rfl rfl H rfl ?_)
 refine lop_i ?_
 refine ho_t (n:=998) (k:=k + 1) ?_ ?_ (ho ▸ H.z) (by rw [ho,hk];exact Nat.lt_succ_self _) (took_body (k:=k + 1) ?_ ?_ H2 ?_ ?_)
 iterate 5 rfl
 refine lop_i ?_
 refine ho_f (n:=997) (k:=k + 2) ?_ ?_ (ho2 ▸ H.z) (Nat.le_of_eq (ho2 ▸ hk)) (h _ ?_)
 ·rfl
 ·rfl
 ·rw [hk];rfl
end
end
section
set_option maxRecDepth 100000
set_option maxHeartbeats 2000000
noncomputable abbrev htmlP:Str × Str:=(Str.ofString "html",Str.ofString "html")
structure C where
 held:List (Str × Str)
 out:List PyData
 errs:List PyData
 notes:List PyData
 pos:Nat
 last:Str
 back:Str
 mode:Str
 state:Str
noncomputable def C.here (sp:Str × Str) (c:C):Str × Str:=if 1 < c.held.length then c.held.getLast?.getD sp else sp
noncomputable def points:List (Str × Str):=[("math","mi"),("svg","desc"),("svg","foreignObject"),("svg","title")]
noncomputable def turnC (h:Str × Str) (kind:Str):Bool:=h.1 == "html" || (points.contains h && (kind == "char" || kind == "start"))
noncomputable def C.put (c:C) (m:Str) (t:PyData):C:={ c with out:=c.out ++ [t],notes:=c.notes ++ [.tuple [.str m,t]] }
noncomputable def C.rule (sp:Str × Str) (c:C) (kind:Str):Str:=bif turnC (c.here sp) kind then c.mode else "foreign content"
noncomputable def C.char (sp:Str × Str) (c:C) (x:Str):C:=c.put (c.rule sp "char") (tChar x)
noncomputable def C.com (sp:Str × Str) (c:C) (x:Str):C:=c.put (c.rule sp "comment") (tCom x)
noncomputable def C.leave (c:C) (n:Str):C:=bif decide (1 < c.held.length) && ((c.held.getLast?.getD ("","")).2 == n) then { c with held:=c.held.dropLast } else c
noncomputable def C.endT (sp:Str × Str) (c:C) (n:Str):C:=(c.put (c.rule sp "end") (tEnd n)).leave n
noncomputable def rawOf (n:Str):Str:=match rawsD.lookup n with | some (.d (.str w)) => w | _ => "data"
noncomputable def modeOf (w:Str):Str:=bif w == "data" || w == "PLAINTEXT" then "in body" else "text"
noncomputable def C.startT (c:C) (m x n st md:Str):C:={ held:=c.held ++ [(x,n)],out:=c.out ++ [tStart n],errs:=c.errs,notes:=c.notes ++ [.tuple [.str m,tStart n]],pos:=c.pos,last:=n,back:=c.back,mode:=md,state:=st }
noncomputable def spaceOf (n:Str):Str:=bif n == "svg" then "svg" else "html"
noncomputable def C.start (sp:Str × Str) (c:C) (n:Str):C:=bif turnC (c.here sp) "start" then c.startT "in body" (spaceOf n) n (rawOf n) (modeOf (rawOf n)) else c.startT "foreign content" (c.here sp).1 n c.state c.mode
noncomputable def C.close (c:C):C:={ c.put "text" (tEnd c.last) with held:=c.held.dropLast,mode:="in body",state:="data" }
noncomputable def allN:List Str:=["svg","foreignObject","div","title","script","style","plaintext","g","html","mi","math","noscript","desc"]
noncomputable def allS:List Str:=["html","svg","math"]
noncomputable def okP (p:Str × Str):Bool:=allS.contains p.1 && allN.contains p.2
theorem okP_all:(allS.all fun x => allN.all fun y => (x == "html" || ((mpt x y || hpt x y) == points.contains (x,y))) && PyData.canLay0 (.str y) && y != "annotation-xml" && y != "template" && !([PyData.str "mglyph",.str "malignmark"].any fun z => PyData.eqv z (.str y))) = true:=by decide +kernel
structure OkF (x y:Str):Prop where
 pt:(x != "html") = true → (mpt x y || hpt x y) = points.contains (x,y)
 lay:PyData.canLay0 (.str y) = true
 an:(y != "annotation-xml") = true
 te:(y == "template") = false
 mg:([PyData.str "mglyph",.str "malignmark"].any fun z => PyData.eqv z (.str y)) = false
theorem okF_of {x y:Str} (h:okP (x,y) = true):OkF x y:=by
 unfold okP at h
 rw [Bool.and_eq_true] at h
 have q:=List.all_eq_true.mp (List.all_eq_true.mp okP_all x (by simpa using h.1)) y (by simpa using h.2)
 simp only [Bool.and_eq_true,Bool.or_eq_true,beq_iff_eq,Bool.not_eq_true',bne_iff_ne] at q
 obtain ⟨⟨⟨⟨q1,q2⟩,q3⟩,q4⟩,q5⟩:=q
 refine ⟨fun hx => ?_,q2,by simpa using q3,by simpa using q4,q5⟩
 rcases q1 with q1 | q1
 ·subst q1;simp at hx
 ·exact q1
noncomputable def lookS (s:S) (i:Int):Str × Str:=(s.sp.getD i.toNat "",s.nms.getD i.toNat "")
structure RepB (sp:Str × Str) (c:C) (s:S):Prop where
 notes:s.notes = c.notes
 mode:s.mode = c.mode
 wish:s.wish = ""
 bd:s.bdone = false
 tr:Tr s
 held:c.held = s.its.map (lookS s)
 root:c.held.head? = some htmlP
 ctx:(s.ctx = -1 ∧ sp = htmlP) ∨ ∃ k:Nat,s.ctx = (k:Int) ∧ k < s.sp.length ∧ lookS s k = sp
 md:c.mode = "in body" ∨ (c.mode = "text" ∧ s.orig = "in body" ∧ 1 < c.held.length ∧ (c.here sp).1 = "html")
 okS:okP sp = true
 okH:∀ p ∈ c.held,okP p = true
 spl:s.sp.length ≤ 3 + s.notes.length
theorem lookS_at {s:S} {k:Nat} (H:Tr s) (hk:k < s.sp.length):s.sp[k]? = some (lookS s k).1 ∧ s.nms[k]? = some (lookS s k).2:=by
 unfold lookS
 simp only [Int.toNat_natCast,List.getD_eq_getElem?_getD]
 rw [List.getElem?_eq_getElem hk,List.getElem?_eq_getElem (by rw [H.nms];exact hk)]
 exact ⟨rfl,rfl⟩
theorem RepB.its {sp:Str × Str} {c:C} {s:S} (R:RepB sp c s):∃ pre p,s.its = pre ++ [((p:Nat):Int)] ∧ p < s.sp.length:=by
 have h:s.its ≠ []:=by
  intro e
  have:=R.root
  rw [R.held,e] at this;cases this
 obtain ⟨k,e,l⟩:=R.tr.its _ (List.getLast_mem h)
 exact ⟨s.its.dropLast,k,by rw [← e];exact (List.dropLast_concat_getLast h).symm,l⟩
theorem RepB.here {sp:Str × Str} {c:C} {s:S} (R:RepB sp c s):∃ k,Here s k (c.here sp).1 (c.here sp).2:=by
 obtain ⟨pre,p,hi,hp⟩:=R.its
 have hlen:c.held.length = s.its.length:=by rw [R.held,List.length_map]
 have sm:=R.tr.sm
 have hz:s.its.length < 100000:=by have:=R.tr.itl;omega
 have one:∀ k:Nat,adj s (p:Int) = (k:Int) → k < s.sp.length → lookS s k = c.here sp → ∃ k,Here s k (c.here sp).1 (c.here sp).2:=by
  intro k e hk el
  obtain ⟨a,b⟩:=lookS_at R.tr hk
  exact ⟨k,⟨pre,_,hi,e⟩,hz,by omega,by rw [a,el],by rw [b,el]⟩
 have last:c.held.getLast? = some (lookS s p):=by rw [R.held,hi];simp
 by_cases h1:s.its.length = 1
 ·have e1:(((s.its.map PyData.int).length:Int) == 1) = true:=by rw [List.length_map,h1];rfl
  have eh:c.here sp = sp:=by unfold C.here;rw [if_neg (by omega)]
  rcases R.ctx with ⟨a,b⟩ | ⟨k,a,b,d⟩
  ·refine one p ?_ hp ?_
   ·unfold adj;rw [e1,a];rfl
   ·rw [eh,b]
    have:pre = []:=by rw [hi] at h1;simpa using h1
    have hr:=R.root
    rw [R.held,hi,this] at hr
    exact Option.some.inj hr
  ·refine one k ?_ b ?_
   ·have:((k:Int) != -1) = true:=by simp
    unfold adj;rw [e1,a,this];rfl
   ·rw [eh];exact d
 ·have e1:(((s.its.map PyData.int).length:Int) == 1) = false:=by rw [List.length_map];simp;omega
  refine one p ?_ hp ?_
  ·unfold adj;rw [e1];rfl
  ·have h0:s.its.length ≠ 0:=by rw [hi];simp
   unfold C.here;rw [if_pos (by omega),last];rfl
noncomputable def S.tk (s:S):Int × Str × Str × List PyData × List PyData × Bool × Bool × List PyData × Bool × Bool × List PyData × Nat:=(s.ix,s.back,s.last,s.out,s.errs,s.wait,s.done,s.signs,s.closed,s.ret,s.serrs,s.j0)
section
variable {s s1 s2:S} {sp:Str × Str} {c:C}
theorem S.ext_tk {s s':S}:s'.tk = s.tk ↔ s'.ix = s.ix ∧ s'.back = s.back ∧ s'.last = s.last ∧ s'.out = s.out ∧ s'.errs = s.errs ∧ s'.wait = s.wait ∧ s'.done = s.done ∧ s'.signs = s.signs ∧ s'.closed = s.closed ∧ s'.ret = s.ret ∧ s'.serrs = s.serrs ∧ s'.j0 = s.j0:=by
 unfold S.tk;simp only [Prod.mk.injEq]
theorem RepB.same (R:RepB sp c s) {c':C} {s':S} (h1:c'.held = c.held) (h2:c'.notes = c.notes) (h3:c'.mode = c.mode) (h4:s' = { s with ix:=s'.ix,state:=s'.state,back:=s'.back,last:=s'.last,out:=s'.out,errs:=s'.errs,frn:=s'.frn,wait:=s'.wait,done:=s'.done,signs:=s'.signs,closed:=s'.closed,ret:=s'.ret,serrs:=s'.serrs }):RepB sp c' s':=by
 have e:c'.here sp = c.here sp:=by unfold C.here;rw [h1]
 rw [h4]
 exact ⟨by rw [h2];exact R.notes,by rw [h3];exact R.mode,R.wish,R.bd,⟨R.tr.nms,R.tr.pa,R.tr.kinds,R.tr.attrs,R.tr.texts,R.tr.nC,R.tr.jb,R.tr.sm,R.tr.par,R.tr.its,R.tr.itl⟩,by rw [h1];exact R.held,by rw [h1];exact R.root,R.ctx,by rw [h1,h3,e];exact R.md,R.okS,by rw [h1];exact R.okH,R.spl⟩
theorem RepB.to (R:RepB sp c s) {c':C} (h1:c'.held = c.held) (h2:c'.notes = c.notes) (h3:c'.mode = c.mode):RepB sp c' s:=R.same h1 h2 h3 rfl
theorem RepB.noted (R:RepB sp c s) (m:Str) (t:PyData):RepB sp (c.put m t) (s.notes_ (s.notes ++ [.tuple [.str m,t]])):=by
 have e:(c.put m t).here sp = c.here sp:=rfl
 refine ⟨by show s.notes ++ _ = c.notes ++ _;rw [R.notes],R.mode,R.wish,R.bd,⟨R.tr.nms,R.tr.pa,R.tr.kinds,R.tr.attrs,R.tr.texts,R.tr.nC,R.tr.jb,R.tr.sm,R.tr.par,R.tr.its,R.tr.itl⟩,R.held,R.root,R.ctx,R.md,R.okS,R.okH,?_⟩
 have:=R.spl
 show s.sp.length ≤ 3 + (s.notes ++ _).length
 rw [List.length_append];omega
theorem RepB.hereF (R:RepB sp c s):OkF (c.here sp).1 (c.here sp).2:=by
 refine okF_of ?_
 show okP (c.here sp) = true
 unfold C.here
 split
 ·cases h:c.held.getLast? with
  | none => exact R.okS
  | some p => exact R.okH p (List.mem_of_getLast? h)
 ·exact R.okS
theorem RepB.its_len (R:RepB sp c s):((s.its.map PyData.int).length:Int) = (c.held.length:Int):=by rw [R.held,List.length_map,List.length_map]
theorem RepB.pop (R:RepB sp c s) {pre:List Int} {p:Int} (hi:s.its = pre ++ [p]) (hl:1 < c.held.length) {m m':Str} (e:m = m') (hm:m' = "in body"):RepB sp { c with held:=c.held.dropLast,mode:=m' } ((s.its_ pre).mode_ m):=by
 have eh:c.held.dropLast = pre.map (lookS s):=by rw [R.held,hi,List.map_append];exact List.dropLast_concat
 refine ⟨R.notes,e,R.wish,R.bd,⟨R.tr.nms,R.tr.pa,R.tr.kinds,R.tr.attrs,R.tr.texts,R.tr.nC,R.tr.jb,R.tr.sm,R.tr.par,fun i hi' => R.tr.its i (by rw [hi];exact List.mem_append_left _ hi'),?_⟩,eh,?_,R.ctx,.inl hm,R.okS,fun q hq => R.okH q ((List.dropLast_sublist _).subset hq),R.spl⟩
 ·have:=R.tr.itl;rw [hi,List.length_append] at this;exact Nat.le_trans (Nat.le_add_right _ _) this
 ·show c.held.dropLast.head? = some htmlP
  rw [← R.root]
  cases hc:c.held with
  | nil => rfl
  | cons a l =>
   rw [hc] at hl
   cases l with
   | nil => exact absurd hl (Nat.lt_irrefl 1)
   | cons d l => rfl
theorem RepB.itz (R:RepB sp c s):s.its.length < 100000:=Nat.lt_of_le_of_lt R.tr.itl (Nat.lt_trans R.tr.sm (by decide))
theorem rb_leave (R:RepB sp c s) (hm:c.mode = "in body") (n:Str):∃ s',Does f__law_leave [.loc 0,.d (.str n)] (mk s) (.d .none) (mk s') ∧ RepB sp (c.leave n) s' ∧ s'.tk = s.tk ∧ s'.state = s.state:=by
 obtain ⟨pre,p,hi,hp⟩:=R.its
 have hl:decide ((1:Int) < ((s.its.map PyData.int).length:Int)) = decide (1 < c.held.length):=by rw [R.its_len,decide_eq_decide];exact Int.ofNat_lt
 have nm:=(lookS_at R.tr hp).2
 have hpz:=Nat.lt_trans hp (Nat.lt_trans R.tr.sm (show 800 < 100000 by decide))
 have last:c.held.getLast?.getD ("","") = lookS s p:=by rw [R.held,hi,List.map_append,show [(p:Int)].map (lookS s) = [lookS s p] from rfl,List.getLast?_concat];rfl
 unfold C.leave
 rw [last]
 cases h1:decide (1 < c.held.length) with
 | false => exact ⟨s,leave_no R.itz (hl.trans h1),R,rfl,rfl⟩
 | true =>
  cases h2:(lookS s (p:Int)).2 == n with
  | false => exact ⟨s,leave_other R.itz (hl.trans h1) hi nm hpz h2,R,rfl,rfl⟩
  | true => exact ⟨(s.its_ pre),leave_yes R.itz (hl.trans h1) hi nm hpz h2,R.pop hi (of_decide_eq_true h1) R.mode hm,rfl,rfl⟩
theorem opn_look {x y:Str} {p:Int} (H:Tr s) {k:Nat} (hk:k < s.sp.length):lookS (s.opn x y p) (k:Int) = lookS s (k:Int):=by
 unfold lookS
 have h1:(s.opn x y p).sp = s.sp ++ [x]:=rfl
 have h2:(s.opn x y p).nms = s.nms ++ [y]:=rfl
 have hn:k < s.nms.length:=by rw [H.nms];exact hk
 simp only [h1,h2,Int.toNat_natCast,List.getD_eq_getElem?_getD]
 rw [List.getElem?_append_left hk,List.getElem?_append_left hn]
theorem opn_top {x y:Str} {p:Int} (H:Tr s):lookS (s.opn x y p) (s.sp.length:Int) = (x,y):=by
 unfold lookS
 have h1:(s.opn x y p).sp = s.sp ++ [x]:=rfl
 have h2:(s.opn x y p).nms = s.nms ++ [y]:=rfl
 simp only [h1,h2,Int.toNat_natCast,List.getD_eq_getElem?_getD]
 rw [List.getElem?_append_right (Nat.le_refl _),List.getElem?_append_right (by rw [H.nms];exact Nat.le_refl _),H.nms]
 simp
theorem opn_tr {x y:Str} {p:Nat} (H:Tr s) (hp:p < s.sp.length) (hs:s.sp.length + 1 < 800):Tr (s.opn x y (p:Int)):=by
 have l1:(s.opn x y (p:Int)).sp.length = s.sp.length + 1:=by show (s.sp ++ [x]).length = _;simp
 refine ⟨?_,?_,?_,?_,?_,?_,?_,by rw [l1];exact hs,fun k v h => ?_,fun i hi => ?_,?_⟩
 ·rw [l1];show (s.nms ++ [y]).length = _;simp [H.nms]
 ·rw [l1];show ((s.pa ++ [-1]).set s.sp.length (p:Int)).length = _;simp [H.pa]
 ·rw [l1];show (s.kinds ++ _).length = _;simp [H.kinds]
 ·rw [l1];show (s.attrs ++ _).length = _;simp [H.attrs]
 ·rw [l1];show (s.texts ++ _).length = _;simp [H.texts]
 ·rw [l1];show s.nC + 1 = _;rw [H.nC]
 ·rw [l1];show s.jb + 1 ≤ s.sp.length + 1 + s.j0 ∧ s.j0 ≤ 2000;have:=H.jb;exact ⟨by omega,this.2⟩
 ·have h':((s.pa ++ [-1]).set s.sp.length (p:Int))[k]? = some v:=h
  rw [List.getElem?_set] at h'
  split at h'
  ·rename_i e
   split at h'
   ·cases h';exact .inr ⟨p,rfl,by omega⟩
   ·cases h'
  ·exact add_par H.par x y k v h'
 ·have hi':i ∈ s.its ++ [(s.sp.length:Int)]:=hi
  rw [l1]
  rcases List.mem_append.mp hi' with h | h
  ·obtain ⟨k,e,l⟩:=H.its i h;exact ⟨k,e,by omega⟩
  ·exact ⟨s.sp.length,by simpa using h,by omega⟩
 ·rw [l1];show (s.its ++ _).length ≤ _;have:=H.itl;simp;omega
theorem RepB.opn (R:RepB sp c s) {x y:Str} {p:Nat} (hp:p < s.sp.length) (hs:s.sp.length + 1 < 800) (hl:s.sp.length + 1 ≤ 3 + s.notes.length) (ok:okP (x,y) = true) {c':C} {s':S} (e:s' = { s.opn x y (p:Int) with ix:=s'.ix,state:=s'.state,back:=s'.back,last:=s'.last,out:=s'.out,errs:=s'.errs,frn:=s'.frn,wait:=s'.wait,done:=s'.done,signs:=s'.signs,closed:=s'.closed,ret:=s'.ret,serrs:=s'.serrs,mode:=s'.mode,orig:=s'.orig,wish:=s'.wish })
  (h1:c'.held = c.held ++ [(x,y)]) (h2:c'.notes = c.notes) (h3:s'.mode = c'.mode) (h4:s'.wish = "") (h5:c'.mode = "in body" ∨ (c'.mode = "text" ∧ s'.orig = "in body" ∧ x = "html")):RepB sp c' s':=by
 have T:=opn_tr (x:=x) (y:=y) R.tr hp hs
 have e1:s'.sp = s.sp ++ [x]:=by rw [e];rfl
 have e2:s'.nms = s.nms ++ [y]:=by rw [e];rfl
 have lk:∀ i,lookS s' i = lookS (s.opn x y (p:Int)) i:=fun i => by unfold lookS;rw [e1,e2];rfl
 have hne:c.held ≠ []:=fun q => by have:=R.root;rw [q] at this;cases this
 refine ⟨?_,h3,h4,?_,?_,?_,?_,?_,?_,R.okS,?_,?_⟩
 ·rw [h2,e];exact R.notes
 ·rw [e];exact R.bd
 ·rw [e];exact ⟨T.nms,T.pa,T.kinds,T.attrs,T.texts,T.nC,T.jb,T.sm,T.par,T.its,T.itl⟩
 ·rw [h1,R.held]
  have e3:s'.its = s.its ++ [(s.sp.length:Int)]:=by rw [e];rfl
  rw [e3,List.map_append]
  congr 1
  ·refine List.map_congr_left fun i hi => ?_
   obtain ⟨k,ek,lk'⟩:=R.tr.its i hi
   rw [lk,ek,opn_look R.tr lk']
  ·simp only [List.map_cons,List.map_nil];rw [lk,opn_top R.tr]
 ·have hr:=R.root
  rw [h1]
  cases hc:c.held with
  | nil => exact absurd hc hne
  | cons a l => rw [hc] at hr;simpa using hr
 ·have ec:s'.ctx = s.ctx:=by rw [e];rfl
  rcases R.ctx with ⟨a,b⟩ | ⟨k,a,b,d⟩
  ·exact .inl ⟨by rw [ec];exact a,b⟩
  ·refine .inr ⟨k,by rw [ec];exact a,by rw [e1];simp;omega,?_⟩
   rw [lk,opn_look R.tr b];exact d
 ·rcases h5 with h | ⟨a,b,d⟩
  ·exact .inl h
  ·have hl2:1 < c'.held.length:=by
    rw [h1,List.length_append]
    have:c.held.length ≠ 0:=by simpa using hne
    simp;omega
   refine .inr ⟨a,b,hl2,?_⟩
   unfold C.here;rw [if_pos hl2,h1];simp [d]
 ·intro q hq
  rw [h1] at hq
  rcases List.mem_append.mp hq with h | h
  ·exact R.okH q h
  ·simp only [List.mem_singleton] at h;rw [h];exact ok
 ·have en:s'.notes = s.notes:=by rw [e];rfl
  rw [e1,en];simp;omega
end
end
section
set_option maxRecDepth 100000
set_option maxHeartbeats 2000000
section
variable {s s1 s2:S} {sp:Str × Str} {c:C} {x:Str} {tok:PyData} {v:AV}
theorem use_body (h:Does f__law_body [.loc 0,.d tok] (mk s) v (mk s1)):Does f_Builder_use1 [.loc 0,.d (.str "in body"),.d tok] (mk s) (.d .none) (mk s1):=q_use (m:="in body") (f:=836) rfl rfl h
theorem use_for (h:Does f__law_foreign [.loc 0,.d tok] (mk s) v (mk s1)):Does f_Builder_use1 [.loc 0,.d (.str "foreign content"),.d tok] (mk s) (.d .none) (mk s1):=q_use (m:="foreign content") (f:=850) rfl rfl h
theorem use_text (h:Does f__law_inner [.loc 0,.d tok] (mk s) v (mk s1)):Does f_Builder_use1 [.loc 0,.d (.str "text"),.d tok] (mk s) (.d .none) (mk s1):=q_use (m:="text") (f:=843) rfl rfl h
theorem use_body0 (h:Does f__law_body [.loc 0,.d tok] (mk s) v (mk s1)):Does f_Builder_use [.loc 0,.d (.str "in body"),.d tok] (mk s) (.d .none) (mk s1):=q_use0 (m:="in body") (f:=836) rfl rfl h
theorem proc_m {m:Str} (hm:s.mode = m) (ht:Does f_is_html_turn [.loc 0,.d tok] (mk s) (.d (.bool true)) (mk s)) (h:Does f_Builder_use1 [.loc 0,.d (.str m),.d tok] (mk s) (.d .none) (mk s1)):Does f_Builder_process1 [.loc 0,.d tok] (mk s) (.d .none) (mk s1):=q_proc ht (by rw [hm];exact h)
theorem proc_m0 {m:Str} (hm:s.mode = m) (ht:Does f_is_html_turn [.loc 0,.d tok] (mk s) (.d (.bool true)) (mk s)) (h:Does f_Builder_use [.loc 0,.d (.str m),.d tok] (mk s) (.d .none) (mk s1)):Does f_Builder_process [.loc 0,.d tok] (mk s) (.d .none) (mk s1):=q_proc0 ht (by rw [hm];exact h)
def Fed (sp:Str × Str) (s:S) (tok:PyData) (c':C) (st:Str):Prop :=
 ∃ s',Does f_Builder_feed [.loc 0,.d tok] (mk s) (.d .none) (mk s') ∧ (granted s').tk = s.tk ∧ (granted s').state = st ∧ RepB sp c' (granted s')
theorem granted_no {s:S} (h:s.wish = ""):granted s = s:=by unfold granted;rw [h];rfl
theorem granted_w {s:S} (h:(s.wish != "") = true):granted s = ((s.state_ s.wish).wish_ ""):=by unfold granted;rw [h];rfl
theorem fed_no {c':C} {s':S} {st:Str} (h:Does f_Builder_feed [.loc 0,.d tok] (mk s) (.d .none) (mk s')) (a:s'.tk = s.tk) (b:s'.state = st) (R:RepB sp c' s'):Fed sp s tok c' st :=
 have g:=granted_no R.wish
 ⟨s',h,g.symm ▸ a,g.symm ▸ b,g.symm ▸ R⟩
theorem noteLen (R:RepB sp c s) (hz:c.notes.length < 700):s.notes.length < bigLen:=R.notes ▸ Nat.lt_trans hz (by decide)
theorem turn_at (R:RepB sp c s) {t:Str} (hh:((c.here sp).1 != "html") = false → Does f_is_html_turn [.loc 0,.d tok] (mk s) (.d (.bool true)) (mk s)) (hf:((c.here sp).1 != "html") = true → ∃ b,b = (points.contains (c.here sp) && (t == "char" || t == "start")) ∧ Does f_is_html_turn [.loc 0,.d tok] (mk s) (.d (.bool b)) (mk s)) :
  Does f_is_html_turn [.loc 0,.d tok] (mk s) (.d (.bool (turnC (c.here sp) t))) (mk s):=by
 unfold turnC
 cases hx:((c.here sp).1 == "html") with
 | true => exact hh (by unfold bne;rw [hx];rfl)
 | false => exact (hf (by unfold bne;rw [hx];rfl)).elim fun b q => by rw [Bool.false_or,← q.1];exact q.2
theorem tn_char (R:RepB sp c s) (x:Str):Does f_is_html_turn [.loc 0,.d (tChar x)] (mk s) (.d (.bool (turnC (c.here sp) "char"))) (mk s):=R.here.elim fun _ H => turn_at R (turn_html H) fun hx => ⟨_,((R.hereF.pt hx).trans (Bool.and_true _).symm),turn_char H hx R.hereF.an R.hereF.lay⟩
theorem tn_start (R:RepB sp c s) {n:Str} (F:OkF x n) {ds:List PyData}:Does f_is_html_turn [.loc 0,.d (.tuple (.str "start" :: .str n :: ds))] (mk s) (.d (.bool (turnC (c.here sp) "start"))) (mk s):=R.here.elim fun _ H => turn_at R (turn_html H) fun hx => ⟨_,((R.hereF.pt hx).trans (Bool.and_true _).symm),turn_start H hx R.hereF.an R.hereF.lay F.lay F.mg⟩
theorem tn_else (R:RepB sp c s) {t:Str} {ds:List PyData} (h5:(t == "eof") = false) (h6:(t == "char") = false) (h7:(t == "start") = false):Does f_is_html_turn [.loc 0,.d (.tuple (.str t :: ds))] (mk s) (.d (.bool (turnC (c.here sp) t))) (mk s):=R.here.elim fun _ H => turn_at R (turn_html H) fun hx => ⟨false,by rw [h6,h7];exact (Bool.and_false _).symm,turn_else H hx R.hereF.an R.hereF.lay h5 h6 (by unfold bne;rw [h7];rfl)⟩
theorem pr_tok (R:RepB sp c s) {t:Str} (ht:Does f_is_html_turn [.loc 0,.d tok] (mk s) (.d (.bool (turnC (c.here sp) t))) (mk s)) (h:Does f_Builder_use1 [.loc 0,.d (.str (c.rule sp t)),.d tok] (mk s) (.d .none) (mk s1)):Does f_Builder_process1 [.loc 0,.d tok] (mk s) (.d .none) (mk s1):=by
 unfold C.rule at h
 cases hb:turnC (c.here sp) t with
 | true => rw [hb] at ht h;exact proc_m R.mode ht h
 | false => rw [hb] at ht h;exact q_procF ht h
theorem rule_c {P:Str → Prop} {t:Str} (hm:P c.mode) (hf:P "foreign content"):P (c.rule sp t):=by
 unfold C.rule;cases turnC (c.here sp) t;exact hf;exact hm
def Noted (s:S) (tok:PyData) (m:Str):Prop:=Does f_Builder_use1 [.loc 0,.d (.str m),.d tok] (mk s) (.d .none) (mk (s.notes_ (s.notes ++ [.tuple [.str m,tok]])))
theorem fd_char (R:RepB sp c s) (hz:c.notes.length < 700) (x:Str):Fed sp s (tChar x) (c.char sp x) s.state :=
 have nz:=noteLen R hz
 have b:Noted s (tChar x) "in body":=use_body (bo_plain (t:="char") (ds:=[.str x]) nz rfl rfl rfl)
 have f:Noted s (tChar x) "foreign content":=use_for (fo_plain (t:="char") (ds:=[.str x]) nz rfl rfl)
 have i:Noted s (tChar x) "text":=use_text (in_char nz)
 fed_no (q_feed R.bd rfl (pr_tok R (tn_char R x) (rule_c (P:=Noted s (tChar x)) (R.md.elim (fun e => e.symm ▸ b) fun q => q.1.symm ▸ i) f))) rfl rfl (R.noted _ _)
theorem fd_com (R:RepB sp c s) (hz:c.notes.length < 700) (hm:c.mode = "in body") (x:Str):Fed sp s (tCom x) (c.com sp x) s.state :=
 have nz:=noteLen R hz
 have b:Noted s (tCom x) "in body":=use_body (bo_plain (t:="comment") (ds:=[.str x]) nz rfl rfl rfl)
 have f:Noted s (tCom x) "foreign content":=use_for (fo_plain (t:="comment") (ds:=[.str x]) nz rfl rfl)
 fed_no (q_feed R.bd rfl (pr_tok R (tn_else (t:="comment") R rfl rfl rfl) (rule_c (P:=Noted s (tCom x)) (hm.symm ▸ b) f))) rfl rfl (R.noted _ _)
theorem fd_end (R:RepB sp c s) (hz:c.notes.length < 700) (hm:c.mode = "in body") (n:Str):Fed sp s (tEnd n) (c.endT sp n) s.state:=by
 have nz:=noteLen R hz
 obtain ⟨s',e1,e2,e3,e4⟩:=rb_leave (R.noted (c.rule sp "end") (tEnd n)) hm n
 have us:=rule_c (c:=c) (sp:=sp) (t:="end") (P:=fun m => Does f__law_leave [.loc 0,.d (.str n)] (mk (s.notes_ (s.notes ++ [.tuple [.str m,tEnd n]]))) (.d .none) (mk s') → Does f_Builder_use1 [.loc 0,.d (.str m),.d (tEnd n)] (mk s) (.d .none) (mk s')) (hm.symm ▸ fun h => use_body (bo_end nz h)) (fun h => use_for (fo_end nz h)) e1
 exact fed_no (q_feed R.bd rfl (pr_tok R (tn_else (t:="end") R rfl rfl rfl) us)) e3 e4 e2
theorem fd_close (R:RepB sp c s) (hz:c.notes.length < 700) (hm:c.mode = "text"):∃ s',Does f_Builder_feed [.loc 0,.d (tEnd c.last)] (mk s) (.d .none) (mk s') ∧ (granted s').tk = s.tk ∧ (granted s').state = s.state ∧ RepB sp c.close (granted s'):=by
 have nz:=noteLen R hz
 rcases R.md with h | ⟨_,ho,hl,hh⟩
 ·rw [hm] at h;exact absurd h (by decide +kernel)
 ·have hx:((c.here sp).1 != "html") = false:=by rw [hh];rfl
  have R':=R.noted "text" (tEnd c.last)
  obtain ⟨pre,p,hi,hp⟩:=R.its
  have R1:=(R'.pop hi hl ho rfl).to (c':=c.close) rfl rfl rfl
  exact R.here.elim fun k H => fed_no (q_feed R.bd rfl (proc_m (R.mode.trans hm) (turn_html H hx) (use_text (in_end nz (q_pop R'.itz hi))))) rfl rfl R1
noncomputable def startN:List Str:=["svg","foreignObject","div","title","script","style","plaintext","g"]
theorem start_facts {n:Str} (hn:n ∈ startN):okP (spaceOf n,n) = true ∧ (allS.all fun x => okP (x,n)) = true ∧
  ((rawsD.lookup n).isSome = false ∧ rawOf n = "data" ∧ modeOf (rawOf n) = "in body" ∨ ∃ w,rawsD.lookup n = some (.d (.str w)) ∧ rawOf n = w ∧ (w != "") = true ∧ (n == "svg") = false ∧ ((w != "PLAINTEXT") = true ∧ modeOf w = "text" ∨ (w != "PLAINTEXT") = false ∧ modeOf w = "in body")):=by
 unfold startN at hn
 simp only [List.mem_cons,List.not_mem_nil,or_false] at hn
 rcases hn with rfl | rfl | rfl | rfl | rfl | rfl | rfl | rfl
 ·exact ⟨by decide +kernel,by decide +kernel,.inl ⟨by decide +kernel,by decide +kernel,by decide +kernel⟩⟩
 ·exact ⟨by decide +kernel,by decide +kernel,.inl ⟨by decide +kernel,by decide +kernel,by decide +kernel⟩⟩
 ·exact ⟨by decide +kernel,by decide +kernel,.inl ⟨by decide +kernel,by decide +kernel,by decide +kernel⟩⟩
 ·exact ⟨by decide +kernel,by decide +kernel,.inr ⟨"RCDATA",by rfl,by rfl,by decide +kernel,by decide +kernel,.inl ⟨by decide +kernel,by decide +kernel⟩⟩⟩
 ·exact ⟨by decide +kernel,by decide +kernel,.inr ⟨"script data",by rfl,by rfl,by decide +kernel,by decide +kernel,.inl ⟨by decide +kernel,by decide +kernel⟩⟩⟩
 ·exact ⟨by decide +kernel,by decide +kernel,.inr ⟨"RAWTEXT",by rfl,by rfl,by decide +kernel,by decide +kernel,.inl ⟨by decide +kernel,by decide +kernel⟩⟩⟩
 ·exact ⟨by decide +kernel,by decide +kernel,.inr ⟨"PLAINTEXT",by rfl,by rfl,by decide +kernel,by decide +kernel,.inr ⟨by decide +kernel,by decide +kernel⟩⟩⟩
 ·exact ⟨by decide +kernel,by decide +kernel,.inl ⟨by decide +kernel,by decide +kernel,by decide +kernel⟩⟩
theorem space_eq (n:Str):spaceOf n = bif n == "svg" then "svg" else "html":=by unfold spaceOf;cases (n == "svg") <;> rfl
theorem fd_opn (R:RepB sp c s) (hz:c.notes.length < 700) (m:Str) {x n:Str} (ok:okP (x,n) = true):∃ s1,Does f__law_open [.loc 0,.d (.str n),.d (.str x)] (mk (s.notes_ (s.notes ++ [.tuple [.str m,tStart n]]))) (.d .none) (mk s1) ∧ s1.tk = s.tk ∧ s1.state = s.state ∧ s1.mode = s.mode ∧ s1.wish = "" ∧
  ∀ (c':C) (md og st w:Str),c'.held = c.held ++ [(x,n)] → c'.notes = c.notes ++ [.tuple [.str m,tStart n]] → md = c'.mode → w = "" → (c'.mode = "in body" ∨ (c'.mode = "text" ∧ og = "in body" ∧ x = "html")) → RepB sp c' { s1 with mode:=md,orig:=og,state:=st,wish:=w }:=by
 obtain ⟨pre,p,hi,hp⟩:=R.its
 have R0:=R.noted m (tStart n)
 have nl:s.notes.length < 700:=by rw [R.notes];exact hz
 have hspl:=R.spl
 refine ⟨_,q_open R0.tr hi hp (okF_of ok).te,rfl,rfl,rfl,R.wish,fun c' md og st w a1 a2 a3 a4 a5 => ?_⟩
 exact R0.opn (x:=x) (y:=n) (p:=p) hp (Nat.lt_of_le_of_lt (Nat.succ_le_succ hspl) (by omega)) (Nat.le_trans (Nat.succ_le_succ hspl) (show _ ≤ 3 + (s.notes ++ [PyData.tuple [.str m,tStart n]]).length by rw [List.length_append];exact Nat.le_refl _)) ok rfl a1 a2 a3 a4 a5
theorem fd_start (R:RepB sp c s) (hz:c.notes.length < 700) (hm:c.mode = "in body") {n:Str} (hn:n ∈ startN) (hs:s.state = c.state) (hst:c.state = "data"):Fed sp s (tStart n) (c.start sp n) (c.start sp n).state:=by
 have nz:=noteLen R hz
 obtain ⟨ok1,ok2,raws⟩:=start_facts hn
 have tn:=tn_start R (okF_of ok1) (ds:=[.tuple [],.bool false])
 unfold C.start
 cases ht:turnC (c.here sp) "start" with
 | true =>
  rw [ht] at tn
  obtain ⟨s1,o,t1,t2,t3,t4,fin⟩:=fd_opn R hz "in body" ok1
  have body:∀ {s':S},Does f__law_body [.loc 0,.d (tStart n)] (mk s) (.d .none) (mk s') → Does f_Builder_feed [.loc 0,.d (tStart n)] (mk s) (.d .none) (mk s'):=fun h => q_feedS R.bd (proc_m (R.mode.trans hm) tn (use_body h))
  have t5:s1.mode = "in body":=t3.trans (R.mode.trans hm)
  rcases raws with ⟨r1,r2,r3⟩ | ⟨w,r1,r2,r3,r4,r5⟩
  ·exact fed_no (body (bo_start nz (space_eq n) o r1)) t1 (t2.trans (hs.trans (hst.trans r2.symm))) (fin _ s1.mode s1.orig s1.state s1.wish rfl rfl (t5.trans r3.symm) t4 (.inl r3))
  ·have e2:spaceOf n = "html":=by unfold spaceOf;rw [r4];rfl
   rcases r5 with ⟨r5,r6⟩ | ⟨r5,r6⟩
   ·have g:=granted_w (s:=((s1.wish_ w).orig_ s1.mode).mode_ "text") r3
    exact ⟨_,body (bo_raw nz (space_eq n) o r1 r5),by rw [g];exact t1,by rw [g];exact r2.symm,by rw [g];exact fin _ "text" s1.mode w "" rfl rfl (by rw [← r6,← r2];rfl) rfl (.inr ⟨by rw [← r6,← r2];rfl,t5,e2⟩)⟩
   ·have g:=granted_w (s:=s1.wish_ w) r3
    exact ⟨_,body (bo_rawP nz (space_eq n) o r1 r5),by rw [g];exact t1,by rw [g];exact r2.symm,by rw [g];exact fin _ s1.mode s1.orig w "" rfl rfl (by rw [t5,← r6,← r2];rfl) rfl (.inl (by rw [← r6,← r2];rfl))⟩
 | false =>
  rw [ht] at tn
  have okh:allS.contains (c.here sp).1 = true:=by
   have:okP (c.here sp) = true:=by
    unfold C.here
    split
    ·cases h:c.held.getLast? with
     | none => exact R.okS
     | some p => exact R.okH p (List.mem_of_getLast? h)
    ·exact R.okS
   unfold okP at this;exact an_l this
  have okx:okP ((c.here sp).1,n) = true:=List.all_eq_true.mp ok2 _ (List.contains_iff_mem.mp okh)
  obtain ⟨s1,o,t1,t2,t3,t4,fin⟩:=fd_opn R hz "foreign content" okx
  exact R.here.elim fun k H => fed_no (q_feedS R.bd (q_procF tn (use_for (fo_start (k:=k) nz ⟨H.e,H.z,H.kz,H.hsp,H.hnm⟩ o)))) t1 (t2.trans hs) (fin _ s1.mode s1.orig s1.state s1.wish rfl rfl (t3.trans R.mode) t4 (.inl hm))
noncomputable def C.eof (c:C):C:=bif c.mode == "text" then { (c.put "text" tEof) with notes:=c.notes ++ [.tuple [.str "text",tEof]] ++ [.tuple [.str "in body",tEof]],held:=c.held.dropLast,mode:="in body" } else c.put "in body" tEof
theorem bd_eq {s:S} (h:s.bdone = false):(s.bdone_ true).bdone_ false = s:=by cases s;cases h;rfl
theorem RepB.bdf (R:RepB sp c s):RepB sp c ((s.bdone_ true).bdone_ false):=(bd_eq R.bd).symm ▸ R
section
variable {n:List PyData} {i:List Int} {m:Str} {x:Bool}
theorem tk_notes:(s.notes_ n).tk = s.tk:=rfl
theorem tk_its:(s.its_ i).tk = s.tk:=rfl
theorem tk_mode:(s.mode_ m).tk = s.tk:=rfl
theorem tk_bdone:(s.bdone_ x).tk = s.tk:=rfl
theorem st_notes:(s.notes_ n).state = s.state:=rfl
theorem st_its:(s.its_ i).state = s.state:=rfl
theorem st_mode:(s.mode_ m).state = s.state:=rfl
theorem st_bdone:(s.bdone_ x).state = s.state:=rfl
theorem wi_notes:(s.notes_ n).wish = s.wish:=rfl
theorem wi_its:(s.its_ i).wish = s.wish:=rfl
theorem wi_mode:(s.mode_ m).wish = s.wish:=rfl
theorem wi_bdone:(s.bdone_ x).wish = s.wish:=rfl
end
noncomputable def S.eofd (s:S):S:=(s.notes_ (s.notes ++ [.tuple [.str "in body",tEof]])).bdone_ true
theorem eof_tail (R:RepB sp c s) (nz:s.notes.length < bigLen):RepB sp (c.put "in body" tEof) (s.eofd.bdone_ false) ∧ s.eofd.tk = s.tk ∧ s.eofd.state = s.state ∧ s.eofd.wish = s.wish ∧ s.eofd.bdone = true :=
 ⟨(R.noted "in body" tEof).bdf,tk_bdone.trans tk_notes,st_bdone.trans st_notes,wi_bdone.trans wi_notes,rfl⟩
theorem fd_eof (R:RepB sp c s) (hz:c.notes.length < 700):∃ s',Does f_Builder_feed [.loc 0,.d tEof] (mk s) (.d .none) (mk s') ∧ s'.tk = s.tk ∧ s'.state = s.state ∧ s'.wish = "" ∧ s'.bdone = true ∧ RepB sp c.eof (s'.bdone_ false):=by
 have nz:=noteLen R hz
 obtain ⟨k,H⟩:=R.here
 rcases R.md with hm | ⟨hm,ho,hl,hh⟩
 ·have e:c.eof = c.put "in body" tEof:=by unfold C.eof;rw [hm];rfl
  rw [e]
  obtain ⟨q1,q2,q3,q4,q5⟩:=eof_tail R nz
  exact ⟨s.eofd,q_feed (t:="eof") (ds:=[]) R.bd rfl (proc_m (R.mode.trans hm) (turn_eof H) (use_body (bo_eof nz))),q2,q3,q4.trans R.wish,q5,q1⟩
 ·have e:c.eof = { (c.put "text" tEof) with notes:=c.notes ++ [.tuple [.str "text",tEof]] ++ [.tuple [.str "in body",tEof]],held:=c.held.dropLast,mode:="in body" }:=by unfold C.eof;rw [hm];rfl
  rw [e]
  obtain ⟨pre,p,hi,hp⟩:=R.its
  have R':=R.noted "text" tEof
  have po:=q_pop R'.itz hi
  have t1:((s.notes_ (s.notes ++ [.tuple [.str "text",tEof]])).its_ pre).tk = s.tk:=tk_its.trans tk_notes
  have t2:((s.notes_ (s.notes ++ [.tuple [.str "text",tEof]])).its_ pre).state = s.state:=st_its.trans st_notes
  have ho1:((s.notes_ (s.notes ++ [.tuple [.str "text",tEof]])).its_ pre).orig = "in body":=ho
  have R1:=R'.pop hi hl ho1 rfl
  have nz1:((s.notes_ (s.notes ++ [.tuple [.str "text",tEof]])).its_ pre).notes.length < bigLen:=show (s.notes ++ [PyData.tuple [.str "text",tEof]]).length < bigLen by rw [List.length_append,R.notes];exact Nat.lt_trans (Nat.add_lt_add_right hz 1) (by decide)
  generalize (s.notes_ (s.notes ++ [.tuple [.str "text",tEof]])).its_ pre = s1 at *
  obtain ⟨q1,q2,q3,q4,q5⟩:=eof_tail R1 nz1
  obtain ⟨k1,H1⟩:=R1.here
  exact ⟨(s1.mode_ s1.orig).eofd,q_feed (t:="eof") (ds:=[]) R.bd rfl (proc_m (R.mode.trans hm) (turn_eof H) (use_text (in_eof nz po (proc_m0 ho1 (turn_eof H1) (use_body0 (bo_eof nz1)))))),q2.trans (tk_mode.trans t1),q3.trans (st_mode.trans t2),q4.trans R1.wish,q5,q1.to rfl rfl rfl⟩
end
end
section
set_option maxRecDepth 100000
set_option maxHeartbeats 2000000
section
variable {s s1 s2 s3:S} {sp:Str × Str} {c c' c2:C} {tok t2:PyData} {sg:List Str} {cl:Bool} {st bk st':Str} {ix:Nat} {x:Str}
def Iter (s s2:S):Prop:=∃ s1,Does f_Tokenizer_step [.loc 19] (mk s) (.d .none) (mk s1) ∧
 Does f_hand_over [.loc 19,.loc 0,.d (.int (s.out.length:Int))] (mk s1) (.d (.int (s2.out.length:Int))) (mk s2)
theorem took_of (F:Fed sp s tok c' st) {k:Nat} (ht:pyIdx s.out (k:Int) = some tok) (hz:s.out.length < 100000) (hk:k < s.out.length):∃ s3,Took s k s3 ∧ RepB sp c' s3 ∧ s3.tk = s.tk ∧ s3.state = st ∧ s3.frn = ((c'.here sp).1 != "html"):=by
 obtain ⟨s1,h1,h2,h3,h4⟩:=F
 obtain ⟨k',H⟩:=h4.here
 exact ⟨((granted s1).frn_ ((c'.here sp).1 != "html")),⟨⟨tok,s1,_,ht,h1,q_frn H,rfl⟩,hz,hk⟩,h4.same rfl rfl rfl rfl,h2,h3,rfl⟩
structure Conf (J:Nat) (sp:Str × Str) (sg:List Str) (cl:Bool) (c:C) (s:S) (st:Str) (ix:Nat) (bk:Str):Prop where
 B:RepB sp c s
 out:s.out = c.out
 errs:s.errs = c.errs
 last:s.last = c.last
 frn:s.frn = ((c.here sp).1 != "html")
 state:s.state = st
 hix:s.ix = (ix:Int)
 hback:s.back = bk
 done:s.done = false
 signs:s.signs = sg.map .str
 closed:s.closed = cl
 sgz:sg.length ≤ 22
 ixz:ix ≤ sg.length
 ret:s.ret = false
 se:s.serrs.length ≤ sg.length
 jj:s.j0 = J
structure Sm (n:Nat) (c:C):Prop where
 nn:c.notes.length ≤ n
 oo:c.out.length ≤ n
 ee:c.errs.length ≤ n
theorem Conf.hl (K:Conf J sp sg cl c s st ix bk):s.signs.length ≤ bigLen:=by rw [K.signs,List.length_map];have:=K.sgz;unfold bigLen;omega
theorem Conf.hlt (K:Conf J sp sg cl c s st ix bk) (h:sg[ix]? = some x):decide (s.ix < (s.signs.length:Int)) = true:=by
 obtain ⟨l,_⟩:=List.getElem?_eq_some_iff.mp h
 rw [K.signs,List.length_map,K.hix];simp;omega
theorem Conf.hge (K:Conf J sp sg cl c s st ix bk) (h:sg[ix]? = none):decide (s.ix < (s.signs.length:Int)) = false:=by
 have l:=List.getElem?_eq_none_iff.mp h
 rw [K.signs,List.length_map,K.hix];simp;omega
theorem Conf.hc (K:Conf J sp sg cl c s st ix bk) (h:sg[ix]? = some x):pyIdx s.signs s.ix = some (.str x):=by
 rw [K.signs,K.hix];exact pyIdx_pos (by rw [List.getElem?_map,h];rfl)
theorem Conf.hn (K:Conf J sp sg cl c s st ix bk):-(2 ^ 62) < s.ix ∧ s.ix < 2 ^ 62:=by rw [K.hix];have:=K.sgz;have:=K.ixz;omega
theorem Conf.ho (K:Conf J sp sg cl c s st ix bk) {n:Nat} (h:Sm n c) (hn:n < 600):s.out.length + 1 < bigLen:=by rw [K.out];have:=h.oo;unfold bigLen;omega
theorem Conf.ho' (K:Conf J sp sg cl c s st ix bk) {n:Nat} (h:Sm n c) (hn:n < 600):s.out.length < bigLen:=by have:=K.ho h hn;omega
theorem Conf.he (K:Conf J sp sg cl c s st ix bk) {n:Nat} (h:Sm n c) (hn:n < 600):s.errs.length < bigLen:=by rw [K.errs];have:=h.ee;unfold bigLen;omega
theorem iter_none (K:Conf J sp sg cl c s st ix bk) {n:Nat} (hs:Sm n c) (hn:n < 600) (h:Does f_Tokenizer_step [.loc 19] (mk s) (.d .none) (mk s1)) (e:s1 = { s with ix:=s1.ix,state:=s1.state,back:=s1.back,wait:=s1.wait }) {ix':Nat} (hi:s1.ix = (ix':Int)) (hz:ix' ≤ sg.length) {bk':Str} {wt:Bool} (e2:s1.state = st') (e3:s1.back = bk') (e4:s1.wait = wt) :
  ∃ s2,Iter s s2 ∧ Conf J sp sg cl c s2 st' ix' bk' ∧ s2.wait = wt:=by
 subst e2 e3 e4
 have eo:s1.out = s.out:=by rw [e]
 refine ⟨s1,⟨s1,h,?_⟩,⟨K.B.same rfl rfl rfl (by rw [e]),by rw [eo];exact K.out,by rw [e];exact K.errs,by rw [e];exact K.last,by rw [e];exact K.frn,rfl,hi,rfl,by rw [e];exact K.done,by rw [e];exact K.signs,by rw [e];exact K.closed,K.sgz,hz,by rw [e];exact K.ret,by rw [e];exact K.se,by rw [e];exact K.jj⟩,rfl⟩
 rw [← eo]
 exact ho0 (by rw [eo,K.out];have:=hs.oo;omega)
theorem iter_one (K:Conf J sp sg cl c s st ix bk) {n:Nat} (hs:Sm n c) (hn:n < 600) (h:Does f_Tokenizer_step [.loc 19] (mk s) (.d .none) (mk s1)) (e:s1 = { s with ix:=s1.ix,state:=s1.state,back:=s1.back,wait:=s1.wait,errs:=s1.errs,last:=s1.last,out:=s.out ++ [tok] })
  (hr1:s1.errs = c'.errs) (hr2:s1.last = c'.last) (ho:c'.out = c.out ++ [tok]) (F:RepB sp c s1 → Fed sp s1 tok c' st') {ix':Nat} (hi:s1.ix = (ix':Int)) (hz:ix' ≤ sg.length) {bk':Str} {wt:Bool} (e3:s1.back = bk') (e4:s1.wait = wt) :
  ∃ s2,Iter s s2 ∧ Conf J sp sg cl c' s2 st' ix' bk' ∧ s2.wait = wt:=by
 subst e3 e4
 have eo:s1.out = s.out ++ [tok]:=by rw [e]
 have B1:RepB sp c s1:=K.B.same rfl rfl rfl (by rw [e])
 have lz:=hs.oo
 have hpy:pyIdx s1.out (s.out.length:Int) = some tok:=pyIdx_pos (by rw [eo];simp)
 have hlen:s1.out.length = s.out.length + 1:=by rw [eo];simp
 obtain ⟨s3,T,R3,tk,hst,hf⟩:=took_of (F B1) hpy (by rw [hlen,K.out];omega) (by omega)
 obtain ⟨t1,t2,t3,t4,t5,t6,t7,t8,t9,t10,t11,t12⟩:=S.ext_tk.mp tk
 refine ⟨s3,⟨s1,h,by rw [t4];exact ho1 T t4 hlen⟩,⟨R3,by rw [t4,eo,K.out,ho],by rw [t5,hr1],by rw [t3,hr2],hf,hst,by rw [t1,hi],t2,by rw [t7,e];exact K.done,by rw [t8,e];exact K.signs,by rw [t9,e];exact K.closed,K.sgz,hz,by rw [t10,e];exact K.ret,by rw [t11,e];exact K.se,by rw [t12,e];exact K.jj⟩,t6⟩
theorem iter_two (K:Conf J sp sg cl c s st ix bk) {n:Nat} (hs:Sm n c) (hn:n < 600) (h:Does f_Tokenizer_step [.loc 19] (mk s) (.d .none) (mk s1)) (e:s1 = { s with ix:=s1.ix,state:=s1.state,back:=s1.back,wait:=s1.wait,errs:=s1.errs,last:=s1.last,out:=s.out ++ [tok] ++ [t2] })
  (hr1:s1.errs = c2.errs) (hr2:s1.last = c2.last) (ho:c2.out = c.out ++ [tok] ++ [t2]) (F:RepB sp c s1 → Fed sp s1 tok c' s1.state) (F2:∀ s3,RepB sp c' s3 → s3.state = s1.state → Fed sp s3 t2 c2 st') {ix':Nat} (hi:s1.ix = (ix':Int)) (hz:ix' ≤ sg.length) {bk':Str} {wt:Bool} (e3:s1.back = bk') (e4:s1.wait = wt) :
  ∃ s2,Iter s s2 ∧ Conf J sp sg cl c2 s2 st' ix' bk' ∧ s2.wait = wt:=by
 subst e3 e4
 have eo:s1.out = s.out ++ [tok] ++ [t2]:=by rw [e]
 have B1:RepB sp c s1:=K.B.same rfl rfl rfl (by rw [e])
 have lz:=hs.oo
 have hpy:pyIdx s1.out (s.out.length:Int) = some tok:=pyIdx_pos (by rw [eo];simp)
 have hlen:s1.out.length = s.out.length + 2:=by rw [eo];simp
 obtain ⟨s3,T,R3,tk,hst,hf⟩:=took_of (F B1) hpy (by rw [hlen,K.out];omega) (by omega)
 obtain ⟨t1,t2',t3,t4,t5,t6,t7,t8,t9,t10,t11,t12⟩:=S.ext_tk.mp tk
 have hpy2:pyIdx s3.out ((s.out.length + 1:Nat):Int) = some t2:=pyIdx_pos (by rw [t4,eo];simp)
 obtain ⟨s4,T2,R4,tk2,hst2,hf2⟩:=took_of (F2 s3 R3 hst) hpy2 (by rw [t4,hlen,K.out];omega) (by rw [t4];omega)
 obtain ⟨u1,u2,u3,u4,u5,u6,u7,u8,u9,u10,u11,u12⟩:=S.ext_tk.mp tk2
 refine ⟨s4,⟨s1,h,by rw [u4,t4];exact ho2 T T2 t4 (u4.trans t4) hlen⟩,⟨R4,by rw [u4,t4,eo,K.out,ho],by rw [u5,t5,hr1],by rw [u3,t3,hr2],hf2,hst2,by rw [u1,t1,hi],by rw [u2,t2'],by rw [u7,t7,e];exact K.done,by rw [u8,t8,e];exact K.signs,by rw [u9,t9,e];exact K.closed,K.sgz,hz,by rw [u10,t10,e];exact K.ret,by rw [u11,t11,e];exact K.se,by rw [u12,t12,e];exact K.jj⟩,by rw [u6,t6]⟩
theorem stepData (h:Does f_data_state [.loc 19] (mk (s.wait_ false)) (.d .none) (mk s1)) (hs:s.state = "data") (hw:s1.wait = false):Does f_Tokenizer_step [.loc 19] (mk s) (.d .none) (mk s1):=q_step (f:=535) (by rw [hs];rfl) h hw
theorem stepTag (h:Does f__law_tag_open [.loc 19] (mk (s.wait_ false)) (.d .none) (mk s1)) (hs:s.state = "tag open") (hw:s1.wait = false):Does f_Tokenizer_step [.loc 19] (mk s) (.d .none) (mk s1):=q_step (f:=801) (by rw [hs];rfl) h hw
theorem stepTagW (h:Does f__law_tag_open [.loc 19] (mk (s.wait_ false)) (.d .none) (mk s1)) (hs:s.state = "tag open") (hw:s1.wait = true):Does f_Tokenizer_step [.loc 19] (mk s) (.d .none) (mk (s1.ix_ s.ix)):=q_stepW (f:=801) (by rw [hs];rfl) h hw
theorem stepRef (h:Does f__law_reference [.loc 19] (mk (s.wait_ false)) (.d .none) (mk s1)) (hs:s.state = "character reference") (hw:s1.wait = false):Does f_Tokenizer_step [.loc 19] (mk s) (.d .none) (mk s1):=q_step (f:=808) (by rw [hs];rfl) h hw
def heldS (st:Str):Prop:=st = "RCDATA" ∨ st = "RAWTEXT" ∨ st = "script data" ∨ st = "PLAINTEXT"
theorem stepHeld (h:Does f__law_held [.loc 19] (mk (s.wait_ false)) (.d .none) (mk s1)) (hs:heldS s.state) (hw:s1.wait = false):Does f_Tokenizer_step [.loc 19] (mk s) (.d .none) (mk s1):=by
 refine q_step (f:=815) ?_ h hw
 rcases hs with h | h | h | h <;> (rw [h];rfl)
noncomputable def C.err (c:C) (code:Str) (p:Nat):C:={ c with errs:=c.errs ++ [.tuple [.str code,.int (p:Int)]] }
theorem rep_err (R:RepB sp c s) (code:Str) (p:Nat):RepB sp (c.err code p) s:=R.same rfl rfl rfl rfl
theorem rep_st (R:RepB sp c s) (e:s1 = { s with ix:=s1.ix,state:=s1.state,back:=s1.back,last:=s1.last,out:=s1.out,errs:=s1.errs,frn:=s1.frn,wait:=s1.wait,done:=s1.done,signs:=s1.signs,closed:=s1.closed,ret:=s1.ret,serrs:=s1.serrs }):RepB sp c s1:=R.same rfl rfl rfl e
theorem leave_out (c:C) (n:Str):(c.leave n).out = c.out ∧ (c.leave n).errs = c.errs ∧ (c.leave n).last = c.last ∧ (c.leave n).mode = c.mode ∧ (c.leave n).state = c.state ∧ (c.leave n).notes = c.notes ∧ (c.leave n).back = c.back ∧ (c.leave n).pos = c.pos:=by
 unfold C.leave
 cases (decide (1 < c.held.length) && ((c.held.getLast?.getD ("","")).2 == n)) <;> exact ⟨rfl,rfl,rfl,rfl,rfl,rfl,rfl,rfl⟩
theorem start_out (sp:Str × Str) (c:C) (n:Str):(c.start sp n).out = c.out ++ [tStart n] ∧ (c.start sp n).errs = c.errs ∧ (c.start sp n).last = n:=by
 unfold C.start
 cases turnC (c.here sp) "start" <;> exact ⟨rfl,rfl,rfl⟩
theorem fd_charS (R:RepB sp c s) (hz:c.notes.length < 700) (x:Str) (e:s.state = st):Fed sp s (tChar x) (c.char sp x) st:=by subst e;exact fd_char R hz x
section
variable {n:Nat} (hs:Sm n c) (hn:n < 600) (hx:sg[ix]? = some x)
include hs hn hx
theorem i_amp (K:Conf J sp sg cl c s "data" ix bk) (h:x = "&"):∃ s2,Iter s s2 ∧ Conf J sp sg cl c s2 "character reference" (ix + 1) "data" ∧ s2.wait = false:=by
 have hl:ix < sg.length:=(List.getElem?_eq_some_iff.mp hx).1
 exact iter_none K hs hn (stepData (da_amp (s:=(s.wait_ false)) K.hl (K.hlt hx) (K.hc hx) K.hn (K.ho' hs hn) (K.he hs hn) h) K.state rfl) rfl (by show s.ix + 1 = _;rw [K.hix];rfl) hl rfl rfl rfl
theorem i_lt (K:Conf J sp sg cl c s "data" ix bk) (h:x = "<"):∃ s2,Iter s s2 ∧ Conf J sp sg cl c s2 "tag open" (ix + 1) bk ∧ s2.wait = false:=by
 have hl:ix < sg.length:=(List.getElem?_eq_some_iff.mp hx).1
 exact iter_none K hs hn (stepData (da_lt (s:=(s.wait_ false)) K.hl (K.hlt hx) (K.hc hx) K.hn (K.ho' hs hn) (K.he hs hn) h) K.state rfl) rfl (by show s.ix + 1 = _;rw [K.hix];rfl) hl rfl K.hback rfl
theorem i_nul (K:Conf J sp sg cl c s "data" ix bk) (h:x = "\x00"):∃ s2,Iter s s2 ∧ Conf J sp sg cl ((c.err "unexpected-null-character" ix).char sp x) s2 "data" (ix + 1) bk ∧ s2.wait = false:=by
 have hl:ix < sg.length:=(List.getElem?_eq_some_iff.mp hx).1
 refine iter_one (c':=(c.err "unexpected-null-character" ix).char sp x) (tok:=tChar x) K hs hn (stepData (da_nul (s:=(s.wait_ false)) K.hl (K.hlt hx) (K.hc hx) K.hn (K.ho' hs hn) (K.he hs hn) h) K.state rfl) rfl ?_ K.last rfl (fun R => ?_) (by show s.ix + 1 = _;rw [K.hix];rfl) hl K.hback rfl
 ·show s.errs ++ [.tuple [.str "unexpected-null-character",.int (s.ix + 1 - 1)]] = c.errs ++ [.tuple [.str "unexpected-null-character",.int (ix:Int)]]
  rw [K.errs,K.hix,Int.add_sub_cancel]
 ·exact fd_charS (rep_err R "unexpected-null-character" ix) (by have:=hs.nn;show c.notes.length < 700;omega) x K.state
theorem i_chr (K:Conf J sp sg cl c s "data" ix bk) (h0:(x == "") = false) (h1:(x == "&") = false) (h2:(x == "<") = false) (h3:(x == "\x00") = false):∃ s2,Iter s s2 ∧ Conf J sp sg cl (c.char sp x) s2 "data" (ix + 1) bk ∧ s2.wait = false:=by
 have hl:ix < sg.length:=(List.getElem?_eq_some_iff.mp hx).1
 refine iter_one (c':=c.char sp x) (tok:=tChar x) K hs hn (stepData (da_chr (s:=(s.wait_ false)) K.hl (K.hlt hx) (K.hc hx) K.hn (K.ho' hs hn) (K.he hs hn) h0 h1 h2 h3) K.state rfl) rfl K.errs K.last rfl (fun R => ?_) (by show s.ix + 1 = _;rw [K.hix];rfl) hl K.hback rfl
 exact fd_charS R (by have:=hs.nn;omega) x K.state
theorem i_star (K:Conf J sp sg cl c s "character reference" ix bk) (h:x = "*"):∃ s2,Iter s s2 ∧ Conf J sp sg cl ((c.char sp "[").char sp "]") s2 bk (ix + 1) bk ∧ s2.wait = false:=by
 have hl:ix < sg.length:=(List.getElem?_eq_some_iff.mp hx).1
 refine iter_two (c2:=(c.char sp "[").char sp "]") (tok:=tChar "[") (t2:=tChar "]") (c':=c.char sp "[") K hs hn (stepRef (re_star (s:=(s.wait_ false)) K.hl (K.hlt hx) (K.hc hx) K.hn (K.ho' hs hn) (K.he hs hn) h (K.ho hs hn)) K.state rfl) rfl K.errs K.last rfl (fun R => fd_char R (by have:=hs.nn;omega) "[") (fun s3 R e => ?_) (by show s.ix + 1 = _;rw [K.hix];rfl) hl K.hback rfl
 exact fd_charS R (by have:=hs.nn;show (c.notes ++ _).length < 700;simp;omega) "]" (e.trans K.hback)
theorem i_refe (K:Conf J sp sg cl c s "character reference" ix bk) (h:(x == "*") = false):∃ s2,Iter s s2 ∧ Conf J sp sg cl (c.char sp "&") s2 bk ix bk ∧ s2.wait = false:=by
 refine iter_one (c':=c.char sp "&") (tok:=tChar "&") K hs hn (stepRef (re_else (s:=(s.wait_ false)) K.hl (K.hlt hx) (K.hc hx) K.hn (K.ho' hs hn) (K.he hs hn) h) K.state rfl) rfl K.errs K.last rfl (fun R => ?_) (by show s.ix + 1 - 1 = _;rw [K.hix,Int.add_sub_cancel]) K.ixz K.hback rfl
 exact fd_charS R (by have:=hs.nn;omega) "&" K.hback
theorem i_name (K:Conf J sp sg cl c s "tag open" ix bk) (hm:c.mode = "in body") (hst:c.state = "data") {m:Str} (h1:(x == "!") = false) (h2:namesD.lookup x = some (.d (.str m))) (h3:m ∈ startN):∃ s2,Iter s s2 ∧ Conf J sp sg cl (c.start sp m) s2 (c.start sp m).state (ix + 1) bk ∧ s2.wait = false:=by
 have hl:ix < sg.length:=(List.getElem?_eq_some_iff.mp hx).1
 obtain ⟨q1,q2,q3⟩:=start_out sp c m
 exact iter_one (c':=c.start sp m) (tok:=tStart m) K hs hn (stepTag (ta_name (s:=(s.wait_ false)) K.hl (K.hlt hx) (K.hc hx) K.hn (K.ho hs hn) (K.he hs hn) h1 h2) K.state rfl) rfl (K.errs.trans q2.symm) q3.symm q1 (fun R => fd_start R (by have:=hs.nn;omega) hm h3 hst.symm hst) (by show s.ix + 1 = _;rw [K.hix];rfl) hl K.hback rfl
theorem i_endt (K:Conf J sp sg cl c s "tag open" ix bk) (hm:c.mode = "in body") {m:Str} (h1:(x == "!") = false) (h0:(namesD.lookup x).isSome = false) (h2:endsD.lookup x = some (.d (.str m))):∃ s2,Iter s s2 ∧ Conf J sp sg cl (c.endT sp m) s2 "data" (ix + 1) bk ∧ s2.wait = false:=by
 have hl:ix < sg.length:=(List.getElem?_eq_some_iff.mp hx).1
 obtain ⟨q1,q2,q3,_⟩:=leave_out (c.put (c.rule sp "end") (tEnd m)) m
 exact iter_one (c':=c.endT sp m) (tok:=tEnd m) K hs hn (stepTag (ta_end (s:=(s.wait_ false)) K.hl (K.hlt hx) (K.hc hx) K.hn (K.ho hs hn) (K.he hs hn) h1 h0 h2) K.state rfl) rfl (K.errs.trans q2.symm) (K.last.trans q3.symm) q1 (fun R => fd_end R (by have:=hs.nn;omega) hm m) (by show s.ix + 1 = _;rw [K.hix];rfl) hl K.hback rfl
theorem i_else (K:Conf J sp sg cl c s "tag open" ix bk) (h1:(x == "!") = false) (h0:(namesD.lookup x).isSome = false) (h2:(endsD.lookup x).isSome = false):∃ s2,Iter s s2 ∧ Conf J sp sg cl (c.char sp "<") s2 "data" ix bk ∧ s2.wait = false :=
 iter_one (c':=c.char sp "<") (tok:=tChar "<") K hs hn (stepTag (ta_else (s:=(s.wait_ false)) K.hl (K.hlt hx) (K.hc hx) K.hn (K.ho hs hn) (K.he hs hn) h1 h0 h2) K.state rfl) rfl K.errs K.last rfl (fun R => fd_char R (by have:=hs.nn;omega) "<") (by show s.ix + 1 - 1 = _;rw [K.hix,Int.add_sub_cancel]) K.ixz K.hback rfl
theorem Conf.pastEnd (K:Conf J sp sg cl c s st ix bk) (h:ix + 1 = sg.length):decide ((s.signs.length:Int) ≤ s.ix + 1 + 0) = true:=by
 rw [K.signs,K.hix,List.length_map];simp;omega
theorem i_wait (K:Conf J sp sg false c s "tag open" ix bk) (h:x = "!") (h1:ix + 1 = sg.length):∃ s2,Iter s s2 ∧ Conf J sp sg false c s2 "tag open" ix bk ∧ s2.wait = true :=
 iter_none K hs hn (stepTagW (ta_wait (s:=(s.wait_ false)) K.hl (K.hlt hx) (K.hc hx) K.hn (K.ho hs hn) (K.he hs hn) h (Conf.pastEnd (s:=s) hs hn hx K h1) K.closed) K.state rfl) rfl K.hix K.ixz K.state K.hback rfl
theorem i_comC (K:Conf J sp sg true c s "tag open" ix bk) (hm:c.mode = "in body") (h:x = "!") (h1:ix + 1 = sg.length):∃ s2,Iter s s2 ∧ Conf J sp sg true (c.com sp "") s2 "data" (ix + 1) bk ∧ s2.wait = false :=
 iter_one (c':=c.com sp "") (tok:=tCom "") K hs hn (stepTag (ta_comC (s:=(s.wait_ false)) K.hl (K.hlt hx) (K.hc hx) K.hn (K.ho hs hn) (K.he hs hn) h (Conf.pastEnd (s:=s) hs hn hx K h1) K.closed) K.state rfl) rfl K.errs K.last rfl (fun R => fd_com R (by have:=hs.nn;omega) hm "") (by show s.ix + 1 = _;rw [K.hix];rfl) (by omega) K.hback rfl
variable {y:Str} (hy:sg[ix + 1]? = some y)
include hy
theorem Conf.nx (K:Conf J sp sg cl c s st ix bk):decide ((s.signs.length:Int) ≤ s.ix + 1 + 0) = false ∧ pyIdx s.signs (s.ix + 1 + 0) = some (.str y) ∧ (-(2 ^ 62) < s.ix + 1 + 0 ∧ s.ix + 1 + 0 < 2 ^ 62):=by
 have hl:ix + 1 < sg.length:=(List.getElem?_eq_some_iff.mp hy).1
 have hz:=K.sgz
 have e:s.ix + 1 + 0 = ((ix + 1:Nat):Int):=by rw [K.hix];rfl
 rw [e]
 refine ⟨by rw [K.signs,List.length_map];simp;omega,?_,by omega⟩
 rw [K.signs];exact pyIdx_pos (by rw [List.getElem?_map,hy];rfl)
theorem i_com (K:Conf J sp sg cl c s "tag open" ix bk) (hm:c.mode = "in body") (h:x = "!") (h1:(y != "[") = true):∃ s2,Iter s s2 ∧ Conf J sp sg cl (c.com sp "") s2 "data" (ix + 1) bk ∧ s2.wait = false:=by
 have hl:ix < sg.length:=(List.getElem?_eq_some_iff.mp hx).1
 obtain ⟨n1,n2,n3⟩:=K.nx hs hn hx hy
 exact iter_one (c':=c.com sp "") (tok:=tCom "") K hs hn (stepTag (ta_com (s:=(s.wait_ false)) K.hl (K.hlt hx) (K.hc hx) K.hn (K.ho hs hn) (K.he hs hn) n1 n2 n3 h h1) K.state rfl) rfl K.errs K.last rfl (fun R => fd_com R (by have:=hs.nn;omega) hm "") (by show s.ix + 1 = _;rw [K.hix];rfl) hl K.hback rfl
theorem i_sec (K:Conf J sp sg cl c s "tag open" ix bk) (h:x = "!") (h1:y = "[") (h2:((c.here sp).1 != "html") = true):∃ s2,Iter s s2 ∧ Conf J sp sg cl ((c.char sp "[").char sp "]") s2 "data" (ix + 2) bk ∧ s2.wait = false:=by
 have hl:ix + 1 < sg.length:=(List.getElem?_eq_some_iff.mp hy).1
 obtain ⟨n1,n2,n3⟩:=K.nx hs hn hx hy
 refine iter_two (c2:=(c.char sp "[").char sp "]") (tok:=tChar "[") (t2:=tChar "]") (c':=c.char sp "[") K hs hn (stepTag (ta_sec (s:=(s.wait_ false)) K.hl (K.hlt hx) (K.hc hx) K.hn (K.ho hs hn) (K.he hs hn) n1 n2 n3 h h1 (K.frn.trans h2)) K.state rfl) rfl K.errs K.last rfl (fun R => fd_char R (by have:=hs.nn;omega) "[") (fun s3 R e => ?_) (by show s.ix + 1 + 1 = _;rw [K.hix];rfl) (by omega) K.hback rfl
 exact fd_charS R (by have:=hs.nn;show (c.notes ++ _).length < 700;simp;omega) "]" e
theorem i_err (K:Conf J sp sg cl c s "tag open" ix bk) (hm:c.mode = "in body") (h:x = "!") (h1:y = "[") (h2:((c.here sp).1 != "html") = false):∃ s2,Iter s s2 ∧ Conf J sp sg cl ((c.err "cdata-in-html-content" (ix + 1)).com sp "[CDATA[") s2 "data" (ix + 2) bk ∧ s2.wait = false:=by
 have hl:ix + 1 < sg.length:=(List.getElem?_eq_some_iff.mp hy).1
 obtain ⟨n1,n2,n3⟩:=K.nx hs hn hx hy
 refine iter_one (c':=(c.err "cdata-in-html-content" (ix + 1)).com sp "[CDATA[") (tok:=tCom "[CDATA[") K hs hn (stepTag (ta_err (s:=(s.wait_ false)) K.hl (K.hlt hx) (K.hc hx) K.hn (K.ho hs hn) (K.he hs hn) n1 n2 n3 h h1 (K.frn.trans h2)) K.state rfl) rfl ?_ K.last rfl (fun R => fd_com (rep_err R _ _) (by have:=hs.nn;show c.notes.length < 700;omega) hm "[CDATA[") (by show s.ix + 1 + 1 = _;rw [K.hix];rfl) (by omega) K.hback rfl
 show s.errs ++ [.tuple [.str "cdata-in-html-content",.int (s.ix + 1 + 1 - 1)]] = c.errs ++ [.tuple [.str "cdata-in-html-content",.int ((ix + 1:Nat):Int)]]
 rw [K.errs,K.hix,Int.add_sub_cancel];rfl
end
section
variable {n:Nat} (hs:Sm n c) (hn:n < 600) (hx:sg[ix]? = some x)
include hs hn hx
theorem i_hamp (K:Conf J sp sg cl c s st ix bk) (hh:heldS st) (h:x = "&") (h1:(st == "RCDATA") = true):∃ s2,Iter s s2 ∧ Conf J sp sg cl c s2 "character reference" (ix + 1) "RCDATA" ∧ s2.wait = false:=by
 have hl:ix < sg.length:=(List.getElem?_eq_some_iff.mp hx).1
 exact iter_none K hs hn (stepHeld (he_amp (s:=(s.wait_ false)) K.hl (K.hlt hx) (K.hc hx) K.hn (K.ho' hs hn) (K.he hs hn) h (by rw [← K.state] at h1;exact h1)) (K.state ▸ hh) rfl) rfl (by show s.ix + 1 = _;rw [K.hix];rfl) hl rfl rfl rfl
theorem i_hclose (K:Conf J sp sg cl c s st ix bk) (hh:heldS st) (h:x = "/") (hm:c.mode = "text") (h1:(c.last != "") = true) (h2:(st != "PLAINTEXT") = true):∃ s2,Iter s s2 ∧ Conf J sp sg cl c.close s2 "data" (ix + 1) bk ∧ s2.wait = false:=by
 have hl:ix < sg.length:=(List.getElem?_eq_some_iff.mp hx).1
 refine iter_one (c':=c.close) (tok:=tEnd c.last) K hs hn (stepHeld (he_sol (s:=(s.wait_ false)) K.hl (K.hlt hx) (K.hc hx) K.hn (K.ho' hs hn) (K.he hs hn) h (by show (s.last != "") = true;rw [K.last];exact h1) (by show (s.state != "PLAINTEXT") = true;rw [K.state];exact h2)) (K.state ▸ hh) rfl) (by rw [← K.last];rfl) K.errs K.last rfl (fun R => fd_close R (by have:=hs.nn;omega) hm) (by show s.ix + 1 = _;rw [K.hix];rfl) hl K.hback rfl
theorem i_hchr (K:Conf J sp sg cl c s st ix bk) (hh:heldS st) (h0:(x == "") = false) (h1:x = "&" → (st == "RCDATA") = false) (h2:x = "/" → (c.last != "") = false ∨ (st != "PLAINTEXT") = false):∃ s2,Iter s s2 ∧ Conf J sp sg cl (c.char sp x) s2 st (ix + 1) bk ∧ s2.wait = false:=by
 have hl:ix < sg.length:=(List.getElem?_eq_some_iff.mp hx).1
 have st0:Does f__law_held [.loc 19] (mk (s.wait_ false)) (.d .none) (mk (((s.wait_ false).ix_ (s.ix + 1)).out_ (s.out ++ [tChar x]))):=by
  cases a1:(x == "&") with
  | true =>
   have e:x = "&":=by simpa using a1
   exact he_ampc (s:=(s.wait_ false)) K.hl (K.hlt hx) (K.hc hx) K.hn (K.ho' hs hn) (K.he hs hn) e (by show (s.state == "RCDATA") = false;rw [K.state];exact h1 e)
  | false =>
   cases a2:(x == "/") with
   | false => exact he_chr (s:=(s.wait_ false)) K.hl (K.hlt hx) (K.hc hx) K.hn (K.ho' hs hn) (K.he hs hn) h0 a1 a2
   | true =>
    have e:x = "/":=by simpa using a2
    cases a3:(c.last != "") with
    | false => exact he_solL (s:=(s.wait_ false)) K.hl (K.hlt hx) (K.hc hx) K.hn (K.ho' hs hn) (K.he hs hn) e (by show (s.last != "") = false;rw [K.last];exact a3)
    | true =>
     rcases h2 e with q | q
     ·rw [a3] at q;cases q
     ·exact he_solP (s:=(s.wait_ false)) K.hl (K.hlt hx) (K.hc hx) K.hn (K.ho' hs hn) (K.he hs hn) e (by show (s.last != "") = true;rw [K.last];exact a3) (by show (s.state != "PLAINTEXT") = false;rw [K.state];exact q)
 refine iter_one (c':=c.char sp x) (tok:=tChar x) K hs hn (stepHeld st0 (K.state ▸ hh) rfl) rfl K.errs K.last rfl (fun R => ?_) (by show s.ix + 1 = _;rw [K.hix];rfl) hl K.hback rfl
 exact fd_charS R (by have:=hs.nn;omega) x K.state
end
section
variable {n:Nat} (hs:Sm n c) (hn:n < 600) (hx:sg[ix]? = none)
include hs hn hx
theorem i_refE (K:Conf J sp sg true c s "character reference" ix bk):∃ s2,Iter s s2 ∧ Conf J sp sg true (c.char sp "&") s2 bk ix bk ∧ s2.wait = false:=by
 refine iter_one (c':=c.char sp "&") (tok:=tChar "&") K hs hn (stepRef (re_end (s:=(s.wait_ false)) K.hl (K.hge hx) (K.ho' hs hn)) K.state rfl) rfl K.errs K.last rfl (fun R => ?_) (by show s.ix + 1 - 1 = _;rw [K.hix,Int.add_sub_cancel]) K.ixz K.hback rfl
 exact fd_charS R (by have:=hs.nn;omega) "&" K.hback
theorem i_lte (K:Conf J sp sg true c s "tag open" ix bk):∃ s2,Iter s s2 ∧ Conf J sp sg true (c.char sp "<") s2 "data" ix bk ∧ s2.wait = false :=
 iter_one (c':=c.char sp "<") (tok:=tChar "<") K hs hn (stepTag (ta_eof (s:=(s.wait_ false)) K.hl (K.hge hx) (K.ho' hs hn)) K.state rfl) rfl K.errs K.last rfl (fun R => fd_char R (by have:=hs.nn;omega) "<") (by show s.ix + 1 - 1 = _;rw [K.hix,Int.add_sub_cancel]) K.ixz K.hback rfl
end
end
end
section
set_option maxRecDepth 100000
set_option maxHeartbeats 2000000
inductive Pend where
 | non | lt | bang | amp
noncomputable def setBack (c:C) (x:Str):C:={ c with back:=x }
noncomputable def two (sp:Str × Str) (c:C):C:=(c.char sp "[").char sp "]"
noncomputable def cdata (sp:Str × Str) (c:C) (p:Nat):C:=if (c.here sp).1 != "html" then two sp c else (c.err "cdata-in-html-content" p).com sp "[CDATA["
noncomputable def plain (sp:Str × Str) (c:C) (p:Nat) (a:Str):C:=if a = "\x00" then (c.err "unexpected-null-character" p).char sp a else c.char sp a
noncomputable def strD (t:List (Str × AV)) (x:Str):Option Str:=match t.lookup x with | some (.d (.str m)) => some m | _ => none
noncomputable def closes (c:C) (a:Str):Bool:=a == "/" && c.last != "" && c.state != "PLAINTEXT"
inductive St1 where
 | stop (c:C) (q:Pend)
 | go (k:Nat) (c:C)
noncomputable def look (sp:Str × Str) (c:C) (p:Nat):List Str → St1
 | [] => .stop c .non
 | a :: t =>
  if c.state = "data" then
   if a = "&" then (match t with
    | [] => .stop (setBack c "data") .amp
    | x :: _ => if x = "*" then .go 2 (two sp (setBack c "data")) else .go 1 ((setBack c "data").char sp "&"))
   else if a = "<" then (match t with
    | [] => .stop c .lt
    | x :: t2 =>
     if x = "!" then (match t2 with
      | [] => .stop c .bang
      | y :: _ => if y = "[" then .go 3 (cdata sp c (p + 2)) else .go 2 (c.com sp ""))
     else (match strD namesD x with
      | some m => .go 2 (c.start sp m)
      | none => (match strD endsD x with
       | some m => .go 2 (c.endT sp m)
       | none => .go 1 (c.char sp "<"))))
   else .go 1 (plain sp c p a)
  else if closes c a = true then .go 1 c.close
  else if a = "&" ∧ c.state = "RCDATA" then (match t with
   | [] => .stop (setBack c "RCDATA") .amp
   | x :: _ => if x = "*" then .go 2 (two sp (setBack c "RCDATA")) else .go 1 ((setBack c "RCDATA").char sp "&"))
  else .go 1 (c.char sp a)
noncomputable def run (sp:Str × Str):Nat → List Str → Nat → C → C × Nat × Pend
 | 0,_,p,c => (c,p,.non)
 | n + 1,rest,p,c => match look sp c p rest with
  | .stop c' q => (c',p,q)
  | .go k c' => run sp n (rest.drop k) (p + k) c'
noncomputable def pend:Pend → List Str
 | .non => []
 | .lt => ["<"]
 | .bang => ["<","!"]
 | .amp => ["&"]
theorem look_go {sp:Str × Str} {c c':C} {p k:Nat} {u:List Str} (h:look sp c p u = .go k c'):1 ≤ k ∧ k ≤ u.length ∧ ∀ v,look sp c p (u ++ v) = .go k c':=by
 unfold look at h
 split at h
 ·cases h
 ·rename_i a t
  split at h
  ·rename_i hd
   split at h
   ·rename_i ha
    split at h
    ·cases h
    ·rename_i x t2
     split at h
     ·rename_i hx;cases h;exact ⟨by omega,by simp,fun v => by simp [look,hd,ha,hx]⟩
     ·rename_i hx;cases h;exact ⟨by omega,by simp,fun v => by simp [look,hd,ha,hx]⟩
   ·rename_i ha
    split at h
    ·rename_i hl
     split at h
     ·cases h
     ·rename_i x t2
      split at h
      ·rename_i hb
       split at h
       ·cases h
       ·rename_i y t3
        split at h
        ·rename_i hy;cases h;exact ⟨by omega,by simp,fun v => by simp only [List.cons_append,look,if_pos hd,if_neg ha,if_pos hl,if_pos hb,if_pos hy]⟩
        ·rename_i hy;cases h;exact ⟨by omega,by simp,fun v => by simp only [List.cons_append,look,if_pos hd,if_neg ha,if_pos hl,if_pos hb,if_neg hy]⟩
      ·rename_i hb
       split at h
       ·rename_i hn;cases h;exact ⟨by omega,by simp,fun v => by simp only [List.cons_append,look,if_pos hd,if_neg ha,if_pos hl,if_neg hb,hn]⟩
       ·rename_i hn
        split at h
        ·rename_i he;cases h;exact ⟨by omega,by simp,fun v => by simp only [List.cons_append,look,if_pos hd,if_neg ha,if_pos hl,if_neg hb,hn,he]⟩
        ·rename_i he;cases h;exact ⟨by omega,by simp,fun v => by simp only [List.cons_append,look,if_pos hd,if_neg ha,if_pos hl,if_neg hb,hn,he]⟩
    ·rename_i hl;cases h;exact ⟨by omega,by simp,fun v => by simp only [List.cons_append,look,if_pos hd,if_neg ha,if_neg hl]⟩
  ·rename_i hd
   split at h
   ·rename_i hc;cases h;exact ⟨by omega,by simp,fun v => by simp [look,hd,hc]⟩
   ·rename_i hc
    split at h
    ·rename_i hr
     split at h
     ·cases h
     ·rename_i x t2
      split at h
      ·rename_i hx;cases h;exact ⟨by omega,by simp,fun v => by simp only [List.cons_append,look,if_neg hd,if_neg hc,if_pos hr,if_pos hx]⟩
      ·rename_i hx;cases h;exact ⟨by omega,by simp,fun v => by simp only [List.cons_append,look,if_neg hd,if_neg hc,if_pos hr,if_neg hx]⟩
    ·rename_i hr;cases h;exact ⟨by omega,by simp,fun v => by simp only [List.cons_append,look,if_neg hd,if_neg hc,if_neg hr]⟩
theorem look_stop {sp:Str × Str} {c c':C} {p:Nat} {q:Pend} {u:List Str} (h:look sp c p u = .stop c' q):u = pend q ∧ ∀ v,look sp c' p (u ++ v) = look sp c p (u ++ v) ∨ (q = .non ∧ c' = c):=by
 unfold look at h
 split at h
 ·cases h;exact ⟨rfl,fun v => .inr ⟨rfl,rfl⟩⟩
 ·rename_i a t
  split at h
  ·rename_i hd
   split at h
   ·rename_i ha
    split at h
    ·cases h;subst ha;exact ⟨rfl,fun v => .inl (by cases v <;> simp [look,hd,setBack])⟩
    ·split at h <;> cases h
   ·rename_i ha
    split at h
    ·rename_i hl
     split at h
     ·cases h;subst hl;exact ⟨rfl,fun v => .inl rfl⟩
     ·split at h
      ·rename_i hb
       split at h
       ·cases h;subst hl;subst hb;exact ⟨rfl,fun v => .inl rfl⟩
       ·split at h <;> cases h
      ·split at h
       ·cases h
       ·split at h <;> cases h
    ·cases h
  ·rename_i hd
   split at h
   ·cases h
   ·rename_i hc
    split at h
    ·rename_i hr
     split at h
     ·cases h
      obtain ⟨ha,hs⟩:=hr
      subst ha
      refine ⟨rfl,fun v => .inl ?_⟩
      have hc2:¬ closes (setBack c "RCDATA") "&" = true:=hc
      cases v <;> simp [look,hd,setBack,hs,hc] <;> simp_all [closes]
     ·split at h <;> cases h
    ·cases h
theorem run_fuel (sp:Str × Str):∀ (n m:Nat) (u:List Str) (p:Nat) (c:C),u.length ≤ n → u.length ≤ m → run sp n u p c = run sp m u p c:=by
 intro n
 induction n with
 | zero =>
  intro m u p c h _
  have:u = []:=by cases u with | nil => rfl | cons a t => simp at h
  subst this
  cases m <;> rfl
 | succ n ih =>
  intro m u p c h h2
  cases m with
  | zero =>
   have:u = []:=by cases u with | nil => rfl | cons a t => simp at h2
   subst this;rfl
  | succ m =>
   unfold run
   cases hl:look sp c p u with
   | stop c' q => rfl
   | go k c' =>
    obtain ⟨k1,k2,_⟩:=look_go hl
    exact ih m _ _ _ (by rw [List.length_drop];omega) (by rw [List.length_drop];omega)
noncomputable def runF (sp:Str × Str) (u:List Str) (p:Nat) (c:C):C × Nat × Pend:=run sp u.length u p c
theorem runF_go {sp:Str × Str} {c c':C} {p k:Nat} {u:List Str} (h:look sp c p u = .go k c'):runF sp u p c = runF sp (u.drop k) (p + k) c':=by
 obtain ⟨k1,k2,_⟩:=look_go h
 unfold runF
 rw [run_fuel sp u.length (u.length + 1) u p c (Nat.le_refl _) (Nat.le_succ _),run]
 simp only [h]
 exact run_fuel sp _ _ _ _ _ (by rw [List.length_drop];omega) (Nat.le_refl _)
theorem runF_stop {sp:Str × Str} {c c':C} {p:Nat} {q:Pend} {u:List Str} (h:look sp c p u = .stop c' q):runF sp u p c = (c',p,q):=by
 unfold runF
 rw [run_fuel sp u.length (u.length + 1) u p c (Nat.le_refl _) (Nat.le_succ _),run]
 simp only [h]
theorem runF_append (sp:Str × Str) (v:List Str):∀ (n:Nat) (u:List Str) (p:Nat) (c:C),u.length ≤ n → runF sp (u ++ v) p c = runF sp (pend (runF sp u p c).2.2 ++ v) (runF sp u p c).2.1 (runF sp u p c).1:=by
 intro n
 induction n with
 | zero =>
  intro u p c h
  have:u = []:=by cases u with | nil => rfl | cons a t => simp at h
  subst this;rfl
 | succ n ih =>
  intro u p c h
  cases hl:look sp c p u with
  | go k c' =>
   obtain ⟨k1,k2,k3⟩:=look_go hl
   rw [runF_go hl,runF_go (k3 v),List.drop_append_of_le_length k2]
   exact ih _ _ _ (by rw [List.length_drop];omega)
  | stop c' q =>
   rw [runF_stop hl]
   obtain ⟨e,h2⟩:=look_stop hl
   dsimp only
   rw [← e]
   rcases h2 v with h3 | ⟨rfl,rfl⟩
   ·cases hg:look sp c p (u ++ v) with
    | go k c2 => rw [runF_go hg,runF_go (h3.trans hg)]
    | stop c2 q2 => rw [runF_stop hg,runF_stop (h3.trans hg)]
   ·rfl
end
section
set_option maxRecDepth 100000
set_option maxHeartbeats 2000000
section
variable {s s1 s2 s3:S} {sp:Str × Str} {c c' c2:C} {sg:List Str} {cl:Bool} {st bk st':Str} {ix p k n:Nat} {x y:Str}
def GoodC (c:C):Prop:=(c.state = "data" ∧ c.mode = "in body") ∨ (heldS c.state ∧ (c.last = "" ∨ c.state = "PLAINTEXT" ∨ c.mode = "text"))
theorem held_data {st:Str} (h:heldS st):st ≠ "data":=by
 rcases h with h | h | h | h <;> (rw [h];decide +kernel)
theorem strD_look {t:List (Str × AV)} {m:Str} (h:strD t x = some m):t.lookup x = some (.d (.str m)):=by
 unfold strD at h
 split at h
 ·rename_i e;cases h;exact e
 ·cases h
theorem names_mem {m:Str} (h:strD namesD x = some m):m ∈ startN:=by
 have:=strD_look h
 exact List.contains_iff_mem.mp (lk_all (l:=namesD) (p:=onD false (oStr false fun m => startN.contains m)) (by decide +kernel) this)
theorem strD_none {t:List (Str × AV)} (ht:∀ p ∈ t,∃ m,p.2 = AV.d (.str m)) (h:strD t x = none):(t.lookup x).isSome = false:=by
 unfold strD at h
 cases e:t.lookup x with
 | none => rfl
 | some v =>
  obtain ⟨m,hm⟩:=ht _ (mem_of_lookup e)
  simp only at hm
  rw [e,hm] at h;cases h
theorem names_str:∀ p ∈ namesD,∃ m,p.2 = AV.d (.str m):=by
 intro p hp;unfold namesD at hp
 simp only [List.mem_cons,List.not_mem_nil,or_false] at hp
 rcases hp with rfl | rfl | rfl | rfl | rfl | rfl | rfl | rfl <;> exact ⟨_,rfl⟩
theorem ends_str:∀ p ∈ endsD,∃ m,p.2 = AV.d (.str m):=by
 intro p hp;unfold endsD at hp
 simp only [List.mem_cons,List.not_mem_nil,or_false] at hp
 rcases hp with rfl | rfl | rfl | rfl | rfl | rfl <;> exact ⟨_,rfl⟩
theorem good_start (h:c.state = "data" ∧ c.mode = "in body") {m:Str} (hm:m ∈ startN):GoodC (c.start sp m):=by
 unfold C.start
 cases turnC (c.here sp) "start" with
 | false => exact .inl h
 | true =>
  have:=(start_facts hm).2.2
  simp only [cond_true]
  unfold C.startT GoodC
  dsimp only
  unfold startN at hm
  simp only [List.mem_cons,List.not_mem_nil,or_false] at hm
  rcases this with ⟨_,r2,r3⟩ | ⟨w,r1,r2,r3,r4,⟨r5,r6⟩ | ⟨r5,r6⟩⟩
  ·exact .inl ⟨r2,r3⟩
  ·right
   rw [r2,r6]
   refine ⟨?_,.inr (.inr rfl)⟩
   rcases hm with rfl | rfl | rfl | rfl | rfl | rfl | rfl | rfl <;> (cases r1 <;> first | exact .inl rfl | exact .inr (.inl rfl) | exact .inr (.inr (.inl rfl)) | exact .inr (.inr (.inr rfl)))
  ·right
   rw [r2]
   have:w = "PLAINTEXT":=by simpa using r5
   subst this
   exact ⟨.inr (.inr (.inr rfl)),.inr (.inl rfl)⟩
theorem conf_back (K:Conf J sp sg cl c s st ix bk) (z:Str):Conf J sp sg cl (setBack c z) s st ix bk :=
 ⟨K.B.same rfl rfl rfl rfl,K.out,K.errs,K.last,K.frn,K.state,K.hix,K.hback,K.done,K.signs,K.closed,K.sgz,K.ixz,K.ret,K.se,K.jj⟩
theorem sm_char (h:Sm n c) (x:Str):Sm (n + 1) (c.char sp x):=⟨by show (c.notes ++ _).length ≤ _;have:=h.nn;simp;omega,by show (c.out ++ _).length ≤ _;have:=h.oo;simp;omega,by show c.errs.length ≤ _;have:=h.ee;omega⟩
theorem sm_com (h:Sm n c) (x:Str):Sm (n + 1) (c.com sp x):=⟨by show (c.notes ++ _).length ≤ _;have:=h.nn;simp;omega,by show (c.out ++ _).length ≤ _;have:=h.oo;simp;omega,by show c.errs.length ≤ _;have:=h.ee;omega⟩
theorem sm_err (h:Sm n c) (x:Str) (p:Nat):Sm (n + 1) (c.err x p):=⟨by show c.notes.length ≤ _;have:=h.nn;omega,by show c.out.length ≤ _;have:=h.oo;omega,by show (c.errs ++ _).length ≤ _;have:=h.ee;simp;omega⟩
theorem sm_mono {m:Nat} (h:Sm n c) (hm:n ≤ m):Sm m c:=⟨Nat.le_trans h.nn hm,Nat.le_trans h.oo hm,Nat.le_trans h.ee hm⟩
theorem sm_back (h:Sm n c) (z:Str):Sm n (setBack c z):=⟨h.nn,h.oo,h.ee⟩
theorem sm_two (h:Sm n c):Sm (n + 2) (two sp c):=sm_char (sm_char h _) _
theorem sm_end (h:Sm n c) (m:Str):Sm (n + 1) (c.endT sp m):=by
 obtain ⟨q1,q2,_,_,_,q3,_⟩:=leave_out (c.put (c.rule sp "end") (tEnd m)) m
 exact ⟨by unfold C.endT;rw [q3];show (c.notes ++ _).length ≤ _;have:=h.nn;simp;omega,by unfold C.endT;rw [q1];show (c.out ++ _).length ≤ _;have:=h.oo;simp;omega,by unfold C.endT;rw [q2];show c.errs.length ≤ _;have:=h.ee;omega⟩
theorem sm_start (h:Sm n c) (m:Str):Sm (n + 1) (c.start sp m):=by
 unfold C.start
 cases turnC (c.here sp) "start" <;> exact ⟨by show (c.notes ++ _).length ≤ _;have:=h.nn;simp;omega,by show (c.out ++ _).length ≤ _;have:=h.oo;simp;omega,by show c.errs.length ≤ _;have:=h.ee;omega⟩
theorem sm_close (h:Sm n c):Sm (n + 1) c.close:=⟨by show (c.notes ++ _).length ≤ _;have:=h.nn;simp;omega,by show (c.out ++ _).length ≤ _;have:=h.oo;simp;omega,by show c.errs.length ≤ _;have:=h.ee;omega⟩
theorem sm_plain (h:Sm n c) (p:Nat) (a:Str):Sm (n + 2) (plain sp c p a):=by
 unfold plain;split
 ·exact sm_char (sm_err h _ _) _
 ·exact sm_mono (sm_char h _) (by omega)
theorem sm_cdata (h:Sm n c) (p:Nat):Sm (n + 2) (cdata sp c p):=by
 unfold cdata;split
 ·exact sm_two h
 ·exact sm_com (sm_err h _ _) _
theorem drop_at {t:List Str} (h:sg.drop p = x :: t):sg[p]? = some x ∧ sg.drop (p + 1) = t:=by
 have h1:(sg.drop p)[0]? = some x:=by rw [h];rfl
 rw [List.getElem?_drop] at h1
 refine ⟨h1,?_⟩
 have:(sg.drop p).drop 1 = t:=by rw [h];rfl
 rwa [List.drop_drop] at this
theorem half_lt {t:List Str} (K:Conf J sp sg cl c s "tag open" (p + 1) c.back) (hd:c.state = "data" ∧ c.mode = "in body") (hs:Sm n c) (hn:n < 600) (hdr:sg.drop p = (Str.ofString "<") :: x :: t) (hl:look sp c p ((Str.ofString "<") :: x :: t) = .go k c') :
  ∃ s',Iter s s' ∧ Conf J sp sg cl c' s' c'.state (p + k) c'.back ∧ s'.wait = false ∧ GoodC c' ∧ Sm (n + 2) c':=by
 obtain ⟨_,hdr1⟩:=drop_at hdr
 obtain ⟨hx,hdr2⟩:=drop_at hdr1
 obtain ⟨hd1,hm⟩:=hd
 have na:¬ (Str.ofString "<" = Str.ofString "&"):=by decide +kernel
 simp only [look,if_pos hd1,if_neg na,if_true] at hl
 split at hl
 ·rename_i hb
  split at hl
  ·cases hl
  ·rename_i y t3
   obtain ⟨hy,_⟩:=drop_at hdr2
   split at hl
   ·rename_i hy2
    cases hl
    unfold cdata
    cases hf:((c.here sp).1 != "html") with
    | true =>
     obtain ⟨s',i,K',w⟩:=i_sec hs hn hx hy K hb hy2 hf
     refine ⟨s',i,?_,w,.inl ⟨hd1,hm⟩,sm_two hs⟩
     have e:(if (true = true) then two sp c else (c.err "cdata-in-html-content" (p + 2)).com sp "[CDATA[") = two sp c:=if_pos rfl
     rw [e,show (two sp c).state = c.state from rfl,hd1];exact K'
    | false =>
     obtain ⟨s',i,K',w⟩:=i_err hs hn hx hy K hm hb hy2 hf
     refine ⟨s',i,?_,w,.inl ⟨hd1,hm⟩,sm_com (sm_err hs _ _) _⟩
     have e:(if (false = true) then two sp c else (c.err "cdata-in-html-content" (p + 2)).com sp "[CDATA[") = (c.err "cdata-in-html-content" (p + 2)).com sp "[CDATA[":=if_neg (by decide)
     rw [e,show ((c.err "cdata-in-html-content" (p + 2)).com sp "[CDATA[").state = c.state from rfl,hd1];exact K'
   ·rename_i hy2
    cases hl
    obtain ⟨s',i,K',w⟩:=i_com hs hn hx hy K hm hb (by simpa using hy2)
    exact ⟨s',i,by rw [show (c.com sp "").state = c.state from rfl,hd1];exact K',w,.inl ⟨hd1,hm⟩,sm_mono (sm_com hs _) (by omega)⟩
 ·rename_i hb
  have hb':(x == "!") = false:=by simpa using hb
  split at hl
  ·rename_i m hnm
   cases hl
   obtain ⟨s',i,K',w⟩:=i_name hs hn hx K hm hd1 hb' (strD_look hnm) (names_mem hnm)
   have eb:(c.start sp m).back = c.back:=by unfold C.start;cases turnC (c.here sp) "start" <;> rfl
   exact ⟨s',i,by rw [eb];exact K',w,good_start ⟨hd1,hm⟩ (names_mem hnm),sm_mono (sm_start hs _) (by omega)⟩
  ·rename_i hnm
   have n0:=strD_none names_str hnm
   split at hl
   ·rename_i m hem
    cases hl
    obtain ⟨s',i,K',w⟩:=i_endt hs hn hx K hm hb' n0 (strD_look hem)
    obtain ⟨_,_,_,q4,q5,_,q7,_⟩:=leave_out (c.put (c.rule sp "end") (tEnd m)) m
    have es:(c.endT sp m).state = "data":=q5.trans hd1
    exact ⟨s',i,by rw [es,show (c.endT sp m).back = c.back from q7];exact K',w,.inl ⟨es,q4.trans hm⟩,sm_mono (sm_end hs _) (by omega)⟩
   ·rename_i hem
    cases hl
    obtain ⟨s',i,K',w⟩:=i_else hs hn hx K hb' n0 (strD_none ends_str hem)
    exact ⟨s',i,by rw [show (c.char sp "<").state = c.state from rfl,hd1];exact K',w,.inl ⟨hd1,hm⟩,sm_mono (sm_char hs _) (by omega)⟩
theorem half_bang (K:Conf J sp sg false c s "tag open" (p + 1) c.back) (hs:Sm n c) (hn:n < 600) (hdr:sg.drop p = [Str.ofString "<",Str.ofString "!"]):∃ s',Iter s s' ∧ Conf J sp sg false c s' "tag open" (p + 1) c.back ∧ s'.wait = true:=by
 obtain ⟨_,hdr1⟩:=drop_at hdr
 obtain ⟨hx,hdr2⟩:=drop_at hdr1
 have hlen:p + 1 + 1 = sg.length:=by
  have h1:=List.drop_eq_nil_iff.mp hdr2
  have h2:=(List.getElem?_eq_some_iff.mp hx).1
  omega
 exact i_wait hs hn hx K rfl hlen
theorem half_amp {t:List Str} {st0:Str} (K:Conf J sp sg cl c s "character reference" (p + 1) st0) (h0:c.state = st0) (hb:c.back = st0) (hg:GoodC c) (hs:Sm n c) (hn:n < 600) (hdr:sg.drop p = (Str.ofString "&") :: x :: t) :
  (x = "*" → ∃ s',Iter s s' ∧ Conf J sp sg cl (two sp c) s' (two sp c).state (p + 2) (two sp c).back ∧ s'.wait = false ∧ GoodC (two sp c) ∧ Sm (n + 2) (two sp c)) ∧
  (¬ x = "*" → ∃ s',Iter s s' ∧ Conf J sp sg cl (c.char sp "&") s' (c.char sp "&").state (p + 1) (c.char sp "&").back ∧ s'.wait = false ∧ GoodC (c.char sp "&") ∧ Sm (n + 2) (c.char sp "&")):=by
 obtain ⟨_,hdr1⟩:=drop_at hdr
 obtain ⟨hx,_⟩:=drop_at hdr1
 refine ⟨fun h => ?_,fun h => ?_⟩
 ·obtain ⟨s',i,K',w⟩:=i_star hs hn hx K h
  exact ⟨s',i,by rw [show (two sp c).state = c.state from rfl,show (two sp c).back = c.back from rfl,h0,hb];exact K',w,hg,sm_two hs⟩
 ·obtain ⟨s',i,K',w⟩:=i_refe hs hn hx K (by simpa using h)
  exact ⟨s',i,by rw [show (c.char sp "&").state = c.state from rfl,show (c.char sp "&").back = c.back from rfl,h0,hb];exact K',w,hg,sm_mono (sm_char hs _) (by omega)⟩
end
end
section
set_option maxRecDepth 100000
set_option maxHeartbeats 2000000
section
variable {s s1 s2 s3:S} {sp:Str × Str} {c c' c2:C} {sg:List Str} {cl:Bool} {st bk st':Str} {ix p k n j:Nat} {x y:Str} {q:Pend}
def Ready (s:S) (q:Bool):Prop:=Does f_Tokenizer_is_ready [.loc 19] (mk s) (.d (.bool q)) (mk s)
inductive Turns:Nat → S → S → Prop
 | nil {s:S}:Turns 0 s s
 | cons {j:Nat} {s s1 s2:S}:Ready s true → Iter s s1 → Turns j s1 s2 → Turns (j + 1) s s2
theorem Turns.trans {i j:Nat} {s1 s2 s3:S} (h:Turns i s1 s2) (h2:Turns j s2 s3):Turns (i + j) s1 s3:=by
 induction h with
 | nil => rw [Nat.zero_add];exact h2
 | cons a b _ ih => rw [Nat.succ_add];exact .cons a b (ih h2)
def stOK (st:Str):Prop:=st = "data" ∨ st = "tag open" ∨ st = "character reference" ∨ heldS st
theorem stOK_look {st:Str} (h:stOK st):(!(statesT.lookup st).isSome) = false:=by
 rcases h with h | h | h | h | h | h | h <;> (rw [h];decide +kernel)
theorem good_ok (h:GoodC c):stOK c.state:=by
 rcases h with ⟨h,_⟩ | ⟨h,_⟩
 ·exact .inl h
 ·exact .inr (.inr (.inr h))
theorem ready_at (K:Conf J sp sg cl c s st ix bk) (hw:s.wait = false) (ho:stOK st) (hx:sg[ix]? = some x):Ready s true:=by
 have h3:(!(statesT.lookup s.state).isSome) = false:=by rw [K.state];exact stOK_look ho
 cases cl with
 | true => exact q_ready2 K.done hw h3 K.closed
 | false => exact q_ready3 K.done hw h3 K.closed K.hl (K.hlt hx)
theorem ready_cl (K:Conf J sp sg true c s st ix bk) (hw:s.wait = false) (ho:stOK st):Ready s true:=by
 have h3:(!(statesT.lookup s.state).isSome) = false:=by rw [K.state];exact stOK_look ho
 exact q_ready2 K.done hw h3 K.closed
theorem ready_no (K:Conf J sp sg false c s st ix bk) (hw:s.wait = false) (ho:stOK st) (hx:sg[ix]? = none):Ready s false:=by
 have h3:(!(statesT.lookup s.state).isSome) = false:=by rw [K.state];exact stOK_look ho
 exact q_ready3 K.done hw h3 K.closed K.hl (K.hge hx)
theorem good_back (h:GoodC c) (z:Str):GoodC (setBack c z):=h
theorem good_char (h:GoodC c) (x:Str):GoodC (c.char sp x):=h
theorem go_runs (hne:∀ z ∈ sg,(z == "") = false) (K:Conf J sp sg cl c s c.state p c.back) (hw:s.wait = false) (hg:GoodC c) (hs:Sm n c) (hn:n + 2 < 600) {u:List Str} (hdr:sg.drop p = u) (hl:look sp c p u = .go k c') :
  ∃ j s',j ≤ 2 ∧ Turns j s s' ∧ Conf J sp sg cl c' s' c'.state (p + k) c'.back ∧ s'.wait = false ∧ GoodC c' ∧ Sm (n + 2) c':=by
 have hl0:=hl
 cases u with
 | nil => cases hl
 | cons a t =>
  obtain ⟨hx,hdr1⟩:=drop_at hdr
  have ha0:(a == "") = false:=hne a (List.mem_of_getElem? hx)
  have rd:=ready_at K hw (good_ok hg) hx
  rcases hg with ⟨hd,hm⟩ | ⟨hh,hlast⟩
  ·simp only [look,if_pos hd] at hl
   have K0:Conf J sp sg cl c s "data" p c.back:=hd ▸ K
   split at hl
   ·rename_i ha
    obtain ⟨s1,i1,K1,w1⟩:=i_amp hs (by omega) hx K0 ha
    split at hl
    ·cases hl
    ·rename_i y t2
     have hy:=(drop_at hdr1).1
     have rd1:=ready_at K1 w1 (.inr (.inr (.inl rfl))) hy
     subst ha
     obtain ⟨A,Bh⟩:=half_amp (c:=setBack c "data") (conf_back K1 "data") hd rfl (.inl ⟨hd,hm⟩) (sm_back hs _) (by omega) hdr
     split at hl
     ·rename_i hxx
      cases hl
      obtain ⟨s2,i2,K2,w2,g2,m2⟩:=A hxx
      exact ⟨2,s2,Nat.le_refl _,.cons rd i1 (.cons rd1 i2 .nil),K2,w2,g2,m2⟩
     ·rename_i hxx
      cases hl
      obtain ⟨s2,i2,K2,w2,g2,m2⟩:=Bh hxx
      exact ⟨2,s2,Nat.le_refl _,.cons rd i1 (.cons rd1 i2 .nil),K2,w2,g2,m2⟩
   ·rename_i ha
    split at hl
    ·rename_i hlt
     obtain ⟨s1,i1,K1,w1⟩:=i_lt hs (by omega) hx K0 hlt
     subst hlt
     cases t with
     | nil => simp at hl
     | cons y t2 =>
      have hy:=(drop_at hdr1).1
      have rd1:=ready_at K1 w1 (.inr (.inl rfl)) hy
      obtain ⟨s2,i2,K2,w2,g2,m2⟩:=half_lt K1 ⟨hd,hm⟩ hs (by omega) hdr hl0
      exact ⟨2,s2,Nat.le_refl _,.cons rd i1 (.cons rd1 i2 .nil),K2,w2,g2,m2⟩
    ·rename_i hlt
     cases hl
     have h1:(a == "&") = false:=by simpa using ha
     have h2:(a == "<") = false:=by simpa using hlt
     unfold plain
     split
     ·rename_i h3
      obtain ⟨s1,i1,K1,w1⟩:=i_nul hs (by omega) hx K0 h3
      exact ⟨1,s1,by omega,.cons rd i1 .nil,by rw [show ((c.err "unexpected-null-character" p).char sp a).state = c.state from rfl,hd];exact K1,w1,.inl ⟨hd,hm⟩,sm_char (sm_err hs _ _) _⟩
     ·rename_i h3
      obtain ⟨s1,i1,K1,w1⟩:=i_chr hs (by omega) hx K0 ha0 h1 h2 (by simpa using h3)
      exact ⟨1,s1,by omega,.cons rd i1 .nil,by rw [show (c.char sp a).state = c.state from rfl,hd];exact K1,w1,.inl ⟨hd,hm⟩,sm_mono (sm_char hs _) (by omega)⟩
  ·have hd:=held_data hh
   simp only [look,if_neg hd] at hl
   split at hl
   ·rename_i hc
    cases hl
    unfold closes at hc
    simp only [Bool.and_eq_true] at hc
    obtain ⟨⟨c1,c2⟩,c3⟩:=hc
    have hmt:c.mode = "text":=by
     rcases hlast with h | h | h
     ·rw [h] at c2;exact absurd c2 (by decide +kernel)
     ·rw [h] at c3;exact absurd c3 (by decide +kernel)
     ·exact h
    obtain ⟨s1,i1,K1,w1⟩:=i_hclose hs (by omega) hx K hh (by simpa using c1) hmt c2 c3
    exact ⟨1,s1,by omega,.cons rd i1 .nil,K1,w1,.inl ⟨rfl,rfl⟩,sm_mono (sm_close hs) (by omega)⟩
   ·rename_i hc
    split at hl
    ·rename_i hr
     obtain ⟨ha,hst⟩:=hr
     obtain ⟨s1,i1,K1,w1⟩:=i_hamp hs (by omega) hx K hh ha (by rw [hst];decide +kernel)
     split at hl
     ·cases hl
     ·rename_i y t2
      have hy:=(drop_at hdr1).1
      have rd1:=ready_at K1 w1 (.inr (.inr (.inl rfl))) hy
      subst ha
      obtain ⟨A,Bh⟩:=half_amp (c:=setBack c "RCDATA") (conf_back K1 "RCDATA") hst rfl (.inr ⟨hh,hlast⟩) (sm_back hs _) (by omega) hdr
      split at hl
      ·rename_i hxx
       cases hl
       obtain ⟨s2,i2,K2,w2,g2,m2⟩:=A hxx
       exact ⟨2,s2,Nat.le_refl _,.cons rd i1 (.cons rd1 i2 .nil),K2,w2,g2,m2⟩
      ·rename_i hxx
       cases hl
       obtain ⟨s2,i2,K2,w2,g2,m2⟩:=Bh hxx
       exact ⟨2,s2,Nat.le_refl _,.cons rd i1 (.cons rd1 i2 .nil),K2,w2,g2,m2⟩
    ·rename_i hr
     cases hl
     have h1:a = "&" → (c.state == "RCDATA") = false:=fun e => by
      cases q:(c.state == "RCDATA") with
      | false => rfl
      | true => exact absurd ⟨e,by simpa using q⟩ hr
     have h2:a = "/" → (c.last != "") = false ∨ (c.state != "PLAINTEXT") = false:=fun e => by
      cases q1:(c.last != "") with
      | false => exact .inl rfl
      | true =>
       cases q2:(c.state != "PLAINTEXT") with
       | false => exact .inr rfl
       | true => exact absurd (by unfold closes;rw [e,q1,q2];decide +kernel) hc
     obtain ⟨s1,i1,K1,w1⟩:=i_hchr hs (by omega) hx K hh ha0 h1 h2
     exact ⟨1,s1,by omega,.cons rd i1 .nil,K1,w1,.inr ⟨hh,hlast⟩,sm_mono (sm_char hs _) (by omega)⟩
noncomputable def Rest (J:Nat) (sp:Str × Str) (sg:List Str) (c:C) (s:S) (p:Nat):Pend → Prop
 | .non => Conf J sp sg false c s c.state p c.back ∧ s.wait = false
 | .lt => Conf J sp sg false c s "tag open" (p + 1) c.back ∧ s.wait = false ∧ c.state = "data" ∧ c.mode = "in body"
 | .bang => Conf J sp sg false c s "tag open" (p + 1) c.back ∧ s.wait = true ∧ c.state = "data" ∧ c.mode = "in body"
 | .amp => Conf J sp sg false c s "character reference" (p + 1) c.back ∧ s.wait = false ∧ c.back = c.state ∧ (c.state = "data" ∨ c.state = "RCDATA")
structure Rests (J:Nat) (sp:Str × Str) (sg:List Str) (R:C × Nat × Pend) (s:S):Prop where
 at_:Rest J sp sg R.1 s R.2.1 R.2.2
 dr:sg.drop R.2.1 = pend R.2.2
 good:GoodC R.1
theorem stop_runs (K:Conf J sp sg false c s c.state p c.back) (hw:s.wait = false) (hg:GoodC c) (hs:Sm n c) (hn:n + 2 < 600) {u:List Str} (hdr:sg.drop p = u) (hl:look sp c p u = .stop c' q) :
  ∃ j s',j ≤ 2 ∧ Turns j s s' ∧ Rests J sp sg (c',p,q) s' ∧ Sm n c':=by
 have hu:=(look_stop hl).1
 cases u with
 | nil =>
  cases hl
  exact ⟨0,s,by omega,.nil,⟨⟨K,hw⟩,hdr,hg⟩,hs⟩
 | cons a t =>
  obtain ⟨hx,hdr1⟩:=drop_at hdr
  have rd:=ready_at K hw (good_ok hg) hx
  rcases hg with ⟨hd,hm⟩ | ⟨hh,hlast⟩
  ·simp only [look,if_pos hd] at hl
   have K0:Conf J sp sg false c s "data" p c.back:=hd ▸ K
   split at hl
   ·rename_i ha
    obtain ⟨s1,i1,K1,w1⟩:=i_amp hs (by omega) hx K0 ha
    split at hl
    ·cases hl
     exact ⟨1,s1,by omega,.cons rd i1 .nil,⟨⟨conf_back K1 _,w1,hd.symm,.inl hd⟩,hdr.trans hu,.inl ⟨hd,hm⟩⟩,sm_back hs _⟩
    ·split at hl <;> cases hl
   ·rename_i ha
    split at hl
    ·rename_i hlt
     obtain ⟨s1,i1,K1,w1⟩:=i_lt hs (by omega) hx K0 hlt
     split at hl
     ·cases hl
      exact ⟨1,s1,by omega,.cons rd i1 .nil,⟨⟨K1,w1,hd,hm⟩,hdr.trans hu,.inl ⟨hd,hm⟩⟩,hs⟩
     ·rename_i y t2
      split at hl
      ·rename_i hb
       split at hl
       ·cases hl
        subst hlt;subst hb
        have rd1:=ready_at K1 w1 (.inr (.inl rfl)) (drop_at hdr1).1
        obtain ⟨s2,i2,K2,w2⟩:=half_bang K1 hs (by omega) hdr
        exact ⟨2,s2,by omega,.cons rd i1 (.cons rd1 i2 .nil),⟨⟨K2,w2,hd,hm⟩,hdr,.inl ⟨hd,hm⟩⟩,hs⟩
       ·split at hl <;> cases hl
      ·split at hl
       ·cases hl
       ·split at hl <;> cases hl
    ·cases hl
  ·have hd:=held_data hh
   simp only [look,if_neg hd] at hl
   split at hl
   ·cases hl
   ·split at hl
    ·rename_i hr
     obtain ⟨ha,hst⟩:=hr
     obtain ⟨s1,i1,K1,w1⟩:=i_hamp hs (by omega) hx K hh ha (by rw [hst];decide +kernel)
     split at hl
     ·cases hl
      exact ⟨1,s1,by omega,.cons rd i1 .nil,⟨⟨conf_back K1 _,w1,hst.symm,.inr hst⟩,hdr.trans hu,.inr ⟨hh,hlast⟩⟩,sm_back hs _⟩
     ·split at hl <;> cases hl
    ·cases hl
theorem clean_runs (hne:∀ z ∈ sg,(z == "") = false):∀ (m:Nat) (u:List Str) (p:Nat) (c:C) (s:S) (n:Nat),u.length ≤ m → Conf J sp sg false c s c.state p c.back → s.wait = false → GoodC c → Sm n c → n + 2 * m + 4 < 600 → sg.drop p = u →
  ∃ j s',j ≤ 2 * m + 2 ∧ Turns j s s' ∧ Rests J sp sg (runF sp u p c) s' ∧ Sm (n + 2 * m) (runF sp u p c).1:=by
 intro m
 induction m with
 | zero =>
  intro u p c s n hu K hw hg hs hn hdr
  have:u = []:=by cases u with | nil => rfl | cons a t => simp at hu
  subst this
  exact ⟨0,s,by omega,.nil,⟨⟨K,hw⟩,hdr,hg⟩,sm_mono hs (by omega)⟩
 | succ m ih =>
  intro u p c s n hu K hw hg hs hn hdr
  cases hl:look sp c p u with
  | stop c' q =>
   obtain ⟨j,s',h1,h2,h3,h4⟩:=stop_runs K hw hg hs (by omega) hdr hl
   rw [runF_stop hl]
   exact ⟨j,s',by omega,h2,h3,sm_mono h4 (by omega)⟩
  | go k c' =>
   obtain ⟨k1,k2,_⟩:=look_go hl
   obtain ⟨j,s',h1,h2,h3,h4,h5,h6⟩:=go_runs hne K hw hg hs (by omega) hdr hl
   obtain ⟨j2,s2,g1,g2,g3,g4⟩:=ih (u.drop k) (p + k) c' s' (n + 2) (by rw [List.length_drop];omega) h3 h4 h5 h6 (by omega) (by rw [← hdr,List.drop_drop])
   rw [runF_go hl]
   exact ⟨j + j2,s2,by omega,h2.trans g2,g3,sm_mono g4 (by omega)⟩
end
end
section
set_option maxRecDepth 100000
set_option maxHeartbeats 2000000
section
variable {s s0 s1 s2 s3:S} {sp:Str × Str} {c c' c2:C} {sg:List Str} {cl:Bool} {st bk st':Str} {ix p k n j:Nat} {x y:Str} {q:Pend}
theorem setBack_self (h:c.back = c.state) {z:Str} (hz:c.state = z):setBack c z = c:=by
 subst hz
 obtain ⟨a1,a2,a3,a4,a5,a6,a7,a8,a9⟩:=c
 simp only at h
 subst h;rfl
theorem look_amp {t:List Str} (hb:c.back = c.state) (hs:c.state = "data" ∨ c.state = "RCDATA"):look sp c p ((Str.ofString "&") :: x :: t) = if x = "*" then .go 2 (two sp c) else .go 1 (c.char sp "&"):=by
 rcases hs with h | h
 ·simp only [look,if_pos h,if_true,setBack_self hb h]
 ·have hd:¬ c.state = "data":=by rw [h];decide +kernel
  have hc:¬ closes c "&" = true:=by unfold closes;simp;intro q;exact absurd q (by decide +kernel)
  have ha:(Str.ofString "&" = Str.ofString "&" ∧ c.state = Str.ofString "RCDATA"):=⟨rfl,h⟩
  simp only [look,if_neg hd,if_neg hc,setBack_self hb h]
  rw [if_pos ⟨trivial,h⟩]
theorem look_amp0 (hb:c.back = c.state) (hs:c.state = "data" ∨ c.state = "RCDATA"):look sp c p [Str.ofString "&"] = .stop c .amp:=by
 rcases hs with h | h
 ·simp only [look,if_pos h,if_true,setBack_self hb h]
 ·have hd:¬ c.state = "data":=by rw [h];decide +kernel
  have hc:¬ closes c "&" = true:=by unfold closes;simp;intro q;exact absurd q (by decide +kernel)
  have ha:(Str.ofString "&" = Str.ofString "&" ∧ c.state = Str.ofString "RCDATA"):=⟨rfl,h⟩
  simp only [look,if_neg hd,if_neg hc,setBack_self hb h]
  rw [if_pos ⟨trivial,h⟩]
noncomputable def Wake (J:Nat) (sp:Str × Str) (sg:List Str) (c:C) (s:S) (p:Nat):Pend → Prop
 | .non => Conf J sp sg false c s c.state p c.back ∧ s.wait = false
 | .lt => Conf J sp sg false c s "tag open" (p + 1) c.back ∧ s.wait = false ∧ c.state = "data" ∧ c.mode = "in body"
 | .bang => Conf J sp sg false c s "tag open" (p + 1) c.back ∧ s.wait = false ∧ c.state = "data" ∧ c.mode = "in body"
 | .amp => Conf J sp sg false c s "character reference" (p + 1) c.back ∧ s.wait = false ∧ c.back = c.state ∧ (c.state = "data" ∨ c.state = "RCDATA")
theorem wake_runs (hne:∀ z ∈ sg,(z == "") = false) {v:List Str} (K:Wake J sp sg c s p q) (hg:GoodC c) (hdr:sg.drop p = pend q ++ v) (hs:Sm n c) (hn:n + 2 * v.length + 10 < 600) :
  ∃ j s',j ≤ 2 * v.length + 4 ∧ Turns j s s' ∧ Rests J sp sg (runF sp (pend q ++ v) p c) s' ∧ Sm (n + 2 * v.length + 2) (runF sp (pend q ++ v) p c).1:=by
 have rest:∀ {k:Nat} {c1:C} {s1:S} {u:List Str},look sp c p u = .go k c1 → sg.drop p = u → u.length ≤ v.length + 2 → k + v.length ≥ u.length → Conf J sp sg false c1 s1 c1.state (p + k) c1.back → s1.wait = false → GoodC c1 → Sm (n + 2) c1 → Ready s true → Iter s s1 →
   ∃ j s',j ≤ 2 * v.length + 4 ∧ Turns j s s' ∧ Rests J sp sg (runF sp u p c) s' ∧ Sm (n + 2 * v.length + 2) (runF sp u p c).1:=by
  intro k c1 s1 u hl hu hlen hk K1 w1 g1 m1 rd i1
  obtain ⟨k1,k2,_⟩:=look_go hl
  obtain ⟨j,s',e1,e2,e3,e4⟩:=clean_runs hne v.length (u.drop k) (p + k) c1 s1 (n + 2) (by rw [List.length_drop];omega) K1 w1 g1 m1 (by omega) (by rw [← hu,List.drop_drop])
  rw [runF_go hl]
  exact ⟨j + 1,s',by omega,.cons rd i1 e2,e3,sm_mono e4 (by omega)⟩
 cases q with
 | non =>
  obtain ⟨K,hw⟩:=K
  obtain ⟨j,s',e1,e2,e3,e4⟩:=clean_runs hne v.length v p c s n (Nat.le_refl _) K hw hg hs (by omega) hdr
  exact ⟨j,s',by omega,e2,e3,sm_mono e4 (by omega)⟩
 | amp =>
  obtain ⟨K,hw,hb,hst⟩:=K
  cases v with
  | nil =>
   have hl:look sp c p (pend .amp ++ []) = .stop c .amp:=look_amp0 hb hst
   rw [runF_stop hl]
   exact ⟨0,s,by omega,.nil,⟨⟨K,hw,hb,hst⟩,hdr,hg⟩,sm_mono hs (by omega)⟩
  | cons x t =>
   have hdr':sg.drop p = (Str.ofString "&") :: x :: t:=hdr
   have rd:=ready_at K hw (.inr (.inr (.inl rfl))) (drop_at (drop_at hdr').2).1
   obtain ⟨A,B⟩:=half_amp (st0:=c.back) K hb.symm rfl hg hs (by omega) hdr'
   by_cases hx:x = "*"
   ·obtain ⟨s1,i1,K1,w1,g1,m1⟩:=A hx
    exact rest ((look_amp hb hst).trans (if_pos hx)) hdr (by simp [pend]) (by simp [pend];omega) K1 w1 g1 m1 rd i1
   ·obtain ⟨s1,i1,K1,w1,g1,m1⟩:=B hx
    exact rest ((look_amp hb hst).trans (if_neg hx)) hdr (by simp [pend]) (by simp [pend];omega) K1 w1 g1 m1 rd i1
 | lt =>
  obtain ⟨K,hw,hd,hm⟩:=K
  have na:¬ (Str.ofString "<" = Str.ofString "&"):=by decide +kernel
  cases v with
  | nil =>
   have hl:look sp c p (pend .lt ++ []) = .stop c .lt:=by
    show look sp c p [Str.ofString "<"] = _
    simp only [look,if_pos hd,if_neg na,if_true]
   rw [runF_stop hl]
   exact ⟨0,s,by omega,.nil,⟨⟨K,hw,hd,hm⟩,hdr,hg⟩,sm_mono hs (by omega)⟩
  | cons x t =>
   have hdr':sg.drop p = (Str.ofString "<") :: x :: t:=hdr
   have rd:=ready_at K hw (.inr (.inl rfl)) (drop_at (drop_at hdr').2).1
   cases hl:look sp c p (pend .lt ++ x :: t) with
   | go k c1 =>
    obtain ⟨s1,i1,K1,w1,g1,m1⟩:=half_lt K ⟨hd,hm⟩ hs (by omega) hdr' hl
    obtain ⟨k1,_,_⟩:=look_go hl
    exact rest hl hdr (by simp [pend]) (by simp [pend];omega) K1 w1 g1 m1 rd i1
   | stop c1 q1 =>
    have hl':look sp c p ((Str.ofString "<") :: x :: t) = .stop c1 q1:=hl
    simp only [look,if_pos hd,if_neg na,if_true] at hl'
    rw [runF_stop hl]
    split at hl'
    ·rename_i hb
     split at hl'
     ·cases hl'
      subst hb
      obtain ⟨s2,i2,K2,w2⟩:=half_bang K hs (by omega) hdr'
      exact ⟨1,s2,by omega,.cons rd i2 .nil,⟨⟨K2,w2,hd,hm⟩,hdr,hg⟩,sm_mono hs (by omega)⟩
     ·split at hl' <;> cases hl'
    ·split at hl'
     ·cases hl'
     ·split at hl' <;> cases hl'
 | bang =>
  obtain ⟨K,hw,hd,hm⟩:=K
  have na:¬ (Str.ofString "<" = Str.ofString "&"):=by decide +kernel
  have hdr':sg.drop p = (Str.ofString "<") :: (Str.ofString "!") :: v:=hdr
  have rd:=ready_at K hw (.inr (.inl rfl)) (drop_at (drop_at hdr').2).1
  cases v with
  | nil =>
   have hl:look sp c p (pend .bang ++ []) = .stop c .bang:=by
    show look sp c p [Str.ofString "<",Str.ofString "!"] = _
    simp only [look,if_pos hd,if_neg na,if_true]
   rw [runF_stop hl]
   obtain ⟨s2,i2,K2,w2⟩:=half_bang K hs (by omega) hdr'
   exact ⟨1,s2,by omega,.cons rd i2 .nil,⟨⟨K2,w2,hd,hm⟩,hdr,hg⟩,sm_mono hs (by omega)⟩
  | cons y t =>
   cases hl:look sp c p (pend .bang ++ y :: t) with
   | go k c1 =>
    obtain ⟨s1,i1,K1,w1,g1,m1⟩:=half_lt K ⟨hd,hm⟩ hs (by omega) hdr' hl
    have hl2:look sp c p ((Str.ofString "<") :: (Str.ofString "!") :: y :: t) = .go k c1:=hl
    simp only [look,if_pos hd,if_neg na,if_true] at hl2
    have hk:2 ≤ k:=by
     split at hl2 <;> (cases hl2;omega)
    exact rest hl hdr (by simp [pend]) (by simp [pend];omega) K1 w1 g1 m1 rd i1
   | stop c1 q1 =>
    have hl':look sp c p ((Str.ofString "<") :: (Str.ofString "!") :: y :: t) = .stop c1 q1:=hl
    simp only [look,if_pos hd,if_neg na,if_true] at hl'
    split at hl' <;> cases hl'
structure Fin (J:Nat) (sp:Str × Str) (c:C) (s:S) (ix:Nat) (st bk:Str):Prop where
 B:RepB sp c (s.bdone_ false)
 out:s.out = c.out
 errs:s.errs = c.errs
 last:s.last = c.last
 frn:s.frn = ((c.here sp).1 != "html")
 state:s.state = st
 hix:s.ix = (ix:Int)
 hback:s.back = bk
 done:s.done = true
 wait:s.wait = false
 bdone:s.bdone = true
 wish:s.wish = ""
 jj:s.j0 = J
theorem eof_out (c:C):c.eof.out = c.out ++ [tEof] ∧ c.eof.errs = c.errs ∧ c.eof.last = c.last:=by
 unfold C.eof;cases (c.mode == "text") <;> exact ⟨rfl,rfl,rfl⟩
theorem i_eof (K:Conf J sp sg true c s st ix bk) (hst:st = "data" ∨ heldS st) (hs:Sm n c) (hn:n < 600) (hx:sg[ix]? = none):∃ s2,Iter s s2 ∧ Fin J sp c.eof s2 (ix + 1) st bk:=by
 have e0:Does f_Tokenizer_step [.loc 19] (mk s) (.d .none) (mk { s with wait:=false,ix:=s.ix + 1,out:=s.out ++ [tEof],done:=true }):=by
  rcases hst with h | h
  ·exact stepData (da_end (s:=(s.wait_ false)) K.hl (K.hge hx) (K.ho' hs hn)) (K.state.trans h) rfl
  ·exact stepHeld (he_end (s:=(s.wait_ false)) K.hl (K.hge hx) (K.ho' hs hn)) (K.state ▸ h) rfl
 obtain ⟨s1,hs1⟩:∃ s1:S,s1 = { s with wait:=false,ix:=s.ix + 1,out:=s.out ++ [tEof],done:=true }:=⟨_,rfl⟩
 rw [← hs1] at e0
 have B1:RepB sp c s1:=K.B.same rfl rfl rfl (by rw [hs1])
 have eo:s1.out = s.out ++ [tEof]:=by rw [hs1]
 have lz:=hs.oo
 obtain ⟨s2,f1,f2,f3,f4,f5,f6⟩:=fd_eof B1 (by have:=hs.nn;omega)
 obtain ⟨k,H⟩:=f6.here
 have H2:Here s2 k (c.eof.here sp).1 (c.eof.here sp).2:=⟨H.e,H.z,H.kz,H.hsp,H.hnm⟩
 have g2:granted s2 = s2:=granted_no f4
 obtain ⟨t1,t2,t3,t4,t5,t6,t7,t8,t9,_,_,t12⟩:=S.ext_tk.mp f2
 have hlen:s1.out.length = s.out.length + 1:=by rw [eo];simp
 have T:Took s1 s.out.length ((granted s2).frn_ ((c.eof.here sp).1 != "html")):=⟨⟨tEof,s2,_,pyIdx_pos (by rw [eo];simp),f1,by rw [g2];exact q_frn H2,rfl⟩,by rw [hlen,K.out];omega,by omega⟩
 rw [g2] at T
 obtain ⟨q1,q2,q3⟩:=eof_out c
 refine ⟨(s2.frn_ ((c.eof.here sp).1 != "html")),⟨s1,e0,(show Does f_hand_over [.loc 19,.loc 0,.d (.int (s.out.length:Int))] (mk s1) (.d (.int (s2.out.length:Int))) (mk (s2.frn_ _)) from by rw [t4];exact ho1 T t4 hlen)⟩,⟨f6.same rfl rfl rfl rfl,by show s2.out = _;rw [t4,eo,K.out,q1],by show s2.errs = _;rw [t5,hs1,q2];exact K.errs,by show s2.last = _;rw [t3,hs1,q3];exact K.last,rfl,by show s2.state = _;rw [f3,hs1];exact K.state,by show s2.ix = _;rw [t1,hs1];show s.ix + 1 = _;rw [K.hix];rfl,by show s2.back = _;rw [t2,hs1];exact K.hback,by show s2.done = _;rw [t7,hs1],by show s2.wait = _;rw [t6,hs1],f5,f4,by show s2.j0 = _;rw [t12,hs1];exact K.jj⟩⟩
noncomputable def finP (sp:Str × Str):C × Nat × Pend → C × Nat
 | (c,p,.non) => (c,p)
 | (c,p,.lt) => (c.char sp "<",p + 1)
 | (c,p,.bang) => (c.com sp "",p + 2)
 | (c,p,.amp) => (c.char sp "&",p + 1)
noncomputable def WakeC (J:Nat) (sp:Str × Str) (sg:List Str) (c:C) (s:S) (p:Nat):Pend → Prop
 | .non => Conf J sp sg true c s c.state p c.back ∧ s.wait = false
 | .lt => Conf J sp sg true c s "tag open" (p + 1) c.back ∧ s.wait = false ∧ c.state = "data" ∧ c.mode = "in body"
 | .bang => Conf J sp sg true c s "tag open" (p + 1) c.back ∧ s.wait = false ∧ c.state = "data" ∧ c.mode = "in body"
 | .amp => Conf J sp sg true c s "character reference" (p + 1) c.back ∧ s.wait = false ∧ c.back = c.state ∧ (c.state = "data" ∨ c.state = "RCDATA")
theorem end_runs (K:WakeC J sp sg c s p q) (hg:GoodC c) (hdr:sg.drop p = pend q) (hs:Sm n c) (hn:n + 10 < 600) :
  ∃ j s',j ≤ 4 ∧ Turns j s s' ∧ Fin J sp (finP sp (c,p,q)).1.eof s' ((finP sp (c,p,q)).2 + 1) (finP sp (c,p,q)).1.state (finP sp (c,p,q)).1.back:=by
 have okd:c.state = "data" ∨ heldS c.state:=by
  rcases hg with ⟨h,_⟩ | ⟨h,_⟩
  ·exact .inl h
  ·exact .inr h
 have none_of:∀ {k:Nat},sg.drop k = [] → sg[k]? = none:=fun h => List.getElem?_eq_none_iff.mpr (List.drop_eq_nil_iff.mp h)
 cases q with
 | non =>
  obtain ⟨K,hw⟩:=K
  obtain ⟨s2,i2,F⟩:=i_eof K okd hs (by omega) (none_of hdr)
  exact ⟨1,s2,by omega,.cons (ready_cl K hw (good_ok hg)) i2 .nil,F⟩
 | amp =>
  obtain ⟨K,hw,hb,hst⟩:=K
  have d1:=(drop_at (x:="&") (t:=[]) hdr).2
  obtain ⟨s1,i1,K1,w1⟩:=i_refE hs (by omega) (none_of d1) K
  have K1':Conf J sp sg true (c.char sp "&") s1 (c.char sp "&").state (p + 1) (c.char sp "&").back:=by
   rw [show (c.char sp "&").state = c.state from rfl,show (c.char sp "&").back = c.back from rfl,← hb];exact K1
  obtain ⟨s2,i2,F⟩:=i_eof K1' okd (sm_char hs _) (by omega) (none_of d1)
  exact ⟨2,s2,by omega,.cons (ready_cl K hw (.inr (.inr (.inl rfl)))) i1 (.cons (ready_cl K1' w1 (good_ok (good_char hg "&"))) i2 .nil),F⟩
 | lt =>
  obtain ⟨K,hw,hd,hm⟩:=K
  have d1:=(drop_at (x:="<") (t:=[]) hdr).2
  obtain ⟨s1,i1,K1,w1⟩:=i_lte hs (by omega) (none_of d1) K
  have K1':Conf J sp sg true (c.char sp "<") s1 (c.char sp "<").state (p + 1) (c.char sp "<").back:=by
   rw [show (c.char sp "<").state = c.state from rfl,show (c.char sp "<").back = c.back from rfl,hd];exact K1
  obtain ⟨s2,i2,F⟩:=i_eof K1' okd (sm_char hs _) (by omega) (none_of d1)
  exact ⟨2,s2,by omega,.cons (ready_cl K hw (.inr (.inl rfl))) i1 (.cons (ready_cl K1' w1 (good_ok (good_char hg "<"))) i2 .nil),F⟩
 | bang =>
  obtain ⟨K,hw,hd,hm⟩:=K
  have d1:=(drop_at (x:="<") (t:=["!"]) hdr).2
  obtain ⟨hx,d2⟩:=drop_at (x:="!") (t:=[]) d1
  have hlen:p + 1 + 1 = sg.length:=by
   have h1:=List.drop_eq_nil_iff.mp d2
   have h2:=(List.getElem?_eq_some_iff.mp hx).1
   omega
  obtain ⟨s1,i1,K1,w1⟩:=i_comC hs (by omega) hx K hm rfl hlen
  have K1':Conf J sp sg true (c.com sp "") s1 (c.com sp "").state (p + 2) (c.com sp "").back:=by
   rw [show (c.com sp "").state = c.state from rfl,show (c.com sp "").back = c.back from rfl,hd];exact K1
  obtain ⟨s2,i2,F⟩:=i_eof K1' okd (sm_com hs _) (by omega) (none_of d2)
  have hg1:GoodC (c.com sp ""):=hg
  exact ⟨2,s2,by omega,.cons (ready_cl K hw (.inr (.inl rfl))) i1 (.cons (ready_cl K1' w1 (good_ok hg1)) i2 .nil),F⟩
end
end
section
set_option maxRecDepth 100000
set_option maxHeartbeats 2000000
section
variable {s s0 s1 s2 s3:S}
noncomputable abbrev drT:Tab:=[(514,f_Builder_is_foreign),(733,f_Tokenizer_is_ready),(726,f_Tokenizer_step),(28,f_hand_over)]
noncomputable abbrev drM:ME:=.meth (.v 207) 743 733 115 .nil
noncomputable abbrev drC (L:Locs) (st:St) (f:Bool → St → Prop):Prop:=wpE drT drM L st fun x st => x.bool fun p => f p st
noncomputable abbrev drB:MSs:=(.cons (.expr (.meth (.v 207) 743 726 195 .nil)) (.cons (.assign 80 (.call 88 28 (.cons (.v 207) (.cons (.v 48) (.cons (.v 80) .nil))))) .nil))
theorem whl_i {T:Tab} {n:Nat} {c:ME} {b r:MSs} {L:Locs} {st:St} {k:SK} (h:loopW (fun L st f => wpE T c L st fun x st => x.bool fun p => f p st) (wpSs T b) n L st (seqK (wpSs T r) k)):wpSs T (.cons (.whl n c b) r) L st k:=h
theorem dr_t {n:Nat} {L:Locs} {K:SK} (h1:L.lookup 80 = some (.d (.int (s.out.length:Int)))) (h2:L.lookup 48 = some (.loc 0)) (h3:L.lookup 207 = some (.loc 19)) (rd:Ready s true) (it:Iter s s2) (h:loopW drC (wpSs drT drB) n ((80,.d (.int (s2.out.length:Int))) :: L) (mk s2) K):loopW drC (wpSs drT drB) (n + 1) L (mk s) K:=by
 obtain ⟨s1,e1,e2⟩:=it
 unfold Ready at rd
 (repeat walk_at "zs")
 exact h
theorem dr_f {n:Nat} {L:Locs} {K:SK} (h3:L.lookup 207 = some (.loc 19)) (rd:Ready s false) (h:K.n L (mk s)):loopW drC (wpSs drT drB) (n + 1) L (mk s) K:=by
 unfold Ready at rd
 (repeat walk_at "zs")
 exact h
theorem dr_loop {j:Nat} (T:Turns j s s2) (hr:Ready s2 false) {K:SK} (hK:∀ L,K.n L (mk s2)):∀ (n:Nat) (L:Locs),j < n → L.lookup 80 = some (.d (.int (s.out.length:Int))) → L.lookup 48 = some (.loc 0) → L.lookup 207 = some (.loc 19) → loopW drC (wpSs drT drB) n L (mk s) K:=by
 induction T with
 | nil =>
  intro n L hf h1 h2 h3
  cases n with
  | zero => exact absurd hf (Nat.not_lt_zero _)
  | succ n => exact dr_f h3 hr (hK L)
 | @cons j0 s s1 s2 rd it _ ih =>
  intro n L hf h1 h2 h3
  cases n with
  | zero => exact absurd hf (Nat.not_lt_zero _)
  | succ n => exact dr_t h1 h2 h3 rd it (ih hr hK n _ (Nat.lt_of_succ_lt_succ hf) rfl h2 h3)
theorem q_drive {j:Nat} {x:Bool} (hf:Does f_Builder_is_foreign [.loc 0] (mk s) (.d (.bool x)) (mk s)) (T:Turns j (s.frn_ x) s2) (hr:Ready s2 false) (hj:j < 1000) (hz:s.out.length ≤ bigLen) :
  Does f_drive [.loc 19,.loc 0] (mk s) (.d .none) (mk s2):=by
 intro K hK
 refine run_q (by with_unfolding_all rfl) rfl ?_
 (repeat walk_at "zs")
 refine whl_i ?_
 exact dr_loop T hr (fun _ => hK) 1000 _ hj rfl rfl rfl
end
end
section
set_option maxRecDepth 100000
set_option maxHeartbeats 2000000
section
variable {s s0 s1 s2 s3:S} {T:Tab} {L:Locs} {st st1:St}
def HasV (T:Tab) (e:ME) (L:Locs) (st:St) (v:AV):Prop:=∀ K:EK,K v st → wpE T e L st K
theorem hb_btw {i j n:Int} {k:Nat} (h:L.lookup k = some (.d (.int n))):HasV T (.btw (.lit (.int i)) (.v k) (.lit (.int j))) L st (.d (.bool (decide (i ≤ n) && decide (n ≤ j)))):=by
 intro K hK
 refine opt_i h ?_
 cases q:decide (i ≤ n) with
 | true => rw [q] at hK;exact ifc_t q hK
 | false => rw [q] at hK;exact ifc_f q hK
theorem hb_or {a c:ME} {p q:Bool} (h1:HasV T a L st (.d (.bool p))) (h2:HasV T c L st (.d (.bool q))):HasV T (.or (.cons a (.cons c .nil))) L st (.d (.bool (p || q))):=by
 intro K hK
 refine h1 _ ?_
 cases p with
 | true => exact hK
 | false => exact h2 _ (by cases q <;> exact hK)
theorem hb_and {a c:ME} {p q:Bool} (h1:HasV T a L st (.d (.bool p))) (h2:HasV T c L st (.d (.bool q))):HasV T (.and (.cons a (.cons c .nil))) L st (.d (.bool (p && q))):=by
 intro K hK
 refine h1 _ ?_
 cases p with
 | false => exact hK
 | true => exact h2 _ (by cases q <;> exact hK)
theorem ret_i {e:ME} {r:MSs} {k:SK} {v:AV} (h:HasV T e L st v) (hK:k.r v st):wpSs T (.cons (.ret e) r) L st k:=h _ hK
theorem ifs_i {c:ME} {a b r:MSs} {k:SK} {q:Bool} (h:HasV T c L st (.d (.bool q))) (t:q = true → wpSs T a L st (seqK (wpSs T r) k)) (f:q = false → wpSs T b L st (seqK (wpSs T r) k)):wpSs T (.cons (.ifs c a b) r) L st k :=
 h _ (show ifc q _ _ from by cases q with | true => exact t rfl | false => exact f rfl)
theorem hv_call1 {i k a:Nat} {f:Fn} {x v:AV} (h:L.lookup k = some x) (hf:T.lookup a = some f) (d:Does f [x] st v st):HasV T (.call i a (.cons (.v k) .nil)) L st v:=fun K hK => opt_i h (show T.at a [x] st K by unfold Tab.at;rw [hf];exact d K hK)
theorem hv_lit {d:PyData}:HasV T (.lit d) L st (.d d):=fun _ hK => hK
noncomputable def surr (n:Int):Bool:=decide (55296 ≤ n) && decide (n ≤ 57343)
noncomputable def ctrl (n:Int):Bool:=(decide (0 ≤ n) && decide (n ≤ 31)) || (decide (127 ≤ n) && decide (n ≤ 159))
noncomputable def nonc (n:Int):Bool:=(decide (64976 ≤ n) && decide (n ≤ 65007)) || ((decide (0 ≤ n) && decide (n ≤ 1114111)) && decide (65534 ≤ n.fmod 65536))
noncomputable def fiveD:List PyData:=[.int 0,.int 9,.int 10,.int 12,.int 13]
noncomputable def ierr (n:Int):Str:=bif surr n then "surrogate-in-input-stream" else bif nonc n then "noncharacter-in-input-stream" else bif ctrl n && !(memD (.int n) fiveD) then "control-character-in-input-stream" else ""
section
variable {n:Int}
theorem q_surr:Does f_is_surrogate [.d (.int n)] st (.d (.bool (surr n))) st:=by
 intro K hK
 refine run_q (by with_unfolding_all rfl) rfl ?_
 refine ret_i (hb_btw (k:=140) ?_) hK <;> rfl
theorem q_ctrl:Does f_is_control [.d (.int n)] st (.d (.bool (ctrl n))) st:=by
 intro K hK
 refine run_q (by with_unfolding_all rfl) rfl ?_
 refine ret_i (hb_or (hb_btw (k:=140) ?_) (hb_btw (k:=140) ?_)) hK <;> rfl
theorem hb_mod {k:Nat} (h:L.lookup k = some (.d (.int n))):HasV T (.cmp .ge (.bin .mod (.v k) (.lit (.int 65536))) (.lit (.int 65534))) L st (.d (.bool (decide (65534 ≤ n.fmod 65536)))):=fun _ hK => opt_i h hK
theorem q_nonc:Does f_is_noncharacter [.d (.int n)] st (.d (.bool (nonc n))) st:=by
 intro K hK
 refine run_q (by with_unfolding_all rfl) rfl ?_
 refine ret_i (hb_or (hb_btw (k:=140) ?_) (hb_and (hb_btw (k:=140) ?_) (hb_mod (k:=140) ?_))) hK <;> rfl
theorem hb_five {k:Nat} (h:L.lookup k = some (.d (.int n))):HasV T (.cmp .ninT (.v k) (.tup (.cons (.lit (.int 0)) (.cons (.lit (.int 9)) (.cons (.lit (.int 10)) (.cons (.lit (.int 12)) (.cons (.lit (.int 13)) .nil))))))) L st (.d (.bool (!(memD (.int n) fiveD)))):=fun _ hK => opt_i h (lay_i (x:=.int n) (ys:=fiveD) (memOK_i rfl (by decide +kernel) rfl) hK)
noncomputable abbrev ieT:Tab:=[(207,f_is_control),(200,f_is_noncharacter),(193,f_is_surrogate)]
theorem q_ierr:Does f_input_error [.d (.int n)] st (.d (.str (ierr n))) st:=by
 intro K hK
 refine run_q (by with_unfolding_all rfl) rfl ?_
 unfold ierr at hK
 refine ifs_i (hv_call1 (f:=f_is_surrogate) (x:=.d (.int n)) rfl rfl q_surr) (fun e => ?_) fun e => ?_
 ·rw [e] at hK;exact ret_i hv_lit hK
 rw [e] at hK
 refine ifs_i (hv_call1 (f:=f_is_noncharacter) (x:=.d (.int n)) rfl rfl q_nonc) (fun e => ?_) fun e => ?_
 ·rw [e] at hK;exact ret_i hv_lit hK
 rw [e] at hK
 refine ifs_i (hb_and (hv_call1 (f:=f_is_control) (x:=.d (.int n)) rfl rfl q_ctrl) (hb_five rfl)) (fun e => ?_) fun e => ?_
 ·rw [e] at hK;exact ret_i hv_lit hK
 rw [e] at hK
 exact ret_i hv_lit hK
end
noncomputable abbrev s1g (c:Nat):Str:=⟨#[c]⟩
theorem s1_beq {c d:Nat}:(s1g c == s1g d) = decide (c = d):=by
 rw [Bool.eq_iff_iff,beq_iff_eq,decide_eq_true_eq]
 constructor
 ·intro h;injection h with h;simpa using h
 ·rintro rfl;rfl
noncomputable abbrev sfT:Tab:=[(542,f_input_error)]
noncomputable abbrev sfB:MSs:=(.cons (.ifs (.cmp .eqS (.v 49) (.lit (.str "\u000d"))) (.cons (.expr (.app (.attr (.v 180) 580 182) (.lit (.str "\n")))) .nil) (.cons (.ifs (.or (.cons (.cmp .neS (.v 49) (.lit (.str "\n"))) (.cons (.not (.attr (.v 180) 580 116)) .nil))) (.cons (.assign 53 (.call 97 542 (.cons (.ord (.v 49)) .nil))) (.cons (.ifs (.cmp .neS (.v 53) (.lit (.str ""))) (.cons (.expr (.app (.attr (.v 180) 580 79) (.tup (.cons (.v 53) (.cons (.len .lst (.attr (.v 180) 580 182)) .nil))))) .nil) .nil) (.cons (.expr (.app (.attr (.v 180) 580 182) (.v 49))) .nil))) .nil) .nil)) (.cons (.setattr (.v 180) 580 116 (.cmp .eqS (.v 49) (.lit (.str "\u000d")))) .nil))
noncomputable def feE (s:S) (c:Nat):List PyData:=bif ierr (c:Int) != "" then s.serrs ++ [.tuple [.str (ierr (c:Int)),.int (s.signs.length:Int)]] else s.serrs
noncomputable def feS (s:S) (c:Nat):S:=((s.signs_ (s.signs ++ [.str (s1g c)])).serrs_ (feE s c)).ret_ false
theorem zw_WL17_2:True:=by
 k_with "zsum" => first | (with_reducible assumption) | (with_reducible exact q_ierr)
 trivial
theorem fe_body {c:Nat} {L:Locs} {K:SK} (h0:L.lookup 180 = some (.loc 20)) (hc:c ≠ 13) (hret:s.ret = false) (hz:s.signs.length < bigLen) (hz2:s.serrs.length < bigLen) (hK:∀ L,L.lookup 180 = some (.loc 20) → K.n L (mk (feS s c))) :
  wpSs sfT sfB ((49,.d (.str (s1g c))) :: L) (mk s) K:=by
 have h1:(s1g c == "\r") = false:=by rw [show ("\r":Str) = s1g 13 from by decide +kernel,s1_beq];exact decide_eq_false hc
 have hlen:s.signs.length ≤ bigLen:=Nat.le_of_lt hz
 have hr2:(!s.ret) = true:=by rw [hret];rfl
 have k:wpSs sfT (.cons (.assign 53 (.call 97 542 (.cons (.ord (.v 49)) .nil))) (.cons (.ifs (.cmp .neS (.v 53) (.lit (.str ""))) (.cons (.expr (.app (.attr (.v 180) 580 79) (.tup (.cons (.v 53) (.cons (.len .lst (.attr (.v 180) 580 182)) .nil))))) .nil) .nil) (.cons (.expr (.app (.attr (.v 180) 580 182) (.v 49))) .nil))) ((49,.d (.str (s1g c))) :: L) (mk s) (seqK (wpSs sfT .nil) (seqK (wpSs sfT (.cons (.setattr (.v 180) 580 116 (.cmp .eqS (.v 49) (.lit (.str "\u000d")))) .nil)) K)):=by
  have hK':=hK ((53,.d (.str (ierr (c:Int)))) :: (49,.d (.str (s1g c))) :: L) h0
  unfold feS feE at hK'
  cases q:(ierr (c:Int) != "") with
  | true =>
   rw [q] at hK'
   (repeat walk_at "zs")
   rw [h1];exact hK'
  | false =>
   rw [q] at hK'
   (repeat walk_at "zs")
   rw [h1];exact hK'
 refine ifs_i (q:=false) (fun K h => show K (.d (.bool (s1g c == "\r"))) (mk s) by rw [h1];exact h) (fun e => nomatch e) fun _ => ?_
 refine ifs_i (q:=true) ?_ (fun _ => k) fun e => nomatch e
 have o:=hb_or (T:=sfT) (L:=(49,.d (.str (s1g c))) :: L) (st:=mk s) (a:=.cmp .neS (.v 49) (.lit (.str "\n"))) (c:=.not (.attr (.v 180) 580 116)) (p:=s1g c != "\n") (q:=true) (fun _ h => h) (fun K h => opt_i h0 (show K (.d (.bool (!s.ret))) (mk s) by rw [hr2];exact h))
 rw [Bool.or_true] at o
 exact o
theorem set3 {a a' b b':List PyData} {d d':Bool}:(((((s.signs_ a).serrs_ b).ret_ d).signs_ a').serrs_ b').ret_ d' = ((s.signs_ a').serrs_ b').ret_ d':=by cases s;rfl
theorem feS_signs (s:S) (c:Nat):(feS s c).signs = s.signs ++ [.str (s1g c)]:=by cases s;rfl
theorem fe_eq (l:List Nat) (s:S):l.foldl feS s = ((s.signs_ (s.signs ++ l.map fun c => .str (s1g c))).serrs_ (l.foldl feS s).serrs).ret_ (l.foldl feS s).ret:=by
 induction l generalizing s with
 | nil => rw [List.map_nil,List.append_nil];cases s;rfl
 | cons c l ih =>
  rw [List.foldl_cons,List.map_cons,List.append_cons]
  refine (ih (feS s c)).trans ?_
  rw [feS_signs]
  generalize l.foldl feS (feS s c) = s'
  exact set3
theorem fe_ret (l:List Nat) {s:S} (h:s.ret = false):(l.foldl feS s).ret = false:=by
 induction l generalizing s with
 | nil => exact h
 | cons c l ih => exact ih rfl
theorem feE_le (s:S) (c:Nat):(feE s c).length ≤ s.serrs.length + 1:=by
 unfold feE
 cases (ierr (c:Int) != "") with
 | true => exact Nat.le_of_eq List.length_append
 | false => exact Nat.le_succ _
theorem fe_le (l:List Nat) (s:S):(l.foldl feS s).serrs.length ≤ s.serrs.length + l.length:=by
 induction l generalizing s with
 | nil => exact Nat.le_refl _
 | cons c l ih => exact Nat.le_trans (ih (feS s c)) (by have:=feE_le s c;show (feE s c).length + l.length ≤ s.serrs.length + (l.length + 1);omega)
theorem fe_loop:∀ (l:List Nat) (s:S) (L:Locs) {K:SK},L.lookup 180 = some (.loc 20) → (∀ c ∈ l,c ≠ 13) → s.ret = false → s.signs.length + l.length < 100000 → s.serrs.length + l.length < 100000 → (∀ L,K.n L (mk (l.foldl feS s))) →
  loopF (fun x L st => wpSs sfT sfB ((49,x) :: L) st) (l.map fun c => .d (.str ⟨#[c]⟩)) L (mk s) K:=by
 intro l
 induction l with
 | nil => exact fun s L {K} _ _ _ _ _ hK => hK L
 | cons c l ih =>
  intro s L K h0 hl hr hz hz2 hK
  rw [List.length_cons] at hz hz2
  exact fe_body h0 (hl c (.head _)) hr (Nat.lt_trans (show s.signs.length < 100000 by omega) (by decide)) (Nat.lt_trans (show s.serrs.length < 100000 by omega) (by decide)) fun L hL => ih (feS s c) L hL (fun d hd => hl d (.tail _ hd)) rfl
   (by rw [feS_signs,List.length_append];show s.signs.length + 1 + l.length < 100000;omega) (by have:=feE_le s c;show (feE s c).length + l.length < 100000;omega) hK
theorem q_tfeed {v:Str} (hc:s.closed = false) (hl:∀ c ∈ v.cps.toList,c ≠ 13) (hr:s.ret = false) (hz:s.signs.length + v.cps.toList.length < 100000) (hz2:s.serrs.length + v.cps.toList.length < 100000) :
  ∃ s',Does f_Tokenizer_feed [.loc 19,.d (.str v)] (mk s) (.d .none) (mk s') ∧ s' = (((s.signs_ (s.signs ++ v.cps.toList.map (fun c => .str (s1g c)))).serrs_ s'.serrs).ret_ s'.ret).wait_ false ∧ s'.ret = false ∧ s'.serrs.length ≤ s.serrs.length + v.cps.toList.length:=by
 have e0:Does f_Stream_feed [.loc 20,.d (.str v)] (mk s) (.d .none) (mk (v.cps.toList.foldl feS s)):=by
  intro K hK
  refine run_q (by with_unfolding_all rfl) rfl ?_
  refine ifc_f hc ?_
  refine ifc_t (decide_eq_true (by rw [List.length_map];exact Nat.le_of_lt (Nat.lt_trans (show v.cps.toList.length < 100000 by omega) (by decide)))) ?_
  exact ⟨fun _ => trivial,fe_loop v.cps.toList s _ rfl hl hr hz hz2 fun L => hK⟩
 have e1:=fe_eq v.cps.toList s
 have e2:=fe_ret v.cps.toList hr
 have e3:=fe_le v.cps.toList s
 generalize v.cps.toList.foldl feS s = s1 at *
 refine ⟨s1.wait_ false,by walk_at "zfn",?_,e2,e3⟩
 show s1.wait_ false = (((s.signs_ _).serrs_ s1.serrs).ret_ s1.ret).wait_ false
 rw [← e1]
theorem q_send:Does f_Stream_end [.loc 20] (mk s) (.d .none) (mk (s.closed_ true)):=by
 walk_at "zfn"
theorem q_tend:Does f_Tokenizer_end [.loc 19] (mk s) (.d .none) (mk ((s.closed_ true).wait_ false)):=by
 have h:=q_send (s:=s)
 walk_at "zfn"
end
end
section
set_option maxRecDepth 100000
set_option maxHeartbeats 2000000
noncomputable def spotsL:List (Str × Str):=[("svg","svg"),("html","html"),("svg","foreignObject"),("html","div"),("math","mi"),("svg","title"),("html","title"),("math","math"),("html","html"),("html","noscript"),("svg","desc"),("html","script"),("html","div"),("html","plaintext")]
noncomputable def S0d (k:Str):S:={ ix:=0,state:=k,back:="data",last:="",out:=[],errs:=[],frn:=false,wait:=false,done:=false,signs:=[],closed:=false,ret:=false,serrs:=[],mode:="in body",orig:="",wish:="",ctx:=-1,notes:=[],bdone:=false,kinds:=[.str "document",.str "element"],sp:=["","html"],nms:=["","html"],attrs:=[.list [],.list []],texts:=[.str "",.str ""],pa:=[-1,0],nC:=2,its:=[1],jb:=1,j0:=0 }
noncomputable def S0c (x y k:Str):S:={ S0d k with ctx:=1,kinds:=[.str "document",.str "element",.str "element"],sp:=["",x,"html"],nms:=["",y,"html"],attrs:=[.list [],.list [],.list []],texts:=[.str "",.str "",.str ""],pa:=[-1,-1,0],nC:=3,its:=[2] }
noncomputable def S0 (p:Str × Str) (k:Str):S:=if p = htmlP then S0d k else S0c p.1 p.2 k
noncomputable def spotA (p:Str × Str):AV:=.d (.tuple [.str p.1,.str p.2])
theorem new_i {C:Addr} {f:Fn} {xs:List AV} {st:St} {K:EK} (h:f (.loc st.next :: xs) (st.new (.inst C [])) fun v st' => v.non (K (.loc st.next) st')):runNew C f xs st K:=nd_i h
theorem zw_WL18_1:True:=by
 k_with "zb" => first | (refine' nd_x ?e_ ?_;(case e_ => walk_at "zst")) | (refine' ifc_t ?e_ ?_;(case e_ => walk_at "c")) | (refine' run_q (by with_unfolding_all rfl) rfl ?_)
 k_with "zst" => (dsimp only [St.setF,St.put,St.new,AObj.putF,Mine.putF,modO,putK,oInst,cond_true,cond_false,List.append,List.nil_append,List.cons_append,Nat.reduceBEq,Nat.reduceAdd] <;> exact rfl)
 trivial
noncomputable def stT (j:Nat):St:=⟨[(9,.dict []),(8,.jl 1),(7,.dl [.int (-1)]),(6,.dl [.str ""]),(5,.dl [.list []]),(4,.dl [.str ""]),(3,.dl [.str ""]),(2,.dl [.str "document"]),(1,.inst 439 treF),(0,.inst 517 [(176,.fd rulesT)])],10,j⟩
theorem tree_new {j:Nat}:Does (runNew 439 f_Tree_init) [] ⟨[(0,.inst 517 [(176,.fd rulesT)])],1,j⟩ (.loc 1) (stT j):=by
 intro K hK
 refine nd_x (st':=⟨[(1,.inst 439 []),(0,.inst 517 [(176,.fd rulesT)])],2,j⟩) rfl ?_
 refine' run_q (by with_unfolding_all rfl) rfl ?_
 repeat walk_at "zb"
 exact hK
noncomputable abbrev bldB:List (Nat × AV):=[(176,.fd rulesT),(209,.loc 1),(191,.loc 10),(86,.loc 12),(137,.d (.str "initial")),(149,.d (.str "")),(138,.loc 14),(91,.d (.int (-1))),(85,.d (.int (-1))),(151,.loc 15),(109,.d (.bool true)),(117,.d (.bool false)),(108,.d (.bool false)),(57,.d (.int (-1))),(167,.d (.str "no-quirks")),(79,.loc 16),(155,.loc 17),(217,.d (.str "")),(118,.d (.bool false)),(99,.d (.bool false)),(104,.d (.bool false))]
noncomputable abbrev stBd (j:Nat):St:=⟨[(17,.dl []),(16,.dl []),(15,.dict []),(14,.dl []),(13,.dl []),(12,.inst 154 fmtF),(11,.dl []),(10,.inst 322 stkF),(9,.dict []),(8,.jl 1),(7,.dl [.int (-1)]),(6,.dl [.str ""]),(5,.dl [.list []]),(4,.dl [.str ""]),(3,.dl [.str ""]),(2,.dl [.str "document"]),(1,.inst 439 treF),(0,.inst 517 bldB)],18,j⟩
theorem zw_WL18_2:True:=by
 k_with "zb" => (refine' Does.go ?e_ ?_;(case e_ => assumption))
 trivial
theorem builder_new {j:Nat}:Does (runNew 517 f_Builder_init) [.fd rulesT] ⟨[],0,j⟩ (.loc 0) (stBd j):=by
 intro K hK
 have ht:=tree_new (j:=j)
 unfold stT at ht
 refine nd_x (st':=⟨[(0,.inst 517 [])],1,j⟩) rfl ?_
 refine' run_q (by with_unfolding_all rfl) rfl ?_
 repeat walk_at "zb"
 exact hK
theorem ifc_c {b c:Bool} {A B:Prop} (h:c = false) (hB:B):ifc b (ifc c A B) B:=by
 cases b with
 | false => exact hB
 | true => exact show ifc c A B from ifc_f h hB
theorem cut_new {l:List (Nat × AObj)} {n j:Nat} {ob:AObj} (h1:(l.all fun p => Nat.blt p.1 n) = true):(⟨((n,ob) :: l).filter fun p => Nat.blt p.1 n,n,j⟩:St) = ⟨l,n,j⟩:=by
 rw [List.filter_cons_of_neg (by show ¬ Nat.ble (n + 1) n = true;exact fun q => absurd (Nat.le_of_ble_eq_true q) (Nat.not_succ_le_self n))]
 rw [List.filter_eq_self.mpr fun p hp => List.all_eq_true.mp h1 p hp]
theorem setS {T:Tab} {L:Locs} {st:St} {n:Nat} {q:Str} {es:List (Str × AV)} {K:SK} (h1:L.lookup 194 = some (.loc n)) (hg:st.get n = some (.dict es)) (hn:(Nat.ble es.length 999 && decide (es.map (·.1)).Nodup && true) = true) (he:putK q (.fn 815) es = es ++ [(q,.fn 815)]) (h:nd (st.put n (.dict (es ++ [(q,.fn 815)]))) fun st => K.n ((141,.d (.str q)) :: L) st):wpSs T (.cons (.setK (.v 194) (.v 141) (.g 16 815)) .nil) ((141,.d (.str q)) :: L) st K:=by
 refine opt_i h1 ?_
 show St.dict st n _
 unfold St.dict
 rw [hg]
 exact ifc_t hn (he.symm ▸ h)
theorem loopF_c {b:AV → Locs → St → SK → Prop} {x:AV} {r:List AV} {L:Locs} {st:St} {k:SK} (h:b x L st (lopK (loopF b r) k)):loopF b (x :: r) L st k:=h
theorem zw_WL18_3:True:=by
 k_with "zb" => first | (refine' run_qf (by with_unfolding_all rfl) rfl ?_) | (refine' ifc_c ?h_ ?_;(case h_ => first | assumption | decide +kernel)) | (refine' ifc_f ?e_ ?_;(case e_ => assumption))
 k_with "zst" => (refine cut_new ?_;kernel_rfl)
 trivial
theorem begin_c {x y k:Str} {j:Nat} (hj:j < bigLen) (h1:PyData.eqv (.tuple [.str x,.str y]) (.tuple [.str "html",.str "html"]) = false) (h2:(SeqAt.shaped (.tuple [.str x,.str y]) && SeqAt.shaped (.tuple [.str "html",.str "html"])) = true) (h3:(y == "template") = false) :
  Does f__law_begin [spotA (x,y),.d (.str k)] ⟨[],0,j⟩ (.tup [.loc 19,.loc 0]) (mk ((S0c x y k).jb_ (j + 1))):=by
 intro K hK
 have hb:=builder_new (j:=j)
 have hj2:j ≤ bigLen:=Nat.le_of_lt hj
 have h4:(!PyData.eqv (.tuple [.str x,.str y]) (.tuple [.str "html",.str "html"])) = true:=by rw [h1];rfl
 refine' run_q (by with_unfolding_all rfl) rfl ?_
 repeat walk_at "zb"
 refine And.intro (fun _ => True.intro) ?_
 refine loopF_c (setS (n:=18) (es:=[("data",.fn 535),("tag open",.fn 801),("character reference",.fn 808)]) rfl rfl (by decide +kernel) (by kernel_rfl) ?_)
 refine nd_x (by first | (dsimp only [St.put,modO,cond_true,cond_false,List.cons_append,List.nil_append,Nat.reduceBEq] <;> exact rfl)) ?_
 refine lop_i ?_
 refine loopF_c (setS (n:=18) (es:=[("data",.fn 535),("tag open",.fn 801),("character reference",.fn 808),("RCDATA",.fn 815)]) rfl rfl (by decide +kernel) (by kernel_rfl) ?_)
 refine nd_x (by first | (dsimp only [St.put,modO,cond_true,cond_false,List.cons_append,List.nil_append,Nat.reduceBEq] <;> exact rfl)) ?_
 refine lop_i ?_
 refine loopF_c (setS (n:=18) (es:=[("data",.fn 535),("tag open",.fn 801),("character reference",.fn 808),("RCDATA",.fn 815),("RAWTEXT",.fn 815)]) rfl rfl (by decide +kernel) (by kernel_rfl) ?_)
 refine nd_x (by first | (dsimp only [St.put,modO,cond_true,cond_false,List.cons_append,List.nil_append,Nat.reduceBEq] <;> exact rfl)) ?_
 refine lop_i ?_
 refine loopF_c (setS (n:=18) (es:=[("data",.fn 535),("tag open",.fn 801),("character reference",.fn 808),("RCDATA",.fn 815),("RAWTEXT",.fn 815),("script data",.fn 815)]) rfl rfl (by decide +kernel) (by kernel_rfl) ?_)
 refine nd_x (by first | (dsimp only [St.put,modO,cond_true,cond_false,List.cons_append,List.nil_append,Nat.reduceBEq] <;> exact rfl)) ?_
 repeat walk_at "zb"
 exact hK
theorem begin_d {x y k:Str} {j:Nat} (hj:j < bigLen) (h1:PyData.eqv (.tuple [.str x,.str y]) (.tuple [.str "html",.str "html"]) = true) (h2:(SeqAt.shaped (.tuple [.str x,.str y]) && SeqAt.shaped (.tuple [.str "html",.str "html"])) = true) (h3:(y == "template") = false) :
  Does f__law_begin [spotA (x,y),.d (.str k)] ⟨[],0,j⟩ (.tup [.loc 19,.loc 0]) (mk ((S0d k).jb_ (j + 1))):=by
 intro K hK
 have hb:=builder_new (j:=j)
 have hj2:j ≤ bigLen:=Nat.le_of_lt hj
 have h4:(!PyData.eqv (.tuple [.str x,.str y]) (.tuple [.str "html",.str "html"])) = false:=by rw [h1];rfl
 refine' run_q (by with_unfolding_all rfl) rfl ?_
 repeat walk_at "zb"
 refine And.intro (fun _ => True.intro) ?_
 refine loopF_c (setS (n:=18) (es:=[("data",.fn 535),("tag open",.fn 801),("character reference",.fn 808)]) rfl rfl (by decide +kernel) (by kernel_rfl) ?_)
 refine nd_x (by first | (dsimp only [St.put,modO,cond_true,cond_false,List.cons_append,List.nil_append,Nat.reduceBEq] <;> exact rfl)) ?_
 refine lop_i ?_
 refine loopF_c (setS (n:=18) (es:=[("data",.fn 535),("tag open",.fn 801),("character reference",.fn 808),("RCDATA",.fn 815)]) rfl rfl (by decide +kernel) (by kernel_rfl) ?_)
 refine nd_x (by first | (dsimp only [St.put,modO,cond_true,cond_false,List.cons_append,List.nil_append,Nat.reduceBEq] <;> exact rfl)) ?_
 refine lop_i ?_
 refine loopF_c (setS (n:=18) (es:=[("data",.fn 535),("tag open",.fn 801),("character reference",.fn 808),("RCDATA",.fn 815),("RAWTEXT",.fn 815)]) rfl rfl (by decide +kernel) (by kernel_rfl) ?_)
 refine nd_x (by first | (dsimp only [St.put,modO,cond_true,cond_false,List.cons_append,List.nil_append,Nat.reduceBEq] <;> exact rfl)) ?_
 refine lop_i ?_
 refine loopF_c (setS (n:=18) (es:=[("data",.fn 535),("tag open",.fn 801),("character reference",.fn 808),("RCDATA",.fn 815),("RAWTEXT",.fn 815),("script data",.fn 815)]) rfl rfl (by decide +kernel) (by kernel_rfl) ?_)
 refine nd_x (by first | (dsimp only [St.put,modO,cond_true,cond_false,List.cons_append,List.nil_append,Nat.reduceBEq] <;> exact rfl)) ?_
 repeat walk_at "zb"
 exact hK
noncomputable def spotOk (p:Str × Str):Bool:=(PyData.eqv (.tuple [.str p.1,.str p.2]) (.tuple [.str "html",.str "html"]) == (p.1 == htmlP.1 && p.2 == htmlP.2)) && ((SeqAt.shaped (.tuple [.str p.1,.str p.2]) && SeqAt.shaped (.tuple [.str "html",.str "html"])) && !(p.2 == "template"))
theorem spots_ok:spotsL.all spotOk = true:=by decide +kernel
theorem begin_all {p:Str × Str} {k:Str} {j:Nat} (hp:p ∈ spotsL) (hj:j < bigLen):Does f__law_begin [spotA p,.d (.str k)] ⟨[],0,j⟩ (.tup [.loc 19,.loc 0]) (mk ((S0 p k).jb_ (j + 1))):=by
 have h:=List.all_eq_true.mp spots_ok p hp
 obtain ⟨x,y⟩:=p
 have h1:=eq_of_beq (an_l h)
 have h2:=an_l (an_r h)
 have h3:(y == "template") = false:=(Bool.not_eq_true' _).mp (an_r (an_r h))
 unfold S0
 by_cases e:(x,y) = htmlP
 ·rw [if_pos e]
  cases e
  exact begin_d hj h1 h2 h3
 ·rw [if_neg e]
  refine begin_c hj (h1.trans ?_) h2 h3
  cases q:(x == htmlP.1 && y == htmlP.2) with
  | false => rfl
  | true => exact absurd (by rw [eq_of_beq (an_l q),eq_of_beq (an_r q)]) e
end
section
set_option maxRecDepth 100000
set_option maxHeartbeats 2000000
section
variable {s:S} {T:Tab} {L:Locs} {st st1:St}
theorem compW_pure {same:St → Prop} {f:AV → St → (Option PyData → St → Prop) → Prop} {xs:List AV} {k:List PyData → St → Prop} (g:AV → PyData) (hs:same st) (hf:∀ x ∈ xs,∀ k:Option PyData → St → Prop,k (some (g x)) st → f x st k) (h:k (xs.map g) st):compW same f xs st k:=by
 induction xs generalizing k with
 | nil => exact h
 | cons x r ih => exact hf x (.head _) _ ⟨hs,ih (fun y hy => hf y (.tail _ hy)) h⟩
noncomputable def pairD (p:Str × Str):PyData:=.tuple [.str p.1,.str p.2]
noncomputable def gS (s:S):PyData → PyData
 | .int i => pairD (lookS s i)
 | _ => .none
noncomputable def seenT (out errs notes held:List PyData) (ix:Int) (st bk last mode wish:Str) (frn wait done bdone:Bool):PyData :=
 .tuple [.list out,.list errs,.int ix,.str st,.str bk,.str last,.bool frn,.bool wait,.bool done,.list notes,.list held,.str mode,.str wish,.bool bdone]
noncomputable abbrev seenA (s:S):AV:=.tup [.loc 23,.loc 24,.d (.int s.ix),.d (.str s.state),.d (.str s.back),.d (.str s.last),.d (.bool s.frn),.d (.bool s.wait),.d (.bool s.done),.loc 16,.d (.list ((s.its.map .int).map (gS s))),.d (.str s.mode),.d (.str s.wish),.d (.bool s.bdone)]
noncomputable def gA (s:S):AV → PyData:=onD .none (gS s)
theorem seen_data:(seenA s).data (mk s) = some (seenT s.out s.errs s.notes (s.its.map fun i => pairD (lookS s i)) s.ix s.state s.back s.last s.mode s.wish s.frn s.wait s.done s.bdone):=by
 have e:(s.its.map .int).map (gS s) = s.its.map fun i => pairD (lookS s i):=List.map_map
 unfold seenA
 rw [e];rfl
theorem q_seen (H:Tr s):Does f__law_seen [.loc 19,.loc 0] (mk s) (seenA s) (mk s):=by
 have hl:((s.its.map PyData.int).map AV.d).length ≤ bigLen:=by rw [List.length_map,List.length_map];exact Nat.le_trans H.itl (Nat.le_of_lt (Nat.lt_trans H.sm (by decide)))
 have e:((s.its.map PyData.int).map AV.d).map (gA s) = (s.its.map .int).map (gS s):=List.map_map
 intro K hK
 refine run_q (by with_unfolding_all rfl) rfl ?_
 (repeat walk_at "zs")
 refine compW_pure (gA s) rfl (fun x hx k hk => ?_) ?_
 ·obtain ⟨y,hy,rfl⟩:=List.mem_map.mp hx
  obtain ⟨i,hi,rfl⟩:=List.mem_map.mp hy
  obtain ⟨j,rfl,hj⟩:=H.its i hi
  obtain ⟨a1,a2⟩:=lookS_at H hj
  have b1:=k_bd (k:=j) (Nat.lt_trans hj (Nat.lt_trans H.sm (by decide)))
  have c1:pyIdx (s.sp.map PyData.str) (j:Int) = some (.str (lookS s j).1):=pyIdx_pos (by rw [List.getElem?_map,a1];rfl)
  have c2:pyIdx (s.nms.map PyData.str) (j:Int) = some (.str (lookS s j).2):=pyIdx_pos (by rw [List.getElem?_map,a2];rfl)
  (repeat walk_at "zs")
  exact hk
 ·rw [e];exact hK
end
end
section
open PySem.Builtin PySem.Builtin.Str
set_option maxRecDepth 100000
set_option maxHeartbeats 2000000
noncomputable abbrev stx (l:List Nat):Str:=⟨l.toArray⟩
theorem stx_len (l:List Nat):(stx l).length = l.length:=by show l.toArray.size = _;simp
theorem stx_list (l:List Nat):(stx l).cps.toList = l:=by simp
theorem stx_inj {a b:List Nat}:stx a = stx b ↔ a = b:=by
 constructor
 ·intro h;injection h with h;simpa using h
 ·rintro rfl;rfl
theorem stx_beq {a b:List Nat}:(stx a == stx b) = decide (a = b):=by
 rw [Bool.eq_iff_iff,beq_iff_eq,decide_eq_true_eq,stx_inj]
theorem str_stx (x:Str):x = stx x.cps.toList:=by cases x;simp
theorem take_full {l:List Nat} {n:Nat} (h:l.length ≤ n):l.take n = l:=List.take_of_length_le h
theorem sl_nat (l:List Nat) {a b:Nat} (h:a ≤ b) (h2:b ≤ l.length):Txt.slice (stx l) (some (a:Int)) (some (b:Int)) = stx ((l.drop a).take (b - a)):=by
 have:=StrLaws.sliceText_nat (stx l) h (by rw [stx_len];exact h2)
 rw [stx_list] at this
 exact this
theorem sl_from (l:List Nat) {p:Nat} (h:p ≤ l.length):Txt.slice (stx l) (some (p:Int)) none = stx (l.drop p):=by
 have e:Txt.slice (stx l) (some (p:Int)) none = Txt.slice (stx l) (some (p:Int)) (some ((l.length:Nat):Int)):=by
  unfold Txt.slice
  rw [StrLaws.sliceIdx_none_hi,stx_len]
 rw [e,sl_nat l h (Nat.le_refl _),List.take_of_length_le (by rw [List.length_drop];omega)]
theorem idx_clip (lo:Option Int) (k n:Nat):strSliceIndices lo (some (k:Int)) 1 n = strSliceIndices lo (some ((min k n:Nat):Int)) 1 n:=by
 have a:¬ ((k:Int) < 0):=by omega
 have b:¬ (((min k n:Nat):Int) < 0):=by omega
 have c:max (0:Int) (min (k:Int) (n:Int)) = max (0:Int) (min ((min k n:Nat):Int) (n:Int)):=by omega
 unfold strSliceIndices
 simp only [a,b,if_false,show (1:Int) > 0 from by decide,if_true,c]
theorem sl_clip (l:List Nat) (lo:Option Int) (k:Nat):Txt.slice (stx l) lo (some (k:Int)) = Txt.slice (stx l) lo (some ((min k l.length:Nat):Int)):=by
 unfold Txt.slice
 rw [stx_len,idx_clip]
theorem sl_to (l:List Nat) (k:Nat):Txt.slice (stx l) none (some (k:Int)) = stx (l.take k):=by
 have e:Txt.slice (stx l) none (some (k:Int)) = Txt.slice (stx l) (some ((0:Nat):Int)) (some (k:Int)):=by
  unfold Txt.slice
  rw [StrLaws.sliceIdx_none_lo];rfl
 rw [e,sl_clip,sl_nat l (Nat.zero_le _) (Nat.min_le_right _ _),List.drop_zero,Nat.sub_zero]
 rw [show List.take (min k l.length) l = List.take k l from by
  rw [Nat.min_def];split
  ·rfl
  ·rw [take_full (Nat.le_refl _),take_full (by omega)]]
theorem sl_12 (a:Nat) (t:List Nat):Txt.slice (stx (a :: t)) (some (1:Int)) (some (2:Int)) = stx (t.take 1):=by
 show Txt.slice (stx (a :: t)) (some ((1:Nat):Int)) (some ((2:Nat):Int)) = _
 rw [sl_clip,sl_nat _ (by simp;omega) (Nat.min_le_right _ _)]
 cases t with
 | nil => rfl
 | cons b t => simp
theorem sl_last (l:List Nat) (a:Nat):Txt.slice (stx (l ++ [a])) (some (-1)) none = stx [a]:=by
 have e:Txt.slice (stx (l ++ [a])) (some (-1)) none = Txt.slice (stx (l ++ [a])) (some ((l.length:Nat):Int)) none:=by
  unfold Txt.slice
  rw [StrLaws.sliceIdx_neg_lo none _ (by decide) (by rw [stx_len];simp;omega),stx_len]
  have:(-1:Int) + ((l ++ [a]).length:Nat) = ((l.length:Nat):Int):=by simp;omega
  rw [this]
 rw [e,sl_from _ (by simp)]
 simp
theorem sl_init (l:List Nat) (a:Nat):Txt.slice (stx (l ++ [a])) none (some (-1)) = stx l:=by
 have e:Txt.slice (stx (l ++ [a])) none (some (-1)) = Txt.slice (stx (l ++ [a])) none (some ((l.length:Nat):Int)):=by
  unfold Txt.slice
  rw [StrLaws.sliceIdx_neg_hi none _ (by decide) (by rw [stx_len];simp;omega),stx_len]
  have:(-1:Int) + ((l ++ [a]).length:Nat) = ((l.length:Nat):Int):=by simp;omega
  rw [this]
 rw [e,sl_to]
 simp
theorem item_0 (a:Nat) (t:List Nat):Txt.item (stx (a :: t)) 0 = s1g a:=by
 unfold Txt.item Txt.charAt seqIndex?
 simp [stx_len]
theorem item_1 (a b:Nat) (t:List Nat):Txt.item (stx (a :: b :: t)) 1 = s1g b:=by
 have h:(1:Int) < (t.length:Int) + 1 + 1:=by omega
 unfold Txt.item Txt.charAt seqIndex?
 simp [stx_len,h]
theorem contains_one (l:List Nat) (c:Nat):Txt.contains (stx l) (s1g c) = decide (c ∈ l):=by
 have:=StrLaws.found_one (stx l) c
 rw [stx_list] at this
 exact this
theorem find_none {l:List Nat} {c:Nat} (h:c ∉ l):Txt.find (stx l) (s1g c) = -1:=by
 unfold Txt.find
 rcases StrLaws.occ_head (stx l) (s1g c) 1 (Nat.le_refl _) with ⟨e,_⟩ | ⟨i,q,e,ha,_⟩
 ·rw [e]
 ·have:=(StrLaws.subAt_one (stx l) c i).mp ha
  rw [stx_list] at this
  exact absurd (List.mem_of_getElem? this) h
theorem find_some {pre post:List Nat} {c:Nat} (h:c ∉ pre):Txt.find (stx (pre ++ c :: post)) (s1g c) = (pre.length:Int):=by
 have at0:StrLaws.At (stx (pre ++ c :: post)) (s1g c) (stx (pre ++ c :: post)).length pre.length:=(StrLaws.subAt_one _ c _).mpr (by rw [stx_list];simp)
 unfold Txt.find
 rcases StrLaws.occ_head (stx (pre ++ c :: post)) (s1g c) 1 (Nat.le_refl _) with ⟨_,n⟩ | ⟨i,q,e,ha,n⟩
 ·exact absurd at0 (n _)
 ·rw [e]
  have h1:=(StrLaws.subAt_one (stx (pre ++ c :: post)) c i).mp ha
  rw [stx_list] at h1
  have h2:¬ i < pre.length:=fun hi => by
   rw [List.getElem?_append_left hi] at h1
   exact h (List.mem_of_getElem? h1)
  have h3:¬ pre.length < i:=fun hi => n _ hi at0
  have:i = pre.length:=by omega
  rw [this]
noncomputable def rep:List Nat → List Nat
 | 38 :: 42 :: t => 91 :: 93 :: rep t
 | a :: t => a :: rep t
 | [] => []
theorem rep_38_42 (t:List Nat):rep (38 :: 42 :: t) = 91 :: 93 :: rep t:=by rw [rep]
theorem rep_nil:rep [] = []:=by rw [rep]
theorem rep_ne {a:Nat} (h:a ≠ 38) (t:List Nat):rep (a :: t) = a :: rep t:=by
 rw [rep];intro t2 e;exact fun _ => absurd e h
theorem rep_one:rep [38] = [38]:=by
 rw [rep]
 ·rw [rep_nil]
 ·intro t2 _ e;cases e
theorem rep_38 {x:Nat} (h:x ≠ 42) (t:List Nat):rep (38 :: x :: t) = 38 :: rep (x :: t):=by
 rw [rep];intro t2 _ e;cases e;exact h rfl
noncomputable def occL:List Nat → Nat → Nat → List Nat
 | [],_,_ => []
 | a :: t,i,f => if f ≤ i ∧ a = 38 ∧ t.head? = some 42 then i :: occL t (i + 1) (i + 2) else occL t (i + 1) f
noncomputable abbrev amp2:Str:=stx [38,42]
theorem subAt_two (l:List Nat) (i:Nat):(i + amp2.length ≤ l.length ∧ subAt (stx l) amp2 i = true) ↔ ∃ t,l.drop i = 38 :: 42 :: t:=by
 rw [StrLaws.subAt_eq,stx_list,stx_len,stx_list,beq_iff_eq]
 show (i + 2 ≤ l.length ∧ (l.drop i).take 2 = [38,42]) ↔ _
 constructor
 ·rintro ⟨_,h⟩
  cases e:l.drop i with
  | nil => rw [e] at h;cases h
  | cons a t =>
   rw [e] at h
   cases t with
   | nil => simp at h
   | cons d t => simp at h;obtain ⟨rfl,rfl⟩:=h;exact ⟨t,rfl⟩
 ·rintro ⟨t,e⟩
  refine ⟨?_,by rw [e];rfl⟩
  have:=congrArg List.length e
  rw [List.length_drop] at this
  simp at this;omega
theorem occ_loop (l:List Nat) (lim:Nat):∀ (n i:Nat) (arr:Array Nat) (f:Nat),n + i = l.length + 1 → arr.size ≤ i → l.length + 1 ≤ lim →
  (forIn (List.range' i n) (arr,f) (StrLaws.occBody (stx l) amp2 l.length lim)).run.fst.toList = arr.toList ++ occL (l.drop i) i f:=by
 intro n
 induction n with
 | zero =>
  intro i arr f h ha hl
  rw [List.drop_of_length_le (by omega)]
  simp [occL]
 | succ n ih =>
  intro i arr f h ha hl
  rw [List.range'_succ,List.forIn_cons]
  unfold StrLaws.occBody
  by_cases hc:f ≤ i ∧ ∃ t,l.drop i = 38 :: 42 :: t
  ·obtain ⟨hf,t,e⟩:=hc
   have q:=(subAt_two l i).mpr ⟨t,e⟩
   rw [if_pos ⟨⟨⟨by show arr.size < lim;omega,hf⟩,q.1⟩,q.2⟩]
   show (forIn (List.range' (i + 1) n) (arr.push i,i + 2) (StrLaws.occBody (stx l) amp2 l.length lim)).run.fst.toList = _
   rw [ih (i + 1) _ _ (by omega) (by simp;omega) hl,e]
   have e2:l.drop (i + 1) = 42 :: t:=by rw [← List.drop_drop,e];rfl
   rw [e2,show occL (38 :: 42 :: t) i f = i :: occL (42 :: t) (i + 1) (i + 2) from by rw [occL,if_pos ⟨hf,rfl,rfl⟩]]
   simp
  ·have hn:¬ (((((arr,f):Array Nat × Nat).fst.size < lim ∧ ((arr,f):Array Nat × Nat).snd ≤ i) ∧ i + amp2.length ≤ l.length) ∧ subAt (stx l) amp2 i = true):=fun z => hc ⟨z.1.1.2,(subAt_two l i).mp ⟨z.1.2,z.2⟩⟩
   rw [if_neg hn]
   show (forIn (List.range' (i + 1) n) (arr,f) (StrLaws.occBody (stx l) amp2 l.length lim)).run.fst.toList = _
   rw [ih (i + 1) _ _ (by omega) (by omega) hl]
   congr 1
   cases e:l.drop i with
   | nil => rw [← List.drop_drop,e];rfl
   | cons a t =>
    have e2:l.drop (i + 1) = t:=by rw [← List.drop_drop,e];rfl
    rw [e2,occL,if_neg]
    rintro ⟨z1,rfl,z3⟩
    refine hc ⟨z1,?_⟩
    cases t with
    | nil => cases z3
    | cons d t => simp at z3;subst z3;exact ⟨t,e⟩
theorem join_parts (l:List Nat):∀ (n:Nat) (u:List Nat) (i s:Nat),u.length ≤ n → l.drop i = u → s ≤ i → i ≤ l.length → (Str.join (stx [91,93]) (StrLaws.partsFrom (stx l) 2 s (occL u i s))).cps.toList = (l.drop s).take (i - s) ++ rep u:=by
 intro n
 induction n with
 | zero =>
  intro u i s h e hs hi
  have:u = []:=by cases u with | nil => rfl | cons a t => simp at h
  subst this
  have hl:l.length ≤ i:=List.drop_eq_nil_iff.mp e
  show (strSub (stx l) s (stx l).length).cps.toList = _
  rw [rep_nil,List.append_nil,stx_len]
  unfold strSub
  simp
  rw [show i = l.length from by omega];omega
 | succ n ih =>
  intro u i s h e hs hi
  cases u with
  | nil =>
   have hl:l.length ≤ i:=List.drop_eq_nil_iff.mp e
   show (strSub (stx l) s (stx l).length).cps.toList = _
   rw [rep_nil,List.append_nil,stx_len]
   unfold strSub
   simp
   rw [show i = l.length from by omega];omega
  | cons a t =>
   have e2:l.drop (i + 1) = t:=by rw [← List.drop_drop,e];rfl
   have hlt:i < l.length:=by
    have:=congrArg List.length e
    rw [List.length_drop] at this;simp at this;omega
   simp only [List.length_cons] at h
   have grow:(l.drop s).take (i + 1 - s) = (l.drop s).take (i - s) ++ [a]:=by
    rw [show i + 1 - s = (i - s) + 1 from by omega,List.take_add_one,List.getElem?_drop,show s + (i - s) = i from by omega]
    have:l[i]? = some a:=by
     have h0:(l.drop i)[0]? = some a:=by rw [e];rfl
     rwa [List.getElem?_drop] at h0
    rw [this];rfl
   by_cases hc:a = 38 ∧ t.head? = some 42
   ·obtain ⟨rfl,h2⟩:=hc
    cases t with
    | nil => cases h2
    | cons d t =>
     simp at h2
     subst h2
     have e3:l.drop (i + 2) = t:=by
      have:(l.drop (i + 1)).drop 1 = t:=by rw [e2];rfl
      rwa [List.drop_drop] at this
     have hlt2:i + 2 ≤ l.length:=by
      have:=congrArg List.length e2
      rw [List.length_drop] at this;simp at this;omega
     rw [occL,if_pos ⟨hs,rfl,rfl⟩,occL,if_neg (by omega)]
     have ih':=ih t (i + 2) (i + 2) (by simp at h;omega) e3 (Nat.le_refl _) hlt2
     rw [Nat.sub_self,List.take_zero,List.nil_append] at ih'
     obtain ⟨q,w,ew⟩:=StrLaws.partsFrom_ne (stx l) 2 (i + 2) (occL t (i + 2) (i + 2))
     rw [rep_38_42]
     show (Str.join (stx [91,93]) (strSub (stx l) s i :: StrLaws.partsFrom (stx l) 2 (i + 2) (occL t (i + 2) (i + 2)))).cps.toList = _
     rw [ew] at ih' ⊢
     show (strSub (stx l) s i ++ stx [91,93] ++ Str.join (stx [91,93]) (q :: w)).cps.toList = _
     rw [Str.cps_append,Str.cps_append,Array.toList_append,Array.toList_append,ih']
     unfold strSub
     simp
   ·rw [occL,if_neg (by rintro ⟨_,x,y⟩;exact hc ⟨x,y⟩),ih t (i + 1) s (by omega) e2 (by omega) (by omega),grow,List.append_assoc]
    congr 1
    by_cases ha:a = 38
    ·subst ha
     cases t with
     | nil => rw [rep_one,rep_nil];rfl
     | cons d t =>
      have hd:d ≠ 42:=fun z => hc ⟨rfl,by rw [z];rfl⟩
      rw [rep_38 hd];rfl
    ·rw [rep_ne ha];rfl
theorem occL_nil_rep:∀ (n:Nat) (u:List Nat) (i:Nat),u.length ≤ n → occL u i 0 = [] → rep u = u:=by
 intro n
 induction n with
 | zero =>
  intro u i h _
  have:u = []:=by { cases u with | nil => rfl | cons a t => simp at h }
  subst this;exact rep_nil
 | succ n ih =>
  intro u i h he
  cases u with
  | nil => exact rep_nil
  | cons a t =>
   simp only [List.length_cons] at h
   rw [occL] at he
   split at he
   ·cases he
   ·rename_i hc
    have ih':=ih t (i + 1) (by omega) he
    by_cases ha:a = 38
    ·subst ha
     cases t with
     | nil => exact rep_one
     | cons d t =>
      have hd:d ≠ 42:=fun z => hc ⟨Nat.zero_le _,rfl,by rw [z];rfl⟩
      rw [rep_38 hd,ih']
    ·rw [rep_ne ha,ih']
theorem replace_rep (l:List Nat):Txt.replace (stx l) "&*" "[]" = stx (rep l):=by
 show Txt.replace (stx l) amp2 (stx [91,93]) = _
 have ho:occurrences (stx l) amp2 0 (stx l).length ((stx l).length + 1) = occL l 0 0:=by
  rw [StrLaws.occ_eq,stx_len]
  have:=occ_loop l (l.length + 1) (l.length + 1) 0 #[] 0 (by omega) (Nat.le_refl _) (Nat.le_refl _)
  simpa using this
 unfold Txt.replace
 rw [ho]
 split
 ·rename_i h
  have h2:occL l 0 0 = []:=by
   rw [Bool.or_eq_true] at h
   rcases h with h | h
   ·simpa using h
   ·exact absurd h (by decide)
  rw [occL_nil_rep l.length l 0 (Nat.le_refl _) h2]
 ·rw [StrLaws.glued_eq_join,StrLaws.partsBetween_eq]
  have:=join_parts l l.length l 0 0 (Nat.le_refl _) rfl (Nat.le_refl _) (Nat.zero_le _)
  rw [str_stx (Str.join _ _)]
  show stx (Str.join (stx [91,93]) (StrLaws.partsFrom (stx l) 2 0 (occL l 0 0))).cps.toList = _
  rw [this];simp
theorem rep_snoc:∀ (n:Nat) (u:List Nat),u.length ≤ n → rep (u ++ [38]) = rep u ++ [38]:=by
 intro n
 induction n with
 | zero =>
  intro u h
  have:u = []:=by { cases u with | nil => rfl | cons a t => simp at h }
  subst this;rw [List.nil_append,rep_one,rep_nil];rfl
 | succ n ih =>
  intro u h
  cases u with
  | nil => rw [List.nil_append,rep_one,rep_nil];rfl
  | cons a t =>
   simp only [List.length_cons] at h
   by_cases ha:a = 38
   ·subst ha
    cases t with
    | nil =>
     rw [List.cons_append,List.nil_append,rep_38 (by decide),rep_one];rfl
    | cons d t =>
     by_cases hd:d = 42
     ·subst hd
      rw [List.cons_append,List.cons_append,rep_38_42,rep_38_42,ih t (by simp at h;omega)];rfl
     ·rw [List.cons_append,List.cons_append,rep_38 hd,rep_38 hd,← List.cons_append,ih (d :: t) (by omega)];rfl
   ·rw [List.cons_append,rep_ne ha,rep_ne ha,ih t (by omega)];rfl
end
section
open PySem.Builtin PySem.Builtin.Str
set_option maxRecDepth 100000
set_option maxHeartbeats 2000000
theorem and_dec {P Q:Prop} [Decidable P] [Decidable Q] (h:P ∧ Q):(decide P && decide Q) = true:=by rw [decide_eq_true h.1,decide_eq_true h.2];rfl
theorem asg_i {T:Tab} {L:Locs} {st:St} {i:Nat} {e:ME} {r:MSs} {k:SK} {v:AV} (h:HasV T e L st v) (hK:wpSs T r ((i,v) :: L) st k):wpSs T (.cons (.assign i e) r) L st k:=h _ hK
theorem zw_WL21_1:True:=by
 k_with "c" => (with_reducible refine and_dec ?_;with_reducible assumption)
 trivial
section
variable {st:St} {x s8 last:Str} {e f:Bool} {k:Int}
noncomputable abbrev seL (x s8 last:Str) (e:Bool):Locs:=[(105,.d (.bool e)),(128,.d (.str last)),(193,.d (.str s8)),(172,.d (.str x))]
noncomputable abbrev stopE:ME:=.ite (.and (.cons (.cmp .neS (.v 128) (.lit (.str ""))) (.cons (.cmp .neS (.v 193) (.lit (.str "PLAINTEXT"))) .nil))) (.find (.v 172) (.lit (.str "/"))) (.lit (.int (-1)))
noncomputable abbrev seA (x s8 last:Str) (e:Bool):List AV:=[.d (.str x),.d (.str s8),.d (.str last),.d (.bool e)]
section
variable (hs:HasV [] stopE (seL x s8 last e) st (.d (.int k))) (hz:x.length ≤ bigLen)
include hs hz
theorem se1 (h1:decide (k < 0) = false) (hr:(s8 != "RCDATA") = true) (hz2:(Txt.slice x none (some k)).length ≤ bigLen) :
  Does f__law_section (seA x s8 last e) st (.d (.tuple [.str (Txt.slice x none (some k)),.int (Txt.slice x none (some k)).length,.bool (decide (0 ≤ k)),.bool false])) st:=by
 intro K hK
 refine run_q (by with_unfolding_all rfl) rfl ?_
 refine asg_i hs ?_
 (repeat walk_at "zs")
 exact hK
theorem se2 (h1:decide (k < 0) = true) (hr:(s8 != "RCDATA") = true) :
  Does f__law_section (seA x s8 last e) st (.d (.tuple [.str x,.int x.length,.bool (decide (0 ≤ k)),.bool false])) st:=by
 intro K hK
 refine run_q (by with_unfolding_all rfl) rfl ?_
 refine asg_i hs ?_
 (repeat walk_at "zs")
 exact hK
theorem se3 (h1:decide (k < 0) = false) (hr:(s8 != "RCDATA") = false) (hz2:(Txt.slice x none (some k)).length ≤ bigLen) (hz3:(Txt.slice x none (some k)).length ≤ 1048576) :
  Does f__law_section (seA x s8 last e) st (.d (.tuple [.str (Txt.replace (Txt.slice x none (some k)) "&*" "[]"),.int (Txt.slice x none (some k)).length,.bool (decide (0 ≤ k)),.bool false])) st:=by
 intro K hK
 refine run_q (by with_unfolding_all rfl) rfl ?_
 refine asg_i hs ?_
 (repeat walk_at "zs")
 exact hK
theorem se4 (h1:decide (k < 0) = true) (hr:(s8 != "RCDATA") = false) (hz3:x.length ≤ 1048576) (h2:(Txt.slice x (some (-1)) none == "&") = false) :
  Does f__law_section (seA x s8 last e) st (.d (.tuple [.str (Txt.replace x "&*" "[]"),.int x.length,.bool (decide (0 ≤ k)),.bool false])) st:=by
 intro K hK
 refine run_q (by with_unfolding_all rfl) rfl ?_
 refine asg_i hs ?_
 (repeat walk_at "zs")
 exact hK
theorem se4e (h1:decide (k < 0) = true) (hr:(s8 != "RCDATA") = false) (hz3:x.length ≤ 1048576) (h2:(Txt.slice x (some (-1)) none == "&") = true) (he:(!e) = false) :
  Does f__law_section (seA x s8 last e) st (.d (.tuple [.str (Txt.replace x "&*" "[]"),.int x.length,.bool (decide (0 ≤ k)),.bool false])) st:=by
 intro K hK
 refine run_q (by with_unfolding_all rfl) rfl ?_
 refine asg_i hs ?_
 (repeat walk_at "zs")
 exact hK
theorem se5 (h1:decide (k < 0) = true) (hr:(s8 != "RCDATA") = false) (h2:(Txt.slice x (some (-1)) none == "&") = true) (he:(!e) = true) (hz3:(Txt.slice x none (some (-1))).length ≤ 1048576) :
  Does f__law_section (seA x s8 last e) st (.d (.tuple [.str (Txt.replace (Txt.slice x none (some (-1))) "&*" "[]"),.int x.length,.bool (decide (0 ≤ k)),.bool true])) st:=by
 intro K hK
 refine run_q (by with_unfolding_all rfl) rfl ?_
 refine asg_i hs ?_
 (repeat walk_at "zs")
 exact hK
end
theorem stop_f (h:(last != "" && s8 != "PLAINTEXT") = true):HasV [] stopE (seL x s8 last e) st (.d (.int (Txt.find x "/"))):=by
 rw [Bool.and_eq_true] at h
 obtain ⟨h1,h2⟩:=h
 intro K hK
 (repeat walk_at "zs")
 exact hK
theorem stop_n (h:(last != "" && s8 != "PLAINTEXT") = false):HasV [] stopE (seL x s8 last e) st (.d (.int (-1))):=by
 intro K hK
 cases h1:(last != "") with
 | false => (repeat walk_at "zs");exact hK
 | true =>
  have h2:(s8 != "PLAINTEXT") = false:=by rw [h1] at h;simpa using h
  (repeat walk_at "zs")
  exact hK
noncomputable def secX (s8:Str) (raw:List Nat):List Nat:=if s8 = "RCDATA" then rep raw else raw
theorem stx_small {l:List Nat} (h:l.length ≤ 1000):(stx l).length ≤ bigLen ∧ (stx l).length ≤ 1048576:=by rw [stx_len];unfold bigLen;omega
theorem sec_closed {raw post:List Nat} (hK:(last != "" && s8 != "PLAINTEXT") = true) (h47:47 ∉ raw) (hz:(raw ++ 47 :: post).length ≤ 1000) :
  Does f__law_section (seA (stx (raw ++ 47 :: post)) s8 last e) st (.d (.tuple [.str (stx (secX s8 raw)),.int raw.length,.bool true,.bool false])) st:=by
 have hs:=stop_f (x:=stx (raw ++ 47 :: post)) (s8:=s8) (last:=last) (e:=e) (st:=st) hK
 rw [show Txt.find (stx (raw ++ 47 :: post)) "/" = (raw.length:Int) from find_some h47] at hs
 have h1:decide ((raw.length:Int) < 0) = false:=by simp
 have h2:decide (0 ≤ (raw.length:Int)) = true:=by simp
 have e1:Txt.slice (stx (raw ++ 47 :: post)) none (some (raw.length:Int)) = stx raw:=by rw [sl_to];simp
 have hr0:raw.length ≤ 1000:=by simp at hz;omega
 have g:=stx_small hz
 have g2:=stx_small hr0
 rw [← e1] at g2
 unfold secX
 by_cases hr:s8 = "RCDATA"
 ·have q:=se3 hs g.1 h1 (by rw [hr];decide +kernel) g2.1 g2.2
  rw [h2,e1,replace_rep,stx_len] at q
  rw [if_pos hr];exact q
 ·have q:=se1 hs g.1 h1 (by simpa using hr) g2.1
  rw [h2,e1,stx_len] at q
  rw [if_neg hr];exact q
theorem stop_open {l:List Nat} (h:(last != "" && s8 != "PLAINTEXT") = true → 47 ∉ l):HasV [] stopE (seL (stx l) s8 last e) st (.d (.int (-1))):=by
 cases hK:(last != "" && s8 != "PLAINTEXT") with
 | false => exact stop_n hK
 | true =>
  have:=stop_f (x:=stx l) (s8:=s8) (last:=last) (e:=e) (st:=st) hK
  rwa [show Txt.find (stx l) "/" = -1 from find_none (h hK)] at this
theorem last_ne {l:List Nat} (h:l.getLast? ≠ some 38):(Txt.slice (stx l) (some (-1)) none == "&") = false:=by
 rcases List.eq_nil_or_concat l with rfl | ⟨l0,a,rfl⟩
 ·decide +kernel
 ·rw [List.concat_eq_append] at h ⊢
  rw [sl_last]
  show (stx [a] == stx [38]) = false
  rw [stx_beq]
  simp at h ⊢;exact h
theorem sec_open {l:List Nat} (h47:(last != "" && s8 != "PLAINTEXT") = true → 47 ∉ l) (hz:l.length ≤ 1000) (hc:s8 ≠ "RCDATA" ∨ l.getLast? ≠ some 38 ∨ e = true) :
  Does f__law_section (seA (stx l) s8 last e) st (.d (.tuple [.str (stx (secX s8 l)),.int l.length,.bool false,.bool false])) st:=by
 have hs:=stop_open (e:=e) (st:=st) h47
 have h1:decide ((-1:Int) < 0) = true:=by decide
 have h2:decide (0 ≤ (-1:Int)) = false:=by decide
 have g:=stx_small hz
 unfold secX
 by_cases hr:s8 = "RCDATA"
 ·have hr2:(s8 != "RCDATA") = false:=by rw [hr];decide +kernel
  have q:Does f__law_section (seA (stx l) s8 last e) st (.d (.tuple [.str (Txt.replace (stx l) "&*" "[]"),.int (stx l).length,.bool (decide (0 ≤ (-1:Int))),.bool false])) st:=by
   cases hl:(Txt.slice (stx l) (some (-1)) none == "&") with
   | false => exact se4 hs g.1 h1 hr2 g.2 hl
   | true =>
    rcases hc with h | h | h
    ·exact absurd hr h
    ·rw [last_ne h] at hl;cases hl
    ·exact se4e hs g.1 h1 hr2 g.2 hl (by rw [h];rfl)
  rw [h2,replace_rep,stx_len] at q
  rw [if_pos hr];exact q
 ·have q:=se2 hs g.1 h1 (by simpa using hr)
  rw [h2,stx_len] at q
  rw [if_neg hr];exact q
theorem sec_cut {l:List Nat} (h47:(last != "" && s8 != "PLAINTEXT") = true → 47 ∉ l) (hz:(l ++ [38]).length ≤ 1000) (hr:s8 = "RCDATA") (he:e = false) :
  Does f__law_section (seA (stx (l ++ [38])) s8 last e) st (.d (.tuple [.str (stx (rep l)),.int ((l ++ [38]).length:Nat),.bool false,.bool true])) st:=by
 have h47':(last != "" && s8 != "PLAINTEXT") = true → 47 ∉ (l ++ [38]):=fun h => by have:=h47 h;simp [this]
 have hs:=stop_open (e:=e) (st:=st) h47'
 have h1:decide ((-1:Int) < 0) = true:=by decide
 have h2:decide (0 ≤ (-1:Int)) = false:=by decide
 have g:=stx_small hz
 have hr2:(s8 != "RCDATA") = false:=by rw [hr];decide +kernel
 have hl:(Txt.slice (stx (l ++ [38])) (some (-1)) none == "&") = true:=by rw [sl_last];decide +kernel
 have g2:=stx_small (l:=l) (by simp at hz;omega)
 have q:=se5 hs g.1 h1 hr2 hl (by rw [he];rfl) (by rw [sl_init];exact g2.2)
 rw [h2,sl_init,replace_rep,stx_len] at q
 exact q
end
section
variable {st:St} {x n:Str} {f:Bool}
theorem zw_WL21_5:True:=by
 k_with "zsum" => first | (with_reducible assumption) | (exact q_names) | (exact q_ends)
 trivial
noncomputable abbrev toldR (toks:List PyData) (codes:List PyData) (k:Int):AV:=.d (.tuple [.list toks,.list codes,.int k])
section
variable (hz:x.length ≤ bigLen) (hk:-(x.length:Int) ≤ 0 ∧ (0:Int) < x.length)
include hz hk
theorem to1 (q1:(Txt.slice x none (some 2) == "&*") = true) (q2:(Txt.item x 0 == "&") = true):Does f__law_told [.d (.str x),.d (.bool f)] st (toldR [tChar "[",tChar "]"] [] 2) st:=by
 walk_at "zfn"
theorem to1f (q1:(Txt.slice x none (some 2) == "&*") = false) (q2:(x == "<![") = true) (q3:f = true) (q4:(Txt.item x 0 == "&") = false):Does f__law_told [.d (.str x),.d (.bool f)] st (toldR [tChar "[",tChar "]"] [] 3) st:=by
 walk_at "zfn"
theorem to2 (q1:(Txt.slice x none (some 2) == "&*") = false) (q2:(x == "<![") = true) (q3:f = false):Does f__law_told [.d (.str x),.d (.bool f)] st (toldR [tCom "[CDATA["] [.str "cdata-in-html-content"] 3) st:=by
 walk_at "zfn"
theorem to3 (q1:(Txt.slice x none (some 2) == "&*") = false) (q2:(x == "<![") = false) (q3:(Txt.slice x none (some 2) == "<!") = true):Does f__law_told [.d (.str x),.d (.bool f)] st (toldR [tCom ""] [] 2) st:=by
 walk_at "zfn"
theorem to4 (q1:(Txt.slice x none (some 2) == "&*") = false) (q2:(x == "<![") = false) (q3:(Txt.slice x none (some 2) == "<!") = false) (q4:(Txt.item x 0 == "<") = true) (q5:(namesD.lookup (Txt.slice x (some 1) (some 2))).isSome = true) (hk1:-(x.length:Int) ≤ 1 ∧ (1:Int) < x.length) (q6:namesD.lookup (Txt.item x 1) = some (.d (.str n))):Does f__law_told [.d (.str x),.d (.bool f)] st (toldR [tStart n] [] 2) st:=by
 walk_at "zfn"
theorem to5 (q1:(Txt.slice x none (some 2) == "&*") = false) (q2:(x == "<![") = false) (q3:(Txt.slice x none (some 2) == "<!") = false) (q4:(Txt.item x 0 == "<") = true) (q5:(namesD.lookup (Txt.slice x (some 1) (some 2))).isSome = false) (q7:(endsD.lookup (Txt.slice x (some 1) (some 2))).isSome = true) (hk1:-(x.length:Int) ≤ 1 ∧ (1:Int) < x.length) (q6:endsD.lookup (Txt.item x 1) = some (.d (.str n))):Does f__law_told [.d (.str x),.d (.bool f)] st (toldR [tEnd n] [] 2) st:=by
 walk_at "zfn"
theorem to6 (q1:(Txt.slice x none (some 2) == "&*") = false) (q2:(x == "<![") = false) (q3:(Txt.slice x none (some 2) == "<!") = false) (q4:(Txt.item x 0 == "<") = true) (q5:(namesD.lookup (Txt.slice x (some 1) (some 2))).isSome = false) (q7:(endsD.lookup (Txt.slice x (some 1) (some 2))).isSome = false) (q6:(Txt.item x 0 == "\x00") = false):Does f__law_told [.d (.str x),.d (.bool f)] st (toldR [tChar (Txt.item x 0)] [] 1) st:=by
 walk_at "zfn"
theorem to7 (q1:(Txt.slice x none (some 2) == "&*") = false) (q2:(x == "<![") = false) (q3:(Txt.slice x none (some 2) == "<!") = false) (q4:(Txt.item x 0 == "<") = false) (q6:(Txt.item x 0 == "\x00") = false):Does f__law_told [.d (.str x),.d (.bool f)] st (toldR [tChar (Txt.item x 0)] [] 1) st:=by
 walk_at "zfn"
theorem to8 (q1:(Txt.slice x none (some 2) == "&*") = false) (q2:(x == "<![") = false) (q3:(Txt.slice x none (some 2) == "<!") = false) (q4:(Txt.item x 0 == "<") = false) (q6:(Txt.item x 0 == "\x00") = true):Does f__law_told [.d (.str x),.d (.bool f)] st (toldR [tChar (Txt.item x 0)] [.str "unexpected-null-character"] 1) st:=by
 walk_at "zfn"
end
end
end
section
open PySem.Builtin PySem.Builtin.Str
set_option maxRecDepth 100000
set_option maxHeartbeats 2000000
theorem zw_WL22_1:True:=by
 k_with "hv" => (intro K hK;(repeat walk_at "zs");exact hK)
 trivial
noncomputable abbrev dT:Tab:=[(869,f__law_is_turn),(775,f__law_raws),(883,f__law_section),(876,f__law_told)]
noncomputable abbrev dueC:ME:=(.and (.cons (.cmp .lt (.v 41) (.len .str (.v 202))) (.cons (.cmp .eqS (.v 200) (.lit (.str ""))) .nil)))
noncomputable abbrev hereE:ME:=(.ite (.cmp .gt (.len .lst (.v 92)) (.lit (.int 1))) (.idx .seq (.v 92) (.lit (.int (-1)))) (.v 189))
noncomputable abbrev secB:MSs:=(.cons (.assignT [169,135,101,103] (.call 25 883 (.cons (.v 172) (.cons (.v 193) (.cons (.v 128) (.cons (.v 105) .nil)))))) (.cons (.ifs (.and (.cons (.cmp .eqS (.v 193) (.lit (.str "RCDATA"))) (.cons (.cmp .inS (.lit (.str "&")) (.slH (.v 172) (.v 135))) .nil))) (.cons (.assign 44 (.lit (.str "RCDATA"))) .nil) .nil) (.cons (.assign 208 (.comp (.tup (.cons (.lit (.str "char")) (.cons (.v 181) .nil))) 181 (.of (.v 169)))) (.cons (.assign 150 (.bin (.addL true) (.v 150) (.v 208))) (.cons (.assign 146 (.bin (.addL true) (.v 146) (.comp (.tup (.cons (.v 137) (.cons (.v 206) .nil))) 206 (.of (.v 208))))) (.cons (.assign 41 (.bin .addI (.v 41) (.v 135))) (.cons (.assign 200 (.ite (.v 103) (.lit (.str "character reference")) (.lit (.str "")))) (.cons (.ifs (.v 101) (.cons (.expr (.app (.v 150) (.tup (.cons (.lit (.str "end")) (.cons (.v 128) (.cons (.tup .nil) (.cons (.lit (.bool false)) .nil))))))) (.cons (.expr (.app (.v 146) (.tup (.cons (.lit (.str "text")) (.cons (.idx .seq (.v 150) (.lit (.int (-1)))) .nil))))) (.cons (.assignT [92,137,193,41] (.tup (.cons (.init (.v 92)) (.cons (.lit (.str "in body")) (.cons (.lit (.str "data")) (.cons (.bin .addI (.v 41) (.lit (.int 1))) .nil)))))) .nil))) .nil) (.cons .cont .nil)))))))))
noncomputable abbrev stopB:MSs:=(.cons (.assign 41 (.bin .addI (.v 41) (.lit (.int 1)))) (.cons (.assign 122 (.cmp .eqS (.v 172) (.lit (.str "<!")))) (.cons (.assign 200 (.ite (.cmp .eqS (.v 172) (.lit (.str "&"))) (.lit (.str "character reference")) (.lit (.str "tag open")))) (.cons .cont .nil))))
noncomputable abbrev startB:MSs:=(.cons (.assign 128 (.v 141)) (.cons (.assign 186 (.idx .tup (.v 93) (.lit (.int 0)))) (.cons (.ifs (.v 120) (.cons (.assign 186 (.ite (.cmp .eqS (.v 141) (.lit (.str "svg"))) (.lit (.str "svg")) (.lit (.str "html")))) (.cons (.assign 193 (.getd (.call 23 775 .nil) (.v 141) (.lit (.str "data")))) (.cons (.assign 137 (.ite (.cmp .inT (.v 193) (.tup (.cons (.lit (.str "data")) (.cons (.lit (.str "PLAINTEXT")) .nil)))) (.lit (.str "in body")) (.lit (.str "text")))) .nil))) .nil) (.cons (.assign 92 (.bin (.addL false) (.v 92) (.lst .fro (.cons (.tup (.cons (.v 186) (.cons (.v 141) .nil))) .nil)))) .nil))))
noncomputable abbrev elseB:MSs:=(.cons (.ifs (.and (.cons (.cmp .eqS (.v 184) (.lit (.str "end"))) (.cons (.cmp .gt (.len .lst (.v 92)) (.lit (.int 1))) (.cons (.cmp .eqS (.idx .tup (.idx .seq (.v 92) (.lit (.int (-1)))) (.lit (.int 1))) (.v 141)) .nil)))) (.cons (.assign 92 (.init (.v 92))) .nil) .nil) .nil)
noncomputable abbrev fullB:MSs:=(.cons (.assignT [208,54,135] (.call 30 876 (.cons (.slH (.v 172) (.lit (.int 3))) (.cons (.cmp .neS (.idx .tup (.v 93) (.lit (.int 0))) (.lit (.str "html"))) .nil)))) (.cons (.assign 41 (.bin .addI (.v 41) (.v 135))) (.cons (.assign 79 (.bin (.addL false) (.v 79) (.comp (.tup (.cons (.v 53) (.cons (.bin .sub (.v 41) (.lit (.int 1))) .nil))) 53 (.of (.v 54))))) (.cons (.assign 150 (.bin (.addL true) (.v 150) (.v 208))) (.cons (.assignP 184 141 (.idx .tup (.idx .seq (.v 208) (.lit (.int 0))) (.lit (.int 0))) (.idx .tup (.idx .seq (.v 208) (.lit (.int 0))) (.lit (.int 1)))) (.cons (.assign 120 (.call 18 869 (.cons (.v 93) (.cons (.v 184) .nil)))) (.cons (.assign 146 (.bin (.addL true) (.v 146) (.comp (.tup (.cons (.ite (.v 120) (.lit (.str "in body")) (.lit (.str "foreign content"))) (.cons (.v 206) .nil))) 206 (.of (.v 208))))) (.cons (.ifs (.cmp .eqS (.v 184) (.lit (.str "start"))) startB elseB) .nil))))))))
noncomputable abbrev dataB:MSs:=(.cons (.ifs (.cmp .eqS (.idx .str (.v 172) (.lit (.int 0))) (.lit (.str "&"))) (.cons (.assign 44 (.lit (.str "data"))) .nil) .nil) (.cons (.ifs (.and (.cons (.cmp .inT (.v 172) (.tup (.cons (.lit (.str "<")) (.cons (.lit (.str "<!")) (.cons (.lit (.str "&")) .nil))))) (.cons (.not (.v 105)) .nil))) stopB .nil) fullB))
noncomputable abbrev dueB:MSs:=(.cons (.assign 93 (.ite (.cmp .gt (.len .lst (.v 92)) (.lit (.int 1))) (.idx .seq (.v 92) (.lit (.int (-1)))) (.v 189))) (.cons (.assign 172 (.slL (.v 202) (.v 41))) (.cons (.ifs (.cmp .neS (.v 193) (.lit (.str "data"))) secB .nil) dataB)))
noncomputable abbrev eofB:MSs:=(.cons (.expr (.app (.v 150) (.tup (.cons (.lit (.str "eof")) .nil)))) (.cons (.expr (.app (.v 146) (.tup (.cons (.v 137) (.cons (.tup (.cons (.lit (.str "eof")) .nil)) .nil))))) (.cons (.ifs (.cmp .eqS (.v 137) (.lit (.str "text"))) (.cons (.assign 92 (.init (.v 92))) (.cons (.expr (.app (.v 146) (.tup (.cons (.lit (.str "in body")) (.cons (.tup (.cons (.lit (.str "eof")) .nil)) .nil))))) .nil)) .nil) (.cons (.assignT [41,137] (.tup (.cons (.bin .addI (.v 41) (.lit (.int 1))) (.cons (.lit (.str "in body")) .nil)))) .nil))))
noncomputable abbrev endB:MSs:=(.cons (.ifs (.v 105) eofB .nil) (.cons (.assign 93 (.ite (.cmp .gt (.len .lst (.v 92)) (.lit (.int 1))) (.idx .seq (.v 92) (.lit (.int (-1)))) (.v 189))) (.cons (.assign 67 (.tup (.cons (.v 150) (.cons (.v 79) (.cons (.v 41) (.cons (.ite (.cmp .neS (.v 200) (.lit (.str ""))) (.v 200) (.v 193)) (.cons (.v 44) (.cons (.v 128) (.cons (.cmp .neS (.idx .tup (.v 93) (.lit (.int 0))) (.lit (.str "html"))) (.cons (.v 122) (.cons (.v 105) .nil))))))))))) (.cons (.ret (.bin .addT (.v 67) (.tup (.cons (.v 146) (.cons (.v 92) (.cons (.v 137) (.cons (.lit (.str "")) (.cons (.v 105) .nil)))))))) .nil))))
noncomputable abbrev dueX:MSs:=(.cons (.assign 92 (.lst .fro (.cons (.tup (.cons (.lit (.str "html")) (.cons (.lit (.str "html")) .nil))) .nil))) (.cons (.assign 150 (.lst .loc .nil)) (.cons (.assign 79 (.lst .fro .nil)) (.cons (.assign 146 (.lst .loc .nil)) (.cons (.assignT [41,128,44,137,193,200,122] (.tup (.cons (.lit (.int 0)) (.cons (.lit (.str "")) (.cons (.lit (.str "data")) (.cons (.lit (.str "in body")) (.cons (.v 126) (.cons (.lit (.str "")) (.cons (.lit (.bool false)) .nil))))))))) (.cons (.whl 1000 dueC dueB) endB))))))
theorem dueX_eq:b__law_due = dueX:=rfl
structure Mem (st:St) (n m:Nat) (A B:List PyData) (j:Nat):Prop where
 a:st.get n = some (.dl A)
 b:st.get m = some (.dl B)
 ne:n ≠ m
 ln:n < st.next
 lm:m < st.next
 jb:st.jb = j
section
variable {st:St} {n m j q:Nat} {A B X:List PyData} {ob ob':AObj}
theorem gn_top:(st.new ob).get st.next = some ob:=by
 show List.lookup st.next ((st.next,ob) :: st.objs) = some ob
 rw [List.lookup_cons,beq_self_eq_true]
theorem gn_old (h:n < st.next) (k:st.get n = some ob'):(st.new ob).get n = some ob':=by
 show List.lookup n ((st.next,ob) :: st.objs) = some ob'
 rw [List.lookup_cons,beq_false_of_ne (Nat.ne_of_lt h)];exact k
theorem lk_mod (f:AObj → AObj):∀ l:List (Nat × AObj),(modO n f l).lookup m = bif m == n then (l.lookup m).map f else l.lookup m
  | [] => by unfold modO;cases (m == n) <;> rfl
  | p :: r => by
    unfold modO
    cases h:n == p.1 with
    | true =>
      have e:=eq_of_beq h
      show List.lookup m ((p.1,f p.2) :: r) = _
      rw [List.lookup_cons,show p = (p.1,p.2) from rfl,List.lookup_cons,← e]
      cases (m == n) <;> rfl
    | false =>
      show List.lookup m (p :: modO n f r) = _
      rw [show p = (p.1,p.2) from rfl,List.lookup_cons,List.lookup_cons,lk_mod f r]
      cases h2:m == p.1 with
      | false => rfl
      | true =>
        have h3:(m == n) = false:=by
          cases h4:m == n with
          | false => rfl
          | true => rw [← eq_of_beq h4,h2] at h;cases h
        rw [h3];rfl
theorem gs_top (k:st.get n = some ob'):(st.put n ob).get n = some ob:=by
 show (modO n (fun _ => ob) st.objs).lookup n = some ob
 rw [lk_mod,beq_self_eq_true]
 show (st.get n).map (fun _ => ob) = some ob
 rw [k];rfl
theorem gs_old (h:m ≠ n) (k:st.get m = some ob'):(st.put n ob).get m = some ob':=by
 show (modO n (fun _ => ob) st.objs).lookup m = some ob'
 rw [lk_mod,beq_false_of_ne h];exact k
theorem Mem.newA (M:Mem st n m A B j):Mem (st.new (.dl X)) st.next m X B j:=⟨gn_top,gn_old M.lm M.b,(Nat.ne_of_lt M.lm).symm,Nat.lt_succ_self _,Nat.lt_succ_of_lt M.lm,M.jb⟩
theorem Mem.newB (M:Mem st n m A B j):Mem (st.new (.dl X)) n st.next A X j:=⟨gn_old M.ln M.a,gn_top,Nat.ne_of_lt M.ln,Nat.lt_succ_of_lt M.ln,Nat.lt_succ_self _,M.jb⟩
theorem Mem.putA (M:Mem st n m A B j):Mem (st.put n (.dl X)) n m X B j:=⟨gs_top M.a,gs_old M.ne.symm M.b,M.ne,M.ln,M.lm,M.jb⟩
theorem Mem.putB (M:Mem st n m A B j):Mem (st.put m (.dl X)) n m A X j:=⟨gs_old M.ne M.a,gs_top M.b,M.ne,M.ln,M.lm,M.jb⟩
variable {T:Tab} {L:Locs} {k:SK} {i:Nat} {b e x:ME} {r:MSs} {ys xs:List PyData} {d:PyData}
theorem dl_i {K:List PyData → Prop} (h:st.get n = some (.dl A)) (hK:K A):st.dl n K:=by unfold St.dl;rw [h];exact hK
theorem addA_i (M:Mem st n m A B j) (ha:L.lookup i = some (.loc n)) (hb:HasV T b L st (.d (.list ys))) (hz:A.length + ys.length ≤ bigLen) (h:∀ st' q,Mem st' q m (A ++ ys) B j → wpSs T r ((i,.loc q) :: L) st' k):wpSs T (.cons (.assign i (.bin (.addL true) (.v i) b)) r) L st k :=
 opt_i ha (hb _ (dl_i M.a (ifc_t (decide_eq_true hz) (nd_i (h _ _ M.newA)))))
theorem addB_i (M:Mem st n m A B j) (ha:L.lookup i = some (.loc m)) (hb:HasV T b L st (.d (.list ys))) (hz:B.length + ys.length ≤ bigLen) (h:∀ st' q,Mem st' n q A (B ++ ys) j → wpSs T r ((i,.loc q) :: L) st' k):wpSs T (.cons (.assign i (.bin (.addL true) (.v i) b)) r) L st k :=
 opt_i ha (hb _ (dl_i M.b (ifc_t (decide_eq_true hz) (nd_i (h _ _ M.newB)))))
theorem appA_i (M:Mem st n m A B j) (ha:L.lookup i = some (.loc n)) (hx:HasV T x L st (.d d)) (hz:A.length < bigLen) (h:∀ st',Mem st' n m (A ++ [d]) B j → wpSs T r L st' k):wpSs T (.cons (.expr (.app (.v i) x)) r) L st k :=
 opt_i ha (dl_i M.a (hx _ (dl_i M.a (ifc_t (decide_eq_true hz) (nd_i (h _ M.putA))))))
theorem appB_i (M:Mem st n m A B j) (ha:L.lookup i = some (.loc m)) (hx:HasV T x L st (.d d)) (hz:B.length < bigLen) (h:∀ st',Mem st' n m A (B ++ [d]) j → wpSs T r L st' k):wpSs T (.cons (.expr (.app (.v i) x)) r) L st k :=
 opt_i ha (dl_i M.b (hx _ (dl_i M.b (ifc_t (decide_eq_true hz) (nd_i (h _ M.putB))))))
theorem asgT_i {is:List Nat} (h:HasV T e L st (.d (.tuple xs))) (hl:(is.length == (xs.map AV.d).length) = true) (hK:wpSs T r ((is.zip (xs.map .d)).reverse ++ L) st k):wpSs T (.cons (.assignT is e) r) L st k:=h _ (ifc_t hl hK)
theorem asgP_i {i j:Nat} {a b:ME} {v w:AV} (h:HasV T a L st v) (h2:HasV T b L st w) (hK:wpSs T r ((i,v) :: (j,w) :: L) st k):wpSs T (.cons (.assignP i j a b) r) L st k:=h _ (h2 _ hK)
theorem pyIdx_last {α:Type} {xs:List α} {d:α}:pyIdx (xs ++ [d]) (-1) = some d:=by
 unfold pyIdx
 have h1:(-1:Int) + ((xs ++ [d]).length:Nat) = (xs.length:Int):=by rw [List.length_append];show (-1:Int) + ((xs.length + 1:Nat):Int) = _;omega
 rw [StrLaws.seqIndex_neg (by decide) (by rw [List.length_append];show -((xs.length + 1:Nat):Int) ≤ -1;omega),h1]
 exact List.getElem?_concat_length ..
theorem hv_lastA (M:Mem st n m (A ++ [d]) B j) (ha:L.lookup i = some (.loc n)):HasV T (.idx .seq (.v i) (.lit (.int (-1)))) L st (.d d):=fun K hK => opt_i ha (dl_i M.a (opt_i pyIdx_last hK))
theorem hv_comp {e:ME} {x:Nat} {src:ME} {xs:List AV} {same:St → Prop} (g:AV → PyData) (hs:same st) (hsrc:∀ K:List AV → (St → Prop) → St → Prop,K xs same st → wpI T (.of src) L st K) (hf:∀ y ∈ xs,HasV T e ((x,y) :: L) st (.d (g y))):HasV T (.comp e x (.of src)) L st (.d (.list (xs.map g))):=fun K hK =>
 hsrc _ (compW_pure g hs (fun y hy k hk => hf y hy _ hk) hK)
theorem src_list {i:Nat} (h:L.lookup i = some (.d (.list xs))) (hz:xs.length ≤ bigLen) (K:List AV → (St → Prop) → St → Prop) (hK:K (xs.map .d) (fun _ => True) st):wpI T (.of (.v i)) L st K:=opt_i h (ifc_t (decide_eq_true (by rw [List.length_map];exact hz)) hK)
theorem c_told {raw:Str} (h:L.lookup 169 = some (.d (.str raw))) (hz:raw.cps.toList.length ≤ bigLen) :
  HasV T (.comp (.tup (.cons (.lit (.str "char")) (.cons (.v 181) .nil))) 181 (.of (.v 169))) L st (.d (.list (raw.cps.toList.map fun c => tChar (s1g c)))):=by
 have:=hv_comp (T:=T) (L:=L) (st:=st) (e:=.tup (.cons (.lit (.str "char")) (.cons (.v 181) .nil))) (x:=181) (src:=.v 169) (xs:=raw.cps.toList.map fun c => .d (.str (s1g c))) (same:=fun _ => True) (onD .none (oStr .none fun y => tChar y)) trivial (fun K hK => opt_i h (ifc_t (decide_eq_true (by rw [List.length_map];exact hz)) hK)) (fun y hy => (List.mem_map.mp hy).elim fun c q => q.2 ▸ fun K hK => hK)
 rw [List.map_map] at this;exact this
theorem c_note {ds:List PyData} {m:Str} (h:L.lookup 208 = some (.d (.list ds))) (h2:L.lookup 137 = some (.d (.str m))) (hz:ds.length ≤ bigLen) :
  HasV T (.comp (.tup (.cons (.v 137) (.cons (.v 206) .nil))) 206 (.of (.v 208))) L st (.d (.list (ds.map fun t => .tuple [.str m,t]))):=by
 have:=hv_comp (T:=T) (L:=L) (st:=st) (e:=.tup (.cons (.v 137) (.cons (.v 206) .nil))) (x:=206) (src:=.v 208) (xs:=ds.map .d) (same:=fun _ => True) (onD .none fun t => .tuple [.str m,t]) trivial (fun K hK => src_list h hz K hK) (fun y hy => (List.mem_map.mp hy).elim fun c q => q.2 ▸ fun K hK => opt_i h2 hK)
 rw [List.map_map] at this;exact this
theorem c_note2 {ds:List PyData} {tb:Bool} (h:L.lookup 208 = some (.d (.list ds))) (h2:L.lookup 120 = some (.d (.bool tb))) (hz:ds.length ≤ bigLen) :
  HasV T (.comp (.tup (.cons (.ite (.v 120) (.lit (.str "in body")) (.lit (.str "foreign content"))) (.cons (.v 206) .nil))) 206 (.of (.v 208))) L st (.d (.list (ds.map fun t => .tuple [.str (bif tb then "in body" else "foreign content"),t]))):=by
 have:=hv_comp (T:=T) (L:=L) (st:=st) (e:=.tup (.cons (.ite (.v 120) (.lit (.str "in body")) (.lit (.str "foreign content"))) (.cons (.v 206) .nil))) (x:=206) (src:=.v 208) (xs:=ds.map .d) (same:=fun _ => True) (onD .none fun t => .tuple [.str (bif tb then "in body" else "foreign content"),t]) trivial (fun K hK => src_list h hz K hK) (fun y hy => (List.mem_map.mp hy).elim fun c q => q.2 ▸ fun K hK => opt_i h2 (by cases tb <;> exact hK))
 rw [List.map_map] at this;exact this
theorem c_errs {ds:List PyData} {q:Int} (h:L.lookup 54 = some (.d (.list ds))) (h2:L.lookup 41 = some (.d (.int q))) (hz:ds.length ≤ bigLen) :
  HasV T (.comp (.tup (.cons (.v 53) (.cons (.bin .sub (.v 41) (.lit (.int 1))) .nil))) 53 (.of (.v 54))) L st (.d (.list (ds.map fun t => .tuple [t,.int (q - 1)]))):=by
 have:=hv_comp (T:=T) (L:=L) (st:=st) (e:=.tup (.cons (.v 53) (.cons (.bin .sub (.v 41) (.lit (.int 1))) .nil))) (x:=53) (src:=.v 54) (xs:=ds.map .d) (same:=fun _ => True) (onD .none fun t => .tuple [t,.int (q - 1)]) trivial (fun K hK => src_list h hz K hK) (fun y hy => (List.mem_map.mp hy).elim fun c q => q.2 ▸ fun K hK => opt_i h2 hK)
 rw [List.map_map] at this;exact this
end
section
theorem eqv_pair (p q:Str × Str):PyData.eqv (pairD p) (pairD q) = (q == p):=by
 obtain ⟨p1,p2⟩:=p
 obtain ⟨q1,q2⟩:=q
 unfold pairD
 simp only [PyData.eqv,PyData.eqvAll,Bool.and_true]
 show _ = (q1 == p1 && q2 == p2)
 rw [show (p1 == q1) = (q1 == p1) from BEq.comm,show (p2 == q2) = (q2 == p2) from BEq.comm]
theorem okP_lay {h:Str × Str} (ok:okP h = true):PyData.canLay0 (pairD h) = true ∧ (pairD h).depth ≤ 64:=by
 have F:=okF_of (x:=h.1) (y:=h.2) ok
 have s1:PyData.canLay0 (.str h.1) = true:=by
  unfold okP at ok
  rw [Bool.and_eq_true] at ok
  have h1:=ok.1
  unfold allS at h1
  simp only [List.contains_cons,List.contains_nil,Bool.or_false,Bool.or_eq_true,beq_iff_eq] at h1
  rcases h1 with e | e | e <;> (rw [e];decide +kernel)
 refine ⟨?_,?_⟩
 ·unfold pairD
  simp only [PyData.canLay0,PyData.canLayAll0,Bool.and_true,Bool.and_eq_true]
  have h2:=F.lay
  simp only [PyData.canLay0] at s1 h2
  exact ⟨s1,h2⟩
 ·unfold pairD
  simp [PyData.depth,PyData.depthAll]
end
section
variable {st:St} {h:Str × Str} {kd:Str} {tb:Bool}
theorem q_turn (ok:okP h = true) (hk:PyData.canLay0 (.str kd) = true) (e:turnC h kd = tb):Does f__law_is_turn [.d (pairD h),.d (.str kd)] st (.d (.bool tb)) st:=by
 obtain ⟨o1,o2⟩:=okP_lay ok
 have pts:([pairD ("math","mi"),pairD ("svg","desc"),pairD ("svg","foreignObject"),pairD ("svg","title")].any fun y => PyData.eqv y (pairD h)) = points.contains h:=by
  simp only [List.any_cons,List.any_nil,eqv_pair,points,List.contains_cons,List.contains_nil]
 have kds:([PyData.str "char",.str "start"].any fun y => PyData.eqv y (.str kd)) = (kd == "char" || kd == "start"):=by
  simp only [List.any_cons,List.any_nil,PyData.eqv,Bool.or_false]
  rw [show (("char":Str) == kd) = (kd == "char") from BEq.comm,show (("start":Str) == kd) = (kd == "start") from BEq.comm]
 unfold turnC at e
 rw [← pts,← kds] at e
 subst e
 cases h1:(h.1 == "html") with
 | true => rw [Bool.true_or];unfold pairD at *;walk_at "zfn"
 | false =>
  rw [Bool.false_or]
  cases h2:([pairD ("math","mi"),pairD ("svg","desc"),pairD ("svg","foreignObject"),pairD ("svg","title")].any fun y => PyData.eqv y (pairD h)) with
  | false => rw [Bool.false_and];unfold pairD at *;walk_at "zfn"
  | true =>
   rw [Bool.true_and]
   cases h3:([PyData.str "char",.str "start"].any fun y => PyData.eqv y (.str kd)) <;> (unfold pairD at *;walk_at "zfn")
end
end
section
open PySem.Builtin PySem.Builtin.Str
set_option maxRecDepth 100000
set_option maxHeartbeats 2000000
theorem zw_WL23_1:True:=by
 k_with "hv" => (intro K hK;(repeat walk_at "zs");exact hK)
 k_with "c" => (with_reducible refine and_dec ?_;with_reducible assumption)
 trivial
structure DL (sp:Str × Str) (l:List Nat) (e:Bool) (j:Nat) (c:C) (ix:Nat) (tl:Str) (w:Bool) (L:Locs) (st:St):Prop where
 mem:∃ n m,L.lookup 150 = some (.loc n) ∧ L.lookup 146 = some (.loc m) ∧ Mem st n m c.out c.notes j
 held:L.lookup 92 = some (.d (.list (c.held.map pairD)))
 errs:L.lookup 79 = some (.d (.list c.errs))
 hat:L.lookup 41 = some (.d (.int (ix:Int)))
 last:L.lookup 128 = some (.d (.str c.last))
 back:L.lookup 44 = some (.d (.str c.back))
 mode:L.lookup 137 = some (.d (.str c.mode))
 state:L.lookup 193 = some (.d (.str c.state))
 tail:L.lookup 200 = some (.d (.str tl))
 wait:L.lookup 122 = some (.d (.bool w))
 spot:L.lookup 189 = some (.d (pairD sp))
 text:L.lookup 202 = some (.d (.str (stx l)))
 ended:L.lookup 105 = some (.d (.bool e))
structure Sz (l:List Nat) (c:C):Prop where
 l:l.length ≤ 1000
 o:c.out.length ≤ 1000
 n:c.notes.length ≤ 1000
 e:c.errs.length ≤ 1000
 h:c.held.length ≤ 1000
theorem big1 {a:Nat} (h:a ≤ 1000):a ≤ bigLen:=Nat.le_trans h (by decide)
theorem big2 {a b:Nat} (h:a ≤ 1000) (g:b ≤ 1000):a + b ≤ bigLen:=Nat.le_trans (Nat.add_le_add h g) (by decide)
section
variable {st st1:St} {sp:Str × Str} {l u X:List Nat} {e w:Bool} {c c':C} {p j:Nat} {tl:Str} {L L1:Locs} {K:SK}
theorem held_last {H:List (Str × Str)} (h:1 < H.length):pyIdx (H.map pairD) (-1) = some (pairD (H.getLast?.getD sp)):=by
 rcases List.eq_nil_or_concat H with e | ⟨a,q,e⟩
 ·rw [e] at h;exact absurd h (Nat.not_lt_zero _)
 ·rw [e,List.concat_eq_append,List.map_append,List.getLast?_concat];exact pyIdx_last
theorem here_ev (D:DL sp l e j c p tl w L st) (zh:c.held.length ≤ 1000):HasV dT hereE L st (.d (pairD (c.here sp))):=by
 have hh:=D.held
 have hs:=D.spot
 have hl:(c.held.map pairD).length ≤ bigLen:=by rw [List.length_map];exact big1 zh
 unfold C.here
 by_cases h:1 < c.held.length
 ·have h2:decide ((1:Int) < ((c.held.map pairD).length:Int)) = true:=by rw [List.length_map];exact decide_eq_true (Int.ofNat_lt.mpr h)
  have hp:=held_last (sp:=sp) h
  rw [if_pos h]
  walk_at "hv"
 ·have h2:decide ((1:Int) < ((c.held.map pairD).length:Int)) = false:=by rw [List.length_map];exact decide_eq_false fun q => h (Int.ofNat_lt.mp q)
  rw [if_neg h]
  walk_at "hv"
theorem rest_ev (z:l.length ≤ 1000) (hu:l.drop p = u) (hp:p ≤ l.length) (h1:L1.lookup 202 = some (.d (.str (stx l)))) (h2:L1.lookup 41 = some (.d (.int (p:Int)))):HasV dT (.slL (.v 202) (.v 41)) L1 st1 (.d (.str (stx u))):=by
 have hz:(stx l).length ≤ bigLen:=by rw [stx_len];exact big1 z
 rw [← hu,← sl_from l hp]
 walk_at "hv"
noncomputable abbrev pre2 (sp:Str × Str) (u:List Nat) (c:C) (L:Locs):Locs:=(172,.d (.str (stx u))) :: (93,.d (pairD (c.here sp))) :: L
theorem due_pre (D:DL sp l e j c p tl w L st) (z:Sz l c) (hu:l.drop p = u) (hp:p ≤ l.length) (h:wpSs dT (.cons (.ifs (.cmp .neS (.v 193) (.lit (.str "data"))) secB .nil) dataB) (pre2 sp u c L) st K):wpSs dT dueB L st K :=
 asg_i (here_ev D z.h) (asg_i (rest_ev z.l hu hp D.text D.hat) h)
noncomputable def secE (c:C) (X:List Nat):C:={ c with out:=c.out ++ X.map (fun x => tChar (s1g x)),notes:=c.notes ++ X.map (fun x => .tuple [.str c.mode,tChar (s1g x)]) }
noncomputable def secD (c:C) (X:List Nat) (fl:Bool):C:={ c with out:=c.out ++ X.map (fun x => tChar (s1g x)),notes:=c.notes ++ X.map (fun x => .tuple [.str c.mode,tChar (s1g x)]),back:=bif fl then "RCDATA" else c.back }
theorem sec_mid {k:Nat} {cut:Bool} {R:MSs} (D:DL sp l e j c p tl w L st) (z:Sz l c) (h169:L.lookup 169 = some (.d (.str (stx X)))) (h135:L.lookup 135 = some (.d (.int (k:Int)))) (h103:L.lookup 103 = some (.d (.bool cut))) (hX:X.length ≤ 1000)
  (h:∀ L' st',DL sp l e j (secE c X) (p + k) (bif cut then "character reference" else "") w L' st' → (∀ i v,((i == 200) = false ∧ (i == 41) = false ∧ (i == 146) = false ∧ (i == 150) = false ∧ (i == 208) = false) → L.lookup i = v → L'.lookup i = v) → wpSs dT R L' st' K) :
  wpSs dT (.cons (.assign 208 (.comp (.tup (.cons (.lit (.str "char")) (.cons (.v 181) .nil))) 181 (.of (.v 169)))) (.cons (.assign 150 (.bin (.addL true) (.v 150) (.v 208))) (.cons (.assign 146 (.bin (.addL true) (.v 146) (.comp (.tup (.cons (.v 137) (.cons (.v 206) .nil))) 206 (.of (.v 208))))) (.cons (.assign 41 (.bin .addI (.v 41) (.v 135))) (.cons (.assign 200 (.ite (.v 103) (.lit (.str "character reference")) (.lit (.str "")))) R))))) L st K:=by
 obtain ⟨n,m,l1,l2,M⟩:=D.mem
 refine asg_i (c_told h169 (big1 hX)) ?_
 refine addA_i M l1 (ys:=X.map fun c => tChar (s1g c)) (fun K hK => hK) (by rw [List.length_map];exact big2 z.o hX) fun st1 q M1 => ?_
 refine addB_i M1 l2 (c_note rfl D.mode (by rw [List.length_map];exact big1 hX)) (by rw [List.length_map,List.length_map];exact big2 z.n hX) fun st2 q2 M2 => ?_
 refine asg_i (v:=.d (.int ((p:Int) + (k:Int)))) (fun K hK => opt_i D.hat (opt_i h135 hK)) ?_
 refine asg_i (v:=.d (.str (bif cut then "character reference" else ""))) (fun K hK => opt_i h103 (by cases cut <;> exact hK)) ?_
 rw [List.map_map] at M2
 refine h _ _ ⟨⟨q,q2,rfl,rfl,M2⟩,D.held,D.errs,rfl,D.last,D.back,D.mode,D.state,rfl,D.wait,D.spot,D.text,D.ended⟩ fun i v hi e => ?_
 rw [List.lookup_cons,hi.1,List.lookup_cons,hi.2.1,List.lookup_cons,hi.2.2.1,List.lookup_cons,hi.2.2.2.1,List.lookup_cons,hi.2.2.2.2];exact e
end
end
section
open PySem.Builtin PySem.Builtin.Str
set_option maxRecDepth 100000
set_option maxHeartbeats 2000000
section
variable {st st1:St} {sp:Str × Str} {l u X:List Nat} {e w fl cut closed:Bool} {c c':C} {p j k:Nat} {tl:Str} {L L1:Locs} {K:SK}
noncomputable abbrev closeB:MSs:=(.cons (.expr (.app (.v 150) (.tup (.cons (.lit (.str "end")) (.cons (.v 128) (.cons (.tup .nil) (.cons (.lit (.bool false)) .nil))))))) (.cons (.expr (.app (.v 146) (.tup (.cons (.lit (.str "text")) (.cons (.idx .seq (.v 150) (.lit (.int (-1)))) .nil))))) (.cons (.assignT [92,137,193,41] (.tup (.cons (.init (.v 92)) (.cons (.lit (.str "in body")) (.cons (.lit (.str "data")) (.cons (.bin .addI (.v 41) (.lit (.int 1))) .nil)))))) .nil)))
noncomputable abbrev secZ:MSs:=(.cons (.ifs (.v 101) closeB .nil) (.cons .cont .nil))
theorem nil_i {T:Tab} {r:MSs} {k:SK} (h:wpSs T r L st k):wpSs T .nil L st (seqK (wpSs T r) k):=h
noncomputable abbrev secL (X:List Nat) (k:Nat) (closed cut:Bool) (L:Locs):Locs:=(103,.d (.bool cut)) :: (101,.d (.bool closed)) :: (135,.d (.int (k:Int))) :: (169,.d (.str (stx X))) :: L
theorem sec_in (D:DL sp l e j c p tl w L st) (z:Sz l c) (hu:l.drop p = u) (hp:p ≤ l.length) (hst:(c.state != "data") = true)
  (hsec:∀ st,Does f__law_section [.d (.str (stx u)),.d (.str c.state),.d (.str c.last),.d (.bool e)] st (.d (.tuple [.str (stx X),.int (k:Int),.bool closed,.bool cut])) st) (hX:X.length ≤ 1000)
  (hfl:(c.state == "RCDATA" && Txt.contains (Txt.slice (stx u) none (some (k:Int))) "&") = fl)
  (h:∀ L' st',DL sp l e j (secD c X fl) (p + k) (bif cut then "character reference" else "") w L' st' → L'.lookup 101 = some (.d (.bool closed)) → wpSs dT secZ L' st' (seqK (wpSs dT dataB) K)):wpSs dT dueB L st K:=by
 have zu:(stx u).length ≤ bigLen:=by rw [stx_len,← hu,List.length_drop];exact big1 (Nat.le_trans (Nat.sub_le ..) z.l)
 refine due_pre D z hu hp ?_
 refine ifs_i (q:=true) (fun K hK => opt_i D.state (show K (.d (.bool (c.state != "data"))) st by rw [hst];exact hK)) (fun _ => ?_) fun e => nomatch e
 refine asgT_i (xs:=[.str (stx X),.int (k:Int),.bool closed,.bool cut]) (fun K hK => opt_i D.state (opt_i D.last (opt_i D.ended (hsec st K hK)))) rfl ?_
 refine ifs_i (q:=fl) (hfl ▸ hb_and (fun K hK => opt_i D.state hK) (fun K hK => ifc_t (decide_eq_true zu) hK)) (fun q => ?_) fun q => ?_
 ·subst q
  refine asg_i hv_lit ?_
  refine nil_i ?_
  have D2:DL sp l e j { c with back:="RCDATA" } p tl w ((44,.d (.str "RCDATA")) :: secL X k closed cut (pre2 sp u c L)) st:=⟨D.mem,D.held,D.errs,D.hat,D.last,rfl,D.mode,D.state,D.tail,D.wait,D.spot,D.text,D.ended⟩
  exact sec_mid D2 ⟨z.l,z.o,z.n,z.e,z.h⟩ rfl rfl rfl hX fun L' st' D' pr => h L' st' D' (pr 101 _ ⟨rfl,rfl,rfl,rfl,rfl⟩ rfl)
 ·subst q
  refine nil_i ?_
  have D2:DL sp l e j c p tl w (secL X k closed cut (pre2 sp u c L)) st:=⟨D.mem,D.held,D.errs,D.hat,D.last,D.back,D.mode,D.state,D.tail,D.wait,D.spot,D.text,D.ended⟩
  exact sec_mid D2 z rfl rfl rfl hX fun L' st' D' pr => h L' st' D' (pr 101 _ ⟨rfl,rfl,rfl,rfl,rfl⟩ rfl)
theorem it_open (D:DL sp l e j c p tl w L st) (z:Sz l c) (hu:l.drop p = u) (hp:p ≤ l.length) (hst:(c.state != "data") = true)
  (hsec:∀ st,Does f__law_section [.d (.str (stx u)),.d (.str c.state),.d (.str c.last),.d (.bool e)] st (.d (.tuple [.str (stx X),.int (k:Int),.bool false,.bool cut])) st) (hX:X.length ≤ 1000)
  (hfl:(c.state == "RCDATA" && Txt.contains (Txt.slice (stx u) none (some (k:Int))) "&") = fl)
  (hK:∀ L' st',DL sp l e j (secD c X fl) (p + k) (bif cut then "character reference" else "") w L' st' → K.c L' st'):wpSs dT dueB L st K :=
 sec_in D z hu hp hst hsec hX hfl fun L' st' D' h => ifs_i (q:=false) (fun K hK => opt_i h hK) (fun e => nomatch e) fun _ => hK L' st' D'
theorem it_closed (D:DL sp l e j c p tl w L st) (z:Sz l c) (hu:l.drop p = u) (hp:p ≤ l.length) (hst:(c.state != "data") = true)
  (hsec:∀ st,Does f__law_section [.d (.str (stx u)),.d (.str c.state),.d (.str c.last),.d (.bool e)] st (.d (.tuple [.str (stx X),.int (k:Int),.bool true,.bool false])) st) (hX:X.length ≤ 1000)
  (hfl:(c.state == "RCDATA" && Txt.contains (Txt.slice (stx u) none (some (k:Int))) "&") = fl)
  (hK:∀ L' st',DL sp l e j (secD c X fl).close (p + k + 1) "" w L' st' → K.c L' st'):wpSs dT dueB L st K:=by
 refine sec_in D z hu hp hst hsec hX hfl fun L' st' D' h => ifs_i (q:=true) (fun K hK => opt_i h hK) (fun _ => ?_) fun e => nomatch e
 obtain ⟨n,m,l1,l2,M⟩:=D'.mem
 have zo:(secD c X fl).out.length < bigLen:=by show (c.out ++ _).length < bigLen;rw [List.length_append,List.length_map];exact Nat.lt_of_le_of_lt (Nat.add_le_add z.o hX) (by decide)
 have zn:(secD c X fl).notes.length < bigLen:=by show (c.notes ++ _).length < bigLen;rw [List.length_append,List.length_map];exact Nat.lt_of_le_of_lt (Nat.add_le_add z.n hX) (by decide)
 have zh:(c.held.map pairD).length ≤ bigLen:=by rw [List.length_map];exact big1 z.h
 refine appA_i M l1 (d:=tEnd c.last) (fun K hK => opt_i D'.last hK) zo fun st1 M1 => ?_
 refine appB_i M1 l2 (d:=.tuple [.str "text",tEnd c.last]) (fun K hK => hv_lastA M1 l1 _ hK) zn fun st2 M2 => ?_
 refine asgT_i (xs:=[.list (c.held.map pairD).dropLast,.str "in body",.str "data",.int (((p + k:Nat):Int) + 1)]) (fun K hK => opt_i D'.held (ifc_t (decide_eq_true zh) (opt_i D'.hat hK))) rfl ?_
 exact hK _ _ ⟨⟨n,m,l1,l2,M2⟩,congrArg (fun v => some (AV.d (.list v))) List.map_dropLast.symm,D'.errs,rfl,D'.last,D'.back,rfl,rfl,D'.tail,D'.wait,D'.spot,D'.text,D'.ended⟩
end
end
section
open PySem.Builtin PySem.Builtin.Str
set_option maxRecDepth 100000
set_option maxHeartbeats 2000000
theorem zw_WL25_1:True:=by
 k_with "hv" => (intro K hK;(repeat walk_at "zs");exact hK)
 k_with "c" => (with_reducible refine and_dec ?_;with_reducible assumption)
 k_with "zsum" => first | (with_reducible assumption) | assumption | (exact q_raws)
 trivial
section
variable {st st1:St} {sp:Str × Str} {l u:List Nat} {e w tb:Bool} {c c':C} {p k j:Nat} {tl:Str} {L L1:Locs} {K:SK} {toks more codes:List PyData} {sort name:Str} {rst:List PyData}
noncomputable def toldC (c:C) (toks codes:List PyData) (k p:Nat) (tb:Bool):C:={ c with out:=c.out ++ toks,errs:=c.errs ++ codes.map (fun t => .tuple [t,.int ((p:Int) + (k:Int) - 1)]),notes:=c.notes ++ toks.map (fun t => .tuple [.str (bif tb then "in body" else "foreign content"),t]) }
noncomputable abbrev lastS:MSs:=(.cons (.ifs (.cmp .eqS (.v 184) (.lit (.str "start"))) startB elseB) .nil)
theorem pyIdx_0 {α:Type} {x:α} {xs:List α}:pyIdx (x :: xs) 0 = some x:=pyIdx_pos (n:=0) rfl
theorem full_in (D:DL sp l e j c p tl w L st) (z:Sz l c) (hu:u.length ≤ 1000) (h172:L.lookup 172 = some (.d (.str (stx u)))) (h93:L.lookup 93 = some (.d (pairD (c.here sp))))
  (htold:∀ st,Does f__law_told [.d (.str (Txt.slice (stx u) none (some 3))),.d (.bool ((c.here sp).1 != "html"))] st (toldR (.tuple (.str sort :: .str name :: rst) :: more) codes (k:Int)) st) (zm:more.length ≤ 10) (zc:codes.length ≤ 10) (ok:okP (c.here sp) = true) (hlay:PyData.canLay0 (.str sort) = true) (hturn:turnC (c.here sp) sort = tb)
  (h:∀ L' st',DL sp l e j (toldC c (.tuple (.str sort :: .str name :: rst) :: more) codes k p tb) (p + k) tl w L' st' → L'.lookup 184 = some (.d (.str sort)) → L'.lookup 141 = some (.d (.str name)) → L'.lookup 120 = some (.d (.bool tb)) → L'.lookup 93 = some (.d (pairD (c.here sp))) → wpSs dT lastS L' st' K):wpSs dT fullB L st K:=by
 obtain ⟨n,m,l1,l2,M⟩:=D.mem
 have zu:(stx u).length ≤ bigLen:=by rw [stx_len];exact big1 hu
 have zt:(PyData.tuple (.str sort :: .str name :: rst) :: more).length ≤ 1000:=Nat.le_trans (Nat.succ_le_succ zm) (by decide)
 have zc':codes.length ≤ 1000:=Nat.le_trans zc (by decide)
 have hat:=D.hat
 have herr:=D.errs
 have ht:=htold st
 refine asgT_i (xs:=[.list (.tuple (.str sort :: .str name :: rst) :: more),.list codes,.int (k:Int)]) ?_ rfl ?_
 ·unfold pairD at h93
  walk_at "hv"
 refine asg_i (v:=.d (.int ((p:Int) + (k:Int)))) (by walk_at "hv") ?_
 refine asg_i (v:=AV.d (PyData.list (c.errs ++ codes.map fun t => PyData.tuple [t,PyData.int ((p:Int) + (k:Int) - 1)]))) (fun K hK => opt_i herr (c_errs (ds:=codes) (q:=(p:Int) + (k:Int)) rfl rfl (big1 zc') _ (ifc_t (decide_eq_true (by rw [List.length_map];exact big2 z.e zc')) hK))) ?_
 refine addA_i M l1 (ys:=.tuple (.str sort :: .str name :: rst) :: more) (fun K hK => hK) (big2 z.o zt) fun st1 q M1 => ?_
 refine asgP_i (v:=.d (.str sort)) (w:=.d (.str name)) (fun K hK => opt_i pyIdx_0 (opt_i tup0 hK)) (fun K hK => opt_i pyIdx_0 (opt_i tup1 hK)) ?_
 refine asg_i (v:=.d (.bool tb)) (fun K hK => opt_i h93 (q_turn ok hlay hturn K hK)) ?_
 refine addB_i M1 l2 (c_note2 rfl rfl (big1 zt)) (by rw [List.length_map];exact big2 z.n zt) fun st2 q2 M2 => ?_
 exact h _ _ ⟨⟨q,q2,rfl,rfl,M2⟩,D.held,rfl,rfl,D.last,D.back,D.mode,D.state,D.tail,D.wait,D.spot,D.text,D.ended⟩ rfl rfl rfl h93
section
variable (D:DL sp l e j c p tl w L st) (h184:L.lookup 184 = some (.d (.str sort))) (h141:L.lookup 141 = some (.d (.str name))) (hK:∀ L' st',DL sp l e j c' p tl w L' st' → K.n L' st')
include D h184 h141 hK
theorem end_plain (h1:(sort == "start") = false) (h2:(sort == "end") = false) (hc:c' = c):wpSs dT lastS L st K:=by
 subst hc
 refine ifs_i (q:=false) (fun K hK => opt_i h184 (show K (.d (.bool (sort == "start"))) st by rw [h1];exact hK)) (fun e => nomatch e) fun _ => ?_
 refine ifs_i (q:=false) (fun K hK => opt_i h184 (ifc_f h2 hK)) (fun e => nomatch e) fun _ => ?_
 exact hK _ _ D
theorem end_end {n:Str} (h1:sort = "end") (hn:name = n) (z:c.held.length ≤ 1000) (hc:c' = c.leave n):wpSs dT lastS L st K:=by
 subst h1 hn hc
 have hl:(c.held.map pairD).length ≤ bigLen:=by rw [List.length_map];exact big1 z
 have hh:=D.held
 have h2:decide ((1:Int) < ((c.held.map pairD).length:Int)) = decide (1 < c.held.length):=by rw [List.length_map,decide_eq_decide];exact Int.ofNat_lt
 refine ifs_i (q:=false) (fun K hK => opt_i h184 hK) (fun e => nomatch e) fun _ => ?_
 refine ifs_i (q:=decide (1 < c.held.length) && ((c.held.getLast?.getD ("","")).2 == name)) ?_ (fun q => ?_) fun q => ?_
 ·intro K hK
  refine opt_i h184 (opt_i hh (ifc_t (decide_eq_true hl) ?_))
  cases h3:decide (1 < c.held.length) with
  | false => rw [h3] at hK h2;exact ifc_f h2 hK
  | true =>
   rw [h3] at hK h2
   have hp:=held_last (sp:=("","")) (of_decide_eq_true h3)
   refine ifc_t h2 (opt_i hh (opt_i hp (opt_i h141 ?_)))
   show ifc ((c.held.getLast?.getD ("","")).2 == name) _ _
   rw [Bool.true_and] at hK
   cases h4:(c.held.getLast?.getD ("","")).2 == name with
   | true => rw [h4] at hK;exact hK
   | false => rw [h4] at hK;exact hK
 ·refine asg_i (v:=.d (.list (c.held.map pairD).dropLast)) (fun K hK => opt_i hh (ifc_t (decide_eq_true hl) hK)) ?_
  have e:c.leave name = { c with held:=c.held.dropLast }:=by unfold C.leave;rw [q];rfl
  rw [e] at hK
  exact hK _ _ ⟨D.mem,congrArg (fun v => some (AV.d (.list v))) List.map_dropLast.symm,D.errs,D.hat,D.last,D.back,D.mode,D.state,D.tail,D.wait,D.spot,D.text,D.ended⟩
 ·have e:c.leave name = c:=by unfold C.leave;rw [q];rfl
  rw [e] at hK
  exact hK _ _ D
end
theorem raw_facts {n:Str} (hn:n ∈ startN):(rawsD.lookup n).getD (.d (.str "data")) = .d (.str (rawOf n)) ∧ memOK (.str (rawOf n)) [.str "data",.str "PLAINTEXT"] = true ∧ (bif memD (.str (rawOf n)) [.str "data",.str "PLAINTEXT"] then Str.ofString "in body" else Str.ofString "text") = modeOf (rawOf n):=by
 unfold startN at hn
 simp only [List.mem_cons,List.not_mem_nil,or_false] at hn
 rcases hn with rfl | rfl | rfl | rfl | rfl | rfl | rfl | rfl <;> exact ⟨by rfl,by decide +kernel,by decide +kernel⟩
section
variable {hr:Str × Str} (D:DL sp l e j c p tl w L st) (z:c.held.length ≤ 1000) (h184:L.lookup 184 = some (.d (.str sort))) (h1:sort = "start") (h141:L.lookup 141 = some (.d (.str name))) (h93:L.lookup 93 = some (.d (pairD hr))) (h120:L.lookup 120 = some (.d (.bool tb)))
include D z h184 h1 h141 h93 h120
theorem held_add {x:Str} {L2:Locs} (h92:L2.lookup 92 = some (.d (.list (c.held.map pairD)))) (h186:L2.lookup 186 = some (.d (.str x))) (h141:L2.lookup 141 = some (.d (.str name))):HasV dT (.bin (.addL false) (.v 92) (.lst .fro (.cons (.tup (.cons (.v 186) (.cons (.v 141) .nil))) .nil))) L2 st (.d (.list ((c.held ++ [(x,name)]).map pairD))):=by
 intro K hK
 rw [List.map_append] at hK
 exact opt_i h92 (opt_i h186 (opt_i h141 (ifc_t (decide_eq_true (by rw [List.length_map];exact big2 z (show 1 ≤ 1000 by decide))) hK)))
theorem end_st0 (ht:tb = false) (hK:∀ L' st',DL sp l e j { c with held:=c.held ++ [(hr.1,name)],last:=name } p tl w L' st' → K.n L' st'):wpSs dT lastS L st K:=by
 subst h1 ht
 refine ifs_i (q:=true) (fun K hK => opt_i h184 hK) (fun _ => ?_) fun e => nomatch e
 refine asg_i (v:=.d (.str name)) (fun K hK => opt_i h141 hK) ?_
 refine asg_i (v:=.d (.str hr.1)) (fun K hK => opt_i h93 hK) ?_
 refine ifs_i (q:=false) (fun K hK => opt_i h120 hK) (fun e => nomatch e) fun _ => ?_
 refine asg_i (held_add D z h184 rfl h141 h93 h120 (x:=hr.1) D.held rfl h141) ?_
 exact hK _ _ ⟨D.mem,rfl,D.errs,D.hat,rfl,D.back,D.mode,D.state,D.tail,D.wait,D.spot,D.text,D.ended⟩
theorem end_st1 (hn:name ∈ startN) (ht:tb = true) (hK:∀ L' st',DL sp l e j { c with held:=c.held ++ [(spaceOf name,name)],last:=name,state:=rawOf name,mode:=modeOf (rawOf name) } p tl w L' st' → K.n L' st'):wpSs dT lastS L st K:=by
 subst h1 ht
 obtain ⟨r1,r2,r3⟩:=raw_facts hn
 refine ifs_i (q:=true) (fun K hK => opt_i h184 hK) (fun _ => ?_) fun e => nomatch e
 refine asg_i (v:=.d (.str name)) (fun K hK => opt_i h141 hK) ?_
 refine asg_i (v:=.d (.str hr.1)) (fun K hK => opt_i h93 hK) ?_
 refine ifs_i (q:=true) (fun K hK => opt_i h120 hK) (fun _ => ?_) fun e => nomatch e
 refine asg_i (v:=.d (.str (spaceOf name))) (fun K hK => opt_i h141 (by unfold spaceOf at hK;cases hq:(name == "svg") with | true => rw [hq] at hK;exact ifc_t hq hK | false => rw [hq] at hK;exact ifc_f hq hK)) ?_
 refine asg_i (v:=.d (.str (rawOf name))) (fun K hK => q_raws _ (opt_i h141 (show K ((rawsD.lookup name).getD (.d (.str "data"))) st by rw [r1];exact hK))) ?_
 refine asg_i (v:=.d (.str (modeOf (rawOf name)))) (fun K hK => lay_i r2 (by rw [← r3] at hK;cases hq:memD (.str (rawOf name)) [.str "data",.str "PLAINTEXT"] with | true => rw [hq] at hK;exact hK | false => rw [hq] at hK;exact hK)) ?_
 refine nil_i ?_
 refine asg_i (held_add D z h184 rfl h141 h93 h120 (x:=spaceOf name) D.held rfl h141) ?_
 exact hK _ _ ⟨D.mem,rfl,D.errs,D.hat,rfl,D.back,rfl,rfl,D.tail,D.wait,D.spot,D.text,D.ended⟩
end
end
end
section
open PySem.Builtin PySem.Builtin.Str
set_option maxRecDepth 100000
set_option maxHeartbeats 2000000
theorem k38:Str.ofString "&" = s1g 38:=by decide +kernel
theorem k42:Str.ofString "*" = s1g 42:=by decide +kernel
theorem k60:Str.ofString "<" = s1g 60:=by decide +kernel
theorem k33:Str.ofString "!" = s1g 33:=by decide +kernel
theorem k91:Str.ofString "[" = s1g 91:=by decide +kernel
theorem k47:Str.ofString "/" = s1g 47:=by decide +kernel
theorem k0:Str.ofString "\x00" = s1g 0:=by decide +kernel
theorem s1_eq {a b:Nat}:s1g a = s1g b ↔ a = b:=by
 constructor
 ·intro h;injection h with h;simpa using h
 ·rintro rfl;rfl
noncomputable abbrev sgn (l:List Nat):List Str:=l.map s1g
theorem lay_stx {u:List Nat} (h:∀ c ∈ u,c < 1114112):PyData.canLay0 (.str (stx u)) = true:=by
 simp only [PyData.canLay0]
 show u.toArray.all (fun c => decide (c < 1114112)) = true
 rw [Array.all_eq_true]
 intro i hi
 exact decide_eq_true (h _ (by simpa using List.getElem_mem _))
section
variable {st:St} {f:Bool} {a x:Nat} {t u:List Nat} {n:Str}
theorem tk3 (a:Nat) (t:List Nat):Txt.slice (stx (a :: t)) none (some 3) = stx (a :: t.take 2):=by
 show Txt.slice (stx (a :: t)) none (some ((3:Nat):Int)) = _
 rw [sl_to];rfl
theorem tk2 (a:Nat) (t:List Nat):Txt.slice (stx (a :: t)) none (some 2) = stx (a :: t.take 1):=by
 show Txt.slice (stx (a :: t)) none (some ((2:Nat):Int)) = _
 rw [sl_to];rfl
theorem small3 (a:Nat) (t:List Nat):(stx (a :: t.take 2)).length ≤ bigLen:=by
 rw [stx_len,List.length_cons,List.length_take];unfold bigLen;omega
theorem idx0 (a:Nat) (t:List Nat):-((stx (a :: t)).length:Int) ≤ 0 ∧ (0:Int) < (stx (a :: t)).length:=by rw [stx_len,List.length_cons];omega
theorem idx1 (a b:Nat) (t:List Nat):-((stx (a :: b :: t)).length:Int) ≤ 1 ∧ (1:Int) < (stx (a :: b :: t)).length:=by rw [stx_len,List.length_cons,List.length_cons];omega
theorem beqS {u v:List Nat} {s:Str} (hs:s = stx v):(stx u == s) = decide (u = v):=by rw [hs,stx_beq]
theorem kAmp2:Str.ofString "&*" = stx [38,42]:=by decide +kernel
theorem kCd:Str.ofString "<![" = stx [60,33,91]:=by decide +kernel
theorem kBang:Str.ofString "<!" = stx [60,33]:=by decide +kernel
def ToldF (u:List Nat) (f:Bool) (v:AV):Prop:=∀ st,Does f__law_told [.d (.str (Txt.slice (stx u) none (some 3))),.d (.bool f)] st v st
theorem tl_two:ToldF (38 :: 42 :: t) f (toldR [tChar "[",tChar "]"] [] 2):=by
 intro st;rw [tk3]
 refine to1 (small3 _ _) (idx0 _ _) ?_ ?_
 ·rw [tk2,beqS kAmp2];simp
 ·rw [item_0,k38,s1_beq];rfl
theorem tl_cdf (hf:f = true):ToldF (60 :: 33 :: 91 :: t) f (toldR [tChar "[",tChar "]"] [] 3):=by
 intro st;rw [tk3]
 refine to1f (small3 _ _) (idx0 _ _) ?_ ?_ hf ?_
 ·rw [tk2,beqS kAmp2];simp
 ·rw [beqS kCd];simp
 ·rw [item_0,k38,s1_beq];rfl
theorem tl_cd (hf:f = false):ToldF (60 :: 33 :: 91 :: t) f (toldR [tCom "[CDATA["] [.str "cdata-in-html-content"] 3):=by
 intro st;rw [tk3]
 refine to2 (small3 _ _) (idx0 _ _) ?_ ?_ hf
 ·rw [tk2,beqS kAmp2];simp
 ·rw [beqS kCd];simp
theorem tl_com (h:t.head? ≠ some 91):ToldF (60 :: 33 :: t) f (toldR [tCom ""] [] 2):=by
 intro st;rw [tk3]
 refine to3 (small3 _ _) (idx0 _ _) ?_ ?_ ?_
 ·rw [tk2,beqS kAmp2];simp
 ·rw [beqS kCd];cases t with
  | nil => simp
  | cons y t => simp at h ⊢;exact h
 ·rw [tk2,beqS kBang];simp
theorem tl_name (hx:x ≠ 33) (h:namesD.lookup (s1g x) = some (.d (.str n))):ToldF (60 :: x :: t) f (toldR [tStart n] [] 2):=by
 intro st;rw [tk3]
 have e:List.take 2 (x :: t) = x :: t.take 1:=rfl
 rw [e]
 refine to4 (by rw [← e];exact small3 _ _) (idx0 _ _) ?_ ?_ ?_ ?_ ?_ (idx1 _ _ _) (by rw [item_1];exact h)
 ·rw [tk2,beqS kAmp2];simp
 ·rw [beqS kCd];simp [hx]
 ·rw [tk2,beqS kBang];simp [hx]
 ·rw [item_0,k60,s1_beq];rfl
 ·rw [sl_12];show (namesD.lookup (s1g x)).isSome = true;rw [h];rfl
theorem tl_ends (hx:x ≠ 33) (h0:(namesD.lookup (s1g x)).isSome = false) (h:endsD.lookup (s1g x) = some (.d (.str n))):ToldF (60 :: x :: t) f (toldR [tEnd n] [] 2):=by
 intro st;rw [tk3]
 have e:List.take 2 (x :: t) = x :: t.take 1:=rfl
 rw [e]
 refine to5 (by rw [← e];exact small3 _ _) (idx0 _ _) ?_ ?_ ?_ ?_ ?_ ?_ (idx1 _ _ _) (by rw [item_1];exact h)
 ·rw [tk2,beqS kAmp2];simp
 ·rw [beqS kCd];simp [hx]
 ·rw [tk2,beqS kBang];simp [hx]
 ·rw [item_0,k60,s1_beq];rfl
 ·rw [sl_12];exact h0
 ·rw [sl_12];show (endsD.lookup (s1g x)).isSome = true;rw [h];rfl
theorem tl_lt0:ToldF [60] f (toldR [tChar (s1g 60)] [] 1):=by
 intro st
 have q:=to6 (st:=st) (f:=f) (x:=stx [60]) (by rw [stx_len];decide) (idx0 _ _) (by decide +kernel) (by decide +kernel) (by decide +kernel) (by decide +kernel) (by decide +kernel) (by decide +kernel) (by decide +kernel)
 rw [tk3];rw [item_0] at q;exact q
theorem tl_lt (hx:x ≠ 33) (h0:(namesD.lookup (s1g x)).isSome = false) (h:(endsD.lookup (s1g x)).isSome = false):ToldF (60 :: x :: t) f (toldR [tChar (s1g 60)] [] 1):=by
 intro st;rw [tk3]
 have e:List.take 2 (x :: t) = x :: t.take 1:=rfl
 rw [e]
 have q:=to6 (st:=st) (f:=f) (x:=stx (60 :: x :: t.take 1)) (by rw [← e];exact small3 _ _) (idx0 _ _) (by rw [tk2,beqS kAmp2];simp) (by rw [beqS kCd];simp [hx]) (by rw [tk2,beqS kBang];simp [hx]) (by rw [item_0,k60,s1_beq];rfl) (by rw [sl_12];exact h0) (by rw [sl_12];exact h) (by rw [item_0,k0,s1_beq];rfl)
 rw [item_0] at q;exact q
theorem tl_chr (h1:a = 38 → t.head? ≠ some 42) (h2:a ≠ 60) (h3:a ≠ 0):ToldF (a :: t) f (toldR [tChar (s1g a)] [] 1):=by
 intro st;rw [tk3]
 have q:=to7 (st:=st) (f:=f) (x:=stx (a :: t.take 2)) (small3 _ _) (idx0 _ _) (by
  rw [tk2,beqS kAmp2]
  cases t with
  | nil => simp
  | cons y t => simp at h1 ⊢;exact h1) (by rw [beqS kCd];simp [h2]) (by rw [tk2,beqS kBang];simp [h2]) (by rw [item_0,k60,s1_beq];simpa using h2) (by rw [item_0,k0,s1_beq];simpa using h3)
 rw [item_0] at q;exact q
theorem tl_nul:ToldF (0 :: t) f (toldR [tChar (s1g 0)] [.str "unexpected-null-character"] 1):=by
 intro st;rw [tk3]
 have q:=to8 (st:=st) (f:=f) (x:=stx (0 :: t.take 2)) (small3 _ _) (idx0 _ _) (by rw [tk2,beqS kAmp2];simp) (by rw [beqS kCd];simp) (by rw [tk2,beqS kBang];simp) (by rw [item_0,k60,s1_beq];rfl) (by rw [item_0,k0,s1_beq];rfl)
 rw [item_0] at q;exact q
end
section
variable {st0 st st1:St} {sp:Str × Str} {l u t:List Nat} {e w:Bool} {c c':C} {p k a:Nat} {tl:Str} {L L1:Locs} {R:Out × Locs × St}
theorem any3:([PyData.str "<",.str "<!",.str "&"].any fun y => PyData.eqv y (.str (stx u))) = (decide ([60] = u) || (decide ([60,33] = u) || decide ([38] = u))):=by
 simp only [List.any_cons,List.any_nil,PyData.eqv,Bool.or_false]
 rw [show Str.ofString "<" = stx [60] from k60,kBang,show Str.ofString "&" = stx [38] from k38,stx_beq,stx_beq,stx_beq]
noncomputable abbrev threeD:List PyData:=[.str "<",.str "<!",.str "&"]
theorem memD3:memD (.str (stx u)) threeD = (decide ([60] = u) || (decide ([60,33] = u) || decide ([38] = u))):=any3
variable {j:Nat}
def TurnN (sp:Str × Str) (l:List Nat) (e:Bool) (j:Nat) (tl:Str) (w:Bool) (B:MSs) (L:Locs) (st:St) (c:C) (p:Nat):Prop:=∀ K:SK,(∀ L' st',DL sp l e j c p tl w L' st' → K.n L' st') → wpSs dT B L st K
def TurnC (sp:Str × Str) (l:List Nat) (e:Bool) (j:Nat) (tl:Str) (w:Bool) (B:MSs) (L:Locs) (st:St) (c:C) (p:Nat):Prop:=∀ K:SK,(∀ L' st',DL sp l e j c p tl w L' st' → K.c L' st') → wpSs dT B L st K
noncomputable abbrev stopI:MS:=.ifs (.and (.cons (.cmp .inT (.v 172) (.tup (.cons (.lit (.str "<")) (.cons (.lit (.str "<!")) (.cons (.lit (.str "&")) .nil))))) (.cons (.not (.v 105)) .nil))) stopB .nil
theorem data_in {K:SK} (D:DL sp l e j c p tl w L st) (z:Sz l c) (hu:l.drop p = a :: t) (hp:p ≤ l.length) (hd:c.state = "data")
  (h:∀ L',DL sp l e j (bif decide (a = 38) then setBack c "data" else c) p tl w L' st → L'.lookup 172 = some (.d (.str (stx (a :: t)))) → L'.lookup 93 = some (.d (pairD (c.here sp))) → wpSs dT (.cons stopI fullB) L' st K):wpSs dT dueB L st K:=by
 refine due_pre D z hu hp ?_
 refine ifs_i (q:=false) (fun K hK => opt_i D.state (show K (.d (.bool (c.state != "data"))) st by rw [hd];exact hK)) (fun e => nomatch e) fun _ => ?_
 refine nil_i ?_
 have D2:DL sp l e j c p tl w (pre2 sp (a :: t) c L) st:=⟨D.mem,D.held,D.errs,D.hat,D.last,D.back,D.mode,D.state,D.tail,D.wait,D.spot,D.text,D.ended⟩
 have hq:(Txt.item (stx (a :: t)) 0 == "&") = decide (a = 38):=by rw [item_0,k38,s1_beq]
 refine ifs_i (q:=decide (a = 38)) (fun K hK => ifc_t (and_dec (idx0 a t)) (show K (.d (.bool (Txt.item (stx (a :: t)) 0 == "&"))) st by rw [hq];exact hK)) (fun q => ?_) fun q => ?_
 ·rw [q] at h
  refine asg_i hv_lit ?_
  exact nil_i (h _ ⟨D2.mem,D2.held,D2.errs,D2.hat,D2.last,rfl,D2.mode,D2.state,D2.tail,D2.wait,D2.spot,D2.text,D2.ended⟩ rfl rfl)
 ·rw [q] at h
  exact nil_i (h _ D2 rfl rfl)
theorem hv_stop (D:DL sp l e j c p tl w L st) (h172:L.lookup 172 = some (.d (.str (stx u)))) (hm:∀ x ∈ u,x < 1114112) {q:Bool} (hq:(decide ([60] = u) || (decide ([60,33] = u) || decide ([38] = u))) = q):HasV dT (.and (.cons (.cmp .inT (.v 172) (.tup (.cons (.lit (.str "<")) (.cons (.lit (.str "<!")) (.cons (.lit (.str "&")) .nil))))) (.cons (.not (.v 105)) .nil))) L st (.d (.bool (q && !e))):=by
 refine hb_and (fun K hK => opt_i h172 (lay_i (ys:=threeD) (memOK_i (lay_stx hm) (by decide +kernel) rfl) ?_)) fun K hK => opt_i D.ended hK
 show K (.d (.bool (memD (.str (stx u)) threeD))) st
 rw [memD3,hq];exact hK
theorem not_stop (hns:e = true ∨ (u ≠ [60] ∧ u ≠ [60,33] ∧ u ≠ [38])):((decide ([60] = u) || (decide ([60,33] = u) || decide ([38] = u))) && !e) = false:=by
 rcases hns with h | ⟨h1,h2,h3⟩
 ·rw [h];exact Bool.and_false _
 ·rw [decide_eq_false fun q => h1 q.symm,decide_eq_false fun q => h2 q.symm,decide_eq_false fun q => h3 q.symm];rfl
end
end
section
open PySem.Builtin PySem.Builtin.Str
set_option maxRecDepth 100000
set_option maxHeartbeats 2000000
section
variable {st st1:St} {sp:Str × Str} {l u t:List Nat} {e w:Bool} {c c':C} {p k a j:Nat} {tl:Str} {L L1:Locs}
theorem back_here (c:C) (z:Str):(setBack c z).here sp = c.here sp:=rfl
theorem chr_eq (hm:c.mode = "in body") (x:Str):toldC c [tChar x] [] k p (turnC (c.here sp) "char") = c.char sp x:=by
 unfold toldC C.char C.put C.rule
 rw [hm];simp
theorem com_eq (hm:c.mode = "in body") (x:Str):toldC c [tCom x] [] k p (turnC (c.here sp) "comment") = c.com sp x:=by
 unfold toldC C.com C.put C.rule
 rw [hm];simp
theorem two_eq (hm:c.mode = "in body"):toldC c [tChar "[",tChar "]"] [] k p (turnC (c.here sp) "char") = two sp c:=by
 unfold two toldC C.char C.put C.rule C.here
 rw [hm];simp
theorem cd_eq (hm:c.mode = "in body"):toldC c [tCom "[CDATA["] [.str "cdata-in-html-content"] 3 p (turnC (c.here sp) "comment") = (c.err "cdata-in-html-content" (p + 2)).com sp "[CDATA[":=by
 have e:(p:Int) + ((3:Nat):Int) - 1 = ((p + 2:Nat):Int):=by omega
 unfold toldC C.com C.err C.put C.rule C.here
 rw [hm,e];simp
theorem nul_eq (hm:c.mode = "in body"):toldC c [tChar (s1g 0)] [.str "unexpected-null-character"] 1 p (turnC (c.here sp) "char") = (c.err "unexpected-null-character" p).char sp (s1g 0):=by
 have e:(p:Int) + ((1:Nat):Int) - 1 = (p:Int):=by omega
 unfold toldC C.char C.err C.put C.rule C.here
 rw [hm,e];simp
theorem end_put (hm:c.mode = "in body") (n:Str):toldC c [tEnd n] [] k p (turnC (c.here sp) "end") = c.put (c.rule sp "end") (tEnd n):=by
 unfold toldC C.put C.rule
 rw [hm];simp
theorem st0_eq (ht:turnC (c.here sp) "start" = false) (n:Str):{ toldC c [tStart n] [] k p (turnC (c.here sp) "start") with held:=c.held ++ [((c.here sp).1,n)],last:=n } = c.start sp n:=by
 unfold C.start toldC
 rw [ht];simp [C.startT]
theorem st1_eq (ht:turnC (c.here sp) "start" = true) (n:Str):{ toldC c [tStart n] [] k p (turnC (c.here sp) "start") with held:=c.held ++ [(spaceOf n,n)],last:=n,state:=rawOf n,mode:=modeOf (rawOf n) } = c.start sp n:=by
 unfold C.start toldC
 rw [ht];simp [C.startT]
theorem go_of (D:DL sp l e j c p tl w L st) (z:Sz l c) (hu:l.drop p = a :: t) (hp:p ≤ l.length) (hd:c.state = "data") (hcp:∀ x ∈ l,x < 1114112)
  (h:∀ L2,DL sp l e j (bif decide (a = 38) then setBack c "data" else c) p tl w L2 st → L2.lookup 172 = some (.d (.str (stx (a :: t)))) → L2.lookup 93 = some (.d (pairD (c.here sp))) → TurnN sp l e j tl w fullB L2 st c' (p + k))
  (hns:e = true ∨ (a :: t ≠ [60] ∧ a :: t ≠ [60,33] ∧ a :: t ≠ [38])):TurnN sp l e j tl w dueB L st c' (p + k):=fun K hK =>
 have hmem:∀ x ∈ a :: t,x < 1114112:=fun x hx => hcp x (List.mem_of_mem_drop (by rw [hu];exact hx))
 data_in D z hu hp hd fun L2 D2 l172 l93 => ifs_i (hv_stop D2 l172 hmem rfl) (fun q => absurd ((not_stop hns).symm.trans q) (by decide)) fun _ => nil_i (h L2 D2 l172 l93 K hK)
section
variable (z:Sz l c) (hz:u.length ≤ 1000) (hm:c.mode = "in body") (ok:okP (c.here sp) = true) (D:DL sp l e j c p tl w L st) (h172:L.lookup 172 = some (.d (.str (stx u)))) (h93:L.lookup 93 = some (.d (pairD (c.here sp))))
include z hz hm ok D h172 h93
theorem f_chr {x:Str} (h:∀ f,ToldF u f (toldR [tChar x] [] 1)):TurnN sp l e j tl w fullB L st ((c.char sp x)) (p + 1):=by
 rw [← chr_eq (k:=1) (p:=p) hm]
 exact fun K hK => full_in (k:=1) D z hz h172 h93 ((h _)) (by decide) (by decide) ok (by decide +kernel) rfl fun L' st' D' a b _ _ => end_plain D' a b hK rfl rfl rfl
theorem f_com {x:Str} {k:Nat} (h:∀ f,ToldF u f (toldR [tCom x] [] (k:Int))):TurnN sp l e j tl w fullB L st ((c.com sp x)) (p + k):=by
 rw [← com_eq (k:=k) (p:=p) hm]
 exact fun K hK => full_in (k:=k) D z hz h172 h93 ((h _)) (by decide) (by decide) ok (by decide +kernel) rfl fun L' st' D' a b _ _ => end_plain D' a b hK rfl rfl rfl
theorem f_two {k:Nat} (h:ToldF u ((c.here sp).1 != "html") (toldR [tChar "[",tChar "]"] [] (k:Int))):TurnN sp l e j tl w fullB L st ((two sp c)) (p + k):=by
 rw [← two_eq (k:=k) (p:=p) hm]
 exact fun K hK => full_in (k:=k) D z hz h172 h93 (h) (by decide) (by decide) ok (by decide +kernel) rfl fun L' st' D' a b _ _ => end_plain D' a b hK rfl rfl rfl
theorem f_cd (h:ToldF u ((c.here sp).1 != "html") (toldR [tCom "[CDATA["] [.str "cdata-in-html-content"] 3)):TurnN sp l e j tl w fullB L st (((c.err "cdata-in-html-content" (p + 2)).com sp "[CDATA[")) (p + 3):=by
 rw [← cd_eq (p:=p) hm]
 exact fun K hK => full_in (k:=3) D z hz h172 h93 (h) (by decide) (by decide) ok (by decide +kernel) rfl fun L' st' D' a b _ _ => end_plain D' a b hK rfl rfl rfl
theorem f_nul (h:∀ f,ToldF u f (toldR [tChar (s1g 0)] [.str "unexpected-null-character"] 1)):TurnN sp l e j tl w fullB L st (((c.err "unexpected-null-character" p).char sp (s1g 0))) (p + 1):=by
 rw [← nul_eq (p:=p) hm]
 exact fun K hK => full_in (k:=1) D z hz h172 h93 ((h _)) (by decide) (by decide) ok (by decide +kernel) rfl fun L' st' D' a b _ _ => end_plain D' a b hK rfl rfl rfl
theorem f_end {n:Str} (h:∀ f,ToldF u f (toldR [tEnd n] [] 2)):TurnN sp l e j tl w fullB L st ((c.endT sp n)) (p + 2):=by
 unfold C.endT
 rw [← end_put (k:=2) (p:=p) hm]
 exact fun K hK => full_in (k:=2) D z hz h172 h93 (h _) (by decide) (by decide) ok (by decide +kernel) rfl fun L' st' D' a b _ _ => end_end D' a b hK rfl rfl z.h rfl
theorem f_start {n:Str} (hn:n ∈ startN) (h:∀ f,ToldF u f (toldR [tStart n] [] 2)):TurnN sp l e j tl w fullB L st ((c.start sp n)) (p + 2):=by
 cases ht:turnC (c.here sp) "start" with
 | false =>
  rw [← st0_eq (k:=2) (p:=p) ht]
  exact fun K hK => full_in (k:=2) D z hz h172 h93 (h _) (by decide) (by decide) ok (by decide +kernel) rfl fun L' st' D' a b x y => end_st0 D' z.h a rfl b y x ht hK
 | true =>
  rw [← st1_eq (k:=2) (p:=p) ht]
  exact fun K hK => full_in (k:=2) D z hz h172 h93 (h _) (by decide) (by decide) ok (by decide +kernel) rfl fun L' st' D' a b x y => end_st1 D' z.h a rfl b y x hn ht hK
end
theorem sz_back (z:Sz l c) (x:Str):Sz l (setBack c x):=⟨z.l,z.o,z.n,z.e,z.h⟩
theorem it_go (D:DL sp l e j c p tl w L st) (z:Sz l c) (hu:l.drop p = a :: t) (hp:p ≤ l.length) (hd:c.state = "data") (hm:c.mode = "in body") (ok:okP (c.here sp) = true) (hcp:∀ x ∈ l,x < 1114112)
  (hl:look sp c p (sgn (a :: t)) = .go k c'):TurnN sp l e j tl w dueB L st (c') (p + k):=by
 have hz:(a :: t).length ≤ 1000:=by rw [← hu,List.length_drop];have:=z.l;omega
 simp only [List.map_cons,look,if_pos hd] at hl
 split at hl
 ·rename_i ha
  rw [k38,s1_eq] at ha
  subst ha
  cases t with
  | nil => cases hl
  | cons x t =>
   simp only [List.map_cons] at hl
   refine go_of D z hu hp hd hcp (fun L2 D2 l172 l93 => ?_) (.inr ⟨by simp,by simp,by simp⟩)
   have D3:DL sp l e j (setBack c "data") p tl w L2 st:=D2
   split at hl
   ·rename_i hx
    rw [k42,s1_eq] at hx
    subst hx
    cases hl
    exact f_two (sz_back z "data") hz hm ok D3 l172 l93 tl_two
   ·rename_i hx
    rw [k42,s1_eq] at hx
    cases hl
    exact f_chr (sz_back z "data") hz hm ok D3 l172 l93 fun f => tl_chr (fun _ => by simpa using hx) (by decide) (by decide)
 ·rename_i ha
  rw [k38,s1_eq] at ha
  have ha2:(bif decide (a = 38) then setBack c "data" else c) = c:=by rw [decide_eq_false ha];rfl
  have go:∀ {c':C} {k:Nat},(∀ L2,DL sp l e j c p tl w L2 st → L2.lookup 172 = some (.d (.str (stx (a :: t)))) → L2.lookup 93 = some (.d (pairD (c.here sp))) → TurnN sp l e j tl w fullB L2 st (c') (p + k)) → (e = true ∨ (a :: t ≠ [60] ∧ a :: t ≠ [60,33] ∧ a :: t ≠ [38])) → TurnN sp l e j tl w dueB L st (c') (p + k):=fun h hns => go_of D z hu hp hd hcp (by rw [ha2];exact h) hns
  split at hl
  ·rename_i hlt
   rw [k60,s1_eq] at hlt
   subst hlt
   cases t with
   | nil => cases hl
   | cons x t =>
    simp only [List.map_cons] at hl
    split at hl
    ·rename_i hb
     rw [k33,s1_eq] at hb
     subst hb
     cases t with
     | nil => cases hl
     | cons y t =>
      simp only [List.map_cons] at hl
      split at hl
      ·rename_i hy
       rw [k91,s1_eq] at hy
       subst hy
       cases hl
       unfold cdata
       refine go (fun L2 D2 l172 l93 => ?_) (.inr ⟨by simp,by simp,by simp⟩)
       cases hf:((c.here sp).1 != "html") with
       | true => exact f_two (k:=3) z hz hm ok D2 l172 l93 (tl_cdf hf)
       | false => exact f_cd z hz hm ok D2 l172 l93 (tl_cd hf)
      ·rename_i hy
       rw [k91,s1_eq] at hy
       cases hl
       exact go (fun L2 D2 l172 l93 => f_com (k:=2) z hz hm ok D2 l172 l93 fun f => tl_com (by simpa using hy)) (.inr ⟨by simp,by simp,by simp⟩)
    ·rename_i hb
     rw [k33,s1_eq] at hb
     split at hl
     ·rename_i n hn
      cases hl
      exact go (fun L2 D2 l172 l93 => f_start z hz hm ok D2 l172 l93 (names_mem hn) fun f => tl_name hb (strD_look hn)) (.inr ⟨by simp,by simp [hb],by simp⟩)
     ·rename_i hn
      have n0:=strD_none names_str hn
      split at hl
      ·rename_i n he
       cases hl
       exact go (fun L2 D2 l172 l93 => f_end z hz hm ok D2 l172 l93 fun f => tl_ends hb n0 (strD_look he)) (.inr ⟨by simp,by simp [hb],by simp⟩)
      ·rename_i he
       cases hl
       exact go (fun L2 D2 l172 l93 => by rw [k60];exact f_chr z hz hm ok D2 l172 l93 fun f => tl_lt hb n0 (strD_none ends_str he)) (.inr ⟨by simp,by simp [hb],by simp⟩)
  ·rename_i hlt
   rw [k60,s1_eq] at hlt
   cases hl
   unfold plain
   have hns:(e = true ∨ (a :: t ≠ [60] ∧ a :: t ≠ [60,33] ∧ a :: t ≠ [38])):=.inr ⟨by simp [hlt],by simp [hlt],by simp [ha]⟩
   split
   ·rename_i h0
    rw [k0,s1_eq] at h0
    subst h0
    exact go (fun L2 D2 l172 l93 => f_nul z hz hm ok D2 l172 l93 fun f => tl_nul) hns
   ·rename_i h0
    rw [k0,s1_eq] at h0
    exact go (fun L2 D2 l172 l93 => f_chr z hz hm ok D2 l172 l93 fun f => tl_chr (fun h => absurd h ha) hlt h0) hns
end
end
section
open PySem.Builtin PySem.Builtin.Str
set_option maxRecDepth 100000
set_option maxHeartbeats 2000000
section
variable {sp:Str × Str} {u t raw post:List Nat} {c c':C} {p k a:Nat}
theorem sec_nil (c:C):secD c [] false = c:=by
 obtain ⟨a1,a2,a3,a4,a5,a6,a7,a8,a9⟩:=c
 simp [secD]
theorem char_mode (ht:turnC (c.here sp) "char" = true) (x:Str):c.char sp x = c.put c.mode (tChar x):=by unfold C.char C.rule;rw [ht];rfl
theorem sec_cons (ht:turnC (c.here sp) "char" = true) (a:Nat) (X:List Nat) (fl:Bool):secD (c.char sp (s1g a)) X fl = secD c (a :: X) fl:=by
 rw [char_mode ht];unfold secD C.put;simp
theorem sec_back (c:C) (X:List Nat) (fl:Bool):secD (setBack c "RCDATA") X fl = secD c X true:=by
 unfold secD setBack;cases fl <;> simp
theorem sec_two (ht:turnC (c.here sp) "char" = true) (X:List Nat) (fl:Bool):secD (two sp (setBack c "RCDATA")) X fl = secD c (91 :: 93 :: X) true:=by
 unfold two
 rw [k91,show Str.ofString "]" = s1g 93 from by decide +kernel]
 have h1:turnC ((setBack c "RCDATA").here sp) "char" = true:=ht
 have h2:turnC (((setBack c "RCDATA").char sp (s1g 91)).here sp) "char" = true:=ht
 rw [sec_cons h2,sec_cons h1,sec_back]
theorem closes_ne (h:a ≠ 47):closes c (s1g a) = false:=by
 unfold closes
 rw [k47,s1_beq,decide_eq_false h];rfl
theorem closes_K (h:(c.last != "" && c.state != "PLAINTEXT") = false) (x:Str):closes c x = false:=by
 unfold closes;rw [Bool.and_assoc,h,Bool.and_false]
theorem closes_47 (h:(c.last != "" && c.state != "PLAINTEXT") = true):closes c (s1g 47) = true:=by
 unfold closes;rw [Bool.and_assoc,h,k47,s1_beq];rfl
theorem closes_off (hK:(c.last != "" && c.state != "PLAINTEXT") = true → a ≠ 47):¬ closes c (s1g a) = true:=by
 cases h:(c.last != "" && c.state != "PLAINTEXT") with
 | false => rw [closes_K h];decide
 | true => rw [closes_ne (hK h)];decide
theorem held_plain:∀ (raw:List Nat) (c:C) (p:Nat),c.state ≠ "data" → c.state ≠ "RCDATA" → turnC (c.here sp) "char" = true → ((c.last != "" && c.state != "PLAINTEXT") = true → 47 ∉ raw) →
    runF sp (sgn (raw ++ post)) p c = runF sp (sgn post) (p + raw.length) (secD c raw false)
  | [],c,p,_,_,_,_ => by rw [sec_nil];rfl
  | a :: raw,c,p,h1,h2,ht,hK => by
    have hc:=closes_off (c:=c) (a:=a) fun h => fun e => hK h (by simp [e])
    have hl:look sp c p (sgn (a :: raw ++ post)) = .go 1 (c.char sp (s1g a)):=by
      simp only [List.cons_append,List.map_cons,look,if_neg h1,if_neg hc]
      rw [if_neg (by rintro ⟨_,h⟩;exact h2 h)]
    rw [runF_go hl,← sec_cons ht]
    have:=held_plain raw (c.char sp (s1g a)) (p + 1) h1 h2 ht fun h => fun hm => hK h (by simp [hm])
    show runF sp (sgn (raw ++ post)) (p + 1) _ = _
    rw [this,List.length_cons,Nat.add_right_comm,Nat.add_assoc]
theorem held_rc:∀ (n:Nat) (raw:List Nat) (c:C) (p:Nat),raw.length ≤ n → c.state = "RCDATA" → turnC (c.here sp) "char" = true → ((c.last != "" && c.state != "PLAINTEXT") = true → 47 ∉ raw) → (raw.getLast? = some 38 → ∃ y w,post = y :: w ∧ y ≠ 42) →
  runF sp (sgn (raw ++ post)) p c = runF sp (sgn post) (p + raw.length) (secD c (rep raw) (decide (38 ∈ raw))):=by
 intro n
 induction n with
 | zero =>
  intro raw c p hn _ _ _ _
  have:raw = []:=by { cases raw with | nil => rfl | cons a t => simp at hn }
  subst this
  rw [rep_nil,show decide (38 ∈ ([]:List Nat)) = false from by decide,sec_nil];rfl
 | succ n ih =>
  intro raw c p hn hs ht hK hp
  cases raw with
  | nil => rw [rep_nil,show decide (38 ∈ ([]:List Nat)) = false from by decide,sec_nil];rfl
  | cons a t =>
   simp only [List.length_cons] at hn
   have hd:¬ c.state = "data":=by rw [hs];decide +kernel
   have hc:=closes_off (c:=c) (a:=a) fun h => fun e => hK h (by simp [e])
   have hK2:(c.last != "" && c.state != "PLAINTEXT") = true → 47 ∉ t:=fun h => fun hm => hK h (by simp [hm])
   by_cases ha:a = 38
   ·subst ha
    have hamp:(s1g 38 = Str.ofString "&" ∧ c.state = Str.ofString "RCDATA"):=⟨k38.symm,hs⟩
    have one:∀ {y:Nat} {w:List Nat},t ++ post = y :: w → y ≠ 42 → look sp c p (sgn (38 :: t ++ post)) = .go 1 ((setBack c "RCDATA").char sp "&"):=by
     intro y w e hy
     simp only [List.cons_append,e,List.map_cons,look,if_neg hd,if_neg hc,if_pos hamp]
     rw [if_neg (by rw [k42,s1_eq];exact hy)]
    cases t with
    | nil =>
     obtain ⟨y,w,e,hy⟩:=hp rfl
     rw [runF_go (one e hy),rep_one,show decide (38 ∈ [38]) = true from by decide,k38,← sec_back c [38] false,← sec_cons (c:=setBack c "RCDATA") ht,sec_nil];rfl
    | cons x t =>
     by_cases hx:x = 42
     ·subst hx
      have hl:look sp c p (sgn (38 :: 42 :: t ++ post)) = .go 2 (two sp (setBack c "RCDATA")):=by
       simp only [List.cons_append,List.map_cons,look,if_neg hd,if_neg hc,if_pos hamp]
       rw [if_pos k42.symm]
      rw [runF_go hl,rep_38_42,show decide (38 ∈ 38 :: 42 :: t) = true from by simp,← sec_two ht (rep t) (decide (38 ∈ t))]
      have:=ih t (two sp (setBack c "RCDATA")) (p + 2) (by simp at hn;omega) hs ht (fun h => fun hm => hK2 h (by simp [hm])) (fun h => hp (by
       cases t with
       | nil => cases h
       | cons b t => simpa using h))
      show runF sp (sgn (t ++ post)) (p + 2) _ = _
      rw [this,List.length_cons,List.length_cons,show p + (t.length + 1 + 1) = p + 2 + t.length from by omega]
     ·rw [runF_go (one rfl hx),rep_38 hx,show decide (38 ∈ 38 :: x :: t) = true from by simp]
      have:=ih (x :: t) ((setBack c "RCDATA").char sp "&") (p + 1) (by omega) hs ht hK2 (fun h => hp (by simpa using h))
      show runF sp (sgn (x :: t ++ post)) (p + 1) _ = _
      rw [this,k38,sec_cons (c:=setBack c "RCDATA") ht,sec_back,show p + (38 :: x :: t).length = p + 1 + (x :: t).length from by simp only [List.length_cons];omega]
   ·have hl:look sp c p (sgn (a :: t ++ post)) = .go 1 (c.char sp (s1g a)):=by
     simp only [List.cons_append,List.map_cons,look,if_neg hd,if_neg hc]
     rw [if_neg (by rintro ⟨h,_⟩;rw [k38,s1_eq] at h;exact ha h)]
    rw [runF_go hl,rep_ne ha,← sec_cons ht,show decide (38 ∈ a :: t) = decide (38 ∈ t) from by
     rw [decide_eq_decide];simp [Ne.symm ha]]
    have:=ih t (c.char sp (s1g a)) (p + 1) (by omega) hs ht hK2 (fun h => hp (by
       cases t with
       | nil => cases h
       | cons b t => simpa using h))
    show runF sp (sgn (t ++ post)) (p + 1) _ = _
    rw [this,List.length_cons,show p + (t.length + 1) = p + 1 + t.length from by omega]
noncomputable def flC (c:C) (raw:List Nat):Bool:=c.state == "RCDATA" && decide (38 ∈ raw)
theorem held_all (raw:List Nat) (c:C) (p:Nat) (hd:c.state ≠ "data") (ht:turnC (c.here sp) "char" = true) (hK:(c.last != "" && c.state != "PLAINTEXT") = true → 47 ∉ raw) (hp:c.state = "RCDATA" → raw.getLast? = some 38 → ∃ y w,post = y :: w ∧ y ≠ 42) :
  runF sp (sgn (raw ++ post)) p c = runF sp (sgn post) (p + raw.length) (secD c (secX c.state raw) (flC c raw)):=by
 unfold flC secX
 by_cases hs:c.state = "RCDATA"
 ·rw [if_pos hs,show (c.state == "RCDATA") = true from by rw [hs];decide +kernel,Bool.true_and]
  exact held_rc raw.length raw c p (Nat.le_refl _) hs ht hK (hp hs)
 ·rw [if_neg hs,show (c.state == "RCDATA") = false from by simpa using hs,Bool.false_and]
  exact held_plain raw c p hd hs ht hK
theorem run_nil (c:C) (p:Nat):runF sp (sgn []) p c = (c,p,.non):=rfl
theorem run_close (hd:c.state ≠ "data") (hK:(c.last != "" && c.state != "PLAINTEXT") = true):runF sp (sgn (47 :: post)) p c = runF sp (sgn post) (p + 1) c.close:=by
 have hl:look sp c p (sgn (47 :: post)) = .go 1 c.close:=by
  simp only [List.map_cons,look,if_neg hd]
  rw [if_pos (closes_47 hK)]
 rw [runF_go hl];rfl
theorem run_amp (hs:c.state = "RCDATA"):runF sp (sgn [38]) p c = (setBack c "RCDATA",p,.amp):=by
 have hd:¬ c.state = "data":=by rw [hs];decide +kernel
 have hl:look sp c p (sgn [38]) = .stop (setBack c "RCDATA") .amp:=by
  simp only [List.map_cons,List.map_nil,look,if_neg hd]
  rw [closes_ne (by decide),if_neg (by decide),if_pos ⟨k38.symm,hs⟩]
 rw [runF_stop hl]
theorem rep_len:∀ (n:Nat) (u:List Nat),u.length ≤ n → (rep u).length = u.length:=by
 intro n
 induction n with
 | zero =>
  intro u h
  have:u = []:=by { cases u with | nil => rfl | cons a t => simp at h }
  subst this;rw [rep_nil]
 | succ n ih =>
  intro u h
  cases u with
  | nil => rw [rep_nil]
  | cons a t =>
   simp only [List.length_cons] at h
   by_cases ha:a = 38
   ·subst ha
    cases t with
    | nil => rw [rep_one]
    | cons d t =>
     by_cases hd:d = 42
     ·subst hd
      rw [rep_38_42];simp only [List.length_cons];rw [ih t (by simp at h;omega)]
     ·rw [rep_38 hd,List.length_cons,ih (d :: t) (by omega)];rfl
   ·rw [rep_ne ha,List.length_cons,ih t (by omega)];rfl
theorem secX_len (s:Str) (raw:List Nat):(secX s raw).length = raw.length:=by
 unfold secX;split
 ·exact rep_len _ _ (Nat.le_refl _)
 ·rfl
structure Inv (sp:Str × Str) (p:Nat) (c:C):Prop where
 okS:okP sp = true
 okH:∀ q ∈ c.held,okP q = true
 good:(c.state = "data" ∧ c.mode = "in body") ∨ (heldS c.state ∧ (c.here sp).1 = "html" ∧ (1 < c.held.length ∨ c.last = ""))
 sm:Sm (2 * p) c
 hl:c.held.length ≤ p + 1
 ne:1 ≤ c.held.length
 md:c.mode = "in body" ∨ c.mode = "text"
theorem Inv.here (I:Inv sp p c):okP (c.here sp) = true:=by
 unfold C.here
 split
 ·cases h:c.held.getLast? with
  | none => exact I.okS
  | some q => exact I.okH q (List.mem_of_getLast? h)
 ·exact I.okS
theorem inv_same (I:Inv sp p c) (hd:c.state = "data" ∧ c.mode = "in body") (h1:c'.held = c.held) (h2:c'.state = c.state) (h3:c'.mode = c.mode) (hs:Sm (2 * (p + k)) c'):Inv sp (p + k) c' :=
 ⟨I.okS,by rw [h1];exact I.okH,.inl ⟨h2.trans hd.1,h3.trans hd.2⟩,hs,by rw [h1];have:=I.hl;omega,by rw [h1];exact I.ne,.inl (h3.trans hd.2)⟩
theorem inv_start (I:Inv sp p c) (hd:c.state = "data" ∧ c.mode = "in body") {n:Str} (hn:n ∈ startN):Inv sp (p + 2) (c.start sp n):=by
 have hs:Sm (2 * (p + 2)) (c.start sp n):=sm_mono (sm_start I.sm n) (by omega)
 obtain ⟨o1,o2,raws⟩:=start_facts hn
 have hhl:=I.hl
 have hne:=I.ne
 have okh:=I.here
 unfold C.start at hs ⊢
 cases ht:turnC (c.here sp) "start" with
 | false =>
  rw [ht] at hs
  refine ⟨I.okS,fun q hq => ?_,.inl hd,hs,by show (c.held ++ _).length ≤ _;simp;omega,by show 1 ≤ (c.held ++ _).length;simp,.inl hd.2⟩
  have hq':q ∈ c.held ++ [((c.here sp).1,n)]:=hq
  rcases List.mem_append.mp hq' with h | h
  ·exact I.okH q h
  ·have:q = ((c.here sp).1,n):=by simpa using h
   rw [this]
   exact List.all_eq_true.mp o2 _ (by unfold okP at okh;rw [Bool.and_eq_true] at okh;simpa using okh.1)
 | true =>
  rw [ht] at hs
  refine ⟨I.okS,fun q hq => ?_,?_,hs,by show (c.held ++ _).length ≤ _;simp;omega,by show 1 ≤ (c.held ++ _).length;simp,by show modeOf (rawOf n) = _ ∨ modeOf (rawOf n) = _;unfold modeOf;cases (rawOf n == "data" || rawOf n == "PLAINTEXT") <;> simp⟩
  ·have hq':q ∈ c.held ++ [(spaceOf n,n)]:=hq
   rcases List.mem_append.mp hq' with h | h
   ·exact I.okH q h
   ·have:q = (spaceOf n,n):=by simpa using h
    rw [this];exact o1
  ·show (rawOf n = "data" ∧ modeOf (rawOf n) = "in body") ∨ _
   rcases raws with ⟨r1,r2,r3⟩ | ⟨w,r1,r2,r3,r4,r5⟩
   ·exact .inl ⟨r2,r3⟩
   ·right
    refine ⟨?_,?_,.inl ?_⟩
    ·show heldS (rawOf n)
     rw [r2]
     unfold startN at hn
     simp only [List.mem_cons,List.not_mem_nil,or_false] at hn
     rcases hn with rfl | rfl | rfl | rfl | rfl | rfl | rfl | rfl <;> (cases r1 <;> first | exact .inl rfl | exact .inr (.inl rfl) | exact .inr (.inr (.inl rfl)) | exact .inr (.inr (.inr rfl)))
    ·show (C.here sp (c.startT "in body" (spaceOf n) n (rawOf n) (modeOf (rawOf n)))).1 = "html"
     unfold C.here C.startT
     dsimp only
     rw [if_pos (by rw [List.length_append,List.length_singleton];omega)]
     simp
     unfold spaceOf;rw [r4];rfl
    ·show 1 < (c.held ++ _).length
     rw [List.length_append,List.length_singleton];omega
theorem inv_end (I:Inv sp p c) (hd:c.state = "data" ∧ c.mode = "in body") (n:Str):Inv sp (p + 2) (c.endT sp n):=by
 have hs:Sm (2 * (p + 2)) (c.endT sp n):=sm_mono (sm_end I.sm n) (by omega)
 obtain ⟨_,_,_,q4,q5,_,_,_⟩:=leave_out (c.put (c.rule sp "end") (tEnd n)) n
 have hhl:=I.hl
 have hne:=I.ne
 have hst:(c.endT sp n).state = "data":=q5.trans hd.1
 have hmd:(c.endT sp n).mode = "in body":=q4.trans hd.2
 have hh:(c.endT sp n).held = c.held ∨ ((c.endT sp n).held = c.held.dropLast ∧ 1 < c.held.length):=by
  unfold C.endT C.leave
  cases h:(decide (1 < (c.put (c.rule sp "end") (tEnd n)).held.length) && (((c.put (c.rule sp "end") (tEnd n)).held.getLast?.getD ("","")).2 == n)) with
  | false => exact .inl rfl
  | true =>
   rw [Bool.and_eq_true] at h
   exact .inr ⟨rfl,of_decide_eq_true h.1⟩
 rcases hh with h | ⟨h,h1⟩
 ·exact ⟨I.okS,by rw [h];exact I.okH,.inl ⟨hst,hmd⟩,hs,by rw [h];omega,by rw [h];exact hne,.inl hmd⟩
 ·exact ⟨I.okS,by rw [h];exact fun q hq => I.okH q ((List.dropLast_sublist _).subset hq),.inl ⟨hst,hmd⟩,hs,by rw [h,List.length_dropLast];omega,by rw [h,List.length_dropLast];omega,.inl hmd⟩
theorem inv_go (I:Inv sp p c) (hd:c.state = "data" ∧ c.mode = "in body") (hl:look sp c p (sgn (a :: t)) = .go k c'):Inv sp (p + k) c':=by
 simp only [List.map_cons,look,if_pos hd.1] at hl
 have hsm:=I.sm
 split at hl
 ·cases t with
  | nil => cases hl
  | cons x t =>
   simp only [List.map_cons] at hl
   split at hl
   ·cases hl;exact inv_same I hd rfl rfl rfl (sm_mono (sm_two (sm_back hsm _)) (by omega))
   ·cases hl;exact inv_same I hd rfl rfl rfl (sm_mono (sm_char (sm_back hsm _) _) (by omega))
 ·split at hl
  ·cases t with
   | nil => cases hl
   | cons x t =>
    simp only [List.map_cons] at hl
    split at hl
    ·cases t with
     | nil => cases hl
     | cons y t =>
      simp only [List.map_cons] at hl
      split at hl
      ·cases hl
       have s1:=sm_cdata (sp:=sp) hsm (p + 2)
       unfold cdata at s1 ⊢
       cases hf:((c.here sp).1 != "html") with
       | true => rw [hf] at s1;exact inv_same I hd rfl rfl rfl (sm_mono s1 (by omega))
       | false => rw [hf] at s1;exact inv_same I hd rfl rfl rfl (sm_mono s1 (by omega))
      ·cases hl;exact inv_same I hd rfl rfl rfl (sm_mono (sm_com hsm _) (by omega))
    ·split at hl
     ·rename_i n hn;cases hl;exact inv_start I hd (names_mem hn)
     ·split at hl
      ·cases hl;exact inv_end I hd _
      ·cases hl;exact inv_same I hd rfl rfl rfl (sm_mono (sm_char hsm _) (by omega))
  ·cases hl
   have s1:=sm_plain (sp:=sp) hsm p (s1g a)
   unfold plain at s1 ⊢
   split
   ·rename_i h0;rw [if_pos h0] at s1;exact inv_same I hd rfl rfl rfl (sm_mono s1 (by omega))
   ·rename_i h0;rw [if_neg h0] at s1;exact inv_same I hd rfl rfl rfl (sm_mono s1 (by omega))
theorem inv_close (I:Inv sp p c) (h1:1 < c.held.length) (X:List Nat) (fl:Bool) {m:Nat} (hX:X.length ≤ m):Inv sp (p + m + 1) (secD c X fl).close:=by
 have hhl:=I.hl
 have s1:=I.sm.nn
 have s2:=I.sm.oo
 have s3:=I.sm.ee
 refine ⟨I.okS,fun q hq => I.okH q ((List.dropLast_sublist _).subset hq),.inl ⟨rfl,rfl⟩,⟨?_,?_,?_⟩,?_,?_,.inl rfl⟩
 ·show (c.notes ++ _ ++ [_]).length ≤ _;simp;omega
 ·show (c.out ++ _ ++ [_]).length ≤ _;simp;omega
 ·show c.errs.length ≤ _;omega
 ·show c.held.dropLast.length ≤ _;rw [List.length_dropLast];omega
 ·show 1 ≤ c.held.dropLast.length;rw [List.length_dropLast];omega
end
end
section
open PySem.Builtin PySem.Builtin.Str
set_option maxRecDepth 100000
set_option maxHeartbeats 2000000
theorem zw_WL29_1:True:=by
 k_with "hv" => (intro K hK;(repeat walk_at "zs");exact hK)
 trivial
noncomputable def adS:Pend → Nat | .non => 0 | _ => 1
noncomputable def tlS:Pend → Str | .non => "" | .amp => "character reference" | _ => "tag open"
noncomputable def wtS:Pend → Bool | .bang => true | _ => false
section
variable {st st1:St} {sp:Str × Str} {l u t:List Nat} {e w:Bool} {c c':C} {p k a j:Nat} {tl:Str} {L L1:Locs} {K:SK}
theorem cond_t (D:DL sp l e j c p "" w L st) (hz:l.length ≤ 1000) (h:p < l.length):HasV dT dueC L st (.d (.bool true)):=by
 have a1:=D.hat
 have a2:=D.text
 have a3:=D.tail
 have h1:decide ((p:Int) < ((stx l).length:Int)) = true:=by rw [stx_len];exact decide_eq_true (Int.ofNat_lt.mpr h)
 have h2:=(stx_small hz).1
 walk_at "hv"
theorem cond_f1 (D:DL sp l e j c p tl w L st) (hz:l.length ≤ 1000) (h:¬ p < l.length):HasV dT dueC L st (.d (.bool false)):=by
 have a1:=D.hat
 have a2:=D.text
 have a3:=D.tail
 have h1:decide ((p:Int) < ((stx l).length:Int)) = false:=by rw [stx_len];exact decide_eq_false fun q => h (Int.ofNat_lt.mp q)
 have h2:=(stx_small hz).1
 walk_at "hv"
theorem cond_f2 (D:DL sp l e j c p tl w L st) (hz:l.length ≤ 1000) (h:(tl == "") = false):HasV dT dueC L st (.d (.bool false)):=by
 by_cases hp:p < l.length
 ·have a1:=D.hat
  have a2:=D.text
  have a3:=D.tail
  have h1:decide ((p:Int) < ((stx l).length:Int)) = true:=by rw [stx_len];exact decide_eq_true (Int.ofNat_lt.mpr hp)
  have h2:=(stx_small hz).1
  walk_at "hv"
 ·exact cond_f1 D hz hp
structure Left (sp:Str × Str) (l:List Nat) (e:Bool) (R:C × Nat × Pend) (c':C) (p':Nat) (tl:Str) (w:Bool):Prop where
 op:e = false → c' = R.1 ∧ p' = R.2.1 + adS R.2.2 ∧ tl = tlS R.2.2 ∧ w = wtS R.2.2
 fi:e = true → (c',p') = finP sp R ∧ tl = "" ∧ w = false
 md:c'.mode = "in body" ∨ c'.mode = "text"
 z:Sz l c'
 okH:okP (c'.here sp) = true
noncomputable abbrev lpC (L:Locs) (st:St) (f:Bool → St → Prop):Prop:=wpE dT dueC L st fun x st => x.bool fun p => f p st
theorem loop_e {n:Nat} {q:Bool} (h:HasV dT dueC L st (.d (.bool q))) (hb:ifc q (wpSs dT dueB L st (lopK (loopW lpC (wpSs dT dueB) n) K)) (K.n L st)):loopW lpC (wpSs dT dueB) (n + 1) L st K :=
 show lpC L st fun t st => ifc t (wpSs dT dueB L st (lopK (loopW lpC (wpSs dT dueB) n) K)) (K.n L st) from
 h (fun x st => x.bool fun p => ifc p (wpSs dT dueB L st (lopK (loopW lpC (wpSs dT dueB) n) K)) (K.n L st)) hb
theorem loop_t {n:Nat} (h:HasV dT dueC L st (.d (.bool true))) (hb:wpSs dT dueB L st (lopK (loopW lpC (wpSs dT dueB) n) K)):loopW lpC (wpSs dT dueB) (n + 1) L st K:=loop_e h hb
theorem loop_f {n:Nat} (h:HasV dT dueC L st (.d (.bool false))) (hn:0 < n) (hK:K.n L st):loopW lpC (wpSs dT dueB) n L st K:=by
 cases n with
 | zero => exact absurd hn (Nat.lt_irrefl 0)
 | succ n => exact loop_e h hK
theorem sz_of (I:Inv sp p c) (hz:l.length ≤ 100) (hp:p ≤ l.length):Sz l c:=by
 have a:=I.sm.nn
 have b:=I.sm.oo
 have d:=I.sm.ee
 have f:=I.hl
 exact ⟨by omega,by omega,by omega,by omega,by omega⟩
theorem sz_put {m:Nat} (hs:Sm m c) (hm:m ≤ 500) (hh:c.held.length ≤ 500) (hz:l.length ≤ 100):Sz l c :=
 ⟨by omega,by have:=hs.oo;omega,by have:=hs.nn;omega,by have:=hs.ee;omega,by omega⟩
theorem sz_sec (I:Inv sp p c) (hz:l.length ≤ 100) (hp:p ≤ l.length) {X:List Nat} (hX:X.length ≤ 100) (fl:Bool):Sz l (secD c X fl):=by
 have a:=I.sm.nn
 have b:=I.sm.oo
 have d:=I.sm.ee
 have f:=I.hl
 exact ⟨by omega,by show (c.out ++ _).length ≤ _;simp;omega,by show (c.notes ++ _).length ≤ _;simp;omega,by show c.errs.length ≤ _;omega,by show c.held.length ≤ _;omega⟩
theorem drop_cons_lt (h:l.drop p = a :: t):p < l.length:=by
 have:=congrArg List.length h
 rw [List.length_drop,List.length_cons] at this;omega
theorem drop_more {k:Nat} (h:l.drop p = u):l.drop (p + k) = u.drop k:=by rw [← h,List.drop_drop]
theorem look_len (hl:look sp c p (sgn u) = .go k c'):1 ≤ k ∧ k ≤ u.length:=by
 obtain ⟨k1,k2,_⟩:=look_go hl
 exact ⟨k1,by simpa using k2⟩
theorem sgn_drop (u:List Nat) (k:Nat):(sgn u).drop k = sgn (u.drop k):=List.map_drop.symm
theorem turn_of (h:(c.here sp).1 = "html"):turnC (c.here sp) "char" = true:=by
 unfold turnC;rw [h];rfl
theorem char_38 (ht:turnC (c.here sp) "char" = true) (X:List Nat) (fl fl':Bool) (hfl':fl' = true):(setBack (secD c X fl) "RCDATA").char sp "&" = secD c (X ++ [38]) fl':=by
 subst hfl'
 have h1:turnC ((setBack (secD c X fl) "RCDATA").here sp) "char" = true:=ht
 rw [char_mode h1,k38]
 unfold secD setBack C.put;simp
theorem stop_facts (hd:c.state = "data") (hl:look sp c p (sgn (a :: t)) = .stop c' q):(a :: t = [38] ∧ q = .amp ∧ c' = setBack c "data") ∨ (a :: t = [60] ∧ q = .lt ∧ c' = c) ∨ (a :: t = [60,33] ∧ q = .bang ∧ c' = c):=by
 simp only [List.map_cons,look,if_pos hd] at hl
 split at hl
 ·rename_i ha
  rw [k38,s1_eq] at ha
  subst ha
  cases t with
  | nil => cases hl;exact .inl ⟨rfl,rfl,rfl⟩
  | cons x t => simp only [List.map_cons] at hl;split at hl <;> cases hl
 ·split at hl
  ·rename_i ha
   rw [k60,s1_eq] at ha
   subst ha
   cases t with
   | nil => cases hl;exact .inr (.inl ⟨rfl,rfl,rfl⟩)
   | cons x t =>
    simp only [List.map_cons] at hl
    split at hl
    ·rename_i hb
     rw [k33,s1_eq] at hb
     subst hb
     cases t with
     | nil => cases hl;exact .inr (.inr ⟨rfl,rfl,rfl⟩)
     | cons y t => simp only [List.map_cons] at hl;split at hl <;> cases hl
    ·split at hl
     ·cases hl
     ·split at hl <;> cases hl
  ·cases hl
theorem stop_in {L:Locs} {tv:Str} {wv:Bool} (D:DL sp l e j c p tl w L st) (h172:L.lookup 172 = some (.d (.str (stx u)))) (hw:(stx u == "<!") = wv) (ht:(bif stx u == "&" then Str.ofString "character reference" else Str.ofString "tag open") = tv) (hK:∀ L',DL sp l e j c (p + 1) tv wv L' st → K.c L' st):wpSs dT stopB L st K:=by
 subst hw ht
 refine asg_i (v:=.d (.int ((p:Int) + 1))) (fun K hK => opt_i D.hat hK) ?_
 refine asg_i (v:=.d (.bool (stx u == "<!"))) (fun K hK => opt_i h172 hK) ?_
 refine asg_i (v:=.d (.str (bif stx u == "&" then "character reference" else "tag open"))) (fun K hK => opt_i h172 (by cases hq:(stx u == "&") with | true => rw [hq] at hK;exact ifc_t hq hK | false => rw [hq] at hK;exact ifc_f hq hK)) ?_
 exact hK _ ⟨D.mem,D.held,D.errs,rfl,D.last,D.back,D.mode,D.state,rfl,rfl,D.spot,D.text,D.ended⟩
theorem stop_q {q:Pend} (hd:c.state = "data") (hl:look sp c p (sgn (a :: t)) = .stop c' q):(tlS q == "") = false ∧ adS q = 1 ∧ (decide ([60] = a :: t) || (decide ([60,33] = a :: t) || decide ([38] = a :: t))) = true ∧ (stx (a :: t) == "<!") = wtS q ∧ (bif stx (a :: t) == "&" then Str.ofString "character reference" else Str.ofString "tag open") = tlS q ∧ c' = (bif decide (a = 38) then setBack c "data" else c):=by
 rcases stop_facts hd hl with ⟨e1,rfl,rfl⟩ | ⟨e1,rfl,rfl⟩ | ⟨e1,rfl,rfl⟩ <;> (cases e1;exact ⟨by decide +kernel,rfl,rfl,by decide +kernel,by decide +kernel,rfl⟩)
theorem it_stop {q:Pend} (D:DL sp l false j c p "" false L st) (z:Sz l c) (hu:l.drop p = a :: t) (hp:p ≤ l.length) (hd:c.state = "data") (hcp:∀ x ∈ l,x < 1114112) (hl:look sp c p (sgn (a :: t)) = .stop c' q):TurnC sp l false j (tlS q) (wtS q) dueB L st c' (p + 1):=by
 obtain ⟨_,_,q3,q4,q5,q6⟩:=stop_q hd hl
 have hmem:∀ x ∈ a :: t,x < 1114112:=fun x hx => hcp x (List.mem_of_mem_drop (by rw [hu];exact hx))
 intro K hK
 refine data_in D z hu hp hd fun L2 D2 l172 l93 => ifs_i (hv_stop D2 l172 hmem q3) (fun _ => ?_) fun e => nomatch e
 rw [← q6] at D2
 exact stop_in D2 l172 q4 q5 fun L' D' => hK L' st D'
theorem it_fin {q:Pend} (D:DL sp l true j c p "" false L st) (z:Sz l c) (hu:l.drop p = a :: t) (hp:p ≤ l.length) (hd:c.state = "data") (hm:c.mode = "in body") (ok:okP (c.here sp) = true) (hcp:∀ x ∈ l,x < 1114112) (hl:look sp c p (sgn (a :: t)) = .stop c' q) :
  TurnN sp l true j "" false dueB L st (finP sp (c',p,q)).1 (finP sp (c',p,q)).2 ∧ (finP sp (c',p,q)).2 = p + (a :: t).length:=by
 have hz:(a :: t).length ≤ 1000:=by rw [← hu,List.length_drop];exact Nat.le_trans (Nat.sub_le ..) z.l
 rcases stop_facts hd hl with ⟨e1,rfl,rfl⟩ | ⟨e1,rfl,rfl⟩ | ⟨e1,rfl,rfl⟩
 ·cases e1
  exact ⟨go_of (c':=(setBack c "data").char sp "&") (k:=1) D z hu hp hd hcp (fun L2 D2 l172 l93 => f_chr (sz_back z "data") hz hm ok D2 l172 l93 fun f => tl_chr (fun _ h => nomatch h) (by decide) (by decide)) (.inl rfl),rfl⟩
 ·cases e1
  exact ⟨go_of (c':=c'.char sp "<") (k:=1) D z hu hp hd hcp (fun L2 D2 l172 l93 => by rw [k60];exact f_chr z hz hm ok D2 l172 l93 fun f => tl_lt0) (.inl rfl),rfl⟩
 ·cases e1
  exact ⟨go_of (c':=c'.com sp "") (k:=2) D z hu hp hd hcp (fun L2 D2 l172 l93 => f_com (k:=2) z hz hm ok D2 l172 l93 fun f => tl_com (fun h => nomatch h)) (.inl rfl),rfl⟩
end
end
section
open PySem.Builtin PySem.Builtin.Str
set_option maxRecDepth 100000
set_option maxHeartbeats 2000000
section
variable {st st1:St} {sp:Str × Str} {l u t:List Nat} {e w:Bool} {c c':C} {p k a j:Nat} {tl:Str} {L L1:Locs}
theorem left_stop (hd:c.state = "data") (hm:c.mode = "in body") (ok:okP (c.here sp) = true) (z:Sz l c) (hl:look sp c p (sgn (a :: t)) = .stop c' q) (h1:adS q = 1):Left sp l false (c',p,q) c' (p + 1) (tlS q) (wtS q):=by
 have hc:c'.mode = c.mode ∧ c'.here sp = c.here sp ∧ Sz l c':=by
  rcases stop_facts hd hl with ⟨_,_,rfl⟩ | ⟨_,_,rfl⟩ | ⟨_,_,rfl⟩
  ·exact ⟨rfl,rfl,sz_back z _⟩
  ·exact ⟨rfl,rfl,z⟩
  ·exact ⟨rfl,rfl,z⟩
 exact ⟨fun _ => ⟨rfl,by show _ = p + adS q;rw [h1],rfl,rfl⟩,fun h => (by cases h),.inl (hc.1.trans hm),hc.2.2,by rw [hc.2.1];exact ok⟩
theorem fin_facts (hd:c.state = "data") (hm:c.mode = "in body") (ok:okP (c.here sp) = true) (I:Inv sp p c) (hz:l.length ≤ 100) (hp:p ≤ l.length) (hl:look sp c p (sgn (a :: t)) = .stop c' q):(finP sp (c',p,q)).1.mode = "in body" ∧ okP ((finP sp (c',p,q)).1.here sp) = true ∧ Sz l (finP sp (c',p,q)).1:=by
 have h:=I.hl
 rcases stop_facts hd hl with ⟨_,rfl,rfl⟩ | ⟨_,rfl,rfl⟩ | ⟨_,rfl,rfl⟩
 ·exact ⟨hm,ok,sz_put (sm_char (sm_back I.sm "data") "&") (by omega) (by show c.held.length ≤ _;omega) hz⟩
 ·exact ⟨hm,ok,sz_put (sm_char I.sm "<") (by omega) (by show c'.held.length ≤ _;omega) hz⟩
 ·exact ⟨hm,ok,sz_put (sm_com I.sm "") (by omega) (by show c'.held.length ≤ _;omega) hz⟩
theorem fl_eq (c:C) (raw post:List Nat):(c.state == "RCDATA" && Txt.contains (Txt.slice (stx (raw ++ post)) none (some (raw.length:Int))) "&") = flC c raw:=by
 have:Txt.slice (stx (raw ++ post)) none (some (raw.length:Int)) = stx raw:=by rw [sl_to];simp
 rw [this,k38,contains_one];rfl
theorem rep_100 {u:List Nat} (h:u.length ≤ 100):(rep u).length ≤ 100:=by rw [rep_len u.length u (Nat.le_refl _)];exact h
theorem rep_1000 {u:List Nat} (h:u.length ≤ 100):(rep u).length ≤ 1000:=Nat.le_trans (rep_100 h) (by decide)
theorem secX_100 {s:Str} {u:List Nat} (h:u.length ≤ 100):(secX s u).length ≤ 100:=by rw [secX_len];exact h
theorem secX_1000 {s:Str} {u:List Nat} (h:u.length ≤ 100):(secX s u).length ≤ 1000:=Nat.le_trans (secX_100 h) (by decide)
theorem le_tail {p k n m:Nat} (h:p + k = n) (hn:n ≤ m):k ≤ m:=by omega
theorem nlt_of {p k n:Nat} (h:p + k = n):¬ p + k < n:=by omega
theorem it_cut {l0:List Nat} (D:DL sp l false j c p "" false L st) (z:Sz l c) (hu:l.drop p = l0 ++ [38]) (hp:p ≤ l.length) (hst:(c.state != "data") = true) (hK:(c.last != "" && c.state != "PLAINTEXT") = true → 47 ∉ l0) (hr:c.state = "RCDATA") (hl1:l0.length ≤ 100) (hzz:(l0 ++ [38]).length ≤ 1000) :
  TurnC sp l false j "character reference" false dueB L st (secD c (rep l0) true) (p + (l0 ++ [38]).length):=by
 have hsec:=fun st => sec_cut (e:=false) (st:=st) (s8:=c.state) hK hzz hr rfl
 have flu:(c.state == "RCDATA" && Txt.contains (Txt.slice (stx (l0 ++ [38])) none (some ((l0 ++ [38]).length:Int))) "&") = true:=by
  have:=fl_eq c (l0 ++ [38]) []
  rw [List.append_nil] at this
  rw [this];unfold flC;rw [hr];simp
 intro K hK'
 refine it_open (u:=l0 ++ [38]) (X:=rep l0) (cut:=true) (fl:=true) (k:=(l0 ++ [38]).length) D z hu hp hst ?_ (rep_1000 hl1) ?_ hK'
 ·exact hsec
 ·exact flu
theorem it_whole (D:DL sp l e j c p "" false L st) (z:Sz l c) (hu:l.drop p = u) (hp:p ≤ l.length) (hst:(c.state != "data") = true) (hK:(c.last != "" && c.state != "PLAINTEXT") = true → 47 ∉ u) (hul:u.length ≤ 100) (hc:c.state ≠ "RCDATA" ∨ u.getLast? ≠ some 38 ∨ e = true) :
  TurnC sp l e j "" false dueB L st (secD c (secX c.state u) (flC c u)) (p + u.length):=by
 have hsec:=fun st => sec_open (e:=e) (st:=st) (s8:=c.state) hK (Nat.le_trans hul (by decide)) hc
 have flu:(c.state == "RCDATA" && Txt.contains (Txt.slice (stx u) none (some (u.length:Int))) "&") = flC c u:=by
  have:=fl_eq c u []
  rwa [List.append_nil] at this
 intro K hK'
 refine it_open (u:=u) (X:=secX c.state u) (cut:=false) (fl:=flC c u) (k:=u.length) D z hu hp hst ?_ (secX_1000 hul) ?_ hK'
 ·exact hsec
 ·exact flu
theorem loc_i {f:Locs → St → SK → Prop} {k:SK} {L:Locs} {st:St} (h:f L st k):(lopK f k).c L st:=h
theorem due_loop {K:SK} (hcp:∀ x ∈ l,x < 1114112) (hz:l.length ≤ 100):∀ (n:Nat) (u:List Nat) (p:Nat) (c:C) (L:Locs) (st:St) (fuel:Nat),u.length ≤ n → DL sp l e j c p "" false L st → l.drop p = u → p ≤ l.length → Inv sp p c → n < fuel →
  (∀ L' st' c' p' tl' w',DL sp l e j c' p' tl' w' L' st' → Left sp l e (runF sp (sgn u) p c) c' p' tl' w' → K.n L' st') → loopW lpC (wpSs dT dueB) fuel L st K:=by
 intro n
 induction n with
 | zero =>
  intro u p c L st fuel hn D hu hp I hf hK
  have:u = []:=by { cases u with | nil => rfl | cons a t => exact absurd hn (Nat.not_succ_le_zero _) }
  subst this
  have hlt:¬ p < l.length:=Nat.not_lt.mpr (List.drop_eq_nil_iff.mp hu)
  exact loop_f (cond_f1 D (by omega) hlt) hf (hK L st c p "" false D ⟨fun _ => ⟨rfl,rfl,rfl,rfl⟩,fun _ => ⟨rfl,rfl,rfl⟩,I.md,sz_of I hz hp,I.here⟩)
 | succ n ih =>
  intro u p c L st fuel hn D hu hp I hf hK
  obtain ⟨fuel,rfl⟩:∃ k,fuel = k + 1:=⟨fuel - 1,by omega⟩
  have hf0:0 < fuel:=Nat.lt_of_le_of_lt (Nat.zero_le _) (Nat.lt_of_succ_lt_succ hf)
  have z:=sz_of I hz hp
  cases u with
  | nil =>
   have hlt:¬ p < l.length:=Nat.not_lt.mpr (List.drop_eq_nil_iff.mp hu)
   exact loop_f (cond_f1 D z.l hlt) (Nat.succ_pos _) (hK L st c p "" false D ⟨fun _ => ⟨rfl,rfl,rfl,rfl⟩,fun _ => ⟨rfl,rfl,rfl⟩,I.md,z,I.here⟩)
  | cons a t =>
   have hlt:=drop_cons_lt hu
   have hct:=cond_t D z.l hlt
   have hul:p + (a :: t).length = l.length:=by
    have:=congrArg List.length hu
    rw [List.length_drop] at this;omega
   rcases I.good with ⟨hd,hm⟩ | ⟨hh,hhtml,hcl⟩
   ·cases hl:look sp c p (sgn (a :: t)) with
    | go k c1 =>
     obtain ⟨k1,k2⟩:=look_len hl
     refine loop_t hct (it_go D z hu hp hd hm I.here hcp hl _ fun L1 st1 D1 => lop_i ?_)
     exact ih ((a :: t).drop k) (p + k) c1 L1 st1 fuel (by rw [List.length_drop];omega) D1 (drop_more hu) (by omega) (inv_go I ⟨hd,hm⟩ hl) (Nat.lt_of_succ_lt_succ hf) fun L2 st2 c2 p2 tl2 w2 D2 lf => hK L2 st2 c2 p2 tl2 w2 D2 (by rw [runF_go hl,sgn_drop];exact lf)
    | stop c1 q =>
     rw [runF_stop hl] at hK
     cases e with
     | false =>
      obtain ⟨ht,ha,_⟩:=stop_q hd hl
      exact loop_t hct (it_stop D z hu hp hd hcp hl _ fun L1 st1 D1 => loc_i (loop_f (cond_f2 D1 z.l ht) hf0 (hK L1 st1 c1 _ _ _ D1 (left_stop hd hm I.here z hl ha))))
     | true =>
      obtain ⟨tn,hp2⟩:=it_fin D z hu hp hd hm I.here hcp hl
      obtain ⟨f1,f2,f3⟩:=fin_facts hd hm I.here I hz hp hl
      exact loop_t hct (tn _ fun L1 st1 D1 => lop_i (loop_f (cond_f1 D1 z.l (by rw [hp2];exact nlt_of hul)) hf0 (hK L1 st1 _ _ _ _ D1 ⟨fun h => (nomatch h),fun _ => ⟨rfl,rfl,rfl⟩,.inl f1,f3,f2⟩)))
   ·have hne:=held_data hh
    have hst:(c.state != "data") = true:=bne_iff_ne.mpr hne
    have ht:=turn_of hhtml
    have hzz:(a :: t).length ≤ 1000:=by omega
    by_cases hKK:(c.last != "" && c.state != "PLAINTEXT") = true ∧ 47 ∈ a :: t
    ·obtain ⟨hk,hmem⟩:=hKK
     obtain ⟨raw,post,heq,h47⟩:=List.eq_append_cons_of_mem hmem
     rw [heq] at hu hn hul hzz hK
     have hrl:raw.length ≤ 100:=by rw [List.length_append] at hul;omega
     have h1:1 < c.held.length:=by
      rcases hcl with h | h
      ·exact h
      ·rw [h] at hk;exact absurd hk (by simp)
     have hdr:l.drop (p + raw.length + 1) = post:=by
      rw [show p + raw.length + 1 = p + (raw.length + 1) from by omega,drop_more hu]
      rw [← List.drop_drop,List.drop_left];rfl
     refine loop_t hct (it_closed (k:=raw.length) D z hu hp hst (fun st => sec_closed (e:=e) (st:=st) hk h47 hzz) (secX_1000 hrl) (fl_eq c raw (47 :: post)) fun L1 st1 D1 => loc_i ?_)
     refine ih post (p + raw.length + 1) _ L1 st1 fuel (by rw [List.length_append,List.length_cons] at hn;omega) D1 hdr (by rw [List.length_append,List.length_cons] at hul;omega) (inv_close I h1 (secX c.state raw) (flC c raw) (by rw [secX_len];exact Nat.le_refl _)) (Nat.lt_of_succ_lt_succ hf) fun L2 st2 c2 p2 tl2 w2 D2 lf => hK L2 st2 c2 p2 tl2 w2 D2 ?_
     rw [held_all raw c p hne ht (fun _ => h47) (fun _ _ => ⟨47,post,rfl,by decide⟩),run_close (c:=secD c (secX c.state raw) (flC c raw)) hne hk]
     exact lf
    ·have hK':(c.last != "" && c.state != "PLAINTEXT") = true → 47 ∉ a :: t:=fun h hm => hKK ⟨h,hm⟩
     by_cases hr:c.state = "RCDATA" ∧ (a :: t).getLast? = some 38
     ·obtain ⟨hr,hlast⟩:=hr
      obtain ⟨l0,h0⟩:∃ l0,a :: t = l0 ++ [38]:=by
       rcases List.eq_nil_or_concat (a :: t) with h | ⟨l0,b,h⟩
       ·cases h
       ·rw [List.concat_eq_append] at h
        rw [h] at hlast
        simp at hlast
        exact ⟨l0,by rw [h,hlast]⟩
      have hK0:(c.last != "" && c.state != "PLAINTEXT") = true → 47 ∉ l0:=fun h hm => hK' h (by rw [h0];exact List.mem_append_left _ hm)
      have hflt:flC c (l0 ++ [38]) = true:=by unfold flC;rw [hr];simp
      have hrun:runF sp (sgn (l0 ++ [38])) p c = (setBack (secD c (secX c.state l0) (flC c l0)) "RCDATA",p + l0.length,.amp):=by
       rw [held_all l0 c p hne ht hK0 (fun _ _ => ⟨38,[],rfl,by decide⟩),run_amp (c:=secD c (secX c.state l0) (flC c l0)) hr]
      have hl0:(l0 ++ [38]).length = l0.length + 1:=List.length_append
      have hl1:l0.length ≤ 100:=by rw [h0] at hul;omega
      rw [h0] at hu hul hK' hzz hK
      rw [hrun] at hK
      cases e with
      | false =>
       have hsx:secX c.state l0 = rep l0:=by unfold secX;rw [if_pos hr]
       rw [hsx] at hK
       exact loop_t hct (it_cut D z hu hp hst hK0 hr hl1 hzz _ fun L1 st1 D1 => loc_i (loop_f (cond_f2 D1 z.l (by decide +kernel)) hf0 (hK L1 st1 _ _ _ _ D1 ⟨fun _ => ⟨rfl,by rw [hl0];rfl,rfl,rfl⟩,fun h => (nomatch h),I.md,sz_sec I hz hp (rep_100 hl1) _,I.here⟩)))
      | true =>
       have hsx:secX c.state (l0 ++ [38]) = secX c.state l0 ++ [38]:=by unfold secX;rw [if_pos hr,if_pos hr,rep_snoc _ _ (Nat.le_refl _)]
       refine loop_t hct (it_whole D z hu hp hst hK' (le_tail hul hz) (.inr (.inr rfl)) _ fun L1 st1 D1 => loc_i (loop_f (cond_f1 D1 z.l (nlt_of hul)) hf0 (hK L1 st1 _ _ _ _ D1 ⟨fun h => (nomatch h),fun _ => ⟨?_,rfl,rfl⟩,I.md,sz_sec I hz hp (secX_100 (le_tail hul hz)) _,I.here⟩)))
       show _ = ((setBack (secD c (secX c.state l0) (flC c l0)) "RCDATA").char sp "&",p + l0.length + 1)
       rw [char_38 ht _ _ (flC c (l0 ++ [38])) hflt,hsx,hl0];rfl
     ·have hc3:c.state ≠ "RCDATA" ∨ (a :: t).getLast? ≠ some 38 ∨ e = true:=by
       by_cases h:c.state = "RCDATA"
       ·exact .inr (.inl fun h2 => hr ⟨h,h2⟩)
       ·exact .inl h
      have hrun:runF sp (sgn (a :: t)) p c = (secD c (secX c.state (a :: t)) (flC c (a :: t)),p + (a :: t).length,.non):=by
       have:=held_all (post:=[]) (a :: t) c p hne ht hK' (fun h h2 => absurd ⟨h,h2⟩ hr)
       rw [List.append_nil] at this
       rw [this];rfl
      rw [hrun] at hK
      exact loop_t hct (it_whole D z hu hp hst hK' (le_tail hul hz) hc3 _ fun L1 st1 D1 => loc_i (loop_f (cond_f1 D1 z.l (nlt_of hul)) hf0 (hK L1 st1 _ _ _ _ D1 ⟨fun _ => ⟨rfl,rfl,rfl,rfl⟩,fun _ => ⟨rfl,rfl,rfl⟩,I.md,sz_sec I hz hp (secX_100 (le_tail hul hz)) _,I.here⟩)))
end
end
section
open PySem.Builtin PySem.Builtin.Str
set_option maxRecDepth 100000
set_option maxHeartbeats 2000000
section
variable {st st1:St} {sp:Str × Str} {l u t:List Nat} {e w:Bool} {c c':C} {p k a j:Nat} {tl:Str} {L L1:Locs} {K:SK}
theorem eof_text (hm:c.mode = "text"):c.eof = { c with out:=c.out ++ [tEof],notes:=c.notes ++ [.tuple [.str "text",tEof]] ++ [.tuple [.str "in body",tEof]],held:=c.held.dropLast,mode:="in body" }:=by
 unfold C.eof;rw [hm];rfl
theorem eof_body (hm:c.mode = "in body"):c.eof = { c with out:=c.out ++ [tEof],notes:=c.notes ++ [.tuple [.str "in body",tEof]],mode:="in body" }:=by
 unfold C.eof C.put;rw [hm]
 obtain ⟨a1,a2,a3,a4,a5,a6,a7,a8,a9⟩:=c
 simp only at hm;subst hm;rfl
theorem eof_walk (D:DL sp l true j c p tl w L st) (z:Sz l c) (hm:c.mode = "in body" ∨ c.mode = "text"):TurnN sp l true j tl w eofB L st c.eof (p + 1):=by
 intro K hK
 obtain ⟨n,m,l1,l2,M⟩:=D.mem
 have zh:(c.held.map pairD).length ≤ bigLen:=by rw [List.length_map];exact big1 z.h
 refine appA_i M l1 (d:=tEof) (fun K hK => hK) (Nat.lt_of_le_of_lt z.o (by decide)) fun st1 M1 => ?_
 refine appB_i M1 l2 (d:=.tuple [.str c.mode,tEof]) (fun K hK => opt_i D.mode hK) (Nat.lt_of_le_of_lt z.n (by decide)) fun st2 M2 => ?_
 refine ifs_i (q:=c.mode == "text") (fun K hK => opt_i D.mode hK) (fun q => ?_) fun q => ?_
 ·have hm':=eq_of_beq q
  rw [eof_text hm'] at hK
  rw [hm'] at M2
  refine asg_i (v:=.d (.list (c.held.map pairD).dropLast)) (fun K hK => opt_i D.held (ifc_t (decide_eq_true zh) hK)) ?_
  refine appB_i M2 l2 (d:=.tuple [.str "in body",tEof]) (fun K hK => hK) (by rw [List.length_append];exact Nat.lt_of_le_of_lt (Nat.add_le_add_right z.n 1) (by decide)) fun st3 M3 => nil_i ?_
  refine asgT_i (xs:=[.int ((p:Int) + 1),.str "in body"]) (fun K hK => opt_i D.hat hK) rfl ?_
  exact hK _ _ ⟨⟨n,m,l1,l2,M3⟩,congrArg (fun v => some (AV.d (.list v))) List.map_dropLast.symm,D.errs,rfl,D.last,D.back,rfl,D.state,D.tail,D.wait,D.spot,D.text,D.ended⟩
 ·have hm':c.mode = "in body":=hm.elim id fun h => absurd (h ▸ q:(("text":Str) == "text") = false) (by decide +kernel)
  rw [eof_body hm'] at hK
  rw [hm'] at M2
  refine nil_i ?_
  refine asgT_i (xs:=[.int ((p:Int) + 1),.str "in body"]) (fun K hK => opt_i D.hat hK) rfl ?_
  exact hK _ _ ⟨⟨n,m,l1,l2,M2⟩,D.held,D.errs,rfl,D.last,D.back,rfl,D.state,D.tail,D.wait,D.spot,D.text,D.ended⟩
noncomputable def dueR (sp:Str × Str) (c:C) (p:Nat) (tl:Str) (w e:Bool):PyData :=
 seenT c.out c.errs c.notes (c.held.map pairD) (p:Int) (bif tl != "" then tl else c.state) c.back c.last c.mode "" ((c.here sp).1 != "html") w e e
noncomputable abbrev sevE:ME:=(.ite (.cmp .neS (.v 200) (.lit (.str ""))) (.v 200) (.v 193))
theorem datas_c {f:AV → Option PyData} {x:AV} {r:List AV} {y:PyData} {ys:List PyData} (h:f x = some y) (h2:datas f r = some ys):datas f (x :: r) = some (y :: ys):=by
 show oSome none (fun y => oSome none (fun ys => some (y :: ys)) (datas f r)) (f x) = _
 rw [h,h2]
theorem data_loc {n:Nat} {A:List PyData} (h:st.get n = some (.dl A)):AV.data0 st (.loc n) = some (.list A):=by
 show oSome none (oDl none fun xs => some (PyData.list xs)) (st.get n) = _
 rw [h]
noncomputable abbrev endR:MSs:=(.cons (.assign 93 hereE) (.cons (.assign 67 (.tup (.cons (.v 150) (.cons (.v 79) (.cons (.v 41) (.cons sevE (.cons (.v 44) (.cons (.v 128) (.cons (.cmp .neS (.idx .tup (.v 93) (.lit (.int 0))) (.lit (.str "html"))) (.cons (.v 122) (.cons (.v 105) .nil))))))))))) (.cons (.ret (.bin .addT (.v 67) (.tup (.cons (.v 146) (.cons (.v 92) (.cons (.v 137) (.cons (.lit (.str "")) (.cons (.v 105) .nil)))))))) .nil)))
theorem end_walk (D:DL sp l e j c p tl w L st) (z:c.held.length ≤ 1000) (hK:∀ v,v.ge 0 = true → v.data st = some (dueR sp c p tl w e) → st.jb = j → K.r v st):wpSs dT endR L st K:=by
 obtain ⟨n,m,l1,l2,M⟩:=D.mem
 have key:HasV dT sevE ((93,.d (pairD (c.here sp))) :: L) st (.d (.str (bif tl != "" then tl else c.state))):=by
  intro K hK
  refine opt_i D.tail ?_
  cases q:(tl != "") with
  | true => rw [q] at hK;exact ifc_t q (opt_i D.tail hK)
  | false => rw [q] at hK;exact ifc_f q (opt_i D.state hK)
 refine asg_i (here_ev D z) ?_
 refine asg_i (v:=.tup [.loc n,.d (.list c.errs),.d (.int (p:Int)),.d (.str (bif tl != "" then tl else c.state)),.d (.str c.back),.d (.str c.last),.d (.bool ((c.here sp).1 != "html")),.d (.bool w),.d (.bool e)]) (fun K hK => opt_i l1 (opt_i D.errs (opt_i D.hat (key _ (opt_i D.back (opt_i D.last (opt_i D.wait (opt_i D.ended hK)))))))) ?_
 refine ret_i (v:=.tup [.loc n,.d (.list c.errs),.d (.int (p:Int)),.d (.str (bif tl != "" then tl else c.state)),.d (.str c.back),.d (.str c.last),.d (.bool ((c.here sp).1 != "html")),.d (.bool w),.d (.bool e),.loc m,.d (.list (c.held.map pairD)),.d (.str c.mode),.d (.str ""),.d (.bool e)]) (fun K hK => opt_i l2 (opt_i D.held (opt_i D.mode (opt_i D.ended hK)))) ?_
 refine hK _ rfl ?_ M.jb
 have q:datas (AV.data0 st) [.loc n,.d (.list c.errs),.d (.int (p:Int)),.d (.str (bif tl != "" then tl else c.state)),.d (.str c.back),.d (.str c.last),.d (.bool ((c.here sp).1 != "html")),.d (.bool w),.d (.bool e),.loc m,.d (.list (c.held.map pairD)),.d (.str c.mode),.d (.str ""),.d (.bool e)] = some _:=datas_c (data_loc M.a) (datas_c rfl (datas_c rfl (datas_c rfl (datas_c rfl (datas_c rfl (datas_c rfl (datas_c rfl (datas_c rfl (datas_c (data_loc M.b) rfl)))))))))
 show oSome none (fun ys => some (PyData.tuple ys)) (datas (AV.data0 st) _) = _
 rw [q];rfl
end
end
section
open PySem.Builtin PySem.Builtin.Str
set_option maxRecDepth 100000
set_option maxHeartbeats 2000000
section
variable {st st1:St} {sp:Str × Str} {l u t:List Nat} {e w:Bool} {c c':C} {p k a j:Nat} {tl kd:Str} {L L1:Locs}
noncomputable def C0 (kd:Str):C:={ held:=[htmlP],out:=[],errs:=[],notes:=[],pos:=0,last:="",back:="data",mode:="in body",state:=kd }
noncomputable def dueV (sp:Str × Str) (l:List Nat) (kd:Str) (e:Bool):PyData :=
 if e = true then dueR sp (finP sp (runF sp (sgn l) 0 (C0 kd))).1.eof ((finP sp (runF sp (sgn l) 0 (C0 kd))).2 + 1) "" false true
 else dueR sp (runF sp (sgn l) 0 (C0 kd)).1 ((runF sp (sgn l) 0 (C0 kd)).2.1 + adS (runF sp (sgn l) 0 (C0 kd)).2.2) (tlS (runF sp (sgn l) 0 (C0 kd)).2.2) (wtS (runF sp (sgn l) 0 (C0 kd)).2.2) false
noncomputable abbrev du0 (l:List Nat) (sp:Str × Str) (kd:Str) (e:Bool):Locs:=[(105,.d (.bool e)),(126,.d (.str kd)),(189,.d (pairD sp)),(202,.d (.str (stx l)))]
theorem cut0 {f:St → Prop} (h:st.jb = j) (hf:f ⟨[],0,j⟩):st.cut 0 f:=by
 have e:st.objs.filter (fun p => Nat.blt p.1 0) = []:=List.filter_eq_nil_iff.mpr fun p _ h => nomatch h
 unfold St.cut
 rw [e]
 exact nd_i (h ▸ hf)
theorem due_val (hcp:∀ x ∈ l,x < 1114112) (hz:l.length ≤ 100) (I:Inv sp 0 (C0 kd)):Does f__law_due [.d (.str (stx l)),spotA sp,.d (.str kd),.d (.bool e)] ⟨[],0,j⟩ (.d (dueV sp l kd e)) ⟨[],0,j⟩:=by
 intro K hK
 refine run_qf (L:=du0 l sp kd e) (by with_unfolding_all rfl) rfl ?_
 rw [dueX_eq]
 refine asg_i (v:=.d (.list [pairD htmlP])) (fun K hK => hK) ?_
 refine nd_i ?_
 refine asg_i (v:=.d (.list [])) (fun K hK => hK) ?_
 refine nd_i ?_
 refine asgT_i (xs:=[.int 0,.str "",.str "data",.str "in body",.str kd,.str "",.bool false]) (fun K hK => hK) rfl ?_
 refine whl_i ?_
 have M:Mem ⟨[(1,.dl []),(0,.dl [])],2,j⟩ 0 1 [] [] j:=⟨rfl,rfl,by decide,show 0 < 2 by decide,show 1 < 2 by decide,rfl⟩
 refine due_loop hcp hz l.length l 0 (C0 kd) _ _ 1000 (Nat.le_refl _) ⟨⟨0,1,rfl,rfl,M⟩,rfl,rfl,rfl,rfl,rfl,rfl,rfl,rfl,rfl,rfl,rfl,rfl⟩ rfl (Nat.zero_le _) I (Nat.lt_of_le_of_lt hz (by decide)) fun L1 st1 c1 p1 tl1 w1 D1 lf => ?_
 unfold dueV at hK
 cases e with
 | false =>
  obtain ⟨e1,e2,e3,e4⟩:=lf.op rfl
  rw [if_neg (by decide),← e1,← e2,← e3,← e4] at hK
  refine ifs_i (q:=false) (fun K hK => opt_i D1.ended hK) (fun e => nomatch e) fun _ => nil_i ?_
  exact end_walk D1 lf.z.h fun v g d hj => ifc_t g (opt_i d (cut0 hj hK))
 | true =>
  obtain ⟨e1,e2,e3⟩:=lf.fi rfl
  rw [if_pos rfl,← e1] at hK
  subst e2 e3
  refine ifs_i (q:=true) (fun K hK => opt_i D1.ended hK) (fun _ => ?_) fun e => nomatch e
  refine eof_walk D1 lf.z lf.md _ fun L3 st3 D3 => ?_
  have z3:c1.eof.held.length ≤ 1000:=by
   have zh:=lf.z.h
   rcases lf.md with hm | hm
   ·rw [eof_body hm];exact zh
   ·rw [eof_text hm];exact Nat.le_trans (by rw [List.length_dropLast];exact Nat.sub_le ..) zh
  exact end_walk D3 z3 fun v g d hj => ifc_t g (opt_i d (cut0 hj hK))
end
end
section
open PySem.Builtin PySem.Builtin.Str
set_option maxRecDepth 100000
set_option maxHeartbeats 2000000
section
variable {sp:Str × Str} {u t:List Str} {c c':C} {p k:Nat} {q:Pend}
abbrev okStr (x:Str):Prop:=PyData.canLay0 (.str x) = true
def okD (n:Nat) (d:PyData):Prop:=d.canLay0 = true ∧ d.depth ≤ n
theorem lay_all:∀ xs:List PyData,(∀ x ∈ xs,x.canLay0 = true) → PyData.canLayAll0 xs = true
  | [],_ => rfl
  | x :: xs,h => by
    simp only [PyData.canLayAll0,Bool.and_eq_true]
    exact ⟨h x (by simp),lay_all xs fun y hy => h y (by simp [hy])⟩
theorem depth_all {n:Nat}:∀ xs:List PyData,(∀ x ∈ xs,x.depth ≤ n) → PyData.depthAll xs ≤ n
  | [],_ => by simp [PyData.depthAll]
  | x :: xs,h => by
    simp only [PyData.depthAll]
    have h1:=h x (by simp)
    have h2:=depth_all xs fun y hy => h y (by simp [hy])
    omega
theorem okD_list {n:Nat} {xs:List PyData} (h:∀ x ∈ xs,okD n x):okD (n + 1) (.list xs):=by
 refine ⟨by simp only [PyData.canLay0];exact lay_all xs fun x hx => (h x hx).1,?_⟩
 simp only [PyData.depth]
 have:=depth_all xs fun x hx => (h x hx).2
 omega
theorem okD_tuple {n:Nat} {xs:List PyData} (h:∀ x ∈ xs,okD n x):okD (n + 1) (.tuple xs):=by
 refine ⟨by simp only [PyData.canLay0];exact lay_all xs fun x hx => (h x hx).1,?_⟩
 simp only [PyData.depth]
 have:=depth_all xs fun x hx => (h x hx).2
 omega
theorem okD_str {n:Nat} {x:Str} (h:okStr x):okD n (.str x):=⟨h,by simp [PyData.depth]⟩
theorem okD_int {n:Nat} {x:Int}:okD n (.int x):=⟨rfl,by simp [PyData.depth]⟩
theorem okD_bool {n:Nat} {x:Bool}:okD n (.bool x):=⟨rfl,by simp [PyData.depth]⟩
theorem okD_mono {n m:Nat} {d:PyData} (h:okD n d) (hm:n ≤ m):okD m d:=⟨h.1,Nat.le_trans h.2 hm⟩
structure OkC (sp:Str × Str) (c:C):Prop where
 out:∀ d ∈ c.out,okD 3 d
 errs:∀ d ∈ c.errs,okD 3 d
 notes:∀ d ∈ c.notes,okD 4 d
 held:∀ z ∈ c.held,okStr z.1 ∧ okStr z.2
 last:okStr c.last
 back:okStr c.back
 mode:okStr c.mode
 state:okStr c.state
 sp:okStr sp.1
theorem mem_snoc {α:Type} {x y:α} {l:List α} (h:x ∈ l ++ [y]):x ∈ l ∨ x = y:=by
 rcases List.mem_append.mp h with h | h
 ·exact .inl h
 ·exact .inr (by simpa using h)
theorem okc_put (H:OkC sp c) {m:Str} (hm:okStr m) {t:PyData} (ht:okD 3 t):OkC sp (c.put m t):=by
 refine ⟨fun d hd => ?_,H.errs,fun d hd => ?_,H.held,H.last,H.back,H.mode,H.state,H.sp⟩
 ·rcases mem_snoc hd with h | rfl
  ·exact H.out d h
  ·exact ht
 ·rcases mem_snoc hd with h | rfl
  ·exact H.notes d h
  ·exact okD_tuple fun x hx => by
    simp only [List.mem_cons,List.not_mem_nil,or_false] at hx
    rcases hx with rfl | rfl
    ·exact okD_str hm
    ·exact ht
theorem okc_rule (H:OkC sp c) (kd:Str):okStr (c.rule sp kd):=by
 unfold C.rule
 cases turnC (c.here sp) kd with
 | true => exact H.mode
 | false => exact (by decide +kernel:okStr "foreign content")
theorem ok_char {x:Str} (h:okStr x):okD 3 (tChar x):=okD_mono (okD_tuple (n:=0) fun y hy => by
 simp only [List.mem_cons,List.not_mem_nil,or_false] at hy
 rcases hy with rfl | rfl
 ·exact okD_str (by decide +kernel)
 ·exact okD_str h) (by decide)
theorem ok_com {x:Str} (h:okStr x):okD 3 (tCom x):=okD_mono (okD_tuple (n:=0) fun y hy => by
 simp only [List.mem_cons,List.not_mem_nil,or_false] at hy
 rcases hy with rfl | rfl
 ·exact okD_str (by decide +kernel)
 ·exact okD_str h) (by decide)
theorem ok_tag {k x:Str} (hk:okStr k) (h:okStr x):okD 3 (.tuple [.str k,.str x,.tuple [],.bool false]):=okD_mono (okD_tuple (n:=1) fun y hy => by
 simp only [List.mem_cons,List.not_mem_nil,or_false] at hy
 rcases hy with rfl | rfl | rfl | rfl
 ·exact okD_str hk
 ·exact okD_str h
 ·exact okD_tuple fun z hz => nomatch hz
 ·exact okD_bool) (by decide)
theorem ok_eof:okD 3 tEof:=okD_mono (okD_tuple (n:=0) fun y hy => by
 simp only [List.mem_cons,List.not_mem_nil,or_false] at hy
 subst hy
 exact okD_str (by decide +kernel)) (by decide)
theorem okc_char (H:OkC sp c) {x:Str} (h:okStr x):OkC sp (c.char sp x):=okc_put H (okc_rule H _) (ok_char h)
theorem okc_com (H:OkC sp c) {x:Str} (h:okStr x):OkC sp (c.com sp x):=okc_put H (okc_rule H _) (ok_com h)
theorem okc_back (H:OkC sp c) {x:Str} (h:okStr x):OkC sp (setBack c x):=⟨H.out,H.errs,H.notes,H.held,H.last,h,H.mode,H.state,H.sp⟩
theorem okc_two (H:OkC sp c):OkC sp (two sp c):=okc_char (okc_char H (by decide +kernel)) (by decide +kernel)
theorem okc_err (H:OkC sp c) {x:Str} (h:okStr x) (p:Nat):OkC sp (c.err x p):=by
 refine ⟨H.out,fun d hd => ?_,H.notes,H.held,H.last,H.back,H.mode,H.state,H.sp⟩
 rcases mem_snoc hd with h1 | rfl
 ·exact H.errs d h1
 ·exact okD_mono (okD_tuple (n:=0) fun y hy => by
   simp only [List.mem_cons,List.not_mem_nil,or_false] at hy
   rcases hy with rfl | rfl
   ·exact okD_str h
   ·exact okD_int) (by decide)
theorem okc_leave (H:OkC sp c) (n:Str):OkC sp (c.leave n):=by
 unfold C.leave
 cases (decide (1 < c.held.length) && ((c.held.getLast?.getD ("","")).2 == n)) with
 | false => exact H
 | true => exact ⟨H.out,H.errs,H.notes,fun z hz => H.held z ((List.dropLast_sublist _).subset hz),H.last,H.back,H.mode,H.state,H.sp⟩
theorem okc_end (H:OkC sp c) {n:Str} (h:okStr n):OkC sp (c.endT sp n):=okc_leave (okc_put H (okc_rule H _) (ok_tag (by decide +kernel) h)) n
theorem okc_here (H:OkC sp c):okStr (c.here sp).1:=by
 unfold C.here
 split
 ·cases h:c.held.getLast? with
  | none => exact H.sp
  | some q => exact (H.held q (List.mem_of_getLast? h)).1
 ·exact H.sp
theorem okc_startT (H:OkC sp c) {m x n s md:Str} (hm:okStr m) (hx:okStr x) (hn:okStr n) (hs:okStr s) (hd:okStr md):OkC sp (c.startT m x n s md):=by
 have P:=okc_put H hm (ok_tag (k:="start") (by decide +kernel) hn)
 refine ⟨P.out,H.errs,P.notes,fun z hz => ?_,hn,H.back,hd,hs,H.sp⟩
 rcases mem_snoc hz with h1 | rfl
 ·exact H.held z h1
 ·exact ⟨hx,hn⟩
theorem okc_start (H:OkC sp c) {n:Str} (hn:n ∈ startN):OkC sp (c.start sp n):=by
 have h1:okStr n ∧ okStr (spaceOf n) ∧ okStr (rawOf n) ∧ okStr (modeOf (rawOf n)):=by
  unfold startN at hn
  simp only [List.mem_cons,List.not_mem_nil,or_false] at hn
  rcases hn with rfl | rfl | rfl | rfl | rfl | rfl | rfl | rfl <;> exact ⟨by decide +kernel,by decide +kernel,by decide +kernel,by decide +kernel⟩
 unfold C.start
 cases turnC (c.here sp) "start" with
 | true => exact okc_startT H (by decide +kernel) h1.2.1 h1.1 h1.2.2.1 h1.2.2.2
 | false => exact okc_startT H (by decide +kernel) (okc_here H) h1.1 H.state H.mode
theorem okc_close (H:OkC sp c):OkC sp c.close:=by
 have P:=okc_put H (m:="text") (by decide +kernel) (ok_tag (k:="end") (by decide +kernel) H.last)
 exact ⟨P.out,H.errs,P.notes,fun z hz => H.held z ((List.dropLast_sublist _).subset hz),H.last,H.back,(by decide +kernel:okStr "in body"),(by decide +kernel:okStr "data"),H.sp⟩
theorem okc_eof (H:OkC sp c):OkC sp c.eof:=by
 unfold C.eof
 cases (c.mode == "text") with
 | false => exact okc_put H (by decide +kernel) ok_eof
 | true =>
  have P:=okc_put (okc_put H (m:="text") (by decide +kernel) ok_eof) (m:="in body") (by decide +kernel) ok_eof
  have P1:=okc_put H (m:="text") (by decide +kernel) ok_eof
  exact ⟨P1.out,H.errs,P.notes,fun z hz => H.held z ((List.dropLast_sublist _).subset hz),H.last,H.back,(by decide +kernel:okStr "in body"),H.state,H.sp⟩
theorem ends_ok {x m:Str} (h:strD endsD x = some m):okStr m:=by
 have:=strD_look h
 exact of_decide_eq_true (lk_all (l:=endsD) (p:=onD false (oStr false fun m => decide (okStr m))) (by decide +kernel) this)
noncomputable def stC:St1 → C | .stop c _ => c | .go _ c => c
theorem okc_look (H:OkC sp c) (hu:∀ x ∈ u,okStr x):OkC sp (stC (look sp c p u)):=by
 have d1:okStr "data":=by decide +kernel
 have d2:okStr "RCDATA":=by decide +kernel
 have d3:okStr "&":=by decide +kernel
 have d4:okStr "<":=by decide +kernel
 have d5:okStr "":=by decide +kernel
 have d6:okStr "cdata-in-html-content":=by decide +kernel
 have d7:okStr "[CDATA[":=by decide +kernel
 have d8:okStr "unexpected-null-character":=by decide +kernel
 unfold look
 split
 ·exact H
 ·rename_i a t
  have ha:=hu a (by simp)
  split
  ·split
   ·split
    ·exact okc_back H d1
    ·split
     ·exact okc_two (okc_back H d1)
     ·exact okc_char (okc_back H d1) d3
   ·split
    ·split
     ·exact H
     ·split
      ·split
       ·exact H
       ·split
        ·show OkC sp (cdata sp c (p + 2))
         unfold cdata
         split
         ·exact okc_two H
         ·exact okc_com (okc_err H d6 _) d7
        ·exact okc_com H d5
      ·split
       ·rename_i hn;exact okc_start H (names_mem hn)
       ·split
        ·rename_i hn;exact okc_end H (ends_ok hn)
        ·exact okc_char H d4
    ·show OkC sp (plain sp c p a)
     unfold plain
     split
     ·exact okc_char (okc_err H d8 _) ha
     ·exact okc_char H ha
  ·split
   ·exact okc_close H
   ·split
    ·split
     ·exact okc_back H d2
     ·split
      ·exact okc_two (okc_back H d2)
      ·exact okc_char (okc_back H d2) d3
    ·exact okc_char H ha
theorem okc_run:∀ (n:Nat) (u:List Str) (p:Nat) (c:C),u.length ≤ n → OkC sp c → (∀ x ∈ u,okStr x) → OkC sp (runF sp u p c).1:=by
 intro n
 induction n with
 | zero =>
  intro u p c h H hu
  have:u = []:=by { cases u with | nil => rfl | cons a t => simp at h }
  subst this;exact H
 | succ n ih =>
  intro u p c h H hu
  have hl0:=okc_look (p:=p) H hu
  cases hl:look sp c p u with
  | go k c' =>
   obtain ⟨k1,k2,_⟩:=look_go hl
   rw [hl] at hl0
   rw [runF_go hl]
   exact ih _ _ _ (by rw [List.length_drop];omega) hl0 fun x hx => hu x (List.mem_of_mem_drop hx)
  | stop c' q =>
   rw [hl] at hl0
   rw [runF_stop hl];exact hl0
theorem okc_fin {R:C × Nat × Pend} (H:OkC sp R.1):OkC sp (finP sp R).1:=by
 obtain ⟨c,p,q⟩:=R
 cases q with
 | non => exact H
 | lt => exact okc_char H (by decide +kernel)
 | bang => exact okc_com H (by decide +kernel)
 | amp => exact okc_char H (by decide +kernel)
theorem dueR_ok (H:OkC sp c) {tl:Str} (ht:okStr tl) {w e:Bool}:SeqAt.shaped (dueR sp c p tl w e) = true:=by
 have h:okD 6 (dueR sp c p tl w e):=by
  unfold dueR seenT
  refine okD_tuple fun x hx => ?_
  simp only [List.mem_cons,List.not_mem_nil,or_false] at hx
  rcases hx with rfl | rfl | rfl | rfl | rfl | rfl | rfl | rfl | rfl | rfl | rfl | rfl | rfl | rfl
  ·exact okD_mono (okD_list H.out) (by decide)
  ·exact okD_mono (okD_list H.errs) (by decide)
  ·exact okD_int
  ·exact okD_str (by cases (tl != "") with | true => exact ht | false => exact H.state)
  ·exact okD_str H.back
  ·exact okD_str H.last
  ·exact okD_bool
  ·exact okD_bool
  ·exact okD_bool
  ·exact okD_list H.notes
  ·refine okD_mono (okD_list (n:=1) fun y hy => ?_) (by decide)
   obtain ⟨z,hz,rfl⟩:=List.mem_map.mp hy
   obtain ⟨h1,h2⟩:=H.held z hz
   exact okD_tuple fun v hv => by
    simp only [List.mem_cons,List.not_mem_nil,or_false] at hv
    rcases hv with rfl | rfl
    ·exact okD_str h1
    ·exact okD_str h2
  ·exact okD_str H.mode
  ·exact okD_str (by decide +kernel)
  ·exact okD_bool
 unfold SeqAt.shaped
 rw [Bool.and_eq_true]
 exact ⟨h.1,decide_eq_true (Nat.le_trans h.2 (by decide))⟩
theorem tlS_ok (q:Pend):okStr (tlS q):=by cases q <;> decide +kernel
theorem dueV_ok {l:List Nat} {kd:Str} {e:Bool} (hcp:∀ x ∈ l,x < 1114112) (hk:okStr kd) (hs:okStr sp.1):SeqAt.shaped (dueV sp l kd e) = true:=by
 have H0:OkC sp (C0 kd):=⟨fun d hd => (nomatch hd),fun d hd => (nomatch hd),fun d hd => (nomatch hd),fun z hz => by
  have:z = htmlP:=by simpa [C0] using hz
  rw [this];exact ⟨by decide +kernel,by decide +kernel⟩,(by decide +kernel:okStr ""),(by decide +kernel:okStr "data"),(by decide +kernel:okStr "in body"),hk,hs⟩
 have H:=okc_run (sp:=sp) (sgn l).length (sgn l) 0 (C0 kd) (Nat.le_refl _) H0 fun x hx => by
  obtain ⟨a,ha,rfl⟩:=List.mem_map.mp hx
  exact lay_stx (u:=[a]) fun c hc => by
   have:c = a:=by simpa using hc
   rw [this];exact hcp a ha
 unfold dueV
 split
 ·exact dueR_ok (okc_eof (okc_fin H)) (by decide +kernel)
 ·exact dueR_ok H (tlS_ok _)
theorem ne_self {a b:AV} {d:PyData} {st:St} {K:Bool → Prop} (h1:a.data st = some d) (h2:b.data st = some d) (hs:SeqAt.shaped d = true) (hK:K false):Mine.eqD a b st fun r => K !r:=by
 unfold Mine.eqD
 rw [h1,h2]
 refine ifc_t (show (SeqAt.shaped d && SeqAt.shaped d) = true by rw [hs];rfl) ?_
 show K !(PyData.eqv d d)
 rw [SeqAt.eqv_refl d (SeqAt.canLay_of_shaped hs)]
 exact hK
end
end
section
open PySem.Builtin PySem.Builtin.Str
set_option maxRecDepth 100000
set_option maxHeartbeats 2000000
section
variable {s s1 s2:S} {sp:Str × Str} {c c':C} {sg sg':List Str} {cl:Bool} {st bk kd:Str} {ix p k n:Nat} {q:Pend} {l:List Nat} {u:List Str}
theorem sm_look (h:Sm n c):Sm (n + 2) (stC (look sp c p u)):=by
 unfold look
 split
 ·exact sm_mono h (by omega)
 ·rename_i a t
  split
  ·split
   ·split
    ·exact sm_mono (sm_back h _) (by omega)
    ·split
     ·exact sm_two (sm_back h _)
     ·exact sm_mono (sm_char (sm_back h _) _) (by omega)
   ·split
    ·split
     ·exact sm_mono h (by omega)
     ·split
      ·split
       ·exact sm_mono h (by omega)
       ·split
        ·exact sm_cdata h _
        ·exact sm_mono (sm_com h _) (by omega)
      ·split
       ·exact sm_mono (sm_start h _) (by omega)
       ·split
        ·exact sm_mono (sm_end h _) (by omega)
        ·exact sm_mono (sm_char h _) (by omega)
    ·exact sm_plain h _ _
  ·split
   ·exact sm_mono (sm_close h) (by omega)
   ·split
    ·split
     ·exact sm_mono (sm_back h _) (by omega)
     ·split
      ·exact sm_two (sm_back h _)
      ·exact sm_mono (sm_char (sm_back h _) _) (by omega)
    ·exact sm_mono (sm_char h _) (by omega)
theorem sm_run:∀ (m:Nat) (u:List Str) (p n:Nat) (c:C),u.length ≤ m → Sm n c → Sm (n + 2 * m + 2) (runF sp u p c).1:=by
 intro m
 induction m with
 | zero =>
  intro u p n c h H
  have:u = []:=by { cases u with | nil => rfl | cons a t => simp at h }
  subst this;exact sm_mono H (by omega)
 | succ m ih =>
  intro u p n c h H
  have hl0:=sm_look (sp:=sp) (p:=p) (u:=u) H
  cases hl:look sp c p u with
  | go k c' =>
   obtain ⟨k1,k2,_⟩:=look_go hl
   rw [hl] at hl0
   rw [runF_go hl]
   exact sm_mono (ih _ _ _ _ (by rw [List.length_drop];omega) hl0) (by omega)
  | stop c' q =>
   rw [hl] at hl0
   rw [runF_stop hl];exact sm_mono hl0 (by omega)
noncomputable abbrev RR1 (sp:Str × Str) (kd:Str) (l:List Nat) (k:Nat):C × Nat × Pend:=runF sp (sgn (l.take k)) 0 (C0 kd)
noncomputable abbrev frn1 (sp:Str × Str) (c:C):Bool:=(c.here sp).1 != "html"
structure At1 (J:Nat) (sp:Str × Str) (kd:Str) (l:List Nat) (k:Nat) (s:S):Prop where
 rest:Rests J sp (sgn (l.take k)) (RR1 sp kd l k) (s.frn_ (frn1 sp (RR1 sp kd l k).1))
theorem conf_feed {v:List Str} (K:Conf J sp sg cl c s st ix bk) (hsg:sg' = sg ++ v) (hz:sg'.length ≤ 22) (e:s1 = { s with signs:=s.signs ++ v.map .str,serrs:=s1.serrs,ret:=s1.ret,wait:=false }) (er:s1.ret = false) (ee:s1.serrs.length ≤ s.serrs.length + v.length):Conf J sp sg' cl c s1 st ix bk:=by
 have hx:=K.ixz
 have hse:=K.se
 refine ⟨K.B.same rfl rfl rfl (by rw [e]),by rw [e];exact K.out,by rw [e];exact K.errs,by rw [e];exact K.last,by rw [e];exact K.frn,by rw [e];exact K.state,by rw [e];exact K.hix,by rw [e];exact K.hback,by rw [e];exact K.done,?_,by rw [e];exact K.closed,hz,by rw [hsg,List.length_append];omega,er,by rw [hsg,List.length_append];omega,by rw [e];exact K.jj⟩
 rw [e];show s.signs ++ v.map .str = _
 rw [K.signs,hsg,List.map_append]
theorem wake_of {v:List Str} (K:Rest J sp sg c s p q) (hsg:sg' = sg ++ v) (hz:sg'.length ≤ 22) (e:s1 = { s with signs:=s.signs ++ v.map .str,serrs:=s1.serrs,ret:=s1.ret,wait:=false }) (er:s1.ret = false) (ee:s1.serrs.length ≤ s.serrs.length + v.length):Wake J sp sg' c s1 p q:=by
 have hw:s1.wait = false:=by rw [e]
 cases q with
 | non => exact ⟨conf_feed K.1 hsg hz e er ee,hw⟩
 | lt => exact ⟨conf_feed K.1 hsg hz e er ee,hw,K.2.2⟩
 | bang => exact ⟨conf_feed K.1 hsg hz e er ee,hw,K.2.2⟩
 | amp => exact ⟨conf_feed K.1 hsg hz e er ee,hw,K.2.2⟩
theorem rest_B (K:Rest J sp sg c s p q):RepB sp c s:=by
 cases q with
 | non => exact K.1.B
 | lt => exact K.1.B
 | bang => exact K.1.B
 | amp => exact K.1.B
theorem rest_frn (K:Rest J sp sg c s p q):s.frn = frn1 sp c:=by
 cases q with
 | non => exact K.1.frn
 | lt => exact K.1.frn
 | bang => exact K.1.frn
 | amp => exact K.1.frn
theorem rest_closed (K:Rest J sp sg c s p q):s.closed = false ∧ s.signs = sg.map .str:=by
 cases q with
 | non => exact ⟨K.1.closed,K.1.signs⟩
 | lt => exact ⟨K.1.closed,K.1.signs⟩
 | bang => exact ⟨K.1.closed,K.1.signs⟩
 | amp => exact ⟨K.1.closed,K.1.signs⟩
theorem rest_se (K:Rest J sp sg c s p q):s.ret = false ∧ s.serrs.length ≤ sg.length:=by
 cases q with
 | non => exact ⟨K.1.ret,K.1.se⟩
 | lt => exact ⟨K.1.ret,K.1.se⟩
 | bang => exact ⟨K.1.ret,K.1.se⟩
 | amp => exact ⟨K.1.ret,K.1.se⟩
theorem rest_out (K:Rest J sp sg c s p q):s.out = c.out:=by
 cases q with
 | non => exact K.1.out
 | lt => exact K.1.out
 | bang => exact K.1.out
 | amp => exact K.1.out
theorem rest_ready {R:C × Nat × Pend} (H:Rests J sp sg R s):Ready s false:=by
 obtain ⟨c,p,q⟩:=R
 have K:=H.at_
 have hd:=H.dr
 have hg:=H.good
 have none_of:∀ {k:Nat},sg.drop k = [] → sg[k]? = none:=fun h => List.getElem?_eq_none_iff.mpr (List.drop_eq_nil_iff.mp h)
 cases q with
 | non => exact ready_no K.1 K.2 (good_ok hg) (none_of hd)
 | lt => exact ready_no K.1 K.2.1 (.inr (.inl rfl)) (none_of (drop_at (x:="<") (t:=[]) hd).2)
 | bang => exact q_ready1 K.1.done K.2.1
 | amp => exact ready_no K.1 K.2.1 (.inr (.inr (.inl rfl))) (none_of (drop_at (x:="&") (t:=[]) hd).2)
theorem take_split {k k':Nat} (h:k ≤ k'):l.take k' = l.take k ++ (l.drop k).take (k' - k):=by
 rw [← List.take_add];congr 1;omega
theorem sgn_app (a b:List Nat):sgn (a ++ b) = sgn a ++ sgn b:=List.map_append
theorem sgn_ne:∀ z ∈ sgn l,(z == "") = false:=by
 intro z hz
 obtain ⟨a,_,rfl⟩:=List.mem_map.mp hz
 rw [show Str.ofString "" = stx [] from by decide +kernel]
 show (stx [a] == stx []) = false
 rw [stx_beq];simp
theorem frn_self (s:S) (x:Bool) (h:s.frn = x):(s.frn_ x) = s:=by subst h;rfl
theorem rep_fed {x y z:Bool} {A B:List PyData} (R:RepB sp c (s.frn_ x)):RepB sp c ((((s.signs_ A).serrs_ B).ret_ y).wait_ z):=R.same rfl rfl rfl (by cases s;rfl)
theorem feed_drive (H:At1 J sp kd l k s) (hk:k ≤ n) (hn:n ≤ l.length) (hl:l.length ≤ 22) (h13:∀ c ∈ l,c ≠ 13) :
  ∃ s1 s2,Does f_Tokenizer_feed [.loc 19,.d (.str (stx ((l.drop k).take (n - k))))] (mk s) (.d .none) (mk s1) ∧ Does f_drive [.loc 19,.loc 0] (mk s1) (.d .none) (mk s2) ∧ At1 J sp kd l n s2 ∧ s2.frn = frn1 sp (RR1 sp kd l n).1:=by
 obtain ⟨rest⟩:=H
 have K:=rest.at_
 obtain ⟨cl0,sg0⟩:=rest_closed K
 obtain ⟨ret,se⟩:=rest_se K
 have ret:s.ret = false:=ret
 have se:s.serrs.length ≤ (sgn (l.take k)).length:=se
 have len1:s.signs.length = (sgn (l.take k)).length:=by
  have:s.signs = (sgn (l.take k)).map .str:=sg0
  rw [this,List.length_map]
 have hl1:(sgn (l.take k)).length = k:=by rw [List.length_map,List.length_take];omega
 obtain ⟨s1,f1,e1,r1,se1⟩:=q_tfeed (s:=s) (v:=stx ((l.drop k).take (n - k))) cl0 (fun c hc => by rw [stx_list] at hc;exact h13 c (List.mem_of_mem_drop (List.mem_of_mem_take hc))) ret (by rw [stx_list,List.length_take,List.length_drop];omega) (by rw [stx_list,List.length_take,List.length_drop];omega)
 rw [stx_list] at e1 se1
 have e2:(s1.frn_ (frn1 sp (RR1 sp kd l k).1)) = { ((s.frn_ (frn1 sp (RR1 sp kd l k).1)):S) with signs:=s.signs ++ (sgn ((l.drop k).take (n - k))).map .str,serrs:=s1.serrs,ret:=s1.ret,wait:=false }:=by
  rw [e1,List.map_map];rfl
 have hsg:sgn (l.take n) = sgn (l.take k) ++ sgn ((l.drop k).take (n - k)):=by rw [← sgn_app,← take_split hk]
 have hz:(sgn (l.take n)).length ≤ 22:=by rw [List.length_map,List.length_take];omega
 have W:=wake_of (s1:=(s1.frn_ (frn1 sp (RR1 sp kd l k).1))) K hsg hz e2 r1 (by rw [List.length_map];exact se1)
 have hdr:(sgn (l.take n)).drop (RR1 sp kd l k).2.1 = pend (RR1 sp kd l k).2.2 ++ sgn ((l.drop k).take (n - k)):=by
  have hp:(RR1 sp kd l k).2.1 ≤ (sgn (l.take k)).length:=by
   have:=rest.dr
   by_cases h:(RR1 sp kd l k).2.1 ≤ (sgn (l.take k)).length
   ·exact h
   ·exfalso
    rw [List.drop_of_length_le (by omega)] at this
    have hK:=K
    cases hq:(RR1 sp kd l k).2.2 with
    | non => rw [hq] at hK;have:=hK.1.ixz;omega
    | lt => rw [hq] at this;cases this
    | bang => rw [hq] at this;cases this
    | amp => rw [hq] at this;cases this
  rw [hsg,List.drop_append_of_le_length hp,rest.dr]
 have hsm:Sm 46 (RR1 sp kd l k).1:=sm_mono (sm_run (sp:=sp) k (sgn (l.take k)) 0 0 (C0 kd) (by omega) ⟨Nat.le_refl _,Nat.le_refl _,Nat.le_refl _⟩) (by omega)
 have hv:(sgn ((l.drop k).take (n - k))).length ≤ 22:=by rw [List.length_map,List.length_take,List.length_drop];omega
 obtain ⟨j,s2,hj,T,R2,_⟩:=wake_runs sgn_ne W rest.good hdr hsm (by omega)
 have app:=runF_append sp (sgn ((l.drop k).take (n - k))) (sgn (l.take k)).length (sgn (l.take k)) 0 (C0 kd) (Nat.le_refl _)
 rw [← hsg] at app
 rw [← app] at R2
 have B1:RepB sp (RR1 sp kd l k).1 s1:=by rw [e1];exact rep_fed (rest_B K)
 obtain ⟨kk,Hh⟩:=B1.here
 have fr:=q_frn Hh
 have hout:s1.out.length ≤ bigLen:=by
  have ho:=rest_out K
  have:s1.out = (RR1 sp kd l k).1.out:=by rw [e1];exact ho
  rw [this];have:=hsm.oo;unfold bigLen;omega
 have dr:=q_drive fr T (rest_ready R2) (by omega) hout
 have fr2:=rest_frn R2.at_
 exact ⟨s1,s2,f1,dr,⟨by rw [frn_self s2 _ fr2];exact R2⟩,fr2⟩
end
end
section
open PySem.Builtin PySem.Builtin.Str
set_option maxRecDepth 100000
set_option maxHeartbeats 2000000
section
variable {s s1 s2:S} {sp:Str × Str} {c c':C} {sg sg':List Str} {cl:Bool} {st bk kd:Str} {ix p k n:Nat} {q:Pend} {l:List Nat} {u:List Str}
def KD (sp:Str × Str) (kd:Str):Prop:=kd = "data" ∨ (heldS kd ∧ sp.1 = "html")
theorem spots_okP:∀ p ∈ spotsL,okP p = true:=by decide +kernel
theorem spots_htmlP:∀ p ∈ spotsL,p = htmlP ∨ p ≠ htmlP:=fun p _ => by by_cases h:p = htmlP <;> simp [h]
noncomputable def SJ (p:Str × Str) (kd:Str) (j:Nat):S:=((S0 p kd).jb_ (j + 1)).j0_ j
theorem par_ok {xs:List Int} (h:∀ k (hk:k < xs.length),xs[k] = -1 ∨ (xs[k] = 0 ∧ 0 < k)) (s:S) (hs:s.pa = xs):PaOK s:=by
 intro k v e
 rw [hs] at e
 obtain ⟨hk,rfl⟩:=List.getElem?_eq_some_iff.mp e
 exact (h k hk).elim .inl fun q => .inr ⟨0,q.1,q.2⟩
theorem tr_d (kd:Str) {j:Nat} (hj:j ≤ 2000):Tr (((S0d kd).jb_ (j + 1)).j0_ j):=by
 refine ⟨rfl,rfl,rfl,rfl,rfl,rfl,⟨by show j + 1 ≤ 2 + j;omega,hj⟩,by show 2 < 800;decide,par_ok (xs:=[-1,0]) (by decide) _ rfl,fun i hi => ?_,by show 1 ≤ 2;decide⟩
 exact ⟨1,List.mem_singleton.mp (show i ∈ [(1:Int)] from hi),by show 1 < 2;decide⟩
theorem tr_c (x y kd:Str) {j:Nat} (hj:j ≤ 2000):Tr (((S0c x y kd).jb_ (j + 1)).j0_ j):=by
 refine ⟨rfl,rfl,rfl,rfl,rfl,rfl,⟨by show j + 1 ≤ 3 + j;omega,hj⟩,by show 3 < 800;decide,par_ok (xs:=[-1,-1,0]) (by decide) _ rfl,fun i hi => ?_,by show 1 ≤ 3;decide⟩
 exact ⟨2,List.mem_singleton.mp (show i ∈ [(2:Int)] from hi),by show 2 < 3;decide⟩
theorem rep_S0 (ok:okP sp = true) (kd:Str) {j:Nat} (hj:j ≤ 2000):RepB sp (C0 kd) (SJ sp kd j):=by
 have okH:∀ p ∈ (C0 kd).held,okP p = true:=fun p hp => by rw [List.mem_singleton.mp (show p ∈ [htmlP] from hp)];decide +kernel
 unfold SJ S0
 by_cases h:sp = htmlP
 ·rw [if_pos h]
  exact ⟨rfl,rfl,rfl,rfl,tr_d kd hj,rfl,rfl,.inl ⟨rfl,h⟩,.inl rfl,ok,okH,by show 2 ≤ 3;decide⟩
 ·rw [if_neg h]
  exact ⟨rfl,rfl,rfl,rfl,tr_c _ _ kd hj,rfl,rfl,.inr ⟨1,rfl,by show 1 < 3;decide,rfl⟩,.inl rfl,ok,okH,by show 3 ≤ 3;decide⟩
theorem S0_tk (sp:Str × Str) (kd:Str) (j:Nat):(SJ sp kd j).out = [] ∧ (SJ sp kd j).errs = [] ∧ (SJ sp kd j).last = "" ∧ (SJ sp kd j).state = kd ∧ (SJ sp kd j).ix = 0 ∧ (SJ sp kd j).back = "data" ∧ (SJ sp kd j).done = false ∧ (SJ sp kd j).signs = [] ∧ (SJ sp kd j).closed = false ∧ (SJ sp kd j).ret = false ∧ (SJ sp kd j).serrs = [] ∧ (SJ sp kd j).wait = false ∧ (SJ sp kd j).j0 = j:=by
 unfold SJ S0;split <;> exact ⟨rfl,rfl,rfl,rfl,rfl,rfl,rfl,rfl,rfl,rfl,rfl,rfl,rfl⟩
theorem good_C0 (h:KD sp kd):GoodC (C0 kd):=by
 rcases h with h | ⟨h,_⟩
 ·exact .inl ⟨h,rfl⟩
 ·exact .inr ⟨h,.inl rfl⟩
theorem begin_at (ok:okP sp = true) (h:KD sp kd) {j:Nat} (hj:j ≤ 2000):At1 j sp kd l 0 (SJ sp kd j):=by
 obtain ⟨t1,t2,t3,t4,t5,t6,t7,t8,t9,t10,t11,t12,t13⟩:=S0_tk sp kd j
 have R:=rep_S0 ok kd hj
 generalize SJ sp kd j = s at *
 exact ⟨⟨⟨⟨R.same rfl rfl rfl rfl,t1,t2,t3,rfl,t4,t5,t6,t7,t8,t9,by show ([]:List Str).length ≤ 22;decide,Nat.zero_le _,t10,by show s.serrs.length ≤ _;rw [t11];exact Nat.zero_le _,t13⟩,t12⟩,rfl,good_C0 h⟩⟩
theorem inv_C0 (ok:okP sp = true) (h:KD sp kd):Inv sp 0 (C0 kd):=by
 refine ⟨ok,fun p hp => ?_,?_,⟨Nat.le_refl _,Nat.le_refl _,Nat.le_refl _⟩,Nat.le_refl _,Nat.le_refl _,.inl rfl⟩
 ·have:p = htmlP:=by simpa [C0] using hp
  rw [this];decide +kernel
 ·rcases h with h | ⟨h,h2⟩
  ·exact .inl ⟨h,rfl⟩
  ·exact .inr ⟨h,h2,.inr rfl⟩
theorem seen_of {c:C} {ix:Nat} {e w:Bool} {tl:Str} (hN:s.notes = c.notes) (hH:c.held = s.its.map (lookS s)) (hM:s.mode = c.mode) (hW:s.wish = "") (hO:s.out = c.out) (hE:s.errs = c.errs) (hL:s.last = c.last) (hF:s.frn = frn1 sp c) (hI:s.ix = (ix:Int)) (hS:s.state = bif tl != "" then tl else c.state) (hB:s.back = c.back) (hw:s.wait = w) (hd:s.done = e) (hb:s.bdone = e) :
  (seenA s).data (mk s) = some (dueR sp c ix tl w e):=by
 rw [seen_data,hN,hM,hW,hO,hE,hL,hF,hI,hS,hB,hw,hd,hb]
 unfold dueR
 rw [hH,List.map_map];rfl
theorem seen_rest (H:At1 J sp kd l k s) (hf:s.frn = frn1 sp (RR1 sp kd l k).1):(seenA s).data (mk s) = some (dueV sp (l.take k) kd false) ∧ Tr s:=by
 obtain ⟨rest⟩:=H
 rw [frn_self s _ hf] at rest
 have K:=rest.at_
 have hB:=rest_B K
 refine ⟨?_,hB.tr⟩
 unfold dueV
 rw [if_neg (by decide)]
 show (seenA s).data (mk s) = some (dueR sp (RR1 sp kd l k).1 ((RR1 sp kd l k).2.1 + adS (RR1 sp kd l k).2.2) (tlS (RR1 sp kd l k).2.2) (wtS (RR1 sp kd l k).2.2) false)
 generalize RR1 sp kd l k = R at *
 obtain ⟨c,p,q⟩:=R
 cases q with
 | non => exact seen_of hB.notes hB.held hB.mode hB.wish K.1.out K.1.errs K.1.last hf K.1.hix K.1.state K.1.hback K.2 K.1.done hB.bd
 | lt => exact seen_of hB.notes hB.held hB.mode hB.wish K.1.out K.1.errs K.1.last hf K.1.hix K.1.state K.1.hback K.2.1 K.1.done hB.bd
 | bang => exact seen_of hB.notes hB.held hB.mode hB.wish K.1.out K.1.errs K.1.last hf K.1.hix K.1.state K.1.hback K.2.1 K.1.done hB.bd
 | amp => exact seen_of hB.notes hB.held hB.mode hB.wish K.1.out K.1.errs K.1.last hf K.1.hix K.1.state K.1.hback K.2.1 K.1.done hB.bd
theorem conf_end (K:Conf J sp sg false c s st ix bk):Conf J sp sg true c ((s.closed_ true).wait_ false) st ix bk :=
 ⟨K.B.same rfl rfl rfl rfl,K.out,K.errs,K.last,K.frn,K.state,K.hix,K.hback,K.done,K.signs,rfl,K.sgz,K.ixz,K.ret,K.se,K.jj⟩
theorem wakeC_of (K:Rest J sp sg c s p q):WakeC J sp sg c ((s.closed_ true).wait_ false) p q:=by
 cases q with
 | non => exact ⟨conf_end K.1,rfl⟩
 | lt => exact ⟨conf_end K.1,rfl,K.2.2⟩
 | bang => exact ⟨conf_end K.1,rfl,K.2.2⟩
 | amp => exact ⟨conf_end K.1,rfl,K.2.2⟩
theorem eof_st (c:C):c.eof.state = c.state ∧ c.eof.back = c.back:=by
 unfold C.eof;cases (c.mode == "text") <;> exact ⟨rfl,rfl⟩
theorem tr_bd (H:Tr (s.bdone_ false)):Tr s:=⟨H.nms,H.pa,H.kinds,H.attrs,H.texts,H.nC,H.jb,H.sm,H.par,H.its,H.itl⟩
theorem end_drive (H:At1 J sp kd l k s) (hk:l.take k = l) (hl:l.length ≤ 22) :
  ∃ s1 s2,Does f_Tokenizer_end [.loc 19] (mk s) (.d .none) (mk s1) ∧ Does f_drive [.loc 19,.loc 0] (mk s1) (.d .none) (mk s2) ∧ (seenA s2).data (mk s2) = some (dueV sp l kd true) ∧ Tr s2 ∧ s2.j0 = J:=by
 obtain ⟨rest⟩:=H
 have K:=rest.at_
 have hB:=rest_B K
 have W:=wakeC_of K
 have hsm:Sm 46 (RR1 sp kd l k).1:=sm_mono (sm_run (sp:=sp) 22 (sgn (l.take k)) 0 0 (C0 kd) (by rw [List.length_map,hk];exact hl) ⟨Nat.le_refl _,Nat.le_refl _,Nat.le_refl _⟩) (by omega)
 obtain ⟨j,s2,hj,T,F⟩:=end_runs W rest.good rest.dr hsm (by omega)
 have B1:RepB sp (RR1 sp kd l k).1 ((s.closed_ true).wait_ false):=hB.same rfl rfl rfl rfl
 obtain ⟨kk,Hh⟩:=B1.here
 have fr:=q_frn Hh
 have hout:s.out.length ≤ bigLen:=by
  have ho:=rest_out K
  have ho:s.out = (RR1 sp kd l k).1.out:=ho
  rw [ho];have:=hsm.oo;unfold bigLen;omega
 have dr:=q_drive (s:=((s.closed_ true).wait_ false)) fr T (q_ready0 F.done) (by omega) hout
 refine ⟨_,s2,q_tend,dr,?_,tr_bd F.B.tr,F.jj⟩
 unfold dueV
 rw [if_pos rfl]
 have e0:runF sp (sgn l) 0 (C0 kd) = RR1 sp kd l k:=by unfold RR1;rw [hk]
 rw [e0]
 obtain ⟨es,eb⟩:=eof_st (finP sp (RR1 sp kd l k)).1
 exact seen_of F.B.notes F.B.held F.B.mode F.wish F.out F.errs F.last F.frn F.hix (by rw [F.state,es];rfl) (by rw [F.hback,eb]) F.wait F.done F.bdone
end
end
section
open PySem.Builtin PySem.Builtin.Str
set_option maxRecDepth 100000
set_option maxHeartbeats 2000000
section
variable {st:St} {ns:List Int} {T:Tab} {L:Locs}
noncomputable abbrev scrA (ns:List Int):AV:=.d (.list (ns.map .int))
noncomputable def dig (ns:List Int) (k:Nat):Int:=ns.getD k 0
theorem q_digit (hn:ns.length ≤ 63) {k:Nat} (hk:k < 1000):Does f__law_digit [scrA ns,.d (.int (k:Int))] st (.d (.int (dig ns k))) st:=by
 have hz:(ns.map PyData.int).length ≤ bigLen:=by rw [List.length_map];exact Nat.le_trans hn (by decide)
 have hb:=k_bd (k:=k) (Nat.lt_trans hk (by decide))
 by_cases h:k < ns.length
 ·have e:(ns.map PyData.int)[k]? = some (.int (dig ns k)):=by
   rw [List.getElem?_map,List.getElem?_eq_getElem h]
   unfold dig;rw [List.getD_eq_getElem?_getD,List.getElem?_eq_getElem h];rfl
  have hi:=pyIdx_pos e
  have hd:decide ((k:Int) < ((ns.map PyData.int).length:Int)) = true:=by rw [List.length_map];exact decide_eq_true (Int.ofNat_lt.mpr h)
  walk_at "zfn"
 ·have e:dig ns k = 0:=by unfold dig;rw [List.getD_eq_getElem?_getD,List.getElem?_eq_none (Nat.not_lt.mp h)];rfl
  have hd:decide ((k:Int) < ((ns.map PyData.int).length:Int)) = false:=by rw [List.length_map];exact decide_eq_false fun q => h (Int.ofNat_lt.mp q)
  rw [e]
  walk_at "zfn"
theorem stx_app (a b:List Nat):stx a ++ stx b = stx (a ++ b):=by
 apply Str.ext'
 rw [Str.cps_append];simp
noncomputable def pcs:List (List Nat):=[[60,118],[60,102],[60,33,91],[60,100],[60,116],[38],[47],[38,42],[60,99],[60,84],[60,115],[120],[60,33],[60,112],[60,86],[60,70],[60,68],[60,103],[60,71],[60],[42],[0],[60,83],[91],[]]
noncomputable def fsts:List Int:=[2,1,3,2,4,5,6,7,0,10,11,12]
def okT (t:List Nat):Prop:=∀ c ∈ t,c < 1114112 ∧ c ≠ 13
theorem pcs_ok:∀ t ∈ pcs,(∀ c ∈ t,c < 1114112 ∧ c ≠ 13) ∧ t.length ≤ 3:=by decide +kernel
noncomputable abbrev txT:Tab:=[(754,f__law_digit)]
noncomputable abbrev txB:MSs:=(.cons (.assign 63 (.bin .addI (.call 12 754 (.cons (.v 178) (.cons (.bin .addI (.v 125) (.lit (.int 2))) .nil))) (.idx .seq (.v 83) (.v 125)))) (.cons (.ifs (.cmp .lt (.bin .mod (.v 63) (.v 135)) (.len .lst (.v 156))) (.cons (.assign 202 (.bin .addS (.v 202) (.idx .seq (.v 156) (.bin .mod (.v 63) (.v 135))))) .nil) (.cons (.assign 158 (.bin .mod (.bin .fdiv (.v 63) (.v 135)) (.lit (.int 1114112)))) (.cons (.assign 202 (.bin .addS (.v 202) (.chr (.ite (.cmp .eqI (.v 158) (.lit (.int 13))) (.lit (.int 10)) (.v 158))))) .nil))) .nil))
structure TL (ns:List Int) (t:List Nat) (L:Locs):Prop where
 s:L.lookup 178 = some (scrA ns)
 p:L.lookup 156 = some (.d (.list (pcs.map fun t => .str (stx t))))
 f:L.lookup 83 = some (.d (.list (fsts.map .int)))
 m:L.lookup 135 = some (.d (.int 26))
 t:L.lookup 202 = some (.d (.str (stx t)))
theorem big100 {a b:Nat} (h:a ≤ 100) (g:b ≤ 100):a + b ≤ bigLen:=Nat.le_trans (Nat.add_le_add h g) (by decide)
theorem gd_rng {z:Nat} {N:Int} {A:Prop} (h:(z:Int) < N) (a:A):gd (decide (0 ≤ (z:Int)) && decide ((z:Int) < N)) A:=ifc_t (and_dec ⟨Int.natCast_nonneg z,h⟩) a
theorem chr_gen {K:EK} {N:Int} {z:Nat} (hz:(z:Int) < N) (hK:K (.d (.str (stx [z]))) st):(fun (x:AV) (st:St) => x.int fun x => gd (decide (0 ≤ x) && decide (x < N)) (K (.d (.str ⟨#[x.toNat]⟩)) st)) (.d (.int (z:Int))) st:=gd_rng hz hK
theorem hv_chr {a:ME} {z:Nat} (h:HasV T a L st (.d (.int (z:Int)))) {N:Int} (hN:N = 1114112) (hz:(z:Int) < N):HasV T (.chr a) L st (.d (.str (stx [z]))):=by
 intro K hK
 have r:=h (fun x st => x.int fun x => gd (decide (0 ≤ x) && decide (x < N)) (K (.d (.str ⟨#[x.toNat]⟩)) st)) (chr_gen (K:=K) (N:=N) (z:=z) (st:=st) hz hK)
 subst hN
 exact r
theorem tx_body (hn:ns.length ≤ 63) {t:List Nat} (D:TL ns t L) (ht:okT t) (hz:t.length ≤ 100) {i:Nat} (hi:i < 12) {K:SK} (hK:∀ L' t',TL ns t' L' → okT t' → t'.length ≤ t.length + 3 → K.n L' st) :
  wpSs txT txB ((125,.d (.int (i:Int))) :: L) st K:=by
 have hf:fsts[i]? = some (fsts[i]'hi):=List.getElem?_eq_getElem hi
 generalize fsts[i]'hi = f0 at hf
 have hf':pyIdx (fsts.map PyData.int) (i:Int) = some (.int f0):=pyIdx_pos (by rw [List.getElem?_map,hf];rfl)
 have hb:=k_bd (k:=i) (Nat.lt_trans hi (by decide))
 refine asg_i (v:=.d (.int (dig ns (i + 2) + f0))) (fun K hK => opt_i D.s (q_digit hn (k:=i + 2) (Nat.lt_trans (Nat.add_lt_add_right hi 2) (by decide)) _ (opt_i D.f (ifc_t (idx_ok hb) (opt_i hf' hK))))) ?_
 generalize dig ns (i + 2) + f0 = d
 have m0:0 ≤ d.fmod 26:=Int.fmod_nonneg_of_pos _ (by decide)
 have m1:d.fmod 26 < 26:=Int.fmod_lt_of_pos _ (by decide)
 obtain ⟨j,hj⟩:∃ j:Nat,d.fmod 26 = (j:Int):=⟨(d.fmod 26).toNat,by omega⟩
 have mm:∀ {L:Locs},L.lookup 63 = some (.d (.int d)) → L.lookup 135 = some (.d (.int 26)) → HasV txT (.bin .mod (.v 63) (.v 135)) L st (.d (.int (j:Int))):=fun h1 h2 K hK => opt_i h1 (opt_i h2 (show K (.d (.int (d.fmod 26))) st by rw [hj];exact hK))
 have hpl:(pcs.map fun t => PyData.str (stx t)).length ≤ bigLen:=by rw [List.length_map];decide
 have hp25:((pcs.map fun t => PyData.str (stx t)).length:Int) = 25:=by rw [List.length_map];rfl
 have M1:((63,AV.d (.int d)) :: (125,AV.d (.int (i:Int))) :: L).lookup 135 = some (.d (.int 26)):=D.m
 refine ifs_i (q:=decide ((j:Int) < 25)) (fun K hK => mm rfl M1 _ (opt_i D.p (show K (.d (.bool (decide ((j:Int) < ((pcs.map fun t => PyData.str (stx t)).length:Int))))) st by rw [hp25];exact hK))) (fun q => ?_) fun q => ?_
 ·have h25:j < 25:=Int.ofNat_lt.mp (of_decide_eq_true q)
  have hx:pcs[j]? = some (pcs[j]'h25):=List.getElem?_eq_getElem h25
  generalize pcs[j]'h25 = x at hx
  have hx':pyIdx (pcs.map fun t => PyData.str (stx t)) (j:Int) = some (.str (stx x)):=pyIdx_pos (by rw [List.getElem?_map,hx];rfl)
  obtain ⟨p1,p2⟩:=pcs_ok x (List.mem_of_getElem? hx)
  have hjb:=k_bd (k:=j) (Nat.lt_trans h25 (by decide))
  refine asg_i (v:=.d (.str (stx (t ++ x)))) (fun K hK => opt_i D.t (opt_i D.p (mm rfl M1 _ (ifc_t (idx_ok hjb) (opt_i hx' (ifc_t (decide_eq_true (by rw [stx_len,stx_len];exact big100 hz (Nat.le_trans p2 (by decide)))) (by rw [← stx_app] at hK;exact hK))))))) ?_
  refine hK _ (t ++ x) ⟨D.s,D.p,D.f,D.m,rfl⟩ (fun c hc => (List.mem_append.mp hc).elim (ht c) (p1 c)) (by rw [List.length_append];exact Nat.add_le_add_left p2 _)
 ·have q0:0 ≤ (d.fdiv 26).fmod 1114112:=Int.fmod_nonneg_of_pos _ (by decide)
  have q1:(d.fdiv 26).fmod 1114112 < 1114112:=Int.fmod_lt_of_pos _ (by decide)
  obtain ⟨pt,hpt⟩:∃ pt:Nat,(d.fdiv 26).fmod 1114112 = (pt:Int):=⟨((d.fdiv 26).fmod 1114112).toNat,by omega⟩
  have ptz:pt < 1114112:=by rw [hpt] at q1;exact Int.ofNat_lt.mp q1
  refine asg_i (v:=.d (.int (pt:Int))) (fun K hK => opt_i D.m (show K (.d (.int ((d.fdiv 26).fmod 1114112))) st by rw [hpt];exact hK)) ?_
  obtain ⟨z,hz1,hz2,hz3⟩:∃ z:Nat,z < 1114112 ∧ z ≠ 13 ∧ ∀ L,L.lookup 158 = some (.d (.int (pt:Int))) → HasV txT (.ite (.cmp .eqI (.v 158) (.lit (.int 13))) (.lit (.int 10)) (.v 158)) L st (.d (.int (z:Int))):=by
   by_cases h13:pt = 13
   ·exact ⟨10,by decide,by decide,fun L h K hK => opt_i h (ifc_t (by rw [h13];rfl) hK)⟩
   ·exact ⟨pt,ptz,h13,fun L h K hK => opt_i h (ifc_f (beq_false_of_ne fun e => h13 (Int.ofNat.inj e)) (opt_i h hK))⟩
  refine asg_i (v:=.d (.str (stx (t ++ [z])))) ?_ ?_
  ·intro K hK
   refine opt_i D.t (hv_chr (hz3 _ ?_) rfl (Int.ofNat_lt.mpr hz1) _ ?_)
   ·rfl
   ·rw [← stx_app] at hK
    exact ifc_t (decide_eq_true (show (stx t).length + (stx [z]).length ≤ bigLen by rw [stx_len,stx_len];exact big100 hz (show 1 ≤ 100 by decide))) hK
  refine hK _ (t ++ [z]) ⟨D.s,D.p,D.f,D.m,rfl⟩ (fun c hc => (List.mem_append.mp hc).elim (ht c) fun h => by rw [List.mem_singleton.mp h];exact ⟨hz1,hz2⟩) (by rw [List.length_append];exact Nat.add_le_add_left (show 1 ≤ 3 by decide) _)
theorem tx_loop (hn:ns.length ≤ 63) {K:SK}:∀ (ks:List Nat) (L:Locs) (t:List Nat),(∀ i ∈ ks,i < 12) → TL ns t L → okT t → t.length + 3 * ks.length ≤ 100 → (∀ L' t',TL ns t' L' → okT t' → t'.length ≤ 100 → K.n L' st) →
  loopF (fun x L st => wpSs txT txB ((125,x) :: L) st) (ks.map fun (i:Nat) => .d (.int (i:Int))) L st K:=by
 intro ks
 induction ks with
 | nil => exact fun L t _ D ht hz hK => hK L t D ht hz
 | cons i ks ih =>
  intro L t hk D ht hz hK
  rw [List.length_cons] at hz
  exact tx_body hn D ht (by omega) (hk i (.head _)) fun L1 t1 D1 h1 z1 => ih L1 t1 (fun j hj => hk j (.tail _ hj)) D1 h1 (by omega) hK
noncomputable def litA:List PyData:=[.str "<v",.str "<f",.str "<![",.str "<d",.str "<t",.str "&",.str "/",.str "&*",.str "<c",.str "<T",.str "<s",.str "x",.str "<!",.str "<p",.str "<V",.str "<F",.str "<D",.str "<g"]
noncomputable def litB:List PyData:=[.str "<G",.str "<",.str "*",.str "\u0000",.str "<S",.str "[",.str ""]
theorem lit_eq:litA ++ litB = pcs.map fun t => .str (stx t):=by kernel_rfl
theorem q_text0 (hn:ns.length ≤ 63) {K:EK} (hK:∀ l:List Nat,okT l → l.length ≤ 22 → K (.d (.str (stx l))) st):f__law_text [scrA ns] st K:=by
 refine run_q (L:=[(178,scrA ns)]) (by with_unfolding_all rfl) rfl ?_
 refine asg_i (v:=.d (.list litA)) (fun K hK => hK) ?_
 refine asg_i (v:=.d (.list (litA ++ litB))) (fun K hK => hK) ?_
 rw [lit_eq]
 refine asg_i (v:=.d (.list (fsts.map .int))) (fun K hK => hK) ?_
 refine asg_i (v:=.d (.int 26)) (fun K hK => hK) ?_
 refine asg_i (v:=.d (.str (stx []))) (fun K hK => hK) ?_
 refine And.intro (fun _ => True.intro) (tx_loop hn (List.range 12) _ [] (fun i hi => List.mem_range.mp hi) ⟨rfl,rfl,rfl,rfl,rfl⟩ (fun c hc => nomatch hc) (by decide) fun L t D ht hz => ?_)
 refine ret_i (v:=.d (.str (stx (t.take 22)))) (fun K hK => opt_i D.t (ifc_t (decide_eq_true (by rw [stx_len];exact Nat.le_trans hz (by decide))) (by rw [← sl_to] at hK;exact hK))) ?_
 exact hK _ (fun c hc => ht c (List.mem_of_mem_take hc)) (by rw [List.length_take];exact Nat.min_le_left _ _)
theorem ins_mem {x y:Int}:∀ {xs:List Int},y ∈ insSorted x xs → y = x ∨ y ∈ xs
  | [],h => by simpa [insSorted] using h
  | z :: xs,h => by
    unfold insSorted at h
    cases q:decide (x ≤ z) with
    | true => rw [q] at h;simpa using h
    | false =>
      rw [q] at h
      rcases List.mem_cons.mp h with h | h
      · exact .inr (by simp [h])
      · rcases ins_mem h with h | h
        · exact .inl h
        · exact .inr (by simp [h])
theorem ins_sorted {x:Int}:∀ {xs:List Int},xs.Pairwise (· ≤ ·) → (insSorted x xs).Pairwise (· ≤ ·)
  | [],_ => by simp [insSorted]
  | z :: xs,h => by
    obtain ⟨h1,h2⟩:=List.pairwise_cons.mp h
    unfold insSorted
    cases q:decide (x ≤ z) with
    | true =>
      have hx:=of_decide_eq_true q
      refine List.pairwise_cons.mpr ⟨fun y hy => ?_,h⟩
      rcases List.mem_cons.mp hy with rfl | hy
      · exact hx
      · exact Int.le_trans hx (h1 y hy)
    | false =>
      have hx:=of_decide_eq_false q
      refine List.pairwise_cons.mpr ⟨fun y hy => ?_,ins_sorted h2⟩
      rcases ins_mem hy with rfl | hy
      · omega
      · exact h1 y hy
theorem sort_mem {y:Int}:∀ {xs:List Int},y ∈ xs.foldr insSorted [] → y ∈ xs
  | [],h => h
  | x :: xs,h => by
    rcases ins_mem h with h | h
    · simp [h]
    · simp [sort_mem h]
theorem sort_sorted:∀ xs:List Int,(xs.foldr insSorted []).Pairwise (· ≤ ·)
 | [] => List.Pairwise.nil
 | x :: xs => ins_sorted (sort_sorted xs)
theorem ints_of:∀ xs:List Int,intsOf (xs.map .int) = some xs
  | [] => rfl
  | x :: xs => by
    show oSome none (fun y => oSome none (fun ys => some (y :: ys)) (intsOf (xs.map .int))) (oInt none some (.int x)) = some (x :: xs)
    rw [ints_of xs]
theorem nat_list {n:Nat}:∀ xs:List Int,xs.Pairwise (· ≤ ·) → (∀ x ∈ xs,0 ≤ x ∧ x ≤ n) → ∃ ks:List Nat,xs = ks.map (fun (k:Nat) => (k:Int)) ∧ ks.Pairwise (· ≤ ·) ∧ ∀ k ∈ ks,k ≤ n
  | [],_,_ => ⟨[],rfl,List.Pairwise.nil,fun _ h => (by cases h)⟩
  | x :: xs,h,hb => by
    obtain ⟨h1,h2⟩:=List.pairwise_cons.mp h
    obtain ⟨ks,e,p,q⟩:=nat_list xs h2 fun y hy => hb y (by simp [hy])
    have hx:=hb x (by simp)
    obtain ⟨k,rfl⟩:∃ k:Nat,x = (k:Int):=⟨x.toNat,by omega⟩
    refine ⟨k :: ks,by rw [e];rfl,List.pairwise_cons.mpr ⟨fun y hy => ?_,p⟩,fun y hy => ?_⟩
    · have:=h1 (y:Int) (by rw [e];exact List.mem_map.mpr ⟨y,hy,rfl⟩)
      omega
    · rcases List.mem_cons.mp hy with rfl | hy
      · omega
      · exact q y hy
end
end
section
open PySem.Builtin PySem.Builtin.Str
set_option maxRecDepth 100000
set_option maxHeartbeats 2000000
section
variable {st:St} {x:Str} {b:Bool} {j:Nat} {K:EK}
noncomputable def ssF (x:Str) (b:Bool):Str:=bif memD (.str x) [.str "title",.str "textarea"] then "RCDATA" else bif memD (.str x) [.str "style",.str "xmp",.str "iframe",.str "noembed",.str "noframes"] || (x == "noscript" && b) then "RAWTEXT" else bif x == "script" then "script data" else bif x == "plaintext" then "PLAINTEXT" else "data"
theorem hv_in {T:Tab} {L:Locs} {i:Nat} {e:ME} {ys:List PyData} (h:L.lookup i = some (.d (.str x))) (he:HasV T e L st (.d (.tuple ys))) (hm:memOK (.str x) ys = true):HasV T (.cmp .inT (.v i) e) L st (.d (.bool (memD (.str x) ys))):=fun K hK => opt_i h (he _ (lay_i hm hK))
theorem q_ss (hl:PyData.canLay0 (.str x) = true):Does f_start_state [.d (.str x),.d (.bool b)] st (.d (.str (ssF x b))) st:=by
 intro K hK
 unfold ssF at hK
 refine run_q (L:=[(117,.d (.bool b)),(141,.d (.str x))]) (by with_unfolding_all rfl) rfl ?_
 refine ifs_i (hv_in (ys:=[.str "title",.str "textarea"]) rfl (fun K hK => hK) (memOK_i hl (by decide +kernel) rfl)) (fun q => ?_) fun q => ?_
 ·rw [q] at hK;exact ret_i hv_lit hK
 rw [q] at hK
 refine ifs_i (hb_or (hv_in (ys:=[.str "style",.str "xmp",.str "iframe",.str "noembed",.str "noframes"]) rfl (fun K hK => hK) (memOK_i hl (by decide +kernel) rfl)) (hb_and (p:=x == "noscript") (q:=b) (fun K hK => hK) (fun K hK => hK))) (fun q => ?_) fun q => ?_
 ·rw [q] at hK;exact ret_i hv_lit hK
 rw [q] at hK
 refine ifs_i (q:=x == "script") (fun K hK => hK) (fun q => ?_) fun q => ?_
 ·rw [q] at hK;exact ret_i hv_lit hK
 rw [q] at hK
 refine ifs_i (q:=x == "plaintext") (fun K hK => hK) (fun q => ?_) fun q => ?_
 ·rw [q] at hK;exact ret_i hv_lit hK
 rw [q] at hK
 exact ret_i hv_lit hK
noncomputable def rawL (b:Bool):List PyData:=[.str "iframe",.str "noembed",.str "noframes",.str "style",.str "xmp"] ++ (bif b then [.str "noscript"] else [])
noncomputable def kindE (b:Bool):List (Str × AV):=[("RCDATA",.d (.list [.str "textarea",.str "title"])),("script data",.d (.list [.str "script"])),("PLAINTEXT",.d (.list [.str "plaintext"])),("RAWTEXT",.d (.list (rawL b)))]
noncomputable def kdF (x:Str) (b:Bool):Str:=bif memD (.str x) [.str "plaintext"] then "PLAINTEXT" else bif memD (.str x) (rawL b) then "RAWTEXT" else bif memD (.str x) [.str "textarea",.str "title"] then "RCDATA" else bif memD (.str x) [.str "script"] then "script data" else "data"
theorem setK_i {T:Tab} {L:Locs} {st st':St} {n i:Nat} {q:Str} {v:AV} {e:ME} {r:MSs} {es es':List (Str × AV)} {k:SK} (he:HasV T e L st v) (h1:L.lookup i = some (.loc n)) (hg:st.get n = some (.dict es)) (hn:(Nat.ble es.length 999 && decide (es.map (·.1)).Nodup && v.simple) = true) (hp:putK q v es = es') (hs:st.put n (.dict es') = st') (h:wpSs T r L st' k):wpSs T (.cons (.setK (.v i) (.lit (.str q)) e) r) L st k:=by
 refine he _ (opt_i h1 ?_)
 show St.dict st n _
 unfold St.dict
 rw [hg]
 subst hp hs
 exact ifc_t hn (nd_i h)
theorem hv_srt {T:Tab} {L:Locs} {n i:Nat} {es:List (Str × AV)} {ks:List PyData} (h1:L.lookup i = some (.loc n)) (hg:st.get n = some (.dict es)) (hn:(Nat.ble es.length 16 && decide (es.map (·.1)).Nodup) = true) (hs:((es.map (·.1)).foldr insSortS []).map PyData.str = ks):HasV T (.srtK (.v i)) L st (.d (.list ks)):=by
 intro K hK
 refine opt_i h1 ?_
 show St.dict st n _
 unfold St.dict
 rw [hg]
 subst hs
 exact ifc_t hn hK
noncomputable abbrev itE:ME:=.cmp .inT (.v 141) (.idx .key (.v 127) (.v 126))
theorem hv_it {T:Tab} {L:Locs} {q:Str} {es:List (Str × AV)} {ys:List PyData} (hx:L.lookup 141 = some (.d (.str x))) (h1:L.lookup 127 = some (.loc 0)) (hg:st.get 0 = some (.dict es)) (hl:es.lookup q = some (.d (.list ys))) (hm:memOK (.str x) ys = true):HasV T itE ((126,.d (.str q)) :: L) st (.d (.bool (memD (.str x) ys))):=by
 intro K hK
 refine opt_i hx (opt_i h1 ?_)
 show St.dict st 0 _
 unfold St.dict
 rw [hg]
 refine opt_i hl ?_
 exact ifc_t hm hK
noncomputable abbrev cifF (T:Tab) (c:ME) (L:Locs):AV → St → (Option PyData → St → Prop) → Prop:=fun it st k => wpE T c ((126,it) :: L) st fun t st => t.bool fun t => ifc t (wpE T (.v 126) ((126,it) :: L) st fun v st => v.dat fun y => k (some y) st) (k none st)
theorem cif_step {T:Tab} {c:ME} {L:Locs} {same:St → Prop} {q:Str} {r:List AV} {k:List PyData → St → Prop} (hc:HasV T c ((126,.d (.str q)) :: L) st (.d (.bool b))) (hs:same st) (h:compW same (cifF T c L) r st fun ys st => k (bif b then .str q :: ys else ys) st):compW same (cifF T c L) (.d (.str q) :: r) st k :=
 hc _ (by cases b <;> exact ⟨hs,h⟩)
noncomputable abbrev fourL (m1 m2 m3 m4:Bool):List PyData:=bif m1 then .str "PLAINTEXT" :: (bif m2 then .str "RAWTEXT" :: (bif m3 then .str "RCDATA" :: (bif m4 then [.str "script data"] else []) else (bif m4 then [.str "script data"] else [])) else (bif m3 then .str "RCDATA" :: (bif m4 then [.str "script data"] else []) else (bif m4 then [.str "script data"] else []))) else (bif m2 then .str "RAWTEXT" :: (bif m3 then .str "RCDATA" :: (bif m4 then [.str "script data"] else []) else (bif m4 then [.str "script data"] else [])) else (bif m3 then .str "RCDATA" :: (bif m4 then [.str "script data"] else []) else (bif m4 then [.str "script data"] else [])))
theorem four_len (m1 m2 m3 m4:Bool):(fourL m1 m2 m3 m4).length ≤ 4:=by cases m1 <;> cases m2 <;> cases m3 <;> cases m4 <;> decide
theorem four_idx (m1 m2 m3 m4:Bool):pyIdx (fourL m1 m2 m3 m4 ++ [.str "data"]) 0 = some (.str (bif m1 then "PLAINTEXT" else bif m2 then "RAWTEXT" else bif m3 then "RCDATA" else bif m4 then "script data" else "data")):=by
 cases m1 with
 | true => exact pyIdx_0
 | false => cases m2 with
  | true => exact pyIdx_0
  | false => cases m3 with
   | true => exact pyIdx_0
   | false => cases m4 <;> exact pyIdx_0
theorem hv_cif {T:Tab} {L:Locs} {c src:ME} {ks ys:List PyData} (hs:HasV T src L st (.d (.list ks))) (hz:ks.length ≤ bigLen) (h:∀ k:List PyData → St → Prop,k ys st → compW (fun _ => True) (cifF T c L) (ks.map .d) st k):HasV T (.compIf (.v 126) 126 (.of src) c) L st (.d (.list ys)):=by
 intro K hK
 show wpE T src L st _
 exact hs _ (ifc_t (decide_eq_true (by rw [List.length_map];exact hz)) (h _ hK))
theorem hv_idx0 {T:Tab} {L:Locs} {a:ME} {A:List PyData} {d r:PyData} (ha:HasV T a L st (.d (.list A))) (hz:A.length + 1 ≤ bigLen) (hi:pyIdx (A ++ [d]) 0 = some r):HasV T (.idx .seq (.bin (.addL false) a (.lst .fro (.cons (.lit d) .nil))) (.lit (.int 0))) L st (.d r):=by
 intro K hK
 show wpE T a L st _
 exact ha _ (ifc_t (decide_eq_true hz) (opt_i hi hK))
theorem q_kind (hl:PyData.canLay0 (.str x) = true):Does f__law_kind [.d (.str x),.d (.bool b)] ⟨[],0,j⟩ (.d (.str (kdF x b))) ⟨[],0,j⟩:=by
 intro K hK
 have m1:memOK (.str x) [.str "plaintext"] = true:=memOK_i hl (by decide +kernel) rfl
 have m2:memOK (.str x) (rawL b) = true:=memOK_i hl (by cases b <;> decide +kernel) rfl
 have m3:memOK (.str x) [.str "textarea",.str "title"] = true:=memOK_i hl (by decide +kernel) rfl
 have m4:memOK (.str x) [.str "script"] = true:=memOK_i hl (by decide +kernel) rfl
 refine run_qf (L:=[(117,.d (.bool b)),(141,.d (.str x))]) (by with_unfolding_all rfl) rfl ?_
 refine nd_x (st':=⟨[(0,.dict [("RCDATA",.d (.list [.str "textarea",.str "title"])),("script data",.d (.list [.str "script"])),("PLAINTEXT",.d (.list [.str "plaintext"]))])],1,j⟩) rfl ?_
 refine setK_i (v:=.d (.list (rawL b))) (es':=kindE b) (st':=⟨[(0,.dict (kindE b))],1,j⟩) (fun K hK => by cases b <;> exact hK) rfl rfl (by kernel_rfl) (by kernel_rfl) rfl ?_
 have four:=four_len (memD (.str x) [.str "plaintext"]) (memD (.str x) (rawL b)) (memD (.str x) [.str "textarea",.str "title"]) (memD (.str x) [.str "script"])
 refine ret_i (v:=.d (.str (kdF x b))) (fun K hK => ?_) (show St.cut ⟨[(0,.dict (kindE b))],1,j⟩ 0 (fun st => K (.d (.str (kdF x b))) st) from cut0 rfl hK)
 have S:HasV [] (.srtK (.v 127)) [(127,.loc 0),(117,.d (.bool b)),(141,.d (.str x))] ⟨[(0,.dict (kindE b))],1,j⟩ (.d (.list [.str "PLAINTEXT",.str "RAWTEXT",.str "RCDATA",.str "script data"])):=hv_srt (n:=0) (es:=kindE b) rfl rfl (by kernel_rfl) (by kernel_rfl)
 refine hv_idx0 (hv_cif (ys:=fourL _ _ _ _) S (show 4 ≤ bigLen by decide) fun k hk => ?_) (Nat.le_trans (Nat.add_le_add_right four 1) (by decide)) (four_idx _ _ _ _) K hK
 refine cif_step (hv_it (es:=kindE b) rfl rfl rfl (by kernel_rfl) m1) trivial ?_
 refine cif_step (hv_it (es:=kindE b) rfl rfl rfl (by kernel_rfl) m2) trivial ?_
 refine cif_step (hv_it (es:=kindE b) rfl rfl rfl (by kernel_rfl) m3) trivial ?_
 refine cif_step (hv_it (es:=kindE b) rfl rfl rfl (by kernel_rfl) m4) trivial ?_
 exact hk
noncomputable def namesA:List Str:=["title","textarea","style","xmp","iframe","noembed","noframes","noscript","script","plaintext","div","html","pre","listing","template"]
noncomputable def namesB:List Str:=["select","TITLE",""]
noncomputable abbrev nmB:MSs:=(.cons (.forr 117 (.of (.tup (.cons (.lit (.bool false)) (.cons (.lit (.bool true)) .nil)))) (.cons (.ifs (.cmp .neS (.call 192 42 (.cons (.v 141) (.cons (.v 117) .nil))) (.call 19 787 (.cons (.v 141) (.cons (.v 117) .nil)))) (.cons (.ret (.lit (.bool false))) .nil) .nil) .nil)) .nil)
theorem names_ok:((namesA ++ namesB).all fun x => PyData.canLay0 (.str x) && (ssF x false == kdF x false) && (ssF x true == kdF x true)) = true:=by decide +kernel
end
end
section
open PySem.Builtin PySem.Builtin.Str
set_option maxRecDepth 100000
set_option maxHeartbeats 2000000
noncomputable abbrev lwT:Tab:=[(613,f_Tokenizer_end),(606,f_Tokenizer_feed),(857,f__law_begin),(754,f__law_digit),(888,f__law_due),(787,f__law_kind),(862,f__law_seen),(782,f__law_spots),(794,f__law_text),(35,f_drive),(42,f_start_state)]
noncomputable abbrev inB:MSs:=(.cons (.expr (.meth (.v 199) 743 606 81 (.cons (.slA (.v 202) (.v 46) (.v 157)) .nil))) (.cons (.assign 46 (.v 157)) (.cons (.expr (.call 66 35 (.cons (.v 199) (.cons (.v 48) .nil)))) (.cons (.ifs (.cmp .neD (.call 26 862 (.cons (.v 199) (.cons (.v 48) .nil))) (.idx .seq (.v 68) (.v 157))) (.cons (.ret (.lit (.bool false))) .nil) .nil) .nil))))
noncomputable abbrev wayB:MSs:=(.cons (.assignT [199,48] (.call 10 857 (.cons (.v 189) (.cons (.v 126) .nil)))) (.cons (.assign 46 (.lit (.int 0))) (.cons (.forr 157 (.of (.v 214)) inB) (.cons (.expr (.meth (.v 199) 743 613 77 .nil)) (.cons (.expr (.call 66 35 (.cons (.v 199) (.cons (.v 48) .nil)))) (.cons (.ifs (.cmp .neD (.call 26 862 (.cons (.v 199) (.cons (.v 48) .nil))) (.v 215)) (.cons (.ret (.lit (.bool false))) .nil) .nil) .nil))))))
section
variable {s:S} {sp:Str × Str} {kd:Str} {l:List Nat} {k n j:Nat} {L L1:Locs} {st:St} {ns:List Int} {K:SK} {w:AV}
noncomputable abbrev duesL (sp:Str × Str) (kd:Str) (l:List Nat):List PyData:=(List.range (l.length + 1)).map fun k => dueV sp (l.take k) kd false
structure LL (sp:Str × Str) (kd:Str) (l:List Nat) (w:AV) (L:Locs):Prop where
 h202:L.lookup 202 = some (.d (.str (stx l)))
 h68:L.lookup 68 = some (.d (.list (duesL sp kd l)))
 h215:L.lookup 215 = some (.d (dueV sp l kd true))
 h189:L.lookup 189 = some (.d (pairD sp))
 h126:L.lookup 126 = some (.d (.str kd))
 h183:L.lookup 183 = some (.d (.int (l.length:Int)))
 h214:L.lookup 214 = some w
structure WL (sp:Str × Str) (kd:Str) (l:List Nat) (w:AV) (k:Nat) (L:Locs):Prop where
 ll:LL sp kd l w L
 h199:L.lookup 199 = some (.loc 19)
 h48:L.lookup 48 = some (.loc 0)
 h46:L.lookup 46 = some (.d (.int (k:Int)))
structure Fx (sp:Str × Str) (kd:Str) (l:List Nat):Prop where
 ok:okP sp = true
 kdo:KD sp kd
 lay:okStr kd
 sl:okStr sp.1
 len:l.length ≤ 22
 okt:okT l
theorem okT_take {t:List Nat} (h:okT t) (k:Nat):okT (t.take k):=fun c hc => h c (List.mem_of_mem_take hc)
theorem expr_i {T:Tab} {e:ME} {r:MSs} {k:SK} {v:AV} {st':St} (h:∀ K:EK,K v st' → wpE T e L st K) (hK:wpSs T r L st' k):wpSs T (.cons (.expr e) r) L st k:=h _ hK
theorem seen_call (H:Tr s) (h199:L.lookup 199 = some (.loc 19)) (h48:L.lookup 48 = some (.loc 0)):HasV lwT (.call 26 862 (.cons (.v 199) (.cons (.v 48) .nil))) L (mk s) (seenA s):=fun K hK => opt_i h199 (opt_i h48 (q_seen H K hK))
theorem drive_call {s2:S} (d:Does f_drive [.loc 19,.loc 0] (mk s) (.d .none) (mk s2)) (h199:L.lookup 199 = some (.loc 19)) (h48:L.lookup 48 = some (.loc 0)) (K:EK) (hK:K (.d .none) (mk s2)):wpE lwT (.call 66 35 (.cons (.v 199) (.cons (.v 48) .nil))) L (mk s) K:=opt_i h199 (opt_i h48 (d K hK))
theorem ne_selfD {a:AV} {d:PyData} {st:St} {K:Bool → Prop} (h1:a.data st = some d) (hs:SeqAt.shaped d = true) (hK:K false):cmpW .neD a (.d d) st K:=ne_self h1 rfl hs hK
theorem in_body (X:Fx sp kd l) (H:At1 j sp kd l k s) (W:WL sp kd l w k L) (hk:k ≤ n) (hn:n ≤ l.length) (hK:∀ s',At1 j sp kd l n s' → K.n ((46,.d (.int (n:Int))) :: (157,.d (.int (n:Int))) :: L) (mk s')):wpSs lwT inB ((157,.d (.int (n:Int))) :: L) (mk s) K:=by
 obtain ⟨s1,s2,f1,f2,H2,hf⟩:=feed_drive H hk hn X.len (fun c hc => (X.okt c hc).2)
 obtain ⟨dd,tr⟩:=seen_rest H2 hf
 have hl:(stx l).length ≤ bigLen:=by rw [stx_len];exact Nat.le_trans X.len (by decide)
 have hnb:=k_bd (k:=n) (Nat.lt_of_le_of_lt hn (Nat.lt_of_le_of_lt X.len (by decide)))
 have due:pyIdx (duesL sp kd l) (n:Int) = some (dueV sp (l.take n) kd false):=pyIdx_pos (by rw [List.getElem?_map,List.getElem?_range (Nat.lt_succ_of_le hn)];rfl)
 refine expr_i (st':=mk s1) (fun K hK => opt_i W.h199 (opt_i W.ll.h202 (opt_i W.h46 (ifc_t (decide_eq_true hl) (f1 K hK |> fun q => by rw [← sl_nat l hk hn] at q;exact q))))) ?_
 refine asg_i (v:=.d (.int (n:Int))) (fun K hK => hK) ?_
 refine expr_i (st':=mk s2) (drive_call f2 W.h199 W.h48) ?_
 refine ifs_i (q:=false) (fun K hK => seen_call tr W.h199 W.h48 _ (opt_i W.ll.h68 (ifc_t (idx_ok hnb) (opt_i due (ne_selfD (K:=fun r => K (.d (.bool r)) (mk s2)) dd (dueV_ok (fun c hc => (okT_take X.okt n c hc).1) X.lay X.sl) hK))))) (fun e => nomatch e) fun _ => ?_
 exact hK s2 H2
theorem last_e {ks:List Nat}:(n :: ks).getLast?.getD k = ks.getLast?.getD n:=by
 cases ks with
 | nil => rfl
 | cons a t => rw [List.getLast?_cons_cons,List.getLast?_cons];rfl
theorem in_loop (X:Fx sp kd l):∀ (ks:List Nat) (k:Nat) (s:S) (L:Locs),At1 j sp kd l k s → WL sp kd l w k L → (∀ n ∈ ks,k ≤ n ∧ n ≤ l.length) → ks.Pairwise (· ≤ ·) → (∀ L' s',At1 j sp kd l (ks.getLast?.getD k) s' → WL sp kd l w (ks.getLast?.getD k) L' → K.n L' (mk s')) →
  loopF (fun x L st => wpSs lwT inB ((157,x) :: L) st) (ks.map fun (n:Nat) => .d (.int (n:Int))) L (mk s) K:=by
 intro ks
 induction ks with
 | nil => exact fun k s L H W _ _ hK => hK L s H W
 | cons n ks ih =>
  intro k s L H W hb hp hK
  obtain ⟨p1,p2⟩:=List.pairwise_cons.mp hp
  obtain ⟨h1,h2⟩:=hb n (.head _)
  rw [last_e] at hK
  exact in_body X H W h1 h2 fun s1 H1 => ih n s1 _ H1 ⟨⟨W.ll.h202,W.ll.h68,W.ll.h215,W.ll.h189,W.ll.h126,W.ll.h183,W.ll.h214⟩,W.h199,W.h48,rfl⟩ (fun m hm => ⟨p1 m hm,(hb m (.tail _ hm)).2⟩) p2 hK
theorem way_body (X:Fx sp kd l) (hsp:sp ∈ spotsL) (hj:j ≤ 2000) (ks:List Nat) (hb:∀ n ∈ ks,n ≤ l.length) (hp:ks.Pairwise (· ≤ ·)) (hl:ks.getLast?.getD 0 = l.length) (hz:ks.length ≤ 100) (W:LL sp kd l (.d (.list (ks.map fun (n:Nat) => .int (n:Int)))) L) (hK:∀ L' s',Tr s' → s'.j0 = j → LL sp kd l (.d (.list (ks.map fun (n:Nat) => .int (n:Int)))) L' → K.n L' (mk s')) :
  wpSs lwT wayB L ⟨[],0,j⟩ K:=by
 refine (show wpSs lwT wayB L ⟨[],0,j⟩ K from opt_i W.h189 (opt_i W.h126 (begin_all hsp (Nat.lt_of_le_of_lt hj (by decide)) _ ?_)))
 refine (show wpSs lwT _ ((48,.loc 0) :: (199,.loc 19) :: L) (mk (SJ sp kd j)) K from ?_)
 refine asg_i (v:=.d (.int 0)) (fun K hK => hK) ?_
 have hzz:((ks.map fun (n:Nat) => PyData.int (n:Int)).map AV.d).length ≤ bigLen:=by rw [List.length_map,List.length_map];exact Nat.le_trans hz (by decide)
 refine opt_i W.h214 (ifc_t (decide_eq_true hzz) (And.intro (fun _ => True.intro) ?_))
 rw [List.map_map]
 refine in_loop X ks 0 (SJ sp kd j) _ (begin_at X.ok X.kdo hj) ⟨⟨W.h202,W.h68,W.h215,W.h189,W.h126,W.h183,W.h214⟩,rfl,rfl,rfl⟩ (fun n hn => ⟨Nat.zero_le _,hb n hn⟩) hp fun L2 s2 H2 W2 => ?_
 rw [hl] at H2 W2
 obtain ⟨s3,s4,g1,g2,dd,tr,jj⟩:=end_drive H2 (List.take_of_length_le (Nat.le_refl _)) X.len
 refine expr_i (st':=mk s3) (fun K hK => opt_i W2.h199 (g1 K hK)) ?_
 refine expr_i (st':=mk s4) (drive_call g2 W2.h199 W2.h48) ?_
 refine ifs_i (q:=false) (fun K hK => seen_call tr W2.h199 W2.h48 _ (opt_i W2.ll.h215 (ne_selfD (K:=fun r => K (.d (.bool r)) (mk s4)) dd (dueV_ok (fun c hc => (X.okt c hc).1) X.lay X.sl) hK))) (fun e => nomatch e) fun _ => ?_
 exact hK L2 s4 tr jj W2.ll
def AllU (L:Locs):Prop:=∀ p ∈ L,p.2.und 0 = true
theorem AllU.d {i:Nat} {d:PyData} (h:AllU L):AllU ((i,.d d) :: L):=fun p hp => (List.mem_cons.mp hp).elim (fun e => e ▸ rfl) (h p)
noncomputable abbrev keepK:List Nat:=[189,126,202,183,68,215,214]
noncomputable abbrev kept (L:Locs):Locs:=L.filter fun p => keepK.contains p.1
theorem lk_kept {i:Nat} (hi:keepK.contains i = true):∀ L:Locs,(kept L).lookup i = L.lookup i
  | [] => rfl
  | p :: r => by
    unfold kept
    rw [List.filter_cons]
    cases h:keepK.contains p.1 with
    | true =>
      rw [if_pos rfl,show p = (p.1,p.2) from rfl,List.lookup_cons,List.lookup_cons]
      cases i == p.1 with
      | true => rfl
      | false => exact lk_kept hi r
    | false =>
      rw [if_neg (fun e => nomatch e),show p = (p.1,p.2) from rfl,List.lookup_cons]
      have:(i == p.1) = false:=by
        cases q:i == p.1 with
        | false => rfl
        | true => rw [eq_of_beq q,h] at hi;cases hi
      rw [this];exact lk_kept hi r
theorem LL.kept (W:LL sp kd l w L):LL sp kd l w (kept L):=⟨(lk_kept rfl L).trans W.h202,(lk_kept rfl L).trans W.h68,(lk_kept rfl L).trans W.h215,(lk_kept rfl L).trans W.h189,(lk_kept rfl L).trans W.h126,(lk_kept rfl L).trans W.h183,(lk_kept rfl L).trans W.h214⟩
theorem AllU.kept (h:AllU L):AllU (kept L):=fun p hp => h p (List.mem_filter.mp hp).1
theorem way_scope (X:Fx sp kd l) (hsp:sp ∈ spotsL) (hj:j ≤ 2000) (ks:List Nat) (hb:∀ n ∈ ks,n ≤ l.length) (hp:ks.Pairwise (· ≤ ·)) (hl:ks.getLast?.getD 0 = l.length) (hz:ks.length ≤ 100) (W:LL sp kd l (.d (.list (ks.map fun (n:Nat) => .int (n:Int)))) L) (U:AllU L) (hK:∀ j',j' ≤ 800 + j → K.n (kept L) ⟨[],0,j'⟩) :
  wpSs lwT (.scope keepK wayB) L ⟨[],0,j⟩ K:=by
 refine (show wpSs lwT wayB L ⟨[],0,j⟩ _ from way_body X hsp hj ks hb hp hl hz W fun L' s' tr jj W' => ?_)
 refine ⟨fun i hi => ?_,ifc_t (List.all_eq_true.mpr fun p hp => U p (List.mem_filter.mp hp).1) (cut0 (j:=s'.jb) rfl (hK _ (Nat.le_trans tr.jb.1 (Nat.add_le_add (Nat.le_of_lt tr.sm) (Nat.le_of_eq jj)))))⟩
 simp only [List.mem_cons,List.not_mem_nil,or_false] at hi
 rcases hi with rfl | rfl | rfl | rfl | rfl | rfl | rfl
 ·exact W'.h189.trans W.h189.symm
 ·exact W'.h126.trans W.h126.symm
 ·exact W'.h202.trans W.h202.symm
 ·exact W'.h183.trans W.h183.symm
 ·exact W'.h68.trans W.h68.symm
 ·exact W'.h215.trans W.h215.symm
 ·exact W'.h214.trans W.h214.symm
end
end
section
open PySem.Builtin PySem.Builtin.Str
set_option maxRecDepth 100000
set_option maxHeartbeats 2000000
section
variable {sp:Str × Str} {kd:Str} {l:List Nat} {L:Locs} {st:St} {ns:List Int} {T:Tab} {x:Str} {b:Bool} {K:SK}
theorem forr_i {i:Nat} {src:MI} {b r:MSs} {xs:List AV} {same:St → Prop} (hs:∀ K:List AV → (St → Prop) → St → Prop,K xs same st → wpI T src L st K) (hsame:∀ st,same st) (h:loopF (fun x L st => wpSs T b ((i,x) :: L) st) xs L st (seqK (wpSs T r) K)):wpSs T (.cons (.forr i src b) r) L st K:=hs _ ⟨hsame,h⟩
theorem src_of {e:ME} {xs:List PyData} (h:HasV T e L st (.d (.list xs))) (hz:xs.length ≤ bigLen) (K:List AV → (St → Prop) → St → Prop) (hK:K (xs.map .d) (fun _ => True) st):wpI T (.of e) L st K:=h _ (ifc_t (decide_eq_true (by rw [List.length_map];exact hz)) hK)
theorem hv_split {e:ME} {a:Str} {ws:List Str} (h:HasV T e L st (.d (.str a))) (h1:(decide (a.length ≤ 1048576) && decide ((PySem.Builtin.Str.spaceWords a (a.length + 1)).length ≤ bigLen)) = true) (h2:Txt.words a = ws):HasV T (.split e) L st (.d (.list (ws.map .str))):=fun K hK => h _ (ifc_t h1 (h2.symm ▸ hK))
theorem hv_addF {a e:ME} {xs ys:List PyData} (h:HasV T a L st (.d (.list xs))) (h2:HasV T e L st (.d (.list ys))) (hz:xs.length + ys.length ≤ bigLen):HasV T (.bin (.addL false) a e) L st (.d (.list (xs ++ ys))):=fun K hK => h _ (h2 _ (ifc_t (decide_eq_true hz) hK))
theorem nm_one (hl:PyData.canLay0 (.str x) = true) (hs:ssF x b = kdF x b) (h:L.lookup 141 = some (.d (.str x))) (hK:K.n ((117,.d (.bool b)) :: L) ⟨[],0,0⟩):wpSs lwT (.cons (.ifs (.cmp .neS (.call 192 42 (.cons (.v 141) (.cons (.v 117) .nil))) (.call 19 787 (.cons (.v 141) (.cons (.v 117) .nil)))) (.cons (.ret (.lit (.bool false))) .nil) .nil) .nil) ((117,.d (.bool b)) :: L) ⟨[],0,0⟩ K:=by
 have e:(ssF x b != kdF x b) = false:=by rw [hs];unfold bne;rw [beq_self_eq_true];rfl
 exact ifs_i (q:=false) (fun K hK => opt_i h (q_ss hl _ (opt_i h (q_kind hl _ (show K (.d (.bool (ssF x b != kdF x b))) ⟨[],0,0⟩ by rw [e];exact hK))))) (fun e => nomatch e) fun _ => hK
theorem nm_loop:∀ (xs:List Str) (L:Locs),(∀ x ∈ xs,x ∈ namesA ++ namesB) → AllU L → L.lookup 178 = some (scrA ns) → (∀ L,AllU L → L.lookup 178 = some (scrA ns) → K.n L ⟨[],0,0⟩) → loopF (fun x L st => wpSs lwT nmB ((141,x) :: L) st) ((xs.map PyData.str).map .d) L ⟨[],0,0⟩ K:=by
 intro xs
 induction xs with
 | nil => exact fun L _ U h hK => hK L U h
 | cons x xs ih =>
  intro L hx U h hK
  have q:=List.all_eq_true.mp names_ok x (hx x (.head _))
  have hl:=an_l (an_l q)
  have s0:=eq_of_beq (an_r (an_l q))
  have s1:=eq_of_beq (an_r q)
  refine loopF_c ?_
  refine forr_i (xs:=[.d (.bool false),.d (.bool true)]) (same:=fun _ => True) (fun K hK => hK) (fun _ => trivial) ?_
  refine loopF_c (nm_one hl s0 rfl ?_)
  refine lop_i (loopF_c (nm_one hl s1 rfl ?_))
  exact ih _ (fun y hy => hx y (.tail _ hy)) (U.d.d.d) h hK
theorem q_spots:Does f__law_spots [] st (.d (.list (spotsL.map pairD))) st:=by
 intro K hK
 refine run_q (L:=[]) (by with_unfolding_all rfl) rfl ?_
 refine asg_i (v:=.d (.list ((spotsL.take 5).map pairD))) (fun K hK => hK) ?_
 refine asg_i (v:=.d (.list ((spotsL.take 10).map pairD))) (fun K hK => hK) ?_
 exact hK
noncomputable def kdB (p:Str × Str) (b:Bool):Bool:=(ssF p.2 b == "data" || (ssF p.2 b == "RCDATA" || ssF p.2 b == "RAWTEXT" || ssF p.2 b == "script data" || ssF p.2 b == "PLAINTEXT")) && decide (okStr (ssF p.2 b))
theorem kd_all:(spotsL.all fun p => okP p && decide (okStr p.1) && PyData.canLay0 (.str p.2) && (!(p.1 == "html") || (kdB p false && kdB p true))) = true:=by decide +kernel
theorem oe {a b:Bool} (h:(a || b) = true):a = true ∨ b = true:=by cases a;exact .inr h;exact .inl rfl
theorem kd_of {p:Str × Str} (h:p.1 = "html") (q:kdB p b = true):KD p (ssF p.2 b) ∧ okStr (ssF p.2 b):=by
 refine ⟨(oe (an_l q)).elim (fun e => .inl (eq_of_beq e)) fun e => .inr ⟨?_,h⟩,of_decide_eq_true (an_r q)⟩
 exact (oe e).elim (fun e => (oe e).elim (fun e => (oe e).elim (fun e => .inl (eq_of_beq e)) fun e => .inr (.inl (eq_of_beq e))) fun e => .inr (.inr (.inl (eq_of_beq e)))) fun e => .inr (.inr (.inr (eq_of_beq e)))
noncomputable abbrev duesE:ME:=(.comp (.call 13 888 (.cons (.slH (.v 202) (.v 125)) (.cons (.v 189) (.cons (.v 126) (.cons (.lit (.bool false)) .nil))))) 125 (.rng (.bin .addI (.v 183) (.lit (.int 1)))))
noncomputable def gD (sp:Str × Str) (kd:Str) (l:List Nat):AV → PyData:=onD .none (oInt .none fun i => dueV sp (l.take i.toNat) kd false)
theorem dues_ev (X:Fx sp kd l) (h202:L.lookup 202 = some (.d (.str (stx l)))) (h183:L.lookup 183 = some (.d (.int (l.length:Int)))) (h189:L.lookup 189 = some (.d (pairD sp))) (h126:L.lookup 126 = some (.d (.str kd))):HasV lwT duesE L ⟨[],0,0⟩ (.d (.list (duesL sp kd l))):=by
 intro K hK
 have hz:(stx l).length ≤ bigLen:=by rw [stx_len];exact Nat.le_trans X.len (by decide)
 have e:((List.range (l.length + 1)).map fun (k:Nat) => AV.d (.int (k:Int))).map (gD sp kd l) = duesL sp kd l:=by rw [List.map_map];rfl
 rw [← e] at hK
 refine opt_i h183 (ifc_t (show Nat.blt (l.length + 1) bigLen = true from Nat.ble_eq_true_of_le (show l.length + 1 + 1 ≤ bigLen from Nat.le_trans (Nat.add_le_add_right X.len 2) (by decide))) ?_)
 refine compW_pure (gD sp kd l) trivial (fun y hy k hk => ?_) hK
 obtain ⟨n,hn,rfl⟩:=List.mem_map.mp hy
 refine opt_i h202 (ifc_t (decide_eq_true hz) ?_)
 rw [sl_to]
 exact opt_i h189 (opt_i h126 (due_val (j:=0) (fun x hx => (okT_take X.okt n x hx).1) (Nat.le_trans (by rw [List.length_take];exact Nat.min_le_right _ _) (Nat.le_trans X.len (by decide))) (inv_C0 X.ok X.kdo) _ hk))
theorem last_snoc (ks:List Nat) (n:Nat):(ks ++ [n]).getLast?.getD 0 = n:=by simp
theorem rng_last (n:Nat):((List.range n).map (fun k => 1 + k)).getLast?.getD 0 = n:=by
 cases n with
 | zero => rfl
 | succ n => rw [List.range_succ,List.map_append];simp;omega
theorem rng_pair (n:Nat):((List.range n).map (fun k => 1 + k)).Pairwise (· ≤ ·):=by
 rw [List.pairwise_map]
 exact List.Pairwise.imp (fun h => by omega) List.pairwise_lt_range
theorem ins_len (x:Int) (ys:List Int):(insSorted x ys).length = ys.length + 1:=by
 induction ys with
 | nil => rfl
 | cons y ys ih => unfold insSorted;cases decide (x ≤ y) with | true => rfl | false => exact congrArg (· + 1) ih
theorem sort_len (xs:List Int):(xs.foldr insSorted []).length = xs.length:=by
 induction xs with
 | nil => rfl
 | cons x xs ih => exact (ins_len _ _).trans (congrArg (· + 1) ih)
noncomputable abbrev lenE:ME:=(.bin .addI (.v 183) (.lit (.int 1)))
theorem hv_modl {e:ME} {d:Int} {n:Nat} (h183:L.lookup 183 = some (.d (.int (n:Int)))) (he:HasV T e L st (.d (.int d))):HasV T (.bin .mod e lenE) L st (.d (.int (d.fmod ((n + 1:Nat):Int)))):=fun K hK => he _ (opt_i h183 hK)
theorem hv_fdiv {a:ME} {d n N:Int} (ha:HasV T a L st (.d (.int d))) (hN:N = 1073741824) (h0:0 < n) (h1:n < N):HasV T (.bin .fdiv a (.lit (.int n))) L st (.d (.int (d.fdiv n))):=by
 intro K hK
 have r:=ha (fun x st => x.int fun x => gd (decide (0 < n) && decide (n < N)) (K (.d (.int (x.fdiv n))) st)) (ifc_t (and_dec ⟨h0,h1⟩) hK)
 subst hN
 exact r
theorem hv_addl {a:ME} {d m:Int} (ha:HasV T a L st (.d (.int d))):HasV T (.bin .addI a (.lit (.int m))) L st (.d (.int (d + m))):=fun K hK => ha _ hK
theorem hv_v {i:Nat} {v:AV} (h:L.lookup i = some v):HasV T (.v i) L st v:=fun K hK => opt_i h hK
theorem hv_srtI {e:ME} {xs:List Int} (h:HasV T e L st (.d (.list (xs.map .int)))) (hz:Nat.ble xs.length 16 = true):HasV T (.srtI e) L st (.d (.list ((xs.foldr insSorted []).map .int))):=fun K hK => h _ (opt_i (ints_of xs) (ifc_t hz hK))
theorem hv_fro3 {a b c:ME} {x y z:Int} (h1:HasV T a L st (.d (.int x))) (h2:HasV T b L st (.d (.int y))) (h3:HasV T c L st (.d (.int z))):HasV T (.lst .fro (.cons a (.cons b (.cons c .nil)))) L st (.d (.list ([x,y,z].map .int))):=fun K hK => h1 _ (h2 _ (h3 _ hK))
theorem hv_lstR {a b:ME} {x y:Int} {B:Nat} (ha:HasV T a L st (.d (.int x))) (hb:HasV T b L st (.d (.int y))) (hB:B = bigLen) (g:(decide (0 ≤ x) && decide (x < (B:Int)) && decide (0 ≤ y) && decide (y < (B:Int))) = true):HasV T (.lstRng a b) L st (.d (.list ((List.range (y - x).toNat).map fun (i:Nat) => .int (x + i)))):=by
 intro K hK
 have r:=ha (fun x st => wpE T b L st fun y st => x.int fun x => y.int fun y => gd (decide (0 ≤ x) && decide (x < (B:Int)) && decide (0 ≤ y) && decide (y < (B:Int))) (K (.d (.list ((List.range (y - x).toNat).map fun (i:Nat) => .int (x + i)))) st)) (hb (fun y st => (AV.d (.int x)).int fun x => y.int fun y => gd (decide (0 ≤ x) && decide (x < (B:Int)) && decide (0 ≤ y) && decide (y < (B:Int))) (K (.d (.list ((List.range (y - x).toNat).map fun (i:Nat) => .int (x + i)))) st)) (ifc_t g hK))
 subst hB
 exact r
theorem hv_rng {n:Nat} (hn:n ≤ 100) (h183:L.lookup 183 = some (.d (.int (n:Int)))):HasV T (.lstRng (.lit (.int 1)) lenE) L st (.d (.list (((List.range n).map fun k => 1 + k).map fun (k:Nat) => .int (k:Int)))):=by
 have e:(List.range ((((n:Int) + 1) - 1).toNat)).map (fun (k:Nat) => PyData.int (1 + (k:Int))) = ((List.range n).map fun k => 1 + k).map fun (k:Nat) => PyData.int (k:Int):=by
  rw [List.map_map,show (((n:Int) + 1) - 1).toNat = n from by omega];rfl
 rw [← e]
 obtain ⟨B,hB⟩:∃ B,B = bigLen:=⟨_,rfl⟩
 have hb:101 < B:=by rw [hB];decide
 exact hv_lstR hv_lit (fun K hK => opt_i h183 hK) hB (by rw [decide_eq_true (show (0:Int) ≤ 1 by decide),decide_eq_true (show (1:Int) < (B:Int) by omega),decide_eq_true (show (0:Int) ≤ (n:Int) + 1 by omega),decide_eq_true (show (n:Int) + 1 < (B:Int) by omega)];rfl)
end
end
section
open PySem.Builtin PySem.Builtin.Str
set_option maxRecDepth 100000
set_option maxHeartbeats 2000000
noncomputable abbrev lw8:MSs:=(.cons (.assign 183 (.len .str (.v 202))) (.cons (.assign 60 (.call 12 754 (.cons (.v 178) (.cons (.lit (.int 1)) .nil)))) (.cons (.assign 61 (.srtI (.lst .fro (.cons (.bin .mod (.bin .addI (.v 60) (.lit (.int 5))) (.bin .addI (.v 183) (.lit (.int 1)))) (.cons (.bin .mod (.bin .addI (.bin .fdiv (.v 60) (.lit (.int 32))) (.lit (.int 9))) (.bin .addI (.v 183) (.lit (.int 1)))) (.cons (.bin .mod (.bin .addI (.bin .fdiv (.v 60) (.lit (.int 1024))) (.lit (.int 15))) (.bin .addI (.v 183) (.lit (.int 1)))) .nil)))))) (.cons (.assign 68 (.comp (.call 13 888 (.cons (.slH (.v 202) (.v 125)) (.cons (.v 189) (.cons (.v 126) (.cons (.lit (.bool false)) .nil))))) 125 (.rng (.bin .addI (.v 183) (.lit (.int 1)))))) (.cons (.assign 215 (.call 13 888 (.cons (.v 202) (.cons (.v 189) (.cons (.v 126) (.cons (.lit (.bool true)) .nil)))))) (.cons (.forr 214 (.of (.lst .fro (.cons (.bin (.addL false) (.v 61) (.lst .fro (.cons (.v 183) .nil))) (.cons (.lstRng (.lit (.int 1)) (.bin .addI (.v 183) (.lit (.int 1)))) .nil)))) (.scope keepK wayB)) (.cons (.ret (.lit (.bool true))) .nil)))))))
noncomputable abbrev lw7:MSs:=(.cons (.assign 202 (.call 29 794 (.cons (.v 178) .nil))) lw8)
noncomputable abbrev lw2:MSs:=(.cons (.assign 63 (.call 12 754 (.cons (.v 178) (.cons (.lit (.int 0)) .nil)))) (.cons (.assign 190 (.call 27 782 .nil)) (.cons (.assign 189 (.idx .seq (.v 190) (.bin .mod (.v 63) (.len .lst (.v 190))))) (.cons (.assign 126 (.lit (.str "data"))) (.cons (.ifs (.cmp .eqS (.idx .tup (.v 189) (.lit (.int 0))) (.lit (.str "html"))) (.cons (.assign 126 (.call 192 42 (.cons (.idx .tup (.v 189) (.lit (.int 1))) (.cons (.cmp .eqI (.bin .mod (.bin .fdiv (.v 63) (.len .lst (.v 190))) (.lit (.int 2))) (.lit (.int 1))) .nil)))) .nil) .nil) lw7)))))
noncomputable abbrev lw0:MSs:=(.cons (.assign 142 (.lit (.str "title textarea style xmp iframe noembed noframes noscript script plaintext div html pre listing template"))) (.cons (.forr 141 (.of (.bin (.addL false) (.split (.v 142)) (.lst .fro (.cons (.lit (.str "select")) (.cons (.lit (.str "TITLE")) (.cons (.lit (.str "")) .nil)))))) nmB) lw2))
theorem law_eq:b_law = lw0:=rfl
section
variable {sp:Str × Str} {kd:Str} {l:List Nat} {L:Locs} {ns:List Int} {K:SK}
theorem hv_fro2 {T:Tab} {st:St} {a b:ME} {x y:PyData} (h1:HasV T a L st (.d x)) (h2:HasV T b L st (.d y)):HasV T (.lst .fro (.cons a (.cons b .nil))) L st (.d (.list [x,y])):=fun K hK => h1 _ (h2 _ hK)
theorem hv_ways {T:Tab} {st:St} {L:Locs} {a:ME} {x:PyData} {n:Nat} (h1:HasV T a L st (.d x)) (hn:n ≤ 100) (h183:L.lookup 183 = some (.d (.int (n:Int)))):HasV T (.lst .fro (.cons a (.cons (.lstRng (.lit (.int 1)) lenE) .nil))) L st (.d (.list [x,.list (((List.range n).map fun k => 1 + k).map fun (k:Nat) => .int (k:Int))])):=hv_fro2 h1 (hv_rng hn h183)
theorem law8 (hn:ns.length ≤ 63) (hsp:sp ∈ spotsL) (X:Fx sp kd l) (U:AllU L) (h178:L.lookup 178 = some (scrA ns)) (h189:L.lookup 189 = some (.d (pairD sp))) (h126:L.lookup 126 = some (.d (.str kd))) (hK:∀ st,K.r (.d (.bool true)) st):wpSs lwT lw8 ((202,.d (.str (stx l))) :: L) ⟨[],0,0⟩ K:=by
 have hz:(stx l).length ≤ bigLen:=by rw [stx_len];exact Nat.le_trans X.len (by decide)
 have len:=X.len
 refine asg_i (v:=.d (.int (l.length:Int))) (fun K hK => ifc_t (decide_eq_true hz) (by rw [← stx_len l] at hK;exact hK)) ?_
 refine asg_i (v:=.d (.int (dig ns 1))) (fun K hK => opt_i h178 (q_digit hn (k:=1) (by decide) K hK)) ?_
 generalize dig ns 1 = d
 have bnd:∀ z:Int,0 ≤ z.fmod ((l.length + 1:Nat):Int) ∧ z.fmod ((l.length + 1:Nat):Int) ≤ (l.length:Int):=fun z => by
  have h1:=Int.fmod_nonneg_of_pos z (b:=((l.length + 1:Nat):Int)) (by omega)
  have h2:=Int.fmod_lt_of_pos z (b:=((l.length + 1:Nat):Int)) (by omega)
  omega
 have srt:HasV lwT _ ((60,.d (.int d)) :: (183,.d (.int (l.length:Int))) :: (202,.d (.str (stx l))) :: L) ⟨[],0,0⟩ _:=hv_srtI (hv_fro3 (hv_modl (n:=l.length) rfl (hv_addl (m:=5) (hv_v (i:=60) (v:=.d (.int d)) rfl))) (hv_modl (n:=l.length) rfl (hv_addl (m:=9) (hv_fdiv (n:=32) (hv_v (i:=60) (v:=.d (.int d)) rfl) rfl (by decide) (by decide)))) (hv_modl (n:=l.length) rfl (hv_addl (m:=15) (hv_fdiv (n:=1024) (hv_v (i:=60) (v:=.d (.int d)) rfl) rfl (by decide) (by decide))))) rfl
 obtain ⟨ks,hks,pks,bks⟩:=nat_list (n:=l.length) _ (sort_sorted [(d + 5).fmod ((l.length + 1:Nat):Int),(d.fdiv 32 + 9).fmod ((l.length + 1:Nat):Int),(d.fdiv 1024 + 15).fmod ((l.length + 1:Nat):Int)]) fun x hx => by
  have:=sort_mem hx
  simp only [List.mem_cons,List.not_mem_nil,or_false] at this
  rcases this with h | h | h <;> (rw [h];exact bnd _)
 have kl:ks.length = 3:=by rw [← List.length_map (f:=fun (k:Nat) => (k:Int)),← hks,sort_len];rfl
 refine asg_i srt ?_
 rw [hks]
 refine asg_i (dues_ev X rfl rfl h189 h126) ?_
 refine asg_i (v:=.d (dueV sp l kd true)) (fun K hK => opt_i h189 (opt_i h126 (due_val (j:=0) (fun x hx => (X.okt x hx).1) (Nat.le_trans len (by decide)) (inv_C0 X.ok X.kdo) K hK))) ?_
 have w1:HasV lwT (.bin (.addL false) (.v 61) (.lst .fro (.cons (.v 183) .nil))) ((215,.d (dueV sp l kd true)) :: (68,.d (.list (duesL sp kd l))) :: (61,.d (.list ((ks.map fun (k:Nat) => (k:Int)).map .int))) :: (60,.d (.int d)) :: (183,.d (.int (l.length:Int))) :: (202,.d (.str (stx l))) :: L) ⟨[],0,0⟩ (.d (.list ((ks ++ [l.length]).map fun (n:Nat) => .int (n:Int)))):=by
  have e:(ks ++ [l.length]).map (fun (n:Nat) => PyData.int (n:Int)) = (ks.map fun (k:Nat) => (k:Int)).map .int ++ [.int (l.length:Int)]:=by rw [List.map_append,List.map_map];rfl
  rw [e]
  exact hv_addF (hv_v rfl) (fun K hK => hK) (by rw [List.length_map,List.length_map,kl];exact (show 3 + 1 ≤ bigLen by decide))
 have h100:l.length ≤ 100:=Nat.le_trans len (by decide)
 have l183:List.lookup 183 ((215,AV.d (dueV sp l kd true)) :: (68,.d (.list (duesL sp kd l))) :: (61,.d (.list ((ks.map fun (k:Nat) => (k:Int)).map .int))) :: (60,.d (.int d)) :: (183,.d (.int (l.length:Int))) :: (202,.d (.str (stx l))) :: L) = some (.d (.int (l.length:Int))):=rfl
 have w3:=hv_ways w1 h100 l183
 refine forr_i (src_of (xs:=[.list ((ks ++ [l.length]).map fun (n:Nat) => .int (n:Int)),.list (((List.range l.length).map fun k => 1 + k).map fun (n:Nat) => .int (n:Int))]) w3 (show 2 ≤ bigLen by decide)) (fun _ => trivial) ?_
 have U2:AllU ((215,.d (dueV sp l kd true)) :: (68,.d (.list (duesL sp kd l))) :: (61,.d (.list ((ks.map fun (k:Nat) => (k:Int)).map .int))) :: (60,.d (.int d)) :: (183,.d (.int (l.length:Int))) :: (202,.d (.str (stx l))) :: L):=U.d.d.d.d.d.d
 refine loopF_c (way_scope X hsp (Nat.zero_le _) (ks ++ [l.length]) (fun n h => (List.mem_append.mp h).elim (bks n) fun h => Nat.le_of_eq (List.mem_singleton.mp h)) (List.pairwise_append.mpr ⟨pks,List.pairwise_singleton _ _,fun a ha b hb => by rw [List.mem_singleton.mp hb];exact bks a ha⟩) (last_snoc _ _) (by rw [List.length_append,kl];exact (show 3 + 1 ≤ 100 by decide)) ⟨rfl,rfl,rfl,h189,h126,rfl,rfl⟩ U2.d fun j hj => ?_)
 refine lop_i (loopF_c (way_scope X hsp (Nat.le_trans hj (by decide)) ((List.range l.length).map fun k => 1 + k) (fun n h => by
   obtain ⟨k,hk,rfl⟩:=List.mem_map.mp h
   have:=List.mem_range.mp hk
   omega) (rng_pair _) (rng_last _) (by rw [List.length_map,List.length_range];exact Nat.le_trans len (by decide)) ⟨?_,?_,?_,?_,?_,?_,rfl⟩ (AllU.kept U2.d).d fun j' _ => ?_))
 ·exact (lk_kept (i:=202) rfl _).trans rfl
 ·exact (lk_kept (i:=68) rfl _).trans rfl
 ·exact (lk_kept (i:=215) rfl _).trans rfl
 ·exact (lk_kept (i:=189) rfl _).trans h189
 ·exact (lk_kept (i:=126) rfl _).trans h126
 ·exact (lk_kept (i:=183) rfl _).trans rfl
 ·exact hK _
end
end
section
open PySem.Builtin PySem.Builtin.Str
set_option maxRecDepth 100000
set_option maxHeartbeats 2000000
section
variable {sp:Str × Str} {kd:Str} {l:List Nat} {L:Locs} {ns:List Int} {K:SK}
theorem law7 (hn:ns.length ≤ 63) (hsp:sp ∈ spotsL) (h1:okP sp = true) (h2:KD sp kd) (h3:okStr kd) (h4:okStr sp.1) (U:AllU L) (h178:L.lookup 178 = some (scrA ns)) (h189:L.lookup 189 = some (.d (pairD sp))) (h126:L.lookup 126 = some (.d (.str kd))) (hK:∀ st,K.r (.d (.bool true)) st):wpSs lwT lw7 L ⟨[],0,0⟩ K :=
 opt_i h178 (q_text0 hn fun l okt len => law8 hn hsp ⟨h1,h2,h3,h4,len,okt⟩ U h178 h189 h126 hK)
theorem hv_spot {T:Tab} {st:St} {i:Nat} {xs:List PyData} {d m:Int} {x:PyData} (hm:(xs.length:Int) = m) (hz:xs.length ≤ bigLen) (h63:L.lookup 63 = some (.d (.int d))) (h190:L.lookup 190 = some (.d (.list xs))) (g0:0 < m) (e:d.fmod m = (i:Int)) (hi:i < 100) (hx:xs[i]? = some x):HasV T (.idx .seq (.v 190) (.bin .mod (.v 63) (.len .lst (.v 190)))) L st (.d x):=by
 subst hm
 have q:(!((xs.length:Int) == 0)) = true:=by cases h:((xs.length:Int) == 0) with | false => rfl | true => exact absurd (eq_of_beq h) (by omega)
 exact fun K hK => opt_i h190 (opt_i h63 (opt_i h190 (ifc_t (decide_eq_true hz) (ifc_t q (show idxW .seq (.d (.list xs)) (.d (.int (d.fmod (xs.length:Int)))) st (fun v => K v st) from by rw [e];exact (ifc_t (idx_ok (k_bd (k:=i) (Nat.lt_trans hi (by decide)))) (opt_i (pyIdx_pos hx) hK)))))))
theorem hv_one {T:Tab} {st:St} {i:Nat} {a b:PyData} (h:L.lookup i = some (.d (.tuple [a,b]))):HasV T (.idx .tup (.v i) (.lit (.int 1))) L st (.d b):=fun K hK => opt_i h hK
theorem hv_zero {T:Tab} {st:St} {i:Nat} {a b:PyData} (h:L.lookup i = some (.d (.tuple [a,b]))):HasV T (.idx .tup (.v i) (.lit (.int 0))) L st (.d a):=fun K hK => opt_i h hK
theorem hv_eqS {T:Tab} {st:St} {e:ME} {x y:Str} (h:HasV T e L st (.d (.str x))):HasV T (.cmp .eqS e (.lit (.str y))) L st (.d (.bool (x == y))):=fun K hK => h _ hK
theorem hv_odd {T:Tab} {st:St} {xs:List PyData} {d m N:Int} (hm:(xs.length:Int) = m) (hz:xs.length ≤ bigLen) (hN:N = 1073741824) (g0:0 < m) (g1:m < N) (h63:L.lookup 63 = some (.d (.int d))) (h190:L.lookup 190 = some (.d (.list xs))):HasV T (.cmp .eqI (.bin .mod (.bin .fdiv (.v 63) (.len .lst (.v 190))) (.lit (.int 2))) (.lit (.int 1))) L st (.d (.bool ((d.fdiv m).fmod 2 == 1))):=by
 subst hm
 intro K hK
 exact opt_i h63 (opt_i h190 (ifc_t (decide_eq_true hz) (ifc_t (and_dec ⟨g0,hN ▸ g1⟩) hK)))
theorem fit (hp:sp ∈ spotsL):okP sp = true ∧ okStr sp.1 ∧ PyData.canLay0 (.str sp.2) = true ∧ (sp.1 = "html" → ∀ b,kdB sp b = true):=by
 have h:=List.all_eq_true.mp kd_all sp hp
 exact ⟨an_l (an_l (an_l h)),of_decide_eq_true (an_r (an_l (an_l h))),an_r (an_l h),fun e b => (oe (an_r h)).elim (fun q => by rw [e] at q;exact (nomatch q)) fun q => by cases b;exact an_l q;exact an_r q⟩
theorem hv_call2 {T:Tab} {st:St} {i a:Nat} {f:Fn} {e1 e2:ME} {x y v:AV} (h1:HasV T e1 L st x) (h2:HasV T e2 L st y) (hf:T.lookup a = some f) (d:Does f [x,y] st v st):HasV T (.call i a (.cons e1 (.cons e2 .nil))) L st v:=fun K hK => h1 _ (h2 _ (show T.at a [x,y] st K by unfold Tab.at;rw [hf];exact d K hK))
theorem law2 (hn:ns.length ≤ 63) (U:AllU L) (h178:L.lookup 178 = some (scrA ns)) (hK:∀ st,K.r (.d (.bool true)) st):wpSs lwT lw2 L ⟨[],0,0⟩ K:=by
 refine asg_i (v:=.d (.int (dig ns 0))) (fun K hK => opt_i h178 (q_digit hn (k:=0) (by decide) K hK)) ?_
 refine asg_i (v:=.d (.list (spotsL.map pairD))) (fun K hK => q_spots K hK) ?_
 generalize dig ns 0 = d
 have m0:0 ≤ d.fmod 14:=Int.fmod_nonneg_of_pos _ (by decide)
 have m1:d.fmod 14 < 14:=Int.fmod_lt_of_pos _ (by decide)
 obtain ⟨i,ei⟩:∃ i:Nat,d.fmod 14 = (i:Int):=⟨(d.fmod 14).toNat,by omega⟩
 have hi:i < 14:=by omega
 obtain ⟨sp,hsp⟩:∃ sp,spotsL[i]? = some sp:=⟨_,List.getElem?_eq_getElem (show i < spotsL.length from hi)⟩
 have hx:(spotsL.map pairD)[i]? = some (pairD sp):=by rw [List.getElem?_map,hsp];rfl
 have mem:=List.mem_of_getElem? hsp
 have hl:(spotsL.map pairD).length = 14:=by rw [List.length_map];rfl
 have hz:(spotsL.map pairD).length ≤ bigLen:=by rw [hl];decide
 have hm:((spotsL.map pairD).length:Int) = 14:=by rw [hl];rfl
 obtain ⟨f1,f2,f3,f4⟩:=fit mem
 refine asg_i (hv_spot hm hz rfl rfl (by decide) ei (Nat.lt_trans hi (by decide)) hx) ?_
 refine asg_i (v:=.d (.str "data")) (fun K hK => hK) ?_
 refine ifs_i (q:=sp.1 == "html") (hv_eqS (hv_zero (b:=.str sp.2) rfl)) (fun q => ?_) fun q => ?_
 ·have e:=eq_of_beq q
  refine asg_i (v:=.d (.str (ssF sp.2 ((d.fdiv 14).fmod 2 == 1)))) (hv_call2 (hv_one (a:=.str sp.1) (b:=.str sp.2) rfl) (hv_odd hm hz rfl (by decide) (by decide) rfl rfl) rfl (q_ss f3)) ?_
  have k:=kd_of (b:=((d.fdiv 14).fmod 2 == 1)) e (f4 e _)
  exact law7 hn mem f1 k.1 k.2 f2 U.d.d.d.d.d h178 rfl rfl hK
 ·exact law7 hn mem f1 (.inl rfl) (by decide +kernel) f2 U.d.d.d.d h178 rfl rfl hK
theorem plain_law:∀ ns:List Int,ns.length ≤ 63 → ∀ K:EK,(∀ st,K (.d (.bool true)) st) → f_law [.d (.list (ns.map .int))] ⟨[],0,0⟩ K:=by
 intro ns hn K hK
 refine run_q (L:=[(178,scrA ns)]) (by with_unfolding_all rfl) rfl ?_
 refine (show wpSs lwT lw0 _ _ _ from ?_)
 refine asg_i hv_lit ?_
 refine forr_i (src_of (xs:=(namesA ++ namesB).map .str) (by rw [List.map_append];exact hv_addF (hv_split (ws:=namesA) (hv_v rfl) (by decide +kernel) (by decide +kernel)) (fun K hK => hK) (by decide +kernel)) (by decide +kernel)) (fun _ => trivial) ?_
 have U:AllU [(178,scrA ns)]:=fun p hp => by rw [List.mem_singleton.mp hp];rfl
 exact nm_loop (namesA ++ namesB) _ (fun x h => h) U.d rfl fun L U h => law2 hn U h fun st => hK st
end
end
namespace hd
theorem tw10012880186880212623:True:=trivial
theorem tw10024716035694756283:True:=trivial
theorem tw10030107230732127627:True:=trivial
theorem tw100483095206116625:True:=trivial
theorem tw1005483496087919985:True:=trivial
theorem tw10098268173465320503:True:=trivial
theorem tw10102539355485613405:True:=trivial
theorem tw10111801491309104144:True:=trivial
theorem tw1011335219593555734:True:=trivial
theorem tw10117440562283002822:True:=trivial
theorem tw1013155817946168525:True:=trivial
theorem tw10162613168920436665:True:=trivial
theorem tw10170382586518783626:True:=trivial
theorem tw10200926772931222457:True:=trivial
theorem tw102014493982917126:True:=trivial
theorem tw10210669037155785340:True:=trivial
theorem tw10216474801634566288:True:=trivial
theorem tw10246146449241189800:True:=trivial
theorem tw10258999931320997221:True:=trivial
theorem tw10264135568141901301:True:=trivial
theorem tw10273187271170590260:True:=trivial
theorem tw10283529075043463162:True:=trivial
theorem tw10286656452748174568:True:=trivial
theorem tw1033889070964956483:True:=trivial
theorem tw10360471539772378328:True:=trivial
theorem tw10365702040365258594:True:=trivial
theorem tw10376703724636587151:True:=trivial
theorem tw10403243965636340961:True:=trivial
theorem tw10404513684093684653:True:=trivial
theorem tw10424393626065333798:True:=trivial
theorem tw10458740792067480800:True:=trivial
theorem tw10465514089279642386:True:=trivial
theorem tw10491609206876299696:True:=trivial
theorem tw10507497572311344420:True:=trivial
theorem tw1051681510052472703:True:=trivial
theorem tw10525666975642140466:True:=trivial
theorem tw10531373872144210542:True:=trivial
theorem tw10543509907540572799:True:=trivial
theorem tw10583446816852156582:True:=trivial
theorem tw10603584201595350602:True:=trivial
theorem tw10614716105012338702:True:=trivial
theorem tw10643592516055977328:True:=trivial
theorem tw10660096896716822846:True:=trivial
theorem tw10678649693572172417:True:=trivial
theorem tw10727248033764811480:True:=trivial
theorem tw10738003575532504788:True:=trivial
theorem tw10763509664835889504:True:=trivial
theorem tw10772546034069785438:True:=trivial
theorem tw10778013660560245624:True:=trivial
theorem tw10778257442750969130:True:=trivial
theorem tw10781468475247234061:True:=trivial
theorem tw10784824025267889561:True:=trivial
theorem tw10788059911547816233:True:=trivial
theorem tw10806950440038215891:True:=trivial
theorem tw10834780440838970164:True:=trivial
theorem tw10841399608879689956:True:=trivial
theorem tw10845626234925267891:True:=trivial
theorem tw10847404155465417027:True:=trivial
theorem tw1088296927520436173:True:=trivial
theorem tw10905181550472923540:True:=trivial
theorem tw10905682514733158466:True:=trivial
theorem tw10919297434634762262:True:=trivial
theorem tw10933677585905718993:True:=trivial
theorem tw10944956837784636368:True:=trivial
theorem tw10949625832625181284:True:=trivial
theorem tw11011131195910976488:True:=trivial
theorem tw11024222330075796079:True:=trivial
theorem tw11032806212648032379:True:=trivial
theorem tw11034497122203965937:True:=trivial
theorem tw11052946933831473538:True:=trivial
theorem tw11054480109507316185:True:=trivial
theorem tw11079593142295127227:True:=trivial
theorem tw11109741339103130912:True:=trivial
theorem tw11115866451450875312:True:=trivial
theorem tw11117797201346649052:True:=trivial
theorem tw11119798521548139033:True:=trivial
theorem tw11128854368766332075:True:=trivial
theorem tw11210553801493137410:True:=trivial
theorem tw11213053971927718326:True:=trivial
theorem tw11251137523995926341:True:=trivial
theorem tw11256106856564762260:True:=trivial
theorem tw11283319371284918911:True:=trivial
theorem tw1129884963351977449:True:=trivial
theorem tw11319097763535126812:True:=trivial
theorem tw11319892378374348655:True:=trivial
theorem tw11364443708160879001:True:=trivial
theorem tw11375277706881905925:True:=trivial
theorem tw11389486352061984695:True:=trivial
theorem tw11399449904127653305:True:=trivial
theorem tw11402939732021071671:True:=trivial
theorem tw11407884054146074569:True:=trivial
theorem tw11415386828835887437:True:=trivial
theorem tw11434409384045074295:True:=trivial
theorem tw11465210709893060100:True:=trivial
theorem tw11472165163037031739:True:=trivial
theorem tw1147470481896660410:True:=trivial
theorem tw11507959949525687343:True:=trivial
theorem tw11513968764499736323:True:=trivial
theorem tw11551083187376567056:True:=trivial
theorem tw11587034568685482758:True:=trivial
theorem tw11623594800819314181:True:=trivial
theorem tw11631869004601391166:True:=trivial
theorem tw11631947586910100387:True:=trivial
theorem tw11652457597714270106:True:=trivial
theorem tw11660266114150955751:True:=trivial
theorem tw11663481321943121269:True:=trivial
theorem tw11709330566771433103:True:=trivial
theorem tw11713075325732132258:True:=trivial
theorem tw11729958736954745289:True:=trivial
theorem tw11749099774412794130:True:=trivial
theorem tw11754176132448286083:True:=trivial
theorem tw11778180911958503814:True:=trivial
theorem tw11801993109049149486:True:=trivial
theorem tw11893437276241958245:True:=trivial
theorem tw11905163887095721015:True:=trivial
theorem tw11912922877643110818:True:=trivial
theorem tw11915594877312485397:True:=trivial
theorem tw1194904439430580092:True:=trivial
theorem tw11953376511379268794:True:=trivial
theorem tw11968265576560266318:True:=trivial
theorem tw1197925565968671727:True:=trivial
theorem tw12023040214023829324:True:=trivial
theorem tw12058812876911547015:True:=trivial
theorem tw12070051907170230399:True:=trivial
theorem tw12070654863422294720:True:=trivial
theorem tw1208734638264122097:True:=trivial
theorem tw12113243949977362033:True:=trivial
theorem tw12127338746724423809:True:=trivial
theorem tw12131494931117144662:True:=trivial
theorem tw12173100003817136821:True:=trivial
theorem tw12211380539166087753:True:=trivial
theorem tw12232750017996463310:True:=trivial
theorem tw12239354291974867115:True:=trivial
theorem tw12268275109542032366:True:=trivial
theorem tw12271959270614036898:True:=trivial
theorem tw12337632362937886050:True:=trivial
theorem tw12350410155528471161:True:=trivial
theorem tw12353913968525425643:True:=trivial
theorem tw12364972598781006883:True:=trivial
theorem tw12394076208661396346:True:=trivial
theorem tw12399718760709695909:True:=trivial
theorem tw1241404454085649124:True:=trivial
theorem tw12414669353804360901:True:=trivial
theorem tw12453114486196615683:True:=trivial
theorem tw12459740579856956213:True:=trivial
theorem tw12480425521718506038:True:=trivial
theorem tw12487502673411948298:True:=trivial
theorem tw12521463284412890351:True:=trivial
theorem tw12565835363266740329:True:=trivial
theorem tw12575139184659369484:True:=trivial
theorem tw12588582704262371052:True:=trivial
theorem tw12590977762386282803:True:=trivial
theorem tw12592865651372103963:True:=trivial
theorem tw12602439190401603521:True:=trivial
theorem tw12611767792052310623:True:=trivial
theorem tw12614811148066621264:True:=trivial
theorem tw12631932088317031055:True:=trivial
theorem tw12659318050587179527:True:=trivial
theorem tw12676414471582705871:True:=trivial
theorem tw12685813987229840507:True:=trivial
theorem tw12704988097186499811:True:=trivial
theorem tw12727495553239364174:True:=trivial
theorem tw12744807935193187038:True:=trivial
theorem tw12769127236821124696:True:=trivial
theorem tw12832683148521936107:True:=trivial
theorem tw128412058910260475:True:=trivial
theorem tw12901994302517312135:True:=trivial
theorem tw12936449754285732098:True:=trivial
theorem tw12940713784782232206:True:=trivial
theorem tw12949589719889679912:True:=trivial
theorem tw12952509933414984302:True:=trivial
theorem tw1299046323782801668:True:=trivial
theorem tw12994019391074448376:True:=trivial
theorem tw12995909851351757392:True:=trivial
theorem tw13001811119718631651:True:=trivial
theorem tw13038990169509382042:True:=trivial
theorem tw13047593935725612058:True:=trivial
theorem tw13051953538815563581:True:=trivial
theorem tw13066319289922817542:True:=trivial
theorem tw13122850982685727845:True:=trivial
theorem tw13129650132239662433:True:=trivial
theorem tw13132618709999183898:True:=trivial
theorem tw13160604113216922460:True:=trivial
theorem tw13171141561276507362:True:=trivial
theorem tw13172843250190940813:True:=trivial
theorem tw13181700845877081190:True:=trivial
theorem tw13217225542625558698:True:=trivial
theorem tw13217827037086042188:True:=trivial
theorem tw13218659294841961345:True:=trivial
theorem tw13220430256171166289:True:=trivial
theorem tw13225837485096350037:True:=trivial
theorem tw13262116225945230012:True:=trivial
theorem tw13267510147771200024:True:=trivial
theorem tw13277076834127875243:True:=trivial
theorem tw13280443560766958183:True:=trivial
theorem tw13289513938125300765:True:=trivial
theorem tw13293453174229064190:True:=trivial
theorem tw13322179722446271537:True:=trivial
theorem tw13342606739435360313:True:=trivial
theorem tw13372043803930879067:True:=trivial
theorem tw13409441903868389331:True:=trivial
theorem tw13431754692932380062:True:=trivial
theorem tw13466754112058979494:True:=trivial
theorem tw13468300074154594103:True:=trivial
theorem tw13474097485772985973:True:=trivial
theorem tw13475242022060392486:True:=trivial
theorem tw13478424178397462001:True:=trivial
theorem tw13483081372092288885:True:=trivial
theorem tw13518370688599389936:True:=trivial
theorem tw13531707123254989501:True:=trivial
theorem tw13532847315355080253:True:=trivial
theorem tw13562760996464443880:True:=trivial
theorem tw13566260322249332789:True:=trivial
theorem tw1359830224848277088:True:=trivial
theorem tw13609717118414637909:True:=trivial
theorem tw13628142620392400109:True:=trivial
theorem tw13638418597567726942:True:=trivial
theorem tw13642289790063256904:True:=trivial
theorem tw13671756088133313087:True:=trivial
theorem tw13723031510162244379:True:=trivial
theorem tw13770079208771991547:True:=trivial
theorem tw137786328141462057:True:=trivial
theorem tw13790719812936386609:True:=trivial
theorem tw1379335367625716243:True:=trivial
theorem tw13828106393651249627:True:=trivial
theorem tw13855946660403688772:True:=trivial
theorem tw13866372431405929976:True:=trivial
theorem tw13893168526513508166:True:=trivial
theorem tw13903934854276604550:True:=trivial
theorem tw13931416462566266981:True:=trivial
theorem tw13994979335412520660:True:=trivial
theorem tw14006173549557618073:True:=trivial
theorem tw14029546391885035639:True:=trivial
theorem tw14039888450555530598:True:=trivial
theorem tw14040608126747316905:True:=trivial
theorem tw14060154772996877548:True:=trivial
theorem tw14060237666301923597:True:=trivial
theorem tw14120982254508448379:True:=trivial
theorem tw14137390275340422267:True:=trivial
theorem tw14143348200573808938:True:=trivial
theorem tw14176624398918483544:True:=trivial
theorem tw14205177575709318024:True:=trivial
theorem tw1425423193147277237:True:=trivial
theorem tw14255689763932634584:True:=trivial
theorem tw14294001040229213422:True:=trivial
theorem tw14333710738500927179:True:=trivial
theorem tw14353793391729792155:True:=trivial
theorem tw1439246655266547700:True:=trivial
theorem tw14400467628812073631:True:=trivial
theorem tw14439243815434019604:True:=trivial
theorem tw14444963742821833902:True:=trivial
theorem tw14446474709323646786:True:=trivial
theorem tw1445366717492459972:True:=trivial
theorem tw14457593812595234344:True:=trivial
theorem tw14462709497994964445:True:=trivial
theorem tw14478148883734587675:True:=trivial
theorem tw1448358952932078338:True:=trivial
theorem tw14492701947808656938:True:=trivial
theorem tw1452849714261714991:True:=trivial
theorem tw14553816603554493358:True:=trivial
theorem tw14560493823538711346:True:=trivial
theorem tw14567429538950270057:True:=trivial
theorem tw14586822029978311858:True:=trivial
theorem tw14598272352848978880:True:=trivial
theorem tw14612060388864693735:True:=trivial
theorem tw14620637471214046174:True:=trivial
theorem tw14667805832236412624:True:=trivial
theorem tw14683707025165767436:True:=trivial
theorem tw14685462170515437407:True:=trivial
theorem tw14705683404202351889:True:=trivial
theorem tw14743440263598761229:True:=trivial
theorem tw14745743045033390146:True:=trivial
theorem tw14768889098011018680:True:=trivial
theorem tw14772383043592177042:True:=trivial
theorem tw14817486215969520457:True:=trivial
theorem tw14859038896228082724:True:=trivial
theorem tw14892549342360969540:True:=trivial
theorem tw14896477498954680388:True:=trivial
theorem tw14914937398881237230:True:=trivial
theorem tw14960593345356199642:True:=trivial
theorem tw14980023328507725902:True:=trivial
theorem tw14984183105004643987:True:=trivial
theorem tw14991384322417631237:True:=trivial
theorem tw15033227074091944939:True:=trivial
theorem tw15042006015671813226:True:=trivial
theorem tw15043168886218598503:True:=trivial
theorem tw1506431575118746342:True:=trivial
theorem tw15064902949301533346:True:=trivial
theorem tw15074197538484233485:True:=trivial
theorem tw15083628210047938546:True:=trivial
theorem tw15089522573102190283:True:=trivial
theorem tw15102309248680683417:True:=trivial
theorem tw15103106377680225435:True:=trivial
theorem tw1511243299971373483:True:=trivial
theorem tw15152743547302097792:True:=trivial
theorem tw15179676742415161110:True:=trivial
theorem tw15199589371867527261:True:=trivial
theorem tw15207398651663016943:True:=trivial
theorem tw15213948185873263833:True:=trivial
theorem tw15220180469806662145:True:=trivial
theorem tw15228807520496212463:True:=trivial
theorem tw15278966056882409248:True:=trivial
theorem tw15279998641719260112:True:=trivial
theorem tw15337868472472888810:True:=trivial
theorem tw15344866539931968096:True:=trivial
theorem tw1535757262459896012:True:=trivial
theorem tw15367242080415987702:True:=trivial
theorem tw15368132723985388332:True:=trivial
theorem tw15378359858306647822:True:=trivial
theorem tw15411387601460861337:True:=trivial
theorem tw15416985209724490359:True:=trivial
theorem tw15422856539912107476:True:=trivial
theorem tw15424705756172794927:True:=trivial
theorem tw15427206886491885616:True:=trivial
theorem tw15463257786427224491:True:=trivial
theorem tw15508949281206285077:True:=trivial
theorem tw155142512498542641:True:=trivial
theorem tw15527848837575444561:True:=trivial
theorem tw15529170255622000948:True:=trivial
theorem tw15595854959937240912:True:=trivial
theorem tw15615420239508185596:True:=trivial
theorem tw15615537253650120727:True:=trivial
theorem tw15616948245753086127:True:=trivial
theorem tw15618049606547972131:True:=trivial
theorem tw15625209780758371316:True:=trivial
theorem tw15630680890609703042:True:=trivial
theorem tw15634565183472343292:True:=trivial
theorem tw15637593595834871717:True:=trivial
theorem tw15642763164714097627:True:=trivial
theorem tw15643275761693703936:True:=trivial
theorem tw15673258824015622330:True:=trivial
theorem tw15675198926951892251:True:=trivial
theorem tw15683763237869141255:True:=trivial
theorem tw15687388767607454252:True:=trivial
theorem tw15759970867653108152:True:=trivial
theorem tw15766875824913328220:True:=trivial
theorem tw15790720579355451973:True:=trivial
theorem tw1580110805410547442:True:=trivial
theorem tw15813434630575017362:True:=trivial
theorem tw1582976572388173787:True:=trivial
theorem tw15837987909243819085:True:=trivial
theorem tw1584506945513601688:True:=trivial
theorem tw15852365999677673905:True:=trivial
theorem tw1588505670450824345:True:=trivial
theorem tw15889433306838628275:True:=trivial
theorem tw1589133516308662214:True:=trivial
theorem tw15910714762333108613:True:=trivial
theorem tw15924899543223041283:True:=trivial
theorem tw15946388913382835224:True:=trivial
theorem tw15948780112781908787:True:=trivial
theorem tw15963624873386084050:True:=trivial
theorem tw15987713032478767096:True:=trivial
theorem tw15992342658441690333:True:=trivial
theorem tw1600037746751723098:True:=trivial
theorem tw16006246977917349235:True:=trivial
theorem tw16011055738799735888:True:=trivial
theorem tw16029623286316568529:True:=trivial
theorem tw1603739661141634737:True:=trivial
theorem tw16037735763661986305:True:=trivial
theorem tw16052320808349706082:True:=trivial
theorem tw16053994301053490033:True:=trivial
theorem tw16056359734778111409:True:=trivial
theorem tw16091413853298234908:True:=trivial
theorem tw1610171440888473627:True:=trivial
theorem tw16154546982801380032:True:=trivial
theorem tw16155205043701107222:True:=trivial
theorem tw16156708551869547534:True:=trivial
theorem tw16157073509204512506:True:=trivial
theorem tw16158619036321959407:True:=trivial
theorem tw16169374299450900766:True:=trivial
theorem tw16171809288044610508:True:=trivial
theorem tw16178712458983371728:True:=trivial
theorem tw16194383521188589630:True:=trivial
theorem tw16211521421427940678:True:=trivial
theorem tw16225743686406366006:True:=trivial
theorem tw16227762859984022837:True:=trivial
theorem tw16240987189780228909:True:=trivial
theorem tw16257038226119295666:True:=trivial
theorem tw1625806103527704957:True:=trivial
theorem tw162610821266807592:True:=trivial
theorem tw16299908979028503884:True:=trivial
theorem tw16301592386811335294:True:=trivial
theorem tw16332348944364537037:True:=trivial
theorem tw16357263729072622229:True:=trivial
theorem tw16412773359747925120:True:=trivial
theorem tw16415028865518655546:True:=trivial
theorem tw1643121930917553208:True:=trivial
theorem tw16432713993328977331:True:=trivial
theorem tw16446790561942363669:True:=trivial
theorem tw16456969618363192440:True:=trivial
theorem tw16473244170626142550:True:=trivial
theorem tw16477043939570097188:True:=trivial
theorem tw16487816990975572028:True:=trivial
theorem tw16502264421070913907:True:=trivial
theorem tw16547865195752855329:True:=trivial
theorem tw16587392273704687506:True:=trivial
theorem tw16634568088961857937:True:=trivial
theorem tw16635604280276938560:True:=trivial
theorem tw16640546478005224243:True:=trivial
theorem tw16649331688326792143:True:=trivial
theorem tw16661405048812198066:True:=trivial
theorem tw1666387254794493845:True:=trivial
theorem tw16684818696116721337:True:=trivial
theorem tw16694946328126371552:True:=trivial
theorem tw16698745307106531279:True:=trivial
theorem tw16713699803418581334:True:=trivial
theorem tw16722109127936396110:True:=trivial
theorem tw16744898341101239380:True:=trivial
theorem tw16759147789766475008:True:=trivial
theorem tw16772102934027710169:True:=trivial
theorem tw16794629799341752650:True:=trivial
theorem tw16826083622388986153:True:=trivial
theorem tw16853341256802265648:True:=trivial
theorem tw16858285156579221889:True:=trivial
theorem tw16868993833207775613:True:=trivial
theorem tw16896567674234606475:True:=trivial
theorem tw16904818350239718627:True:=trivial
theorem tw16920754564084929960:True:=trivial
theorem tw16945582573551092051:True:=trivial
theorem tw16970440968685349367:True:=trivial
theorem tw1699103778626983548:True:=trivial
theorem tw17001982702790524580:True:=trivial
theorem tw17054507655720011243:True:=trivial
theorem tw17062030032774818151:True:=trivial
theorem tw17066044127408595049:True:=trivial
theorem tw17070941380808615275:True:=trivial
theorem tw17087091549796120035:True:=trivial
theorem tw17088047866570459193:True:=trivial
theorem tw17128134227218299529:True:=trivial
theorem tw1712922718373300912:True:=trivial
theorem tw17130151131035750659:True:=trivial
theorem tw17143205804819765802:True:=trivial
theorem tw17172931820748874959:True:=trivial
theorem tw17183224562656869120:True:=trivial
theorem tw17217394356764393341:True:=trivial
theorem tw17234923516513369237:True:=trivial
theorem tw17252143746492648416:True:=trivial
theorem tw17258206423299326598:True:=trivial
theorem tw17273587926920868623:True:=trivial
theorem tw17311223219408574766:True:=trivial
theorem tw17312999752573914782:True:=trivial
theorem tw17325209927041812611:True:=trivial
theorem tw17330132731328240911:True:=trivial
theorem tw17330945745186091897:True:=trivial
theorem tw17336936450418997793:True:=trivial
theorem tw17347436560843906493:True:=trivial
theorem tw1736311965527578767:True:=trivial
theorem tw17386561741084979693:True:=trivial
theorem tw17387085533687275522:True:=trivial
theorem tw17387473266821786944:True:=trivial
theorem tw17398890622948549147:True:=trivial
theorem tw17420951861521290806:True:=trivial
theorem tw17429513623812275283:True:=trivial
theorem tw17454471701868102899:True:=trivial
theorem tw17470177872615007328:True:=trivial
theorem tw17491280204586788870:True:=trivial
theorem tw17491317419825422843:True:=trivial
theorem tw17495340751864218003:True:=trivial
theorem tw17542962492245011380:True:=trivial
theorem tw17562767543260142214:True:=trivial
theorem tw17574625026820762457:True:=trivial
theorem tw17577478241444706838:True:=trivial
theorem tw17583924267553061668:True:=trivial
theorem tw17599816209265215132:True:=trivial
theorem tw1760603350576429475:True:=trivial
theorem tw17650839729002327288:True:=trivial
theorem tw17672654358674132775:True:=trivial
theorem tw17679848547673146604:True:=trivial
theorem tw17681399029576232318:True:=trivial
theorem tw17696971302532935780:True:=trivial
theorem tw17711083657039698284:True:=trivial
theorem tw17714235663813219645:True:=trivial
theorem tw17737187407176874954:True:=trivial
theorem tw17739348878880393726:True:=trivial
theorem tw17772917993097084435:True:=trivial
theorem tw1781861727890032366:True:=trivial
theorem tw17843490464661113860:True:=trivial
theorem tw17893044597097874663:True:=trivial
theorem tw17895171251205151618:True:=trivial
theorem tw17901334829092211166:True:=trivial
theorem tw17902569758825723728:True:=trivial
theorem tw17903497710992402801:True:=trivial
theorem tw17919194246423945575:True:=trivial
theorem tw17925215291927510665:True:=trivial
theorem tw1792636949448641307:True:=trivial
theorem tw17948085552500728524:True:=trivial
theorem tw17950676927832955104:True:=trivial
theorem tw17956543221229664512:True:=trivial
theorem tw17975533764899295144:True:=trivial
theorem tw17989097746536338734:True:=trivial
theorem tw18095200977026478895:True:=trivial
theorem tw1809687716253123402:True:=trivial
theorem tw18103342009636024947:True:=trivial
theorem tw18103420901670897651:True:=trivial
theorem tw18160293313031310949:True:=trivial
theorem tw18166333605607142505:True:=trivial
theorem tw18176940659606848779:True:=trivial
theorem tw18185175575083235020:True:=trivial
theorem tw1820180628909398317:True:=trivial
theorem tw18219297243305740317:True:=trivial
theorem tw18233516762306594366:True:=trivial
theorem tw18241275227582772068:True:=trivial
theorem tw18264374347568628810:True:=trivial
theorem tw18268791191939849864:True:=trivial
theorem tw18291419657060728153:True:=trivial
theorem tw18293732401869909652:True:=trivial
theorem tw18293851220164018083:True:=trivial
theorem tw18300207936620678264:True:=trivial
theorem tw18321552122766947510:True:=trivial
theorem tw18322514126500204803:True:=trivial
theorem tw18330183385023645277:True:=trivial
theorem tw18343703819029505601:True:=trivial
theorem tw18358800413957953924:True:=trivial
theorem tw1836080755315867724:True:=trivial
theorem tw18368451091360184599:True:=trivial
theorem tw18439511094173506614:True:=trivial
theorem tw1847840615245081061:True:=trivial
theorem tw185848376630758926:True:=trivial
theorem tw1865391376527767206:True:=trivial
theorem tw1870067075039425230:True:=trivial
theorem tw1882180444382439491:True:=trivial
theorem tw189712035060473897:True:=trivial
theorem tw190519026028168232:True:=trivial
theorem tw1954109241102656831:True:=trivial
theorem tw1997569388931296116:True:=trivial
theorem tw2000490053193787569:True:=trivial
theorem tw2001351230973187099:True:=trivial
theorem tw2004659784336800654:True:=trivial
theorem tw2012604805713927918:True:=trivial
theorem tw2042292140826266357:True:=trivial
theorem tw2051048951616859547:True:=trivial
theorem tw2068664650715991707:True:=trivial
theorem tw2101469004524951375:True:=trivial
theorem tw2114630138375439770:True:=trivial
theorem tw2134215046882385847:True:=trivial
theorem tw2167537188350426706:True:=trivial
theorem tw2195365466389143174:True:=trivial
theorem tw2216850387143573719:True:=trivial
theorem tw2252305205657439004:True:=trivial
theorem tw22551697357593593:True:=trivial
theorem tw226724450230711188:True:=trivial
theorem tw2274498078352570744:True:=trivial
theorem tw2284436838669742495:True:=trivial
theorem tw2304311442786299043:True:=trivial
theorem tw2315301623876862497:True:=trivial
theorem tw2323474266016966308:True:=trivial
theorem tw2327210489368252092:True:=trivial
theorem tw2329189449893159454:True:=trivial
theorem tw2371736936440567457:True:=trivial
theorem tw2386827423013361158:True:=trivial
theorem tw2391449824757734642:True:=trivial
theorem tw242841246431481386:True:=trivial
theorem tw243823211424636713:True:=trivial
theorem tw2442259710966052079:True:=trivial
theorem tw2450686747263038406:True:=trivial
theorem tw2457190517430149469:True:=trivial
theorem tw2468469042602058204:True:=trivial
theorem tw2480057099694739299:True:=trivial
theorem tw2489000522355961661:True:=trivial
theorem tw2493985911018215709:True:=trivial
theorem tw2499635561706700235:True:=trivial
theorem tw2502866573005156581:True:=trivial
theorem tw250903467453971090:True:=trivial
theorem tw2562236817408797766:True:=trivial
theorem tw2580477087445282633:True:=trivial
theorem tw2591796284902108539:True:=trivial
theorem tw2595994805191909183:True:=trivial
theorem tw2598446214317162929:True:=trivial
theorem tw2603259988358896889:True:=trivial
theorem tw2608437505485318709:True:=trivial
theorem tw2616952524820836436:True:=trivial
theorem tw26425463804135960:True:=trivial
theorem tw2658526732547218105:True:=trivial
theorem tw2708950531961675432:True:=trivial
theorem tw2739504486584576224:True:=trivial
theorem tw2757771446361019035:True:=trivial
theorem tw2781682124601125471:True:=trivial
theorem tw2783992281797965187:True:=trivial
theorem tw2788664435532181463:True:=trivial
theorem tw2799067240506288376:True:=trivial
theorem tw2799716289819351777:True:=trivial
theorem tw280609765759037681:True:=trivial
theorem tw2808349399557158395:True:=trivial
theorem tw2839761810297210574:True:=trivial
theorem tw2845679848157327705:True:=trivial
theorem tw2871226400543044806:True:=trivial
theorem tw2887051446865420828:True:=trivial
theorem tw2922222751358710265:True:=trivial
theorem tw2930668341846507884:True:=trivial
theorem tw2951005344575393816:True:=trivial
theorem tw2960447077969926378:True:=trivial
theorem tw2999033326186475339:True:=trivial
theorem tw3008623586974134963:True:=trivial
theorem tw3044193314922437478:True:=trivial
theorem tw307737655149646647:True:=trivial
theorem tw3085183777334472315:True:=trivial
theorem tw3109861748172591687:True:=trivial
theorem tw313027258313007627:True:=trivial
theorem tw3173010612589774626:True:=trivial
theorem tw3181392069071356387:True:=trivial
theorem tw3182187488490625086:True:=trivial
theorem tw3196399650302076718:True:=trivial
theorem tw3219085151875037572:True:=trivial
theorem tw3229955645248102723:True:=trivial
theorem tw3259873300814134281:True:=trivial
theorem tw3333446698644548216:True:=trivial
theorem tw3350844169311001129:True:=trivial
theorem tw3364418463632694928:True:=trivial
theorem tw3381375190539634487:True:=trivial
theorem tw3383575609064972448:True:=trivial
theorem tw3386092968808520798:True:=trivial
theorem tw3417764384639146118:True:=trivial
theorem tw3429492842335990350:True:=trivial
theorem tw3434918251397683217:True:=trivial
theorem tw3451239065008710300:True:=trivial
theorem tw3480954088277226078:True:=trivial
theorem tw3484992998616243462:True:=trivial
theorem tw3490610803038915059:True:=trivial
theorem tw3493717111155160527:True:=trivial
theorem tw3496965988886986938:True:=trivial
theorem tw3513125359445811510:True:=trivial
theorem tw3530705653197291679:True:=trivial
theorem tw3571134770919094901:True:=trivial
theorem tw3608708970678896270:True:=trivial
theorem tw3646829019195819677:True:=trivial
theorem tw3649758429140192277:True:=trivial
theorem tw3660579746685279459:True:=trivial
theorem tw3673020696563887462:True:=trivial
theorem tw368366308016060594:True:=trivial
theorem tw3722166409189360004:True:=trivial
theorem tw3759623122121258479:True:=trivial
theorem tw3789350110615891812:True:=trivial
theorem tw3795277891434052102:True:=trivial
theorem tw3816877163431070358:True:=trivial
theorem tw381697539089829889:True:=trivial
theorem tw3828038474966422129:True:=trivial
theorem tw3876449026389394717:True:=trivial
theorem tw3878383114103592795:True:=trivial
theorem tw3913528116038191188:True:=trivial
theorem tw3915529967508079626:True:=trivial
theorem tw3919010098100093602:True:=trivial
theorem tw3920623390966001496:True:=trivial
theorem tw3922637787740509324:True:=trivial
theorem tw3940546777539579641:True:=trivial
theorem tw3941438180925939637:True:=trivial
theorem tw3953601041324332601:True:=trivial
theorem tw3969467460574380271:True:=trivial
theorem tw4014540891139286612:True:=trivial
theorem tw4021928978595405253:True:=trivial
theorem tw402640490398009360:True:=trivial
theorem tw4065347644161347641:True:=trivial
theorem tw4068527845204499245:True:=trivial
theorem tw4074112789689628901:True:=trivial
theorem tw4086058157674990017:True:=trivial
theorem tw4091639524402994376:True:=trivial
theorem tw4115565904173853331:True:=trivial
theorem tw4126306136578151734:True:=trivial
theorem tw4136554803537287180:True:=trivial
theorem tw4138081844389336918:True:=trivial
theorem tw4159134105002834734:True:=trivial
theorem tw4172343393113369950:True:=trivial
theorem tw4176768124294323924:True:=trivial
theorem tw4225703048834024713:True:=trivial
theorem tw4272726840584523970:True:=trivial
theorem tw4282359134580295075:True:=trivial
theorem tw4292457097857839397:True:=trivial
theorem tw4297731678662094536:True:=trivial
theorem tw4299596416071116603:True:=trivial
theorem tw4315991029959535628:True:=trivial
theorem tw432457690288141553:True:=trivial
theorem tw4360684699965382250:True:=trivial
theorem tw4363365295628954845:True:=trivial
theorem tw4367231431732253908:True:=trivial
theorem tw4367455430839740993:True:=trivial
theorem tw4377701919642642989:True:=trivial
theorem tw4383666589626881386:True:=trivial
theorem tw4402725079659364252:True:=trivial
theorem tw4424954536736003961:True:=trivial
theorem tw442638132926106271:True:=trivial
theorem tw4449123307109862055:True:=trivial
theorem tw4478166936697009375:True:=trivial
theorem tw4478177076189095293:True:=trivial
theorem tw4478964076566166474:True:=trivial
theorem tw4494801613693538912:True:=trivial
theorem tw4521580383011477154:True:=trivial
theorem tw4527685146903026889:True:=trivial
theorem tw4571360026077952820:True:=trivial
theorem tw4581847759332874082:True:=trivial
theorem tw4609310046291750870:True:=trivial
theorem tw4611309088772787019:True:=trivial
theorem tw461538923250603899:True:=trivial
theorem tw4642405928176397000:True:=trivial
theorem tw4643362625855044894:True:=trivial
theorem tw464777395874653626:True:=trivial
theorem tw4654797750381630734:True:=trivial
theorem tw469108185253701220:True:=trivial
theorem tw4702841417184801058:True:=trivial
theorem tw4724112764586752083:True:=trivial
theorem tw4725425184044842548:True:=trivial
theorem tw4730091804998409952:True:=trivial
theorem tw4734902545126651661:True:=trivial
theorem tw4768578896829404305:True:=trivial
theorem tw4788038989552484473:True:=trivial
theorem tw4817003022231809500:True:=trivial
theorem tw4819202231147424091:True:=trivial
theorem tw4833718069199227053:True:=trivial
theorem tw4851647983119433812:True:=trivial
theorem tw4856431653887292112:True:=trivial
theorem tw4867443594122359892:True:=trivial
theorem tw4870687313549177768:True:=trivial
theorem tw4946210868454251104:True:=trivial
theorem tw4971549296188076032:True:=trivial
theorem tw4990156530697904881:True:=trivial
theorem tw4993660671451451078:True:=trivial
theorem tw500953250457666378:True:=trivial
theorem tw5009564483982726761:True:=trivial
theorem tw5010264101278932077:True:=trivial
theorem tw511748877826530558:True:=trivial
theorem tw5130813555471234732:True:=trivial
theorem tw5138769234217329475:True:=trivial
theorem tw5148922909946612681:True:=trivial
theorem tw5167245352685981253:True:=trivial
theorem tw518976864732996251:True:=trivial
theorem tw5189956158058943387:True:=trivial
theorem tw5190246844813560578:True:=trivial
theorem tw519851828213033955:True:=trivial
theorem tw5220083430330967483:True:=trivial
theorem tw5238241317806426387:True:=trivial
theorem tw5245234834050458271:True:=trivial
theorem tw5247051413645994129:True:=trivial
theorem tw526207354791536317:True:=trivial
theorem tw5278057926702712004:True:=trivial
theorem tw5282504435634884242:True:=trivial
theorem tw5283464899586487735:True:=trivial
theorem tw5289708365253275695:True:=trivial
theorem tw5318216170032084099:True:=trivial
theorem tw5322579261384874668:True:=trivial
theorem tw5343241284826551009:True:=trivial
theorem tw5360435025570183010:True:=trivial
theorem tw5362516397382645915:True:=trivial
theorem tw5363564295841288755:True:=trivial
theorem tw5366084841770067474:True:=trivial
theorem tw5388632664720090651:True:=trivial
theorem tw5416991563250132298:True:=trivial
theorem tw5433107678231618845:True:=trivial
theorem tw5464967688985200232:True:=trivial
theorem tw5480042469492414594:True:=trivial
theorem tw5486487638281291605:True:=trivial
theorem tw5505005885091257285:True:=trivial
theorem tw5505332120971382143:True:=trivial
theorem tw5511420028821071320:True:=trivial
theorem tw5513025101015932971:True:=trivial
theorem tw5535567543195554156:True:=trivial
theorem tw5562173858411828344:True:=trivial
theorem tw5574845727924001799:True:=trivial
theorem tw5592360268479517082:True:=trivial
theorem tw5608270528595127837:True:=trivial
theorem tw561391293025646643:True:=trivial
theorem tw5629675986466331604:True:=trivial
theorem tw5657824000916062451:True:=trivial
theorem tw5667655126489319660:True:=trivial
theorem tw567884609423149705:True:=trivial
theorem tw5715734110848049390:True:=trivial
theorem tw5716766192118558609:True:=trivial
theorem tw5732804406350252772:True:=trivial
theorem tw574300837803046910:True:=trivial
theorem tw5781342201191254626:True:=trivial
theorem tw578887228443019578:True:=trivial
theorem tw5859118754885311737:True:=trivial
theorem tw5873113503399164460:True:=trivial
theorem tw5899666649113621702:True:=trivial
theorem tw5902613922787404954:True:=trivial
theorem tw5927567313105069670:True:=trivial
theorem tw5961118342813265553:True:=trivial
theorem tw5976792059365374437:True:=trivial
theorem tw5978321128707920903:True:=trivial
theorem tw5983496337302601536:True:=trivial
theorem tw5987830557187376847:True:=trivial
theorem tw6014424301940151174:True:=trivial
theorem tw6038821095411175016:True:=trivial
theorem tw6046454685291232161:True:=trivial
theorem tw6060742912462422084:True:=trivial
theorem tw6079173187612997037:True:=trivial
theorem tw6082411064634330575:True:=trivial
theorem tw6123773746684550334:True:=trivial
theorem tw6136932545381038964:True:=trivial
theorem tw6140570298594658328:True:=trivial
theorem tw6164396464334811476:True:=trivial
theorem tw617508947420966582:True:=trivial
theorem tw6181573660694698118:True:=trivial
theorem tw6184460063843016694:True:=trivial
theorem tw6186238094035137676:True:=trivial
theorem tw6196171512934965099:True:=trivial
theorem tw6199765714743212253:True:=trivial
theorem tw6213412439835118660:True:=trivial
theorem tw6291416237084387574:True:=trivial
theorem tw6305734824756694309:True:=trivial
theorem tw6308581086252854402:True:=trivial
theorem tw6320253292602491972:True:=trivial
theorem tw6352655612330318208:True:=trivial
theorem tw6393866757454862588:True:=trivial
theorem tw6394381022753523788:True:=trivial
theorem tw6407587892757256292:True:=trivial
theorem tw6411954120941647267:True:=trivial
theorem tw6412770499399676944:True:=trivial
theorem tw6423634429210846174:True:=trivial
theorem tw6442067068224118133:True:=trivial
theorem tw6449127861642672459:True:=trivial
theorem tw6469175993241445255:True:=trivial
theorem tw6482722132109649516:True:=trivial
theorem tw651126834518081296:True:=trivial
theorem tw6528754448969337418:True:=trivial
theorem tw6547078798241139092:True:=trivial
theorem tw6555240042291301478:True:=trivial
theorem tw656455966557771466:True:=trivial
theorem tw6578402527460240241:True:=trivial
theorem tw6598312636042714100:True:=trivial
theorem tw6615107907471364465:True:=trivial
theorem tw6627881031435992008:True:=trivial
theorem tw663384727985864361:True:=trivial
theorem tw6669269137521125552:True:=trivial
theorem tw6679266806504041263:True:=trivial
theorem tw6683769817339685419:True:=trivial
theorem tw6709418730364537143:True:=trivial
theorem tw6755925336976613232:True:=trivial
theorem tw6759412095888398321:True:=trivial
theorem tw6767318904944593275:True:=trivial
theorem tw6780557218761844654:True:=trivial
theorem tw678209747344391502:True:=trivial
theorem tw6785817131721698500:True:=trivial
theorem tw6804821044290156842:True:=trivial
theorem tw6818987989461384207:True:=trivial
theorem tw6819123309680001836:True:=trivial
theorem tw6820862383352777685:True:=trivial
theorem tw6824622198901579176:True:=trivial
theorem tw6830512106363814048:True:=trivial
theorem tw6838551448383532254:True:=trivial
theorem tw6848782300941138395:True:=trivial
theorem tw6877226645827823821:True:=trivial
theorem tw6882427118574961969:True:=trivial
theorem tw6898005170327248138:True:=trivial
theorem tw689954013368505116:True:=trivial
theorem tw6902198413751149823:True:=trivial
theorem tw6906073325868019850:True:=trivial
theorem tw6931407450589930559:True:=trivial
theorem tw6982297934935202809:True:=trivial
theorem tw6988595667528144454:True:=trivial
theorem tw6998783941825042932:True:=trivial
theorem tw7006195865600381663:True:=trivial
theorem tw701333769924781912:True:=trivial
theorem tw7023726343779634624:True:=trivial
theorem tw7028611270464810887:True:=trivial
theorem tw7031273417212677730:True:=trivial
theorem tw7068711184596962023:True:=trivial
theorem tw7076163891533521732:True:=trivial
theorem tw7080932558258925280:True:=trivial
theorem tw7082855905992002993:True:=trivial
theorem tw7085514621470718492:True:=trivial
theorem tw7120233287515763914:True:=trivial
theorem tw7174315439194531881:True:=trivial
theorem tw7175568609137494628:True:=trivial
theorem tw7182994202766372144:True:=trivial
theorem tw7191455744419660376:True:=trivial
theorem tw7261450039545342454:True:=trivial
theorem tw7270182246851987180:True:=trivial
theorem tw728884934406724761:True:=trivial
theorem tw7289601568589263668:True:=trivial
theorem tw7289634563603522867:True:=trivial
theorem tw7296583596125217682:True:=trivial
theorem tw7317836474542784337:True:=trivial
theorem tw732345407407602841:True:=trivial
theorem tw7326242583292779041:True:=trivial
theorem tw7339039647409124788:True:=trivial
theorem tw7354087734392854552:True:=trivial
theorem tw7355570028127101125:True:=trivial
theorem tw7366208706002141716:True:=trivial
theorem tw7369741819223213686:True:=trivial
theorem tw7372000682148998216:True:=trivial
theorem tw7379015992945566340:True:=trivial
theorem tw7382370116671421104:True:=trivial
theorem tw7399621439246259153:True:=trivial
theorem tw7489763959799892387:True:=trivial
theorem tw7492773218913965947:True:=trivial
theorem tw7494724483528729301:True:=trivial
theorem tw7510230149288206974:True:=trivial
theorem tw7512474625130614241:True:=trivial
theorem tw7519716089354478335:True:=trivial
theorem tw7523672394736509286:True:=trivial
theorem tw7526368328331116154:True:=trivial
theorem tw7534799579077118603:True:=trivial
theorem tw7540655947842036084:True:=trivial
theorem tw7540741092611519060:True:=trivial
theorem tw7541792107247259296:True:=trivial
theorem tw7553592314356048186:True:=trivial
theorem tw7578210074245671484:True:=trivial
theorem tw7610815399733428385:True:=trivial
theorem tw7626941382939369770:True:=trivial
theorem tw7628703163842673926:True:=trivial
theorem tw7640094616464845771:True:=trivial
theorem tw7654286748164834634:True:=trivial
theorem tw7691918140598264929:True:=trivial
theorem tw7698358502638924378:True:=trivial
theorem tw7712595579559962911:True:=trivial
theorem tw7712819752767893495:True:=trivial
theorem tw7746578258024575070:True:=trivial
theorem tw7752569895197466512:True:=trivial
theorem tw7752767780024739350:True:=trivial
theorem tw7754304195085646258:True:=trivial
theorem tw7763873220885509757:True:=trivial
theorem tw7793673504863384051:True:=trivial
theorem tw7825657160107401850:True:=trivial
theorem tw7854228177987924090:True:=trivial
theorem tw7872162285098387286:True:=trivial
theorem tw7880807054014371918:True:=trivial
theorem tw7891253978561527248:True:=trivial
theorem tw7898215921889874393:True:=trivial
theorem tw7914949630228597729:True:=trivial
theorem tw8004679753235328684:True:=trivial
theorem tw8015326511298524721:True:=trivial
theorem tw8044012406986999415:True:=trivial
theorem tw8047900516022102942:True:=trivial
theorem tw8053944837975664402:True:=trivial
theorem tw8081886968326746073:True:=trivial
theorem tw8112040973832200146:True:=trivial
theorem tw8179070454071193570:True:=trivial
theorem tw8184699220007379433:True:=trivial
theorem tw8191903926673212241:True:=trivial
theorem tw8210421348078903774:True:=trivial
theorem tw8228950375871286339:True:=trivial
theorem tw8242931771332617035:True:=trivial
theorem tw8244733829118024811:True:=trivial
theorem tw825126770350376351:True:=trivial
theorem tw8273930003744585626:True:=trivial
theorem tw8293946417935249925:True:=trivial
theorem tw8312999807965096350:True:=trivial
theorem tw8317466277049474617:True:=trivial
theorem tw833173182276230429:True:=trivial
theorem tw8343274005884668182:True:=trivial
theorem tw8356816923877370021:True:=trivial
theorem tw8377043916266704855:True:=trivial
theorem tw8381844023166312768:True:=trivial
theorem tw8428860471423672150:True:=trivial
theorem tw845060206244984605:True:=trivial
theorem tw8457440626546761165:True:=trivial
theorem tw8458067239894703972:True:=trivial
theorem tw8479784124755550697:True:=trivial
theorem tw8516288146210602744:True:=trivial
theorem tw8531993380330477603:True:=trivial
theorem tw8538877666451538035:True:=trivial
theorem tw8545014587354053640:True:=trivial
theorem tw8587404781116728655:True:=trivial
theorem tw8589211134812392127:True:=trivial
theorem tw8609351116199087170:True:=trivial
theorem tw8664936974563722654:True:=trivial
theorem tw8671608845466749128:True:=trivial
theorem tw8683856772340465682:True:=trivial
theorem tw8684328023851190084:True:=trivial
theorem tw8716120427605611371:True:=trivial
theorem tw8727321023445011275:True:=trivial
theorem tw8735263284916673568:True:=trivial
theorem tw876933089483189297:True:=trivial
theorem tw8770205317985620760:True:=trivial
theorem tw8770659054964912022:True:=trivial
theorem tw8773699223549846113:True:=trivial
theorem tw8789358453043137523:True:=trivial
theorem tw8811097733284410319:True:=trivial
theorem tw881544763273948857:True:=trivial
theorem tw8879563391730754479:True:=trivial
theorem tw8883835196101046400:True:=trivial
theorem tw8887996145723391905:True:=trivial
theorem tw8912348807662434688:True:=trivial
theorem tw8934143017859847078:True:=trivial
theorem tw8959176491354863721:True:=trivial
theorem tw8960069828448710407:True:=trivial
theorem tw8965841893048198262:True:=trivial
theorem tw8977307856219701671:True:=trivial
theorem tw8977460988437922124:True:=trivial
theorem tw8990313861142287110:True:=trivial
theorem tw9013056391748086436:True:=trivial
theorem tw9014375795449043846:True:=trivial
theorem tw9073681462420916055:True:=trivial
theorem tw9087110039335098043:True:=trivial
theorem tw9131607905817354932:True:=trivial
theorem tw9132557439983319658:True:=trivial
theorem tw9153386212771759811:True:=trivial
theorem tw9155422001095189878:True:=trivial
theorem tw9170477692918782315:True:=trivial
theorem tw9184186324627900627:True:=trivial
theorem tw920214292312260371:True:=trivial
theorem tw9215827820722605749:True:=trivial
theorem tw9228397985900620932:True:=trivial
theorem tw9244321171653502345:True:=trivial
theorem tw9258712216579463092:True:=trivial
theorem tw9277588360372424766:True:=trivial
theorem tw9330943631129107780:True:=trivial
theorem tw9341642984632610673:True:=trivial
theorem tw9345676750909349944:True:=trivial
theorem tw9345929723534960622:True:=trivial
theorem tw9390866547671247325:True:=trivial
theorem tw9398405308114057262:True:=trivial
theorem tw940617070666608080:True:=trivial
theorem tw9406673726873002282:True:=trivial
theorem tw9421340871869096474:True:=trivial
theorem tw9427301549700849589:True:=trivial
theorem tw9449672872311958731:True:=trivial
theorem tw9467313397243273497:True:=trivial
theorem tw9476321141362543215:True:=trivial
theorem tw9499510787657705874:True:=trivial
theorem tw9513423893830186035:True:=trivial
theorem tw9533747618267967006:True:=trivial
theorem tw9555612238305686254:True:=trivial
theorem tw9557236495431379559:True:=trivial
theorem tw9566141503761928105:True:=trivial
theorem tw956962677268122417:True:=trivial
theorem tw960944832710211464:True:=trivial
theorem tw9617658007855726926:True:=trivial
theorem tw9627899436633539337:True:=trivial
theorem tw9631708518359487223:True:=trivial
theorem tw9641152695372364146:True:=trivial
theorem tw9657781627882305391:True:=trivial
theorem tw9719896912496429819:True:=trivial
theorem tw9731375825926819010:True:=trivial
theorem tw9741134391959003819:True:=trivial
theorem tw9748044761591592747:True:=trivial
theorem tw9759069670290863418:True:=trivial
theorem tw9763420282994701918:True:=trivial
theorem tw9783614193127449063:True:=trivial
theorem tw978945382295711627:True:=trivial
theorem tw9842699097658496709:True:=trivial
theorem tw9850052858527491113:True:=trivial
theorem tw991583007596301734:True:=trivial
theorem tw9960721518486171458:True:=trivial
theorem tw9983964734214183352:True:=trivial
theorem tw9983995961361265002:True:=trivial
theorem tw9990345226319884068:True:=trivial
end hd
set_option Elab.async true in
set_option maxRecDepth 100000 in
set_option maxHeartbeats 8000000 in
theorem hd : PySem.Challenge.rw_nz0101_01.Holds := by
  w_on; o_law; k_head; (case hw => w_witness2)
  intro w s₀ s₁ mg mb Gd Y a o pm cd doc dV kV ho hdata hcd hdf hmg hgens args vals as hpre hlay hrd hwell hlow
  have F : KF (hd.heap_1_39 w.params) := ⟨by as_aux_lemma => kernel_rfl, by as_aux_lemma => kernel_rfl, by as_aux_lemma => kernel_rfl, by as_aux_lemma => kernel_rfl, by as_aux_lemma => kernel_rfl⟩
  have K : (hd.heap_1_39 w.params).In _ := kIn_of Y
  have T := Gd.T
  have hmg' : mg (nm 129) = some (.ref a) := hmg
  have e893 := mg_of K T.g (gFact_of F (i := 129) (a := 893) (by decide)).ns
  have ea : a = 893 := by rw [hmg'] at e893; injection e893 with q; injection q
  subst ea
  clear hmg hmg' e893 ho hdata hcd hdf
  wrow_args hpre hlay hrd hwell hlow
  rename_i ns hs hl0 hl hr h2 as1 as2 l vs as3 hL ra w1 r0 hI hr' hc _
  have hg : s₁.heap.get? l = some (listOf vs.toArray 0) := by
    generalize hd : ofPy (PyData.list (List.map PyData.int ns)) = D at w1
    cases w1 with
    | list hg hw =>
      obtain ⟨o, ho, hcls, k, hdd⟩ := hL
      rw [hg] at ho
      cases ho
      have : _ = Data.seq vs.toArray k := hdd
      injection this with e1 e2
      rw [hg, e1]
    | _ => unfold ofPy at hd; cases hd
  refine wpAny_mono (law_call (prog := PySem.Challenge.rw_nz0101_01.row.prog) (K := hd.heap_1_39 w.params) ⟨F, by as_aux_lemma => kernel_rfl, by as_aux_lemma => kernel_rfl, by as_aux_lemma => kernel_rfl⟩ K ⟨mg, T.g⟩ ⟨mb, T.b, T.builtins⟩ T.nolimit ⟨rfl, by decide, by decide⟩ hg (ints_drs hI) (by omega) plain_law) (fun v s' h => ?_) fun _ _ e => e.elim
  obtain ⟨rfl, ⟨h', tk, rfl⟩, keep⟩ := h
  exact ⟨.inl ⟨_, .bool true, [], rfl, fun cls => rfl, .bool true, by first | wrow_post | kernel_rfl, fun _ => ⟨.nil, fun a ha => nomatch ha⟩⟩, .of_keep keep, rfl, .of_eq hgens⟩
end Mine
theorem PySem.Challenge.cw_nz0101_01_holds : PySem.Challenge.rw_nz0101_01.Holds :=
  Mine.hd
