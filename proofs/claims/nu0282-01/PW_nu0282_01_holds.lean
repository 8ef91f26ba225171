import PyProof.Rows.All
import Wide.All
import Open.Line
import OpenK.KMake
import OpenK.KCall
import OpenK.KGet
import KE.KIntText
import KE.KDictList
import KE.KIsAll
import Wide.FinOn
import PySem.Challenge.RW_nu0282_01
set_option Elab.async false
set_option linter.all false
set_option bootstrap.genMatcherCode false
set_option genSizeOf false
set_option genSizeOfSpec false
set_option maxRecDepth 1000000
set_option tactic.hygienic false
set_option hygiene false
set_option maxHeartbeats 80000000
open PySem PySem.W PyProof.Rows PySem.Calls
namespace Mine
noncomputable abbrev rP : Program:=PySem.Challenge.rw_nu0282_01.row.prog
theorem read1 : readsOut rP rP.main.body "vars" = false:=(congrFun (congrFun (congrFun Fast.te13343964577679436407 _) _) _).trans (by kernel_rfl)
theorem read2 : readsOut rP rP.main.body "dir" = false:=(congrFun (congrFun (congrFun Fast.te13343964577679436407 _) _) _).trans (by kernel_rfl)
theorem read3 : readsOut rP rP.main.body "locals" = false:=(congrFun (congrFun (congrFun Fast.te13343964577679436407 _) _) _).trans (by kernel_rfl)
theorem bare0 : (["vars", "dir", "locals"] : List Str).filter (readsOut rP rP.main.body) = []:=by
  rw [List.filter_cons_of_neg (by rw [read1]; exact Bool.noConfusion),List.filter_cons_of_neg (by rw [read2]; exact Bool.noConfusion),List.filter_cons_of_neg (by rw [read3]; exact Bool.noConfusion),List.filter_nil]
theorem look1 : namesResolve rP = true:=(congrFun Fast.te8377067652309620493 _).trans (by kernel_rfl)
theorem look2 : namesMeet rP rP.main.body (fun _ n=>attrL n) = true:=(congrFun (congrFun (congrFun Fast.te17119622794617984870 _) _) _).trans (by kernel_rfl)
theorem look3 : noRoadLSs { strict:=!(importedModules rP.main.body).all cThrough.contains,foot:=none,bare:=[] } rP.main.body = true:=(congrFun (congrFun Fast.te8326940854005059898 _) _).trans (by kernel_rfl)
theorem looks0 : looksOpen rP = true:=by
  unfold looksOpen
  rw [bare0,look1,look2,look3]
  kernel_rfl
theorem said0 : PySem.Challenge.rw_nu0282_01.row.wellSaid = true:=by
  unfold OpenRow.wellSaid OpenRow.partSaid
  rw [show looksOpen PySem.Challenge.rw_nu0282_01.row.prog = true from looks0]
  kernel_rfl
theorem law_said : PySem.Challenge.rw_nu0282_01.wellSaid = true:=by
  unfold OpenLaw.wellSaid
  rw [said0,Fast.te8326940854005059898,Fast.te17119622794617984870]
  kernel_rfl
theorem le_lit {a b d:Nat} (h : b ≤ d) (e:Nat.ble a b = true) : a ≤ d:=Nat.le_trans (Nat.le_of_ble_eq_true e) h
theorem le_lit1 {a b d k:Nat} (h : b ≤ d + k) (e:Nat.ble (a + k) b = true) : a ≤ d:=Nat.le_of_add_le_add_right (Nat.le_trans (Nat.le_of_ble_eq_true e) h)
theorem le_lit2 {a b d:Nat} (h : a ≤ b) (e:Nat.ble b d = true) : a ≤ d:=Nat.le_trans h (Nat.le_of_ble_eq_true e)
theorem lt_lit2 {a b d:Nat} (h : a ≤ b) (e:Nat.ble (b + 1) d = true) : a < d:=Nat.lt_of_lt_of_le (Nat.lt_succ_of_le h) (Nat.le_of_ble_eq_true e)
theorem le_litp {a b d:Nat} (h : b ≤ d) (e:Nat.ble (a + 1) b = true) : a ≤ d - 1:=Nat.le_sub_of_add_le (Nat.le_trans (Nat.le_of_ble_eq_true e) h)
theorem le_litq {a b d:Nat} (h : b ≤ d) (e:Nat.ble (a + 2) b = true) : a ≤ d - 1 - 1:=le_litp (le_litp (b:=b) h (Nat.ble_eq.mpr (by rw [Nat.sub_add_cancel (Nat.le_trans (Nat.le_add_left 1 (a + 1)) (Nat.le_of_ble_eq_true e))]; exact Nat.le_refl b)) : b - 1 ≤ d - 1) (Nat.ble_eq.mpr (Nat.le_sub_of_add_le (Nat.le_of_ble_eq_true e)))
theorem max_l {a b k:Nat} (h : max a b ≤ k) : a ≤ k:=Nat.le_trans (Nat.le_max_left _ _) h
theorem max_r {a b k:Nat} (h : max a b ≤ k) : b ≤ k:=Nat.le_trans (Nat.le_max_right _ _) h
theorem max_m {a b c k:Nat} (h : max a (max b c) ≤ k) : b ≤ k:=max_l (max_r h)
theorem max_e {a b c k:Nat} (h : max a (max b c) ≤ k) : c ≤ k:=max_r (max_r h)
theorem max1_l {a b k:Nat} (h : max a b + 1 ≤ k + 1) : a ≤ k:=max_l (Nat.le_of_succ_le_succ h)
theorem max1_r {a b k:Nat} (h : max a b + 1 ≤ k + 1) : b ≤ k:=max_r (Nat.le_of_succ_le_succ h)
theorem nin0 {α : Type} {a : α} : a ∉ ([] : List α):=fun h=>nomatch h
theorem nin1 {α : Type} {a b : α} (h : a ≠ b) : a ∉ [b]:=fun q=>h (List.mem_singleton.mp q)
theorem nin2 {α : Type} {a b c : α} (h : a ≠ b) (k : a ≠ c) : a ∉ [b,c]:=fun q=>by
  cases q with
  | head=>exact h rfl
  | tail _ q=>exact nin1 k q
theorem nin2l {α : Type} {a b c : α} (h : a ∉ [b,c]) : a ≠ b:=fun e=>h (e ▸ .head _)
theorem nin2r {α : Type} {a b c : α} (h : a ∉ [b,c]) : a ≠ c:=fun e=>h (e ▸ .tail _ (.head _))
theorem nin1e {α : Type} {a b : α} (h : a ∉ [b]) : a ≠ b:=fun e=>h (e ▸ .head _)
theorem sub0 {α : Type} {l:List α} : ∀ a ∈ ([] : List α),a ∈ l:=fun _ h=>nomatch h
theorem sub1 {α : Type} {x : α} {l:List α} (h : x ∈ l) : ∀ a ∈ [x],a ∈ l:=fun _ q=>List.mem_singleton.mp q ▸ h
theorem lt_lit {a b d:Nat} (h : b ≤ d) (e:Nat.ble (a + 1) b = true) : a < d:=Nat.le_trans (Nat.le_of_ble_eq_true e) h
inductive V where
  | none | bool (b:Bool) | int (i:Int) | str (s:List Nat) | tup (xs:List V)
  | ref (a:Addr) | ty (n : String) | bi (n : String) | rng (n:Nat) | vals (a:Addr) | base (a:Addr)
noncomputable def mkS (l:List Nat):Str:=⟨l.toArray⟩
theorem mkS_toList (l:List Nat) : (mkS l).cps.toList = l:=by simp [mkS]
theorem mkS_of (s:Str) : mkS s.cps.toList = s:=by cases s; simp [mkS]
theorem mkS_inj {a b:List Nat} (h : mkS a = mkS b) : a = b:=by have:=congrArg (fun s:Str=>s.cps.toList) h; simpa [mkS] using this
inductive Code where
  | nil | bool (b:Bool) | int (i:Int) | sym (s:List Nat) | text (s:List Nat)
  | list (cs:List Code) | range (a b : Code) (o:Bool) | thing (n:Int)
noncomputable abbrev sI:List Nat:=[105,110,116]
noncomputable abbrev sSym:List Nat:=[115,121,109]
noncomputable abbrev sNil:List Nat:=[110,105,108]
noncomputable abbrev sBool:List Nat:=[98,111,111,108]
noncomputable abbrev sText:List Nat:=[116,101,120,116]
noncomputable abbrev sList:List Nat:=[108,105,115,116]
noncomputable abbrev sRange:List Nat:=[114,97,110,103,101]
noncomputable abbrev sThing:List Nat:=[116,104,105,110,103]
mutual
noncomputable def Code.data : Code→PyData
  | .nil=>.tuple [.str (mkS sNil), .none]
  | .bool b=>.tuple [.str (mkS sBool), .bool b]
  | .int i=>.tuple [.str (mkS sI), .int i]
  | .sym s=>.tuple [.str (mkS sSym), .str (mkS s)]
  | .text s=>.tuple [.str (mkS sText), .str (mkS s)]
  | .list cs=>.tuple [.str (mkS sList), .tuple (Code.datas cs)]
  | .range a b o=>.tuple [.str (mkS sRange),a.data,b.data, .bool o]
  | .thing n=>.tuple [.str (mkS sThing), .int n]
noncomputable def Code.datas:List Code→List PyData
  | []=>[]
  | c :: r=>c.data :: Code.datas r
end
mutual
noncomputable def Code.toV : Code→V
  | .nil=>.tup [.str sNil, .none]
  | .bool b=>.tup [.str sBool, .bool b]
  | .int i=>.tup [.str sI, .int i]
  | .sym s=>.tup [.str sSym, .str s]
  | .text s=>.tup [.str sText, .str s]
  | .list cs=>.tup [.str sList, .tup (Code.toVs cs)]
  | .range a b o=>.tup [.str sRange,a.toV,b.toV, .bool o]
  | .thing n=>.tup [.str sThing, .int n]
noncomputable def Code.toVs:List Code→List V
  | []=>[]
  | c :: r=>c.toV :: Code.toVs r
end
noncomputable def Code.tag : Code→List Nat
  | .nil=>sNil | .bool _=>sBool | .int _=>sI | .sym _=>sSym | .text _=>sText | .list _=>sList | .range ..=>sRange | .thing _=>sThing
noncomputable def Code.rest : Code→List PyData
  | .nil=>[.none]
  | .bool b=>[.bool b]
  | .int i=>[.int i]
  | .sym s=>[.str (mkS s)]
  | .text s=>[.str (mkS s)]
  | .list cs=>[.tuple (Code.datas cs)]
  | .range a b o=>[a.data,b.data, .bool o]
  | .thing n=>[.int n]
theorem Code.data_is (c : Code) : c.data = .tuple (.str (mkS c.tag) :: c.rest):=by cases c <;> rfl
theorem Code.eqv_is (c d : Code) : PyData.eqv c.data d.data = (mkS c.tag == mkS d.tag && PyData.eqvAll c.rest d.rest):=by
  rw [c.data_is,d.data_is]; rfl
theorem mkS_beq (a b:List Nat) : (mkS a == mkS b) = decide (a = b):=by
  by_cases h : a = b
  · subst h; simp
  · rw [decide_eq_false h,beq_eq_false_iff_ne]; exact fun e=>h (mkS_inj e)
theorem Code.tag_ne {c d : Code} (h : (c.tag == d.tag) = false) : PyData.eqv c.data d.data = true ↔ c = d:=by
  have h : c.tag ≠ d.tag:=by simpa using h
  rw [Code.eqv_is,mkS_beq,decide_eq_false h,Bool.false_and]
  exact ⟨fun e=>(nomatch e),fun e=>absurd (by rw [e]) h⟩
theorem Code.tag_eq {c d : Code} (h : c.tag = d.tag) : PyData.eqv c.data d.data = PyData.eqvAll c.rest d.rest:=by
  rw [Code.eqv_is,mkS_beq,decide_eq_true h,Bool.true_and]
theorem Code.by_rest {c d : Code} (h : c.tag = d.tag) (i : PyData.eqvAll c.rest d.rest = true ↔ c = d) : PyData.eqv c.data d.data = true ↔ c = d:=by
  rw [Code.tag_eq h]; exact i
theorem eqvAll1 (a b : PyData) : PyData.eqvAll [a] [b] = (PyData.eqv a b && true):=rfl
theorem eqvAll3 (a b c a' b' c' : PyData) : PyData.eqvAll [a,b,c] [a',b',c'] = (PyData.eqv a a' && (PyData.eqv b b' && (PyData.eqv c c' && true))):=rfl
mutual
theorem Code.eqv : ∀ c d : Code,(PyData.eqv c.data d.data = true) ↔ c = d
  | .nil,d=>by cases d <;> first | exact Code.tag_ne rfl | (refine Code.by_rest rfl ?_; exact ⟨fun _=>rfl,fun _=>rfl⟩)
  | .bool b,d=>by
    cases d <;> first | exact Code.tag_ne rfl | skip
    refine Code.by_rest rfl ?_
    show ((b == _) && true) = true ↔ _
    rw [Bool.and_true,beq_iff_eq]; exact ⟨fun e=>by rw [e],fun e=>by cases e; rfl⟩
  | .int i,d=>by
    cases d <;> first | exact Code.tag_ne rfl | skip
    refine Code.by_rest rfl ?_
    show ((i == _) && true) = true ↔ _
    rw [Bool.and_true,beq_iff_eq]; exact ⟨fun e=>by rw [e],fun e=>by cases e; rfl⟩
  | .sym s,d=>by
    cases d <;> first | exact Code.tag_ne rfl | skip
    refine Code.by_rest rfl ?_
    show ((mkS s == mkS _) && true) = true ↔ _
    rw [Bool.and_true,beq_iff_eq]; exact ⟨fun e=>by rw [mkS_inj e],fun e=>by cases e; rfl⟩
  | .text s,d=>by
    cases d <;> first | exact Code.tag_ne rfl | skip
    refine Code.by_rest rfl ?_
    show ((mkS s == mkS _) && true) = true ↔ _
    rw [Bool.and_true,beq_iff_eq]; exact ⟨fun e=>by rw [mkS_inj e],fun e=>by cases e; rfl⟩
  | .thing i,d=>by
    cases d <;> first | exact Code.tag_ne rfl | skip
    refine Code.by_rest rfl ?_
    show ((i == _) && true) = true ↔ _
    rw [Bool.and_true,beq_iff_eq]; exact ⟨fun e=>by rw [e],fun e=>by cases e; rfl⟩
  | .list cs,d=>by
    cases d with
    | list ds=>
      have:=Code.eqvs cs ds
      refine Code.by_rest rfl ?_
      show (PyData.eqvAll (Code.datas cs) (Code.datas ds) && true) = true ↔ _
      rw [Bool.and_true,this]; exact ⟨fun e=>by rw [e],fun e=>by cases e; rfl⟩
    | _=>exact Code.tag_ne rfl
  | .range a b o,d=>by
    cases d with
    | range a' b' o'=>
      have h1:=Code.eqv a a'; have h2:=Code.eqv b b'
      refine Code.by_rest rfl ?_
      show (PyData.eqv a.data a'.data && (PyData.eqv b.data b'.data && ((o == o') && true))) = true ↔ _
      rw [Bool.and_true,Bool.and_eq_true,Bool.and_eq_true,h1,h2,beq_iff_eq]
      exact ⟨fun ⟨x,y,z⟩=>by rw [x,y,z],fun e=>by cases e; exact ⟨rfl,rfl,rfl⟩⟩
    | _=>exact Code.tag_ne rfl
theorem Code.eqvs : ∀ c d:List Code,(PyData.eqvAll (Code.datas c) (Code.datas d) = true) ↔ c = d
  | [],[]=>⟨fun _=>rfl,fun _=>rfl⟩
  | [],_ :: _=>⟨fun e=>(nomatch e),fun e=>(nomatch e)⟩
  | _ :: _,[]=>⟨fun e=>(nomatch e),fun e=>(nomatch e)⟩
  | c :: cs,d :: ds=>by
    have h1:=Code.eqv c d; have h2:=Code.eqvs cs ds
    show (PyData.eqv c.data d.data && PyData.eqvAll (Code.datas cs) (Code.datas ds)) = true ↔ _
    rw [Bool.and_eq_true,h1,h2]; exact ⟨fun ⟨x,y⟩=>by rw [x,y],fun e=>by cases e; exact ⟨rfl,rfl⟩⟩
end
theorem Code.data_inj {c d : Code} (h : c.data = d.data) : c = d:=(Code.eqv c d).mp (h ▸ (Code.eqv c c).mpr rfl)
mutual
noncomputable def hashD (w:World) : PyData→Int
  | .none=>0xFCA86420
  | .bool b=>if b then 1 else 0
  | .int i=>hashInt i
  | .str x=>hashStr w x
  | .tuple xs=>reduceHash (Builtin.Tuple.tupleHashOf (hashDs w xs))
  | .list _=>0
  | .dict _=>0
noncomputable def hashDs (w:World):List PyData→List Int
  | []=>[]
  | x :: r=>hashD w x :: hashDs w r
end
mutual
noncomputable def drawsD : PyData→Nat
  | .none=>1
  | .bool _=>1
  | .int _=>1
  | .str _=>1
  | .tuple xs=>drawsDs xs + 1
  | .list _=>0
  | .dict _=>0
noncomputable def drawsDs:List PyData→Nat
  | []=>0
  | x :: r=>drawsD x + drawsDs r
end
mutual
noncomputable def keyish : PyData→Bool
  | .none=>true
  | .bool _=>true
  | .int _=>true
  | .str x=>PyData.strOk x
  | .tuple xs=>keyishs xs
  | .list _=>false
  | .dict _=>false
noncomputable def keyishs:List PyData→Bool
  | []=>true
  | x :: r=>keyish x && keyishs r
end
theorem slot_none_hash : Slot "NoneType" "__hash__" "NoneType.__hash__":=
  .of (owner:="NoneType") (n:="__hash__") (by rw [typeLookup_type,builtinLookup_eq_fast]; kernel_rfl) (by decide +kernel) (by decide +kernel) (by decide +kernel)
    (by first | exact .inl (by decide +kernel) | exact .inr (by decide +kernel)) (by rw [isSubtype_type]; kernel_rfl)
theorem entry_none_hash : entryFor table "NoneType.__hash__" = some Builtin.«NoneType.__hash__»:=entryFor_of_tree (by kernel_rfl)
theorem args_none_hash (a:Value) : argsOk "NoneType.__hash__" ⟨[a],[]⟩:=by unfold argsOk; kernel_rfl
theorem slot_bool_hash : Slot "bool" "__hash__" "int.__hash__":=
  .of (owner:="int") (n:="__hash__") (by rw [typeLookup_type,builtinLookup_eq_fast]; kernel_rfl) (by decide +kernel) (by decide +kernel) (by decide +kernel)
    (by first | exact .inl (by decide +kernel) | exact .inr (by decide +kernel)) (by rw [isSubtype_type]; kernel_rfl)
section
variable {prog : Program} {w:World} {A:Around} {E:Value→Shared→Prop} {s:Shared}
theorem pyHash_none {Q:Int→Shared→Prop} (h : Q 0xFCA86420 { s with toks:=s.toks + 1 }) : wpAny (model prog w) A (pyHash .none) Q E s:=by
  have hT : s.TypeIs .none "NoneType":=rfl
  show wpAny _ _ (pyHashByItsType .none) _ _ _
  unfold pyHashByItsType
  refine wpAny_bind ?_
  rw [cRoomFor,if_neg (by decide)]; refine wpAny_pure ?_
  refine wpAny_bind (wpAny_specialOf hT slot_none_hash.lookup ?_)
  rw [if_neg (by rw [beq_builtin_none]; exact Bool.false_ne_true)]
  refine wpAny_bind (wpAny_specialOf hT slot_none_hash.lookup ?_)
  show wpAny _ _ (callSpecialIfBoundUnlessNone? .none "__hash__" _ >>= _) Q E s
  refine wpAny_bind (wpAny_callSpecialIfBoundUnlessNone?_slot hT slot_none_hash
    (wpAny_call_entry slot_none_hash hT entry_none_hash
      (show wpAny _ _ (do ret (← mkInt 0xFCA86420)) _ _ s from wpAny_ret_mkInt ?_) (args_none_hash _)))
  show wpAny _ _ (if (decide (-(2:Int) ^ 63 ≤ 0xFCA86420) && decide ((0xFCA86420:Int) < 2 ^ 63)) = true then _ else _) Q E _
  rw [if_pos (by decide)]
  exact wpAny_pure h
theorem pyHash_bool {b:Bool} {Q:Int→Shared→Prop} (h : Q (if b then 1 else 0) { s with toks:=s.toks + 1 }) : wpAny (model prog w) A (pyHash (.bool b)) Q E s:=by
  have hT : s.TypeIs (.bool b) "bool":=rfl
  show wpAny _ _ (pyHashByItsType (.bool b)) _ _ _
  unfold pyHashByItsType
  refine wpAny_bind ?_
  rw [cRoomFor,if_neg (by cases b <;> decide)]; refine wpAny_pure ?_
  refine wpAny_bind (wpAny_specialOf hT slot_bool_hash.lookup ?_)
  rw [if_neg (by rw [beq_builtin_none]; exact Bool.false_ne_true)]
  refine wpAny_bind (wpAny_specialOf hT slot_bool_hash.lookup ?_)
  show wpAny _ _ (callSpecialIfBoundUnlessNone? (.bool b) "__hash__" _ >>= _) Q E s
  cases b with
  | false=>
    refine wpAny_bind (wpAny_callSpecialIfBoundUnlessNone?_slot hT slot_bool_hash
      (wpAny_call_entry slot_bool_hash hT entry_int_hash
        (show wpAny _ _ (do ret (← mkInt 0)) _ _ s from wpAny_ret_mkInt ?_) (args_int_hash _)))
    show wpAny _ _ (if (decide (-(2:Int) ^ 63 ≤ 0) && decide ((0:Int) < 2 ^ 63)) = true then _ else _) Q E _
    rw [if_pos (by decide)]
    exact wpAny_pure h
  | true=>
    refine wpAny_bind (wpAny_callSpecialIfBoundUnlessNone?_slot hT slot_bool_hash
      (wpAny_call_entry slot_bool_hash hT entry_int_hash
        (show wpAny _ _ (do ret (← mkInt 1)) _ _ s from wpAny_ret_mkInt ?_) (args_int_hash _)))
    show wpAny _ _ (if (decide (-(2:Int) ^ 63 ≤ 1) && decide ((1:Int) < 2 ^ 63)) = true then _ else _) Q E _
    rw [if_pos (by decide)]
    exact wpAny_pure h
end
section
variable {prog : Program} {w:World}
theorem hashDs_append (xs ys:List PyData) : hashDs w (xs ++ ys) = hashDs w xs ++ hashDs w ys:=by
  induction xs with
  | nil=>rfl
  | cons x r ih=>exact congrArg (hashD w x :: ·) ih
theorem drawsDs_append (xs ys:List PyData) : drawsDs (xs ++ ys) = drawsDs xs + drawsDs ys:=by
  induction xs with
  | nil=>exact (Nat.zero_add _).symm
  | cons x r ih=>exact (congrArg (drawsD x + ·) ih).trans (Nat.add_assoc ..).symm
theorem drawsDs_snoc (xs:List PyData) (x : PyData) (n:Nat) : n + drawsDs xs + drawsD x = n + drawsDs (xs ++ [x]):=(Nat.add_assoc ..).trans (congrArg (n + ·) (drawsDs_append xs [x]).symm)
inductive EachOk (P:Value→PyData→Prop):List Value→List PyData→Prop
  | nil : EachOk P [] []
  | cons {v:Value} {d : PyData} {vs:List Value} {ds:List PyData} (h:P v d) (r : EachOk P vs ds) : EachOk P (v :: vs) (d :: ds)
noncomputable def HashOk (prog : Program) (w:World) (h:Heap) (n:Nat) (v:Value) (d : PyData):Prop:=∀ {A:Around} {E:Value→Shared→Prop} {s:Shared} {Q:Int→Shared→Prop},s.heap = h→A.units + n < cLine→
    Q (hashD w d) { s with toks:=s.toks + drawsD d }→wpAny (model prog w) A (pyHash v) Q E s
inductive HashI (prog : Program) (w:World) (n:Nat) (s:Shared) (xs:List PyData) (rest:List Value) (b : Array Int) (s' : Shared):Prop
  | mk (done left:List PyData) (e : xs = done ++ left) (l : EachOk (HashOk prog w s.heap n) rest left) (hb : b.toList = hashDs w done) (hs : s' = { s with toks:=s.toks + drawsDs done })
theorem hash_tuple {h:Heap} {n:Nat} {a:Addr} {o:Obj} {vs : Array Value} {m:Nat} {xs:List PyData} (ho : h.get? a = some o) (hc : o.cls = .type "tuple") (hdt : o.data = .seq vs m) (rs : EachOk (HashOk prog w h n) vs.toList xs) : HashOk prog w h (n + 1) (.ref a) (.tuple xs):=by
  intro A E s Q hs hu h
  subst hs
  have hT : s.TypeIs (.ref a) "tuple":=⟨o,ho,hc⟩
  show wpAny _ _ (pyHashByItsType (.ref a)) _ _ _
  unfold pyHashByItsType
  refine wpAny_bind (wpAny_cRoomFor_or (.inr (by lia)) ?_)
  refine wpAny_bind (wpAny_specialOf hT PySem.F.slot_tuple_hash.lookup ?_)
  rw [if_neg (by rw [beq_builtin_none]; exact Bool.false_ne_true)]
  refine wpAny_bind (wpAny_specialOf hT PySem.F.slot_tuple_hash.lookup ?_)
  show wpAny _ _ (callSpecialIfBoundUnlessNone? (.ref a) "__hash__" _ >>= _) Q E s
  refine wpAny_bind (wpAny_callSpecialIfBoundUnlessNone?_slot hT PySem.F.slot_tuple_hash (wpAny_call_entry PySem.F.slot_tuple_hash hT PySem.F.entry_tuple_hash ?_ (PySem.F.args_tuple_hash_1 _)))
  show wpAny _ _ (Builtin.Tuple.tupleItemsOf (.ref a) >>= _) _ _ s
  refine wpAny_bind (wpAny_tupleItemsOf ho hdt ?_)
  refine wpAny_bind ?_
  rw [← Array.forIn_toList]
  refine wpAny_forIn_list _ (HashI prog w n s xs) _ ?_ ?_ _ _ ⟨[],xs,rfl,rs,rfl,rfl⟩
  · intro x rest b s' I
    obtain ⟨done,left,rfl,hl,hb,rfl⟩:=I
    cases hl with
    | @cons _ dx _ ds h1 hl'=>
      refine wpAny_bind (h1 (A:=A.in1) rfl (by show A.units + 1 + n < cLine; rw [Nat.add_assoc,Nat.add_comm 1 n]; exact hu) ?_)
      have done' : HashI prog w n s (done ++ dx :: ds) rest (b.push (hashD w dx)) { s with toks:=s.toks + drawsDs done + drawsD dx }:=⟨done ++ [dx],ds,(List.append_assoc done [dx] ds).symm,hl',by rw [Array.toList_push,hb,hashDs_append]; rfl,by rw [drawsDs_snoc]⟩
      first
        | exact wpAny_pure done'
        | exact wpAny_bind (wpAny_pure (wpAny_pure done'))
  · intro b s' I
    obtain ⟨done,left,rfl,hl,hb,rfl⟩:=I
    cases hl
    rw [List.append_nil] at h
    show wpAny _ _ (retInt (Builtin.Tuple.tupleHashOf b.toList)) _ _ _
    rw [hb]
    refine wpAny_ret_mkInt ?_
    show wpAny _ _ (if (decide (-(2:Int) ^ 63 ≤ Builtin.Tuple.tupleHashOf (hashDs w done)) && decide (Builtin.Tuple.tupleHashOf (hashDs w done) < 2 ^ 63)) = true then _ else _) Q E _
    have h : Q (reduceHash (Builtin.Tuple.tupleHashOf (hashDs w done))) { s with toks:=s.toks + drawsDs done + 1 }:=by rw [Nat.add_assoc]; exact h
    unfold reduceHash at h
    by_cases hr : (decide (-(2:Int) ^ 63 ≤ Builtin.Tuple.tupleHashOf (hashDs w done)) && decide (Builtin.Tuple.tupleHashOf (hashDs w done) < 2 ^ 63)) = true
    · rw [if_pos hr]
      rw [if_pos hr] at h
      exact wpAny_pure h
    · rw [if_neg hr]
      rw [if_neg hr] at h
      exact wpAny_bind (wpAny_rule (wpAny_pure h))
theorem keyishs_cons {d : PyData} {ds:List PyData} (k : keyishs (d :: ds) = true) : keyish d = true∧keyishs ds = true:=Bool.and_eq_true_iff.mp k
theorem HashOk.mono {h:Heap} {n m:Nat} (k : n ≤ m) {v:Value} {d : PyData} (H : HashOk prog w h n v d) : HashOk prog w h m v d:=fun e u q=>H e (Nat.lt_of_le_of_lt (Nat.add_le_add_left k _) u) q
theorem pyHash_data {h:Heap} {v:Value} {d : PyData} {as:List Addr} (r : Reads h v d as) : keyish d = true→∀ n,d.depth ≤ n→HashOk prog w h n v d:=by
  refine Reads.rec (motive_1:=fun v d _ _=>keyish d = true→∀ n,d.depth ≤ n→HashOk prog w h n v d) (motive_2:=fun vs ds _ _=>keyishs ds = true→∀ n,PyData.depthAll ds ≤ n→EachOk (HashOk prog w h n) vs ds) ?_ ?_ ?_ ?_ ?_ ?_ ?_ ?_ ?_ r
  · exact fun _ _ _ _ _ _ _ _ _ q=>pyHash_none q
  · exact fun b _ _ _ _ _ _ _ _ _ q=>pyHash_bool q
  · exact fun i t _ _ _ _ _ _ _ _ _ q=>wpAny_pyHash_int q
  · exact fun x t _ _ _ _ _ _ _ _ _ q=>wpAny_pyHash_str q
  · exact fun _ _ _ _ _ k=>nomatch k
  · intro a o vs m xs as ho hc hdt rs ih k n hn
    cases n with
    | zero=>exact absurd hn (Nat.not_succ_le_zero _)
    | succ n=>exact hash_tuple ho hc hdt (ih k n (Nat.le_of_succ_le_succ hn))
  · exact fun _ _ _ _ _ _ _ k=>nomatch k
  · exact fun _ _ _=>.nil
  · exact fun _ _ h1 h2 k n hn=>.cons (h1 (keyishs_cons k).1 n (Nat.le_trans (Nat.le_max_left _ _) hn)) (h2 (keyishs_cons k).2 n (Nat.le_trans (Nat.le_max_right _ _) hn))
noncomputable def QuietOk (prog : Program) (w:World) (h:Heap) (n:Nat) (v:Value):Prop:=∀ {A:Around} {E:Value→Shared→Prop} {s:Shared} {Q:Bool→Shared→Prop},s.heap = h→Q true s→wpAny (model prog w) A (eqIsQuiet n v) Q E s
theorem quiet_tuple {h:Heap} {n:Nat} {a:Addr} {o:Obj} {vs : Array Value} {m:Nat} (ho : h.get? a = some o) (hc : o.cls = .type "tuple") (hdt : o.data = .seq vs m) (rs : ∀ v ∈ vs.toList,QuietOk prog w h n v) : QuietOk prog w h (n + 1) (.ref a):=by
  intro A E s Q hs h
  subst hs
  have hT : s.TypeIs (.ref a) "tuple":=⟨o,ho,hc⟩
  unfold eqIsQuiet
  refine wpAny_bind (wpAny_specialOf hT PySem.F.slot_tuple_eq.lookup ?_)
  show wpAny _ _ (isInstance (.ref a) (.type "tuple") >>= _) _ _ s
  refine wpAny_bind (wpAny_isInstance hT isSubtype_tuple_tuple ?_)
  simp only [Bool.not_true,Bool.false_eq_true,if_false]
  refine wpAny_bind (wpAny_seqItems ho hdt ?_)
  refine wpAny_bind ?_
  show wpAny _ _ (forIn vs _ _) _ _ s
  rw [← Array.forIn_toList]
  refine wpAny_forIn_list _ (fun rest r s'=>(r.1 = none∧s' = s)∧∀ v ∈ rest,v ∈ vs.toList) _ ?_ ?_ _ _ ⟨⟨rfl,rfl⟩,fun _ h=>h⟩
  · intro v rest r s' I
    obtain ⟨⟨hr,rfl⟩,hl⟩:=I
    refine wpAny_bind (rs v (hl v (.head _)) rfl ?_)
    simp only [Bool.not_true,Bool.false_eq_true,if_false]
    exact wpAny_pure ⟨⟨rfl,rfl⟩,fun x hx=>hl x (.tail _ hx)⟩
  · intro r s' I
    obtain ⟨⟨hr,rfl⟩,_⟩:=I
    obtain ⟨r1,r2⟩:=r
    cases hr
    exact wpAny_pure h
theorem quiet_byValue {h:Heap} {n:Nat} {v:Value} (e : ∀ n,eqIsQuiet n v = pure true) : QuietOk prog w h n v:=fun _ q=>by rw [e]; exact wpAny_pure q
theorem quiet_data {h:Heap} {v:Value} {d : PyData} {as:List Addr} (r : Reads h v d as) : keyish d = true→∀ n,d.depth ≤ n→QuietOk prog w h n v:=by
  refine Reads.rec (motive_1:=fun v d _ _=>keyish d = true→∀ n,d.depth ≤ n→QuietOk prog w h n v) (motive_2:=fun vs ds _ _=>keyishs ds = true→∀ n,PyData.depthAll ds ≤ n→∀ v ∈ vs,QuietOk prog w h n v) ?_ ?_ ?_ ?_ ?_ ?_ ?_ ?_ ?_ r
  · exact fun _ _ _=>quiet_byValue fun _=>eqIsQuiet_byValue _ rfl
  · exact fun b _ _ _=>quiet_byValue fun _=>eqIsQuiet_byValue _ rfl
  · exact fun i t _ _ _=>quiet_byValue fun _=>eqIsQuiet_byValue _ rfl
  · exact fun x t _ _ _=>quiet_byValue fun _=>eqIsQuiet_byValue _ rfl
  · exact fun _ _ _ _ _ k=>nomatch k
  · intro a o vs m xs as ho hc hdt rs ih k n hn
    cases n with
    | zero=>exact absurd hn (Nat.not_succ_le_zero _)
    | succ n=>exact quiet_tuple ho hc hdt (ih k n (Nat.le_of_succ_le_succ hn))
  · exact fun _ _ _ _ _ _ _ k=>nomatch k
  · exact fun _ _ _ _ q=>nomatch q
  · intro v vs d ds as bs _ _ h1 h2 k n hn u q
    cases q with
    | head=>exact h1 (keyishs_cons k).1 n (Nat.le_trans (Nat.le_max_left _ _) hn)
    | tail _ q=>exact h2 (keyishs_cons k).2 n (Nat.le_trans (Nat.le_max_right _ _) hn) u q
end
noncomputable def TupKeep (h h' : Heap):Prop:=∀ a o,h.get? a = some o→o.cls = .type "tuple"→(∃ items n,o.data = .seq items n)→h'.get? a = some o
theorem TupKeep.of {h h' : Heap} (k : ∀ a o,h.get? a = some o→h'.get? a = some o) : TupKeep h h':=fun a o e _ _=>k a o e
theorem Reads.tups {h h' : Heap} (k : TupKeep h h') {d : PyData} {v:Value} {as:List Addr} (r : Reads h v d as) : keyish d = true→Reads h' v d as:=by
  refine Reads.rec (motive_1:=fun v d as _=>keyish d = true→Reads h' v d as) (motive_2:=fun vs ds as _=>keyishs ds = true→ReadsAll h' vs ds as) ?_ ?_ ?_ ?_ ?_ ?_ ?_ ?_ ?_ r
  · exact fun _=>.none
  · exact fun b _=>.bool b
  · exact fun i t _=>.int i t
  · exact fun x t _=>.str x t
  · exact fun _ _ _ _ _ k=>nomatch k
  · exact fun a b c _ ih q=>.tuple (k _ _ a b ⟨_,_,c⟩) b c (ih q)
  · exact fun _ _ _ _ _ _ _ k=>nomatch k
  · exact fun _=>.nil
  · exact fun _ _ h1 h2 q=>.cons (h1 (keyishs_cons q).1) (h2 (keyishs_cons q).2)
mutual
theorem keyish_lay : ∀ d : PyData,keyish d = true→d.canLay0 = true
  | .none,_=>rfl
  | .bool _,_=>rfl
  | .int _,_=>rfl
  | .str _,h=>h
  | .tuple xs,h=>keyishs_lay xs h
theorem keyishs_lay : ∀ d:List PyData,keyishs d = true→PyData.canLayAll0 d = true
  | [],_=>rfl
  | d :: ds,h=>Bool.and_eq_true_iff.mpr ⟨keyish_lay d (keyishs_cons h).1,keyishs_lay ds (keyishs_cons h).2⟩
end
open scoped Classical in
noncomputable def codeKind (prog : Program) (w:World) : HeapKind prog w Code where
  is h c a:=(∃ as,Reads h (.ref a) c.data as)∧keyish c.data = true∧c.data.depth ≤ 8
  hash c:=hashD w c.data
  draws c:=drawsD c.data
  room A:=A.units + 64 < cLine
  inj:=fun ⟨⟨_,r⟩,k,_⟩ ⟨⟨_,r'⟩,k',_⟩=>Code.data_inj ((PySem.SeqAt.readOf_eq (keyish_lay _ k) r).symm.trans (PySem.SeqAt.readOf_eq (keyish_lay _ k') r'))
  keeps:=fun ⟨⟨as,r⟩,k,d⟩ ho hd hs=>⟨⟨as,Mine.Reads.tups (fun a o e _ ⟨it,n,q⟩=>(hs.2 a fun z=>by subst z; rw [ho] at e; cases e; rw [hd] at q; cases q).trans e) r k⟩,k,d⟩
  pyHash:=fun hu ⟨⟨_,r⟩,k,d⟩ h=>pyHash_data r k 8 d rfl (by lia) h
  eqBool:=fun {_ _ _ x y _ _ _} hu ⟨⟨_,r⟩,k,d⟩ ⟨⟨_,r'⟩,k',d'⟩ h=>PySem.SeqAt.eqAt_reads _ _ _ _ _ _ _ _ r r' (keyish_lay _ k) (keyish_lay _ k') (by lia) _ _ _ _ (by
    have:=Code.eqv x y
    by_cases q : x = y
    · rw [decide_eq_true q] at h; rw [this.mpr q]; exact h
    · rw [decide_eq_false q] at h; rw [Bool.eq_false_iff.mpr fun z=>q (this.mp z)]; exact h)
  quiet:=fun ⟨⟨_,r⟩,k,d⟩ h=>quiet_data r k 8 d rfl h
inductive AObj where
  | list (xs:List V)
  | sdict (kvs:List (List Nat × V))
  | cdict (kvs:List (Code × V)) (ep:Nat)
  | inst (C d:Addr)
  | idict (fs:List (Nat × V))
noncomputable abbrev Sg:=Addr→Option AObj
noncomputable def upd (σ:Sg) (a:Addr) (o:AObj):Sg:=fun b=>if b = a then some o else σ b
@[simp] theorem upd_same (σ:Sg) (a:Addr) (o:AObj) : upd σ a o a = some o:=by simp [upd]
theorem upd_ne {σ:Sg} {a b:Addr} {o:AObj} (h : b ≠ a) : upd σ a o b = σ b:=by simp [upd,h]
structure G where
  prog : Program
  w:World
  K:Frag
  h₀:Heap
  os:OsState
  base:Addr→Option AObj
noncomputable def nmTab:List String:=["number", "owner", "fields", "own", "frozen", "ident", "text", "items", "rows", "spare", "first", "last", "open", "params", "body", "env", "self_value", "nesting", "home", "site", "is_lambda", "definer", "message", "cause", "name", "is_class", "parent", "outer", "methods", "constants", "mixed", "ahead", "attached", "native", "kept", "natives", "prelude", "read", "most", "taken", "last_number", "last_ident", "symbol_idents", "made", "version", "const_version", "globals", "out", "is_ready", "main", "put", "row", "pairs", "is_own", "builtin", "make_builtin", "give_own", "class_of", "root_of", "list_of", "table_of", "key_of", "range_of", "proc", "thing", "is_error_class", "error", "fail"]
noncomputable def nm (i:Nat):Str:=Str.ofString (nmTab.getD i "")
noncomputable def clsL:List Addr:=[40,62,82,120,140,161,181,228,653]
noncomputable def methT:Addr→Nat→Option Addr
  | 120,50=>some 105 | 120,51=>some 112 | 120,52=>some 117 | 228,53=>some 225
  | 653,0=>some 434 | 653,5=>some 448 | 653,6=>some 517 | 653,54=>some 455 | 653,55=>some 460 | 653,56=>some 467 | 653,57=>some 482 | 653,58=>some 503 | 653,59=>some 524
  | 653,60=>some 531 | 653,61=>some 538 | 653,62=>some 545 | 653,63=>some 552 | 653,64=>some 559 | 653,65=>some 566 | 653,66=>some 580 | 653,67=>some 587
  | _,_=>none
noncomputable def methTab (C:Addr) (i:Nat):Option Addr:=bif Nat.blt i 68 then methT C i else none
noncomputable def initT:Addr→Option Addr
  | 40=>some 37 | 62=>some 59 | 82=>some 79 | 120=>some 98 | 140=>some 137 | 161=>some 158 | 181=>some 178 | 228=>some 218 | 653=>some 413
  | _=>none
noncomputable def initOf (C:Addr):Option Addr:=bif clsL.contains C then initT C else none
noncomputable def subsL:List (Addr × Addr):=[(62,40),(82,40),(120,40),(140,40),(161,40),(181,40),(228,40)]
noncomputable def attOk (C:Addr) (i:Nat):Bool:=clsL.contains C && decide (i < 68) && (methTab C i).isNone
theorem att_is {C:Addr} {i:Nat} (h : attOk C i = true) : i < nmTab.length∧C ∈ clsL∧methTab C i = none:=by
  unfold attOk at h
  simp only [Bool.and_eq_true,decide_eq_true_eq,Option.isNone_iff_eq_none,List.contains_iff_mem] at h
  exact ⟨h.1.2,h.1.1,h.2⟩
noncomputable def subB (C D:Addr):Bool:=C == D || subsL.contains (C,D)
noncomputable def shortL {α : Type} (n:Nat) (l:List α):Bool:=Nat.ble l.length n
theorem shortL_iff {α : Type} {n:Nat} {l:List α} : shortL n l = true ↔ l.length ≤ n:=Nat.ble_eq ▸ Iff.rfl
noncomputable def fixedObj (o:Obj):Prop:=match o.data with
  | .seq ..=>o.cls = .type "tuple"
  | .fields ..=>o.cls = .type "range"∨o.cls = .type "dict_values"
  | _=>False
noncomputable def FixKeep (h h' : Heap):Prop:=∀ a o,h.get? a = some o→fixedObj o→h'.get? a = some o
theorem FixKeep.refl (h:Heap) : FixKeep h h:=fun _ _ e _=>e
theorem FixKeep.tup {h h' : Heap} (k : FixKeep h h') : TupKeep h h':=fun a o e c ⟨i,n,d⟩=>k a o e (by unfold fixedObj; rw [d]; exact c)
theorem FixKeep.of {h h' : Heap} (k : ∀ a o,h.get? a = some o→h'.get? a = some o) : FixKeep h h':=fun a o e _=>k a o e
mutual
inductive VIs (h:Heap):Value→V→Prop
  | none : VIs h .none .none
  | bool (b:Bool) : VIs h (.bool b) (.bool b)
  | int (i:Int) (t : Tok) : VIs h (.int i t) (.int i)
  | str (s:Str) (t : Tok) : VIs h (.str s t) (.str s.cps.toList)
  | ty (n : String) : VIs h (.type n) (.ty n)
  | bi (n : String) : VIs h (.builtin n) (.bi n)
  | ref (a:Addr) : VIs h (.ref a) (.ref a)
  | base (a:Addr) : VIs h (.ref a) (.base a)
  | tup {a:Addr} {o:Obj} {items : Array Value} {n:Nat} {xs:List V} : h.get? a = some o→o.cls = .type "tuple"→o.data = .seq items n→VIss h items.toList xs→VIs h (.ref a) (.tup xs)
  | rng {a:Addr} {n:Nat} {t u v : Tok} : IsRange h a 0 n 1 t u v→VIs h (.ref a) (.rng n)
  | vals {a d:Addr} {o:Obj} : h.get? a = some o→o.cls = .type "dict_values"→o.data = .fields #[.ref d]→VIs h (.ref a) (.vals d)
inductive VIss (h:Heap):List Value→List V→Prop
  | nil : VIss h [] []
  | cons {v:Value} {x:V} {vs:List Value} {xs:List V} : VIs h v x→VIss h vs xs→VIss h (v :: vs) (x :: xs)
end
inductive SPairs (h:Heap):List (Str × Value)→List (List Nat × V)→Prop
  | nil : SPairs h [] []
  | cons {s:Str} {v:Value} {x:V} {ps kvs} : VIs h v x→SPairs h ps kvs→SPairs h ((s,v) :: ps) ((s.cps.toList,x) :: kvs)
inductive CPairs (h:Heap):List (Code × Addr × Value)→List (Code × V)→Prop
  | nil : CPairs h [] []
  | cons {c : Code} {a:Addr} {v:Value} {x:V} {ps kvs} : VIs h v x→CPairs h ps kvs→CPairs h ((c,a,v) :: ps) ((c,x) :: kvs)
noncomputable def FieldsAre (h:Heap) (m:Str→Option Value) (fs:List (Nat × V)):Prop:=∀ i,i < nmTab.length→match fs.lookup i with
  | some x=>∃ v,m (nm i) = some v∧VIs h v x
  | none=>m (nm i) = none
inductive NsB (h:Heap) (a:Addr) (m:Str→Option Value) (n:Nat):Prop
  | mk (o:Obj) (es : Array DictEntry) (ep:Nat) (e : h.get? a = some o) (d : o.data = .dict es ep) (k : StrKeys es) (f : ∀ name,nsFind es name = m name) (hn : es.size ≤ n)
theorem NsB.ns {h:Heap} {a:Addr} {m n} (x : NsB h a m n) : h.Ns a m:=by obtain ⟨o,es,ep,e,d,k,f,_⟩:=x; exact ⟨o,es,ep,e,d,k,f⟩
theorem NsB.at {h h' : Heap} {a:Addr} {m n} (x : NsB h a m n) (e : h'.get? a = h.get? a) : NsB h' a m n:=by obtain ⟨o,es,ep,q,a,b,c,d⟩:=x; exact ⟨o,es,ep,e.trans q,a,b,c,d⟩
open scoped Classical in
inductive CodeDict (prog : Program) (w:World) (h:Heap) (d:Addr) (xs:List (Code × Addr × Value)) (ep:Nat):Prop
  | mk (o:Obj) (es : Array DictEntry) (e : h.get? d = some o) (c : o.ExactDict) (hd : o.data = .dict es ep) (he : es.toList = xs.map (entryOfKey (codeKind prog w))) (hk : ∀ x ∈ xs,(codeKind prog w).is h x.1 x.2.1) (hn : (xs.map (·.1)).Nodup)
open scoped Classical in
theorem CodeDict.H {prog : Program} {w:World} {h:Heap} {d:Addr} {xs ep} (x : CodeDict prog w h d xs ep) : h.DictOfH (codeKind prog w) d xs:=by obtain ⟨o,es,a,b,c,r,q,z⟩:=x; exact ⟨o,es,ep,a,b,c,r,q,z⟩
open scoped Classical in
theorem CodeDict.of {prog : Program} {w:World} {h:Heap} {d:Addr} {xs} (x : h.DictOfH (codeKind prog w) d xs) : ∃ ep,CodeDict prog w h d xs ep:=by obtain ⟨o,es,ep,a,b,c,r,q,z⟩:=x; exact ⟨ep,o,es,a,b,c,r,q,z⟩
noncomputable def noDict (h:Heap) (a:Addr):Prop:=∀ o,h.get? a = some o→o.dict = none
noncomputable def ObjIs (g:G) (h:Heap) (a:Addr):AObj→Prop
  | .list xs=>(∃ items,h.IsList a items∧VIss h items.toList xs)∧noDict h a
  | .sdict kvs=>∃ ps,h.DictOf (strKind g.prog g.w) a ps∧SPairs h ps kvs
  | .cdict kvs ep=>∃ ps,CodeDict g.prog g.w h a ps ep∧CPairs h ps kvs
  | .inst C d=>h.get? a = some (instObj C d)
  | .idict fs=>∃ m,NsB h a m fs.length∧FieldsAre h m fs
structure Rep (g:G) (σ:Sg) (s:Shared):Prop where
  keep : ∀ b o,g.h₀.get? b = some o→s.heap.get? b = some o
  gens : s.gens = #[]
  os : s.os = g.os
  objs : ∀ a o,σ a = some o→ObjIs g s.heap a o
  new : ∀ a o,σ a = some o→g.h₀.get? a = none
structure Step (s:Shared) (σ:Sg) (s' : Shared) (σ' : Sg):Prop where
  keep : ∀ a o,σ a = none→s.heap.get? a = some o→s'.heap.get? a = some o
  dom : ∀ a,σ' a ≠ none→σ a ≠ none∨s.heap.get? a = none
theorem not_fixed {o:Obj} {es : Array DictEntry} {ep:Nat} (d : o.data = .dict es ep) : ¬ fixedObj o:=fun z=>by unfold fixedObj at z; rw [d] at z; exact z
theorem ObjIs.live {g:G} {h:Heap} {a:Addr} {o:AObj} (x : ObjIs g h a o) : ∃ ob,h.get? a = some ob∧¬ fixedObj ob:=by
  cases o with
  | list xs=>obtain ⟨⟨_,⟨o,e,c,n,d⟩,_⟩,_⟩:=x; exact ⟨_,e,fun z=>by unfold fixedObj at z; rw [d,c] at z; exact absurd (Value.type.inj z) (by decide)⟩
  | sdict kvs=>obtain ⟨_,⟨o,es,ep,e,c,d,_⟩,_⟩:=x; exact ⟨_,e,not_fixed d⟩
  | cdict kvs ep=>obtain ⟨_,⟨o,es,e,c,d,_⟩,_⟩:=x; exact ⟨_,e,not_fixed d⟩
  | inst C d=>exact ⟨_,x,fun z=>z⟩
  | idict fs=>obtain ⟨_,⟨o,es,ep,e,d,_⟩,_⟩:=x; exact ⟨_,e,not_fixed d⟩
theorem Step.refl (s:Shared) (σ:Sg) : Step s σ s σ:=⟨fun _ _ _ e=>e,fun _ h=>.inl h⟩
theorem Step.trans {s s₁ s₂:Shared} {σ σ₁ σ₂:Sg} (x : Step s σ s₁ σ₁) (y : Step s₁ σ₁ s₂ σ₂) : Step s σ s₂ σ₂:=by
  refine ⟨fun a o hn e=>?_,fun a h=>?_⟩
  · have e1:=x.keep a o hn e
    refine y.keep a o ?_ e1
    cases q : σ₁ a with
    | none=>rfl
    | some v=>
      rcases x.dom a (by rw [q]; simp) with z | z
      · exact absurd hn z
      · rw [z] at e; cases e
  · rcases y.dom a h with z | z
    · exact x.dom a z
    · cases q : σ a with
      | some v=>exact .inl (by simp)
      | none=>
        right
        cases e : s.heap.get? a with
        | none=>rfl
        | some o=>rw [x.keep a o q e] at z; cases z
theorem VIs.keeps {h h' : Heap} (k : FixKeep h h') {v:Value} {x:V} (r : VIs h v x) : VIs h' v x:=
  r.rec (motive_1:=fun v x _=>VIs h' v x) (motive_2:=fun v x _=>VIss h' v x) .none .bool .int .str .ty .bi .ref .base
    (fun e c d _ l=>.tup (k _ _ e (by unfold fixedObj; rw [d]; exact c)) c d l) (fun e=>.rng (k _ _ e (.inl rfl))) (fun e c d=>.vals (k _ _ e (by unfold fixedObj; rw [d]; exact .inr c)) c d) .nil (fun _ _ a b=>.cons a b)
theorem VIss.keeps {h h' : Heap} (k : FixKeep h h') {v:List Value} {x:List V} (r : VIss h v x) : VIss h' v x:=
  r.rec (motive_1:=fun v x _=>VIs h' v x) (motive_2:=fun v x _=>VIss h' v x) .none .bool .int .str .ty .bi .ref .base
    (fun e c d _ l=>.tup (k _ _ e (by unfold fixedObj; rw [d]; exact c)) c d l) (fun e=>.rng (k _ _ e (.inl rfl))) (fun e c d=>.vals (k _ _ e (by unfold fixedObj; rw [d]; exact .inr c)) c d) .nil (fun _ _ a b=>.cons a b)
theorem SPairs.keeps {h h' : Heap} (k : FixKeep h h') {es kvs} (r : SPairs h es kvs) : SPairs h' es kvs:=by
  induction r with
  | nil=>exact .nil
  | cons a _ b=>exact .cons (a.keeps k) b
theorem CPairs.keeps {h h' : Heap} (k : FixKeep h h') {es kvs} (r : CPairs h es kvs) : CPairs h' es kvs:=by
  induction r with
  | nil=>exact .nil
  | cons a _ b=>exact .cons (a.keeps k) b
theorem FieldsAre.keeps {h h' : Heap} (k : FixKeep h h') {m fs} (x : FieldsAre h m fs) : FieldsAre h' m fs:=fun i hi=>by
  have:=x i hi
  cases e : fs.lookup i with
  | none=>rw [e] at this; exact this
  | some y=>
    rw [e] at this
    obtain ⟨v,a,b⟩:=this
    exact ⟨v,a,b.keeps k⟩
theorem CodeDict.keeps {prog : Program} {w:World} {h h' : Heap} (k : FixKeep h h') {d:Addr} {xs ep} (x : CodeDict prog w h d xs ep) (e : h'.get? d = h.get? d) : CodeDict prog w h' d xs ep:=by
  obtain ⟨o,es,ho,c,hd,he,hk,hn⟩:=x
  exact ⟨o,es,e.trans ho,c,hd,he,fun y hy=>let ⟨⟨as,r⟩,a,b⟩:=hk y hy; ⟨⟨as,Mine.Reads.tups k.tup r a⟩,a,b⟩,hn⟩
theorem ObjIs.keeps {g:G} {h h' : Heap} (k : FixKeep h h') {a:Addr} {o:AObj} (x : ObjIs g h a o) (e : h'.get? a = h.get? a) : ObjIs g h' a o:=by
  cases o with
  | list xs=>obtain ⟨⟨i,⟨o,q,r⟩,l⟩,nd⟩:=x; exact ⟨⟨i,⟨o,e.trans q,r⟩,l.keeps k⟩,fun o' h'=>nd o' (e ▸ h')⟩
  | sdict kvs=>obtain ⟨ps,⟨o,es,ep,ho,r⟩,l⟩:=x; exact ⟨ps,⟨o,es,ep,e.trans ho,r⟩,l.keeps k⟩
  | cdict kvs ep=>obtain ⟨ps,q,l⟩:=x; exact ⟨ps,q.keeps k e,l.keeps k⟩
  | inst C d=>exact e.trans x
  | idict fs=>obtain ⟨m,q,l⟩:=x; exact ⟨m,q.at e,l.keeps k⟩
theorem Step.tup {g:G} {s s' : Shared} {σ σ' : Sg} (R : Rep g σ s) (x : Step s σ s' σ') : FixKeep s.heap s'.heap:=fun a o e c=>by
  refine x.keep a o ?_ e
  cases q : σ a with
  | none=>rfl
  | some ob=>
    obtain ⟨o',e',n⟩:=(R.objs a ob q).live
    rw [e] at e'; cases e'; exact absurd c n
inductive post (g:G) (s:Shared) (σ:Sg) (Q:V→Sg→Prop) (v:Value) (s' : Shared):Prop
  | mk (x:V) (σ' : Sg) (hv : VIs s'.heap v x) (R : Rep g σ' s') (S : Step s σ s' σ') (W : Q x σ')
inductive endW (g:G) (s:Shared) (σ:Sg) (Q:Sg→Prop) (s' : Shared):Prop
  | mk (σ' : Sg) (R : Rep g σ' s') (S : Step s σ s' σ') (W : Q σ')
theorem post.trans {g:G} {s s₁ s₂:Shared} {σ σ₁:Sg} {Q:V→Sg→Prop} {v:Value} (x : Step s σ s₁ σ₁) (p : post g s₁ σ₁ Q v s₂) : post g s σ Q v s₂:=
  let ⟨y,σ',a,b,c,d⟩:=p; ⟨y,σ',a,b,x.trans c,d⟩
theorem post.mono {g:G} {s s₂:Shared} {σ:Sg} {Q Q' : V→Sg→Prop} {v:Value} (p : post g s σ Q v s₂) (h : ∀ x σ',Q x σ'→Q' x σ') : post g s σ Q' v s₂:=
  let ⟨y,σ',a,b,c,d⟩:=p; ⟨y,σ',a,b,c,h _ _ d⟩
noncomputable def nope:Value→Shared→Prop:=fun _ _=>False
structure AOk (d:Nat) (A:Around):Prop where
  handled : A.handled = none
  depth : A.depth + 3 * d + 6 ≤ recursionLimit
  units : A.units + 20 * d + 200 ≤ cLine
theorem inU {d:Nat} {A:Around} (O : AOk d A) : A.in1.units + 64 < cLine:=by have:=O.units; show A.units + 1 + 64 < _; lia
noncomputable abbrev M (g:G) : Model:=model g.prog g.w
theorem Rep.tok {g:G} {σ:Sg} {s:Shared} (R : Rep g σ s) (t:Nat) : Rep g σ { s with toks:=t }:=⟨R.keep,R.gens,R.os,R.objs,R.new⟩
theorem Step.tok {s:Shared} {σ:Sg} (t:Nat) : Step s σ { s with toks:=t } σ:=⟨fun _ _ _ e=>e,fun _ h=>.inl h⟩
theorem post.here {g:G} {s:Shared} {σ:Sg} {Q:V→Sg→Prop} {v:Value} {x:V} (R : Rep g σ s) (hv : VIs s.heap v x) (h : Q x σ) : post g s σ Q v s:=⟨x,σ,hv,R, .refl _ _,h⟩
theorem post.tok {g:G} {s:Shared} {σ:Sg} {Q:V→Sg→Prop} {v:Value} {x:V} {t:Nat} (R : Rep g σ s) (hv : VIs s.heap v x) (h : Q x σ) : post g s σ Q v { s with toks:=t }:=
  ⟨x,σ,hv,R.tok t, .tok t,h⟩
theorem Rep.grow {g:G} {σ:Sg} {s:Shared} (R : Rep g σ s) {h' : Heap} {t:Nat} (k : ∀ a o,s.heap.get? a = some o→h'.get? a = some o) : Rep g σ { s with heap:=h',toks:=t }:=by
  have tk : FixKeep s.heap h':=fun a o e _=>k a o e
  refine ⟨fun b o e=>k _ _ (R.keep b o e),R.gens,R.os,fun a o e=>?_,R.new⟩
  have x:=R.objs a o e
  obtain ⟨ob,e1,_⟩:=x.live
  exact x.keeps tk (by rw [e1]; exact k _ _ e1)
theorem Step.grow {σ:Sg} {s:Shared} {h' : Heap} {t:Nat} (k : ∀ a o,s.heap.get? a = some o→h'.get? a = some o) : Step s σ { s with heap:=h',toks:=t } σ:=⟨fun a o _ e=>k a o e,fun _ h=>.inl h⟩
theorem fresh_none {g:G} {σ:Sg} {s:Shared} (R : Rep g σ s) {a:Addr} (h : s.heap.get? a = none) : σ a = none:=by
  cases q : σ a with
  | none=>rfl
  | some o=>obtain ⟨ob,e,_⟩:=(R.objs a o q).live; rw [h] at e; cases e
theorem size_none (h:Heap) : h.get? h.objs.size = none:=by
  cases e : h.get? h.objs.size with
  | none=>rfl
  | some o=>exact absurd (Heap.lt_size e) (Nat.lt_irrefl _)
theorem Rep.track {g:G} {σ:Sg} {s:Shared} (R : Rep g σ s) {h' : Heap} {t:Nat} {a:Addr} {o:AObj} (k : ∀ a o,s.heap.get? a = some o→h'.get? a = some o)
    (ha : s.heap.get? a = none) (ho : ObjIs g h' a o) : Rep g (upd σ a o) { s with heap:=h',toks:=t }:=by
  have R':=R.grow (t:=t) k
  refine ⟨R'.keep,R'.gens,R'.os,fun b ob e=>?_,fun b ob e=>?_⟩
  · by_cases h : b = a
    · subst h; rw [upd_same] at e; cases e; exact ho
    · rw [upd_ne h] at e; exact R'.objs b ob e
  · by_cases h : b = a
    · subst h
      cases q : g.h₀.get? b with
      | none=>rfl
      | some o'=>rw [R.keep _ _ q] at ha; cases ha
    · rw [upd_ne h] at e; exact R'.new b ob e
theorem Step.track {σ:Sg} {s:Shared} {h' : Heap} {t:Nat} {a:Addr} {o:AObj} (k : ∀ a o,s.heap.get? a = some o→h'.get? a = some o)
    (ha : s.heap.get? a = none) : Step s σ { s with heap:=h',toks:=t } (upd σ a o):=by
  refine ⟨fun a o _ e=>k a o e,fun b h=>?_⟩
  by_cases q : b = a
  · subst q; exact .inr ha
  · rw [upd_ne q] at h; exact .inl h
theorem Rep.change {g:G} {σ:Sg} {s:Shared} (R : Rep g σ s) {h' : Heap} {t:Nat} {a:Addr} {o o' : AObj} (e : σ a = some o) (hs:Heap.SameBut a s.heap h')
    (ho : FixKeep s.heap h'→ObjIs g h' a o') : Rep g (upd σ a o') { s with heap:=h',toks:=t }:=by
  obtain ⟨ob,e1,nt⟩:=(R.objs a o e).live
  have tk : FixKeep s.heap h':=fun b x q c=>by
    have : b ≠ a:=fun z=>by subst z; rw [e1] at q; cases q; exact nt c
    exact (hs.2 b this).trans q
  refine ⟨fun b x q=>?_,R.gens,R.os,fun b x q=>?_,fun b x q=>?_⟩
  · have : b ≠ a:=fun z=>by subst z; have:=R.new _ _ e; rw [q] at this; cases this
    exact (hs.2 b this).trans (R.keep b x q)
  · by_cases h : b = a
    · subst h; rw [upd_same] at q; cases q; exact ho tk
    · rw [upd_ne h] at q; exact (R.objs b x q).keeps tk (hs.2 b h)
  · by_cases h : b = a
    · subst h; exact R.new _ _ e
    · rw [upd_ne h] at q; exact R.new b x q
theorem Step.change {σ:Sg} {s:Shared} {h' : Heap} {t:Nat} {a:Addr} {o o' : AObj} (e : σ a = some o) (hs:Heap.SameBut a s.heap h') : Step s σ { s with heap:=h',toks:=t } (upd σ a o'):=by
  refine ⟨fun b x q z=>(hs.2 b fun y=>by subst y; rw [e] at q; cases q).trans z,fun b h=>?_⟩
  by_cases q : b = a
  · subst q; exact .inl (by rw [e]; simp)
  · rw [upd_ne q] at h; exact .inl h
noncomputable abbrev big:Nat:=16777216
theorem line_is : sizeLine = 16777216:=rfl
inductive TupI (h:Heap) (v:Value) (xs:List V):Prop
  | mk (a:Addr) (o:Obj) (items : Array Value) (n:Nat) (hv : v = .ref a) (e : h.get? a = some o) (c : o.cls = .type "tuple") (d : o.data = .seq items n) (l : VIss h items.toList xs)
noncomputable def VInv (h:Heap) (v:Value):V→Prop
  | .none=>v = .none | .bool b=>v = .bool b | .int i=>∃ t,v = .int i t | .str l=>∃ t,v = .str (mkS l) t | .tup xs=>TupI h v xs | .ref a=>v = .ref a
  | .ty n=>v = .type n | .bi n=>v = .builtin n | .rng n=>∃ a t u w,v = .ref a∧IsRange h a 0 n 1 t u w | .vals d=>∃ a o,v = .ref a∧h.get? a = some o∧o.cls = .type "dict_values"∧o.data = .fields #[.ref d] | .base a=>v = .ref a
theorem VIs.inv {h:Heap} {v:Value} {x:V} (r : VIs h v x) : VInv h v x:=
  r.casesOn (motive_1:=fun v x _=>VInv h v x) rfl (fun _=>rfl) (fun _ t=>⟨t,rfl⟩) (fun s t=>⟨t,by rw [mkS_of]⟩) (fun _=>rfl) (fun _=>rfl) (fun _=>rfl) (fun _=>rfl)
    (fun e c d l=>⟨_,_,_,_,rfl,e,c,d,l⟩) (fun e=>⟨_,_,_,_,rfl,e⟩) (fun e c d=>⟨_,_,rfl,e,c,d⟩)
theorem VIs.inv_int {h:Heap} {v:Value} {i:Int} (x : VIs h v (.int i)) : ∃ t,v = .int i t:=x.inv
theorem VIs.inv_bool {h:Heap} {v:Value} {i:Bool} (x : VIs h v (.bool i)) : v = .bool i:=x.inv
theorem VIs.inv_none {h:Heap} {v:Value} (x : VIs h v .none) : v = .none:=x.inv
theorem VIs.inv_ref {h:Heap} {v:Value} {a:Addr} (x : VIs h v (.ref a)) : v = .ref a:=x.inv
theorem VIs.inv_base {h:Heap} {v:Value} {a:Addr} (x : VIs h v (.base a)) : v = .ref a:=x.inv
theorem VIs.inv_str {h:Heap} {v:Value} {l:List Nat} (x : VIs h v (.str l)) : ∃ t,v = .str (mkS l) t:=x.inv
theorem VIs.inv_tup {h:Heap} {v:Value} {xs:List V} (x : VIs h v (.tup xs)) : TupI h v xs:=x.inv
@[elab_as_elim] theorem VIs.int_ {h:Heap} {v:Value} {i:Int} (x : VIs h v (.int i)) {P:Value→Prop} (k : ∀ t,P (.int i t)):P v:=let ⟨t,e⟩:=x.inv_int; e ▸ k t
@[elab_as_elim] theorem VIs.str_ {h:Heap} {v:Value} {l:List Nat} (x : VIs h v (.str l)) {P:Value→Prop} (k : ∀ t,P (.str (mkS l) t)):P v:=let ⟨t,e⟩:=x.inv_str; e ▸ k t
@[elab_as_elim] theorem VIs.bool_ {h:Heap} {v:Value} {b:Bool} (x : VIs h v (.bool b)) {P:Value→Prop} (k:P (.bool b)):P v:=x.inv_bool ▸ k
@[elab_as_elim] theorem VIs.none_ {h:Heap} {v:Value} (x : VIs h v .none) {P:Value→Prop} (k:P .none):P v:=x.inv_none ▸ k
@[elab_as_elim] theorem VIs.ref_ {h:Heap} {v:Value} {a:Addr} (x : VIs h v (.ref a)) {P:Value→Prop} (k:P (.ref a)):P v:=x.inv_ref ▸ k
@[elab_as_elim] theorem VIs.base_ {h:Heap} {v:Value} {a:Addr} (x : VIs h v (.base a)) {P:Value→Prop} (k:P (.ref a)):P v:=x.inv_base ▸ k
theorem VIs.mk_str {h:Heap} {l:List Nat} {t : Tok} : VIs h (.str (mkS l) t) (.str l):=by
  have:=VIs.str (h:=h) (mkS l) t
  rwa [mkS_toList] at this
theorem VIss.ind {h:Heap} {P:List Value→List V→Prop} (n:P [] []) (c : ∀ {v x vs xs},VIs h v x→VIss h vs xs→P vs xs→P (v :: vs) (x :: xs)) {vs:List Value} {xs:List V} (r : VIss h vs xs):P vs xs:=
  r.rec (motive_1:=fun _ _ _=>True) (motive_2:=fun vs xs _=>P vs xs) trivial (fun _=>trivial) (fun _ _=>trivial) (fun _ _=>trivial) (fun _=>trivial) (fun _=>trivial) (fun _=>trivial) (fun _=>trivial) (fun _ _ _ _ _=>trivial) (fun _=>trivial) (fun _ _ _=>trivial) n (fun a r _ ih=>c a r ih)
theorem VIss.length {h:Heap} {vs:List Value} {xs:List V} (r : VIss h vs xs) : vs.length = xs.length:=r.ind (P:=fun vs xs=>vs.length = xs.length) rfl fun _ _ ih=>congrArg (· + 1) ih
theorem VIss.get {h:Heap} {vs:List Value} {xs:List V} (r : VIss h vs xs) : ∀ {i:Nat} {x:V},xs[i]? = some x→∃ v,vs[i]? = some v∧VIs h v x:=
  r.ind (P:=fun vs xs=>∀ {i:Nat} {x:V},xs[i]? = some x→∃ v,vs[i]? = some v∧VIs h v x) (fun {i x} e=>by rw [List.getElem?_nil] at e; cases e) fun {v y vs xs} a _ ih i x e=>by
    cases i with
    | zero=>rw [List.getElem?_cons_zero] at e ⊢; cases e; exact ⟨v,rfl,a⟩
    | succ i=>exact ih e
theorem VIss.append {h:Heap} {vs ws:List Value} {xs ys:List V} (r : VIss h vs xs) (q : VIss h ws ys) : VIss h (vs ++ ws) (xs ++ ys):=r.ind (P:=fun vs xs=>VIss h (vs ++ ws) (xs ++ ys)) q fun a _ ih=>.cons a ih
theorem VIss.set {h:Heap} {vs:List Value} {xs:List V} (r : VIss h vs xs) : ∀ (i:Nat) {v:Value} {x:V},VIs h v x→VIss h (vs.set i v) (xs.set i x):=
  r.ind (P:=fun vs xs=>∀ (i:Nat) {v:Value} {x:V},VIs h v x→VIss h (vs.set i v) (xs.set i x)) (fun _ _ _ _=>.nil) fun a r ih i v x q=>by
    cases i with
    | zero=>exact .cons q r
    | succ i=>exact .cons a (ih i q)
inductive VCons (h:Heap) (vs:List Value) (x:V) (xs:List V):Prop
  | mk (v:Value) (ws:List Value) (e : vs = v :: ws) (a : VIs h v x) (b : VIss h ws xs)
noncomputable def VsInv (h:Heap) (vs:List Value):List V→Prop
  | []=>vs = [] | x :: xs=>VCons h vs x xs
theorem VIss.inv {h:Heap} {vs:List Value} {xs:List V} (r : VIss h vs xs) : VsInv h vs xs:=r.ind (P:=fun vs xs=>VsInv h vs xs) rfl fun a r _=>⟨_,_,rfl,a,r⟩
@[elab_as_elim] theorem VIss.nil_ {h:Heap} {vs:List Value} (a : VIss h vs []) {P:List Value→Prop} (k:P []):P vs:=(show vs = [] from a.inv) ▸ k
@[elab_as_elim] theorem VIss.one_ {h:Heap} {vs:List Value} {x:V} (a : VIss h vs [x]) {P:List Value→Prop} (k : ∀ v,VIs h v x→P [v]):P vs:=by
  obtain ⟨v,ws,rfl,b,r⟩:=a.inv
  exact r.nil_ (k v b)
@[elab_as_elim] theorem VIss.two_ {h:Heap} {vs:List Value} {x y:V} (a : VIss h vs [x,y]) {P:List Value→Prop} (k : ∀ v w,VIs h v x→VIs h w y→P [v,w]):P vs:=by
  obtain ⟨v,ws,rfl,b,r⟩:=a.inv
  exact r.one_ fun w c=>k v w b c
theorem VIss.inv2 {h:Heap} {vs:List Value} {x y:V} (a : VIss h vs [x,y]) : ∃ v w,vs = [v,w]∧VIs h v x∧VIs h w y:=a.two_ fun v w b c=>⟨v,w,rfl,b,c⟩
theorem Rep.list {g:G} {σ:Sg} {s:Shared} (R : Rep g σ s) {a:Addr} {xs:List V} (e : σ a = some (.list xs)) : ∃ items,s.heap.IsList a items∧VIss s.heap items.toList xs:=(R.objs a _ e).1
theorem post.newList {g:G} {σ:Sg} {s:Shared} (R : Rep g σ s) {vs:List Value} {xs:List V} {n:Nat} {Q:V→Sg→Prop} (hv : VIss s.heap vs xs)
    (h : ∀ r,σ r = none→Q (.ref r) (upd σ r (.list xs))) : post g s σ Q (.ref s.heap.objs.size) { s with heap:=s.heap.push { cls:=.type "list",data:=.seq vs.toArray n } }:=by
  have k : ∀ a o,s.heap.get? a = some o→(s.heap.push { cls:=.type "list",data:=.seq vs.toArray n }).get? a = some o:=fun a o e=>Heap.get?_push_of_some _ e
  exact ⟨_,_, .ref _,R.track (t:=s.toks) (o:=.list xs) k (size_none _) ⟨⟨vs.toArray,⟨_,Heap.get?_push_size _ rfl,rfl,n,rfl⟩,by exact hv.keeps fun a o e _=>k a o e⟩,fun o e=>by rw [Heap.get?_push_size _ rfl] at e; cases e; rfl⟩,Step.track (t:=s.toks) k (size_none _),h _ (fresh_none R (size_none _))⟩
theorem post.newTup {g:G} {σ:Sg} {s:Shared} (R : Rep g σ s) {vs:List Value} {xs:List V} {n:Nat} {Q:V→Sg→Prop} (hv : VIss s.heap vs xs)
    (h : Q (.tup xs) σ) : post g s σ Q (.ref s.heap.objs.size) { s with heap:=s.heap.push { cls:=.type "tuple",data:=.seq vs.toArray n } }:=by
  have k : ∀ a o,s.heap.get? a = some o→(s.heap.push { cls:=.type "tuple",data:=.seq vs.toArray n }).get? a = some o:=fun a o e=>Heap.get?_push_of_some _ e
  refine ⟨_,_, .tup (Heap.get?_push_size _ rfl) rfl rfl ?_,R.grow (t:=s.toks) k,Step.grow (t:=s.toks) k,h⟩
  simpa using hv.keeps fun a o e _=>k a o e
inductive BinW (Q:V→Sg→Prop) (σ:Sg) : Operator→V→V→Prop
  | b_addi {i j:Int} (q : Q (.int (i + j)) σ) : BinW Q σ .Add (.int i) (.int j)
  | b_adds {s t:List Nat} (h : s.length + t.length ≤ big) (q : Q (.str (s ++ t)) σ) : BinW Q σ .Add (.str s) (.str t)
  | b_addl {a b:Addr} {xs ys:List V} (h1 : σ a = some (.list xs)) (h2 : σ b = some (.list ys)) (h : xs.length + ys.length ≤ big) (q : ∀ r,σ r = none→Q (.ref r) (upd σ r (.list (xs ++ ys)))) : BinW Q σ .Add (.ref a) (.ref b)
  | b_subi {i j:Int} (q : Q (.int (i - j)) σ) : BinW Q σ .Sub (.int i) (.int j)
  | b_muli {i j:Int} (h : i.natAbs < 2 ^ 64) (q : Q (.int (i * j)) σ) : BinW Q σ .Mult (.int i) (.int j)
  | b_muls {s:List Nat} {j:Int} (h : 0 ≤ j∧j < 1000∧s.length < 1000) (q : Q (.str (List.replicate j.toNat s).flatten) σ) : BinW Q σ .Mult (.str s) (.int j)
  | b_div {i j:Int} (h : 0 < j∧j < 1000∧0 ≤ i∧i < 2 ^ 30) (q : Q (.int (i / j)) σ) : BinW Q σ .FloorDiv (.int i) (.int j)
  | b_mod {i j:Int} (h : 0 < j) (q : Q (.int (i % j)) σ) : BinW Q σ .Mod (.int i) (.int j)
  | b_pow {i j:Int} (h : 0 ≤ j∧j ≤ 1000000∧i.natAbs < 2 ^ 64) (q : Q (.int (i ^ j.toNat)) σ) : BinW Q σ .Pow (.int i) (.int j)
noncomputable abbrev binW (op : Operator) (a b:V) (Q:V→Sg→Prop) (σ:Sg):Prop:=BinW Q σ op a b
theorem str_app (s t:List Nat) : mkS s ++ mkS t = mkS (s ++ t):=by
  apply Str.ext'
  simp [mkS,Str.cps_append]
section
variable {g:G} {d:Nat} {A:Around} {σ:Sg} {s:Shared} {Q:V→Sg→Prop} {a b:Value} {x y:V}
theorem muls_ok {S:List Nat} {j:Int} {t u : Tok} (h : 0 ≤ j∧j < 1000∧S.length < 1000) {P:Value→Shared→Prop} (W : ∀ t' k,P (.str (mkS (List.replicate j.toNat S).flatten) t') { s with toks:=k }) :
    wpAny (M g) A (binaryOp .Mult (.str (mkS S) t) (.int j u)) P nope s:=by
  obtain ⟨h0,h1,h2⟩:=h
  have hl : (mkS S).length = S.length:=by simp [mkS,Str.length]
  refine SB.mul ⟨by simp; lia,fun a b=>?_,fun a b=>?_⟩ fun t' k=>?_
  · rw [hl]
    have : (1000:Int) ≤ (2 ^ 63 - 1) / j:=by
      rw [Int.le_ediv_iff_mul_le (by exact Int.not_lt.mp ‹_›)]; lia
    lia
  · rw [hl]
    have : S.length * j.toNat ≤ 1000 * 1000:=Nat.mul_le_mul (Nat.le_of_lt h2) (by lia)
    simp [Builtin.Str.tooLong,line_is]; exact le_lit2 ‹_› (by rfl)
  · have e : Txt.mul (mkS S) j = mkS (List.replicate j.toNat S).flatten:=by
      unfold Txt.mul
      split
      · have : j.toNat = 0:=by lia
        rw [this]; rfl
      · split
        · rename_i q
          simp only [Bool.or_eq_true,beq_iff_eq] at q
          rcases q with q | q
          · subst q; simp
          · rw [hl] at q
            have : S = []:=List.length_eq_zero_iff.mp q
            subst this
            simp [mkS]
        · have key : ∀ (n:Nat) (acc : Array Nat),(List.replicate n (mkS S).cps).foldl (· ++ ·) acc = acc ++ (List.replicate n S).flatten.toArray:=by
            intro n
            induction n with
            | zero=>intro acc; simp
            | succ n ih=>intro acc; rw [List.replicate_succ,List.foldl_cons,ih,List.replicate_succ,List.flatten_cons]; simp [mkS]
          rw [key]; simp [mkS]
    rw [e]; exact W t' k
theorem binW_sound {op : Operator} (W : binW op x y Q σ) (_ : AOk d A) (R : Rep g σ s) (ha : VIs s.heap a x) (hb : VIs s.heap b y) :
    wpAny (M g) A (binaryOp op a b) (post g s σ Q) nope s:=by
  induction W with
  | b_addi W=>
    refine ha.int_ fun t=>?_; refine hb.int_ fun u=>?_
    exact add_int (post.tok R (.int ..) W)
  | b_adds h W=>
    refine ha.str_ fun t=>?_; refine hb.str_ fun u=>?_
    refine add_str (fun t' tk=>post.tok R ?_ W) ?_
    · rw [str_app]; exact .mk_str
    · rw [line_is]; simpa [mkS,Str.length] using h
  | @b_addl _ _ xs ys e1 e2 h W=>
    refine ha.ref_ ?_; refine hb.ref_ ?_
    obtain ⟨l1,⟨⟨c1,_,t1,sl1⟩,p1,q1,n1,rfl⟩,v1⟩:=R.list e1
    obtain ⟨l2,⟨⟨c2,_,t2,sl2⟩,p2,q2,n2,rfl⟩,v2⟩:=R.list e2
    dsimp only at q1 q2
    subst q1 q2
    refine concat_meets ⟨_,p1,rfl⟩ ⟨_,p2,rfl⟩ noFill_list_add seq_list_add PySem.F.slot_list_add PySem.F.entry_list_add (PySem.F.args_list_add_2 _ _) (list_addW _ _ l1 l2 n1 n2 _ _ _ _ (by rw [← Array.length_toList, ← Array.length_toList,v1.length,v2.length,line_is]; exact h)) ⟨p1,p2,?_⟩
    have e : l1 ++ l2 = (l1.toList ++ l2.toList).toArray:=by simp
    rw [e]
    exact post.newList R (v1.append v2) W
  | b_subi W=>
    refine ha.int_ fun t=>?_; refine hb.int_ fun u=>?_
    exact sub_int (post.tok R (.int ..) W)
  | b_muli h W=>
    refine ha.int_ fun t=>?_; refine hb.int_ fun u=>?_
    exact mul_int (post.tok R (.int ..) W) (.of_left (intBits_le h))
  | @b_muls S j h W=>
    refine ha.str_ fun t=>?_; refine hb.int_ fun u=>?_
    exact muls_ok h fun t' _=>post.tok R .mk_str W
  | b_div h W=>
    refine ha.int_ fun t=>?_; refine hb.int_ fun u=>?_
    refine floordiv_int (by omega) ?_ (.inl (PyProof.noPylong_small (Nat.le_of_lt_succ (Int.ofNat_lt.mp (by omega)))))
    rw [Int.fdiv_eq_ediv_of_nonneg _ (Int.le_of_lt h.1)]
    exact post.tok R (.int ..) W
  | b_mod h W=>
    refine ha.int_ fun t=>?_; refine hb.int_ fun u=>?_
    refine mod_int' (Int.ne_of_gt h) ?_
    rw [Int.fmod_eq_emod_of_nonneg _ (Int.le_of_lt h)]
    exact post.tok R (.int ..) W
  | b_pow h W=>
    refine ha.int_ fun t=>?_; refine hb.int_ fun u=>?_
    exact pow_int_small h.1 h.2.1 h.2.2 (post.tok R (.int ..) W)
end
noncomputable def clsOk (K:Frag) (C:Addr):Bool:=
  findIn K (.ref C) "__getattribute__" == some (some (.builtin "object.__getattribute__")) && findIn K (.ref C) "__getattr__" == some none && hasDictIn K C && plainOver K C &&
  findIn K (.ref C) "__setattr__" == some (some (.builtin "object.__setattr__"))
theorem clsOk_is {K:Frag} {C:Addr} (h : clsOk K C = true) : findIn K (.ref C) "__getattribute__" = some (some (.builtin "object.__getattribute__"))∧hasDictIn K C = true∧plainOver K C = true∧findIn K (.ref C) "__setattr__" = some (some (.builtin "object.__setattr__")):=by
  unfold clsOk at h
  simp only [Bool.and_eq_true,beq_iff_eq] at h
  exact ⟨h.1.1.1.1,h.1.1.2,h.1.2,h.2⟩
noncomputable def fieldOk (K:Frag) (C:Addr) (n:Str):Bool:=findIn K (.ref C) n == some none
noncomputable def methOk (K:Frag) (C:Addr) (n:Str) (f:Addr):Bool:=findIn K (.ref C) n == some (some (.ref f)) && isFn K (.ref f) && keepIn K (.ref f)
noncomputable def builtinTags:List Value:=[.type "NoneType", .type "bool", .type "int", .type "str"]
noncomputable def builtinCls:List Value:=[.type "bool", .type "int", .type "str"]
noncomputable def isiOk (K:Frag) (cls:List Addr) (subs:List (Addr × Addr)):Bool:=
  (builtinTags.all fun t=>builtinCls.all fun c=>kitOne K t c == some (t == c || (t == .type "bool" && c == .type "int"))) &&
  (builtinTags.all fun t=>cls.all fun D=>kitOne K t (.ref D) == some false) &&
  (cls.all fun C=>builtinCls.all fun c=>kitOne K (.ref C) c == some false) &&
  (cls.all fun C=>cls.all fun D=>kitOne K (.ref C) (.ref D) == some (C == D || subs.contains (C,D)))
noncomputable def clsOk2 (K:Frag) (D:Addr):Bool:=plainGet K D "__class__" && hasDictIn K D && findIn K (.ref D) "__class__" == some (some (.builtin "object.__class__")) &&
  specialIn K (.builtin "object.__class__") "__get__" == some (some (.builtin "getset_descriptor.__get__")) && takesIn K (.builtin "object.__class__") == some true && mroIn K D (.type "object") == some true
structure GOk (g:G):Prop where
  top : ∃ p loose mg mb,TopRead p loose mg mb g.h₀
  isi : isiOk g.K clsL subsL = true
  cls2 : ∀ C ∈ clsL,clsOk2 g.K C = true
  kin : g.K.In g.h₀
  cls : ∀ C ∈ clsL,clsOk g.K C = true
  fld : ∀ C ∈ clsL, ∀ i,i < nmTab.length→methTab C i = none→fieldOk g.K C (nm i) = true
  mth : ∀ C ∈ clsL, ∀ i f,methTab C i = some f→methOk g.K C (nm i) f = true
  sysm : ∃ o,g.h₀.get? sysModules = some o
  nolimit : g.h₀.NoLimit
  base : ∀ a o,g.base a = some o→ObjIs g g.h₀ a o∧(a == sysModules) = false
noncomputable def getO (_:G) (σ:Sg) (a:Addr):Option AObj:=σ a
theorem Rep.getO {g:G} (H : GOk g) {σ:Sg} {s:Shared} (R : Rep g σ s) {a:Addr} {o:AObj} (h : getO g σ a = some o) : ObjIs g s.heap a o∧(a == sysModules) = false:=by
  have q : σ a = some o:=h
  refine ⟨R.objs _ _ q,?_⟩
  obtain ⟨os,es⟩:=H.sysm
  have:=R.new _ _ q
  rw [beq_eq_false_iff_ne]
  rintro rfl
  rw [es] at this; cases this
theorem Rep.base {g:G} (H : GOk g) {σ:Sg} {s:Shared} (R : Rep g σ s) {a:Addr} {o:AObj} (h : g.base a = some o) : ObjIs g s.heap a o∧(a == sysModules) = false:=by
  obtain ⟨x,y⟩:=H.base _ _ h
  obtain ⟨ob,e,_⟩:=x.live
  exact ⟨x.keeps (fun b o q _=>R.keep _ _ q) (by rw [e]; exact R.keep _ _ e),y⟩
inductive DatIs (σ:Sg):V→PyData→Prop
  | none : DatIs σ .none .none
  | bool (b:Bool) : DatIs σ (.bool b) (.bool b)
  | int (i:Int) : DatIs σ (.int i) (.int i)
  | str (l:List Nat) : DatIs σ (.str l) (.str (mkS l))
  | tnil : DatIs σ (.tup []) (.tuple [])
  | tcons {x:V} {xs:List V} {d : PyData} {ds:List PyData} : DatIs σ x d→DatIs σ (.tup xs) (.tuple ds)→DatIs σ (.tup (x :: xs)) (.tuple (d :: ds))
  | list {a:Addr} {xs:List V} {ds:List PyData} : σ a = some (.list xs)→DatIs σ (.tup xs) (.tuple ds)→DatIs σ (.ref a) (.list ds)
theorem DatIs.mono {σ σ' : Sg} (h : ∀ a o,σ a = some o→σ' a = some o) {x:V} {d : PyData} (D : DatIs σ x d) : DatIs σ' x d:=by
  induction D with
  | none=>exact .none
  | bool b=>exact .bool b
  | int i=>exact .int i
  | str l=>exact .str l
  | tnil=>exact .tnil
  | tcons _ _ a b=>exact .tcons a b
  | list e _ a=>exact .list (h _ _ e) a
theorem DatIs.reads {g:G} {σ:Sg} {s:Shared} (R : Rep g σ s) {x:V} {d : PyData} (D : DatIs σ x d) :
    (∀ v,VIs s.heap v x→∃ as,Reads s.heap v d as)∧(∀ xs ds vs,x = .tup xs→d = .tuple ds→VIss s.heap vs xs→∃ as,ReadsAll s.heap vs ds as):=by
  induction D with
  | none=>exact ⟨fun v h=>⟨_,by cases h.inv_none; exact .none⟩,fun _ _ _ e=>(nomatch e)⟩
  | bool b=>exact ⟨fun v h=>⟨_,by cases h.inv_bool; exact .bool b⟩,fun _ _ _ e=>(nomatch e)⟩
  | int i=>exact ⟨fun v h=>⟨_,by obtain ⟨t,rfl⟩:=h.inv_int; exact .int i t⟩,fun _ _ _ e=>(nomatch e)⟩
  | str l=>exact ⟨fun v h=>⟨_,by obtain ⟨t,rfl⟩:=h.inv_str; exact .str _ t⟩,fun _ _ _ e=>(nomatch e)⟩
  | tnil=>
    have key : ∀ xs ds vs,V.tup [] = .tup xs→PyData.tuple [] = .tuple ds→VIss s.heap vs xs→∃ as,ReadsAll s.heap vs ds as:=by
      intro xs ds vs e1 e2 h; cases e1; cases e2; cases h; exact ⟨_, .nil⟩
    refine ⟨fun v h=>?_,key⟩
    obtain ⟨a,o,items,n,rfl,e,c,dd,l⟩:=h.inv_tup
    obtain ⟨as,r⟩:=key _ _ _ rfl rfl l
    exact ⟨_, .tuple e c dd r⟩
  | @tcons x xs d ds _ _ ih1 ih2=>
    have key : ∀ xs' ds' vs,V.tup (x :: xs) = .tup xs'→PyData.tuple (d :: ds) = .tuple ds'→VIss s.heap vs xs'→∃ as,ReadsAll s.heap vs ds' as:=by
      intro xs' ds' vs e1 e2 h
      cases e1; cases e2
      cases h with
      | cons a b=>
        obtain ⟨as,r⟩:=ih1.1 _ a
        obtain ⟨bs,q⟩:=ih2.2 _ _ _ rfl rfl b
        exact ⟨_, .cons r q⟩
    refine ⟨fun v h=>?_,key⟩
    obtain ⟨a,o,items,n,rfl,e,c,dd,l⟩:=h.inv_tup
    obtain ⟨as,r⟩:=key _ _ _ rfl rfl l
    exact ⟨_, .tuple e c dd r⟩
  | @list a xs ds e _ ih=>
    refine ⟨fun v h=>?_,fun _ _ _ e=>(nomatch e)⟩
    cases h.inv_ref
    obtain ⟨items,⟨o,p,c,n,dd⟩,l⟩:=R.list e
    obtain ⟨as,r⟩:=ih.2 _ _ _ rfl rfl l
    exact ⟨_, .list p c dd r⟩
noncomputable def strsOf:List V→Option (List (List Nat))
  | []=>some []
  | .str s :: r=>(strsOf r).map (s :: ·)
  | _=>none
noncomputable def isNone:V→Bool
  | .none=>true
  | _=>false
noncomputable def known:V→Bool
  | .bi _=>false
  | _=>true
inductive CmpW (g:G) (Q:V→Sg→Prop) (σ:Sg) : CmpOp→V→V→Prop
  | c_is {v:V} (h : known v = true) (q : Q (.bool (isNone v)) σ) : CmpW g Q σ .Is v .none
  | c_isn {v:V} (h : known v = true) (q : Q (.bool (!isNone v)) σ) : CmpW g Q σ .IsNot v .none
  | c_eqi {i j:Int} (q : Q (.bool (decide (i = j))) σ) : CmpW g Q σ .Eq (.int i) (.int j)
  | c_eqs {i j:List Nat} (q : Q (.bool (decide (i = j))) σ) : CmpW g Q σ .Eq (.str i) (.str j)
  | c_eqb {i j:Bool} (q : Q (.bool (decide (i = j))) σ) : CmpW g Q σ .Eq (.bool i) (.bool j)
  | c_eqd {a b:V} {da db : PyData} (h1 : DatIs σ a da) (h2 : DatIs σ b db) (h3 : PySem.SeqAt.shaped da = true) (h4 : PySem.SeqAt.shaped db = true) (q : Q (.bool (PyData.eqv da db)) σ) : CmpW g Q σ .Eq a b
  | c_nei {i j:Int} (q : Q (.bool (decide (i ≠ j))) σ) : CmpW g Q σ .NotEq (.int i) (.int j)
  | c_nes {i j:List Nat} (q : Q (.bool (decide (i ≠ j))) σ) : CmpW g Q σ .NotEq (.str i) (.str j)
  | c_neb {i j:Bool} (q : Q (.bool (decide (i ≠ j))) σ) : CmpW g Q σ .NotEq (.bool i) (.bool j)
  | c_ned {a b:V} {da db : PyData} (h1 : DatIs σ a da) (h2 : DatIs σ b db) (h3 : PySem.SeqAt.shaped da = true) (h4 : PySem.SeqAt.shaped db = true) (q : Q (.bool (!PyData.eqv da db)) σ) : CmpW g Q σ .NotEq a b
  | c_lt {i j:Int} (q : Q (.bool (decide (i < j))) σ) : CmpW g Q σ .Lt (.int i) (.int j)
  | c_le {i j:Int} (q : Q (.bool (decide (i ≤ j))) σ) : CmpW g Q σ .LtE (.int i) (.int j)
  | c_gt {i j:Int} (q : Q (.bool (decide (j < i))) σ) : CmpW g Q σ .Gt (.int i) (.int j)
  | c_ge {i j:Int} (q : Q (.bool (decide (j ≤ i))) σ) : CmpW g Q σ .GtE (.int i) (.int j)
  | c_inc {c:Nat} {t:List Nat} (q : Q (.bool (decide (c ∈ t))) σ) : CmpW g Q σ .In (.str [c]) (.str t)
  | c_in {s:List Nat} {ys:List V} {l:List (List Nat)} (h : strsOf ys = some l) (q : Q (.bool (decide (s ∈ l))) σ) : CmpW g Q σ .In (.str s) (.tup ys)
  | c_inl {s:List Nat} {a:Addr} {ys:List V} {l:List (List Nat)} (h0 : σ a = some (.list ys)) (h : strsOf ys = some l) (q : Q (.bool (decide (s ∈ l))) σ) : CmpW g Q σ .In (.str s) (.ref a)
  | c_ind {s:List Nat} {a:Addr} {kvs:List (List Nat × V)} (h0 : σ a = some (.sdict kvs)) (q : Q (.bool (decide (s ∈ kvs.map (·.1)))) σ) : CmpW g Q σ .In (.str s) (.ref a)
  | c_inb {s:List Nat} {a:Addr} {kvs:List (List Nat × V)} (h0 : g.base a = some (.sdict kvs)) (q : Q (.bool (decide (s ∈ kvs.map (·.1)))) σ) : CmpW g Q σ .In (.str s) (.base a)
  | c_nin {s:List Nat} {ys:List V} {l:List (List Nat)} (h : strsOf ys = some l) (q : Q (.bool (decide (s ∉ l))) σ) : CmpW g Q σ .NotIn (.str s) (.tup ys)
  | c_ninr {xs:List V} {a:Addr} {dx : PyData} {dy:List PyData} (h1 : DatIs σ (.tup xs) dx) (h2 : DatIs σ (.ref a) (.list dy)) (h3 : PySem.SeqAt.shaped dx = true) (h4 : PySem.SeqAt.shaped (.list dy) = true) (q : Q (.bool (!dy.any fun y=>PyData.eqv y dx)) σ) : CmpW g Q σ .NotIn (.tup xs) (.ref a)
noncomputable abbrev cmpW (g:G) (op : CmpOp) (a b:V) (Q:V→Sg→Prop) (σ:Sg):Prop:=CmpW g Q σ op a b
inductive StrsL (h:Heap):List (List Nat)→List Value→Prop
  | nil : StrsL h [] []
  | cons (s:List Nat) (t : Tok) {l:List (List Nat)} {vs:List Value} (r : StrsL h l vs) : StrsL h (s :: l) (.str (mkS s) t :: vs)
theorem strs_l {h:Heap} {ys:List V} : ∀ {l:List (List Nat)} {vs:List Value},strsOf ys = some l→VIss h vs ys→StrsL h l vs:=by
  induction ys with
  | nil=>intro l vs e x; cases e; rw [x.inv]; exact .nil
  | cons y r ih=>
    intro l vs e x
    obtain ⟨v,ws,rfl,a,b⟩:=x.inv
    cases y with
    | str s=>
      obtain ⟨m,e1,rfl⟩:=Option.map_eq_some_iff.mp (show (strsOf r).map (s :: ·) = some l from e)
      exact a.str_ fun t=>.cons s t (ih e1 b)
    | _=>exact nomatch e
theorem strs_are {h:Heap} {ys:List V} {l:List (List Nat)} {vs:List Value} (e : strsOf ys = some l) (x : VIss h vs ys) : StrsAre vs (l.map mkS):=by
  have S:=strs_l e x
  clear e x
  induction S with
  | nil=>exact .nil
  | cons s t r ih=>exact .cons _ _ ih
theorem any_mkS (l:List (List Nat)) (s:List Nat) : (l.map mkS).any (· == mkS s) = decide (s ∈ l):=by
  rw [Bool.eq_iff_iff,List.any_eq_true,decide_eq_true_eq]
  constructor
  · rintro ⟨x,hx,e⟩
    obtain ⟨y,hy,rfl⟩:=List.mem_map.mp hx
    rw [beq_iff_eq] at e
    rw [← mkS_inj e]; exact hy
  · intro h
    exact ⟨mkS s,List.mem_map_of_mem h,by simp⟩
theorem SPairs.keys {h:Heap} {ps kvs} (r : SPairs h ps kvs) : ps.map (·.1) = (kvs.map (·.1)).map mkS:=by
  induction r with
  | nil=>rfl
  | @cons s _ _ _ _ a r ih=>show s :: _ = mkS s.cps.toList :: _; rw [mkS_of]; exact congrArg (s :: ·) ih
inductive At1 (h:Heap) (ps:List (Str × Value)) (kvs:List (List Nat × V)) (k:List Nat):Prop
  | no (e : (kvs.find? fun p=>p.1 = k) = none) (n : k ∉ kvs.map (·.1)) (e1 : valueAt ps (mkS k) = none)
  | yes (p:List Nat × V) (e : (kvs.find? fun p=>p.1 = k) = some p) (n : k ∈ kvs.map (·.1)) (v:Value) (e1 : valueAt ps (mkS k) = some v) (a : VIs h v p.2)
theorem SPairs.at {h:Heap} (k:List Nat) {ps kvs} (r : SPairs h ps kvs) : At1 h ps kvs k:=by
  induction r with
  | nil=>exact .no rfl List.not_mem_nil rfl
  | @cons s v x ps kvs a r ih=>
    by_cases q : s.cps.toList = k
    · have e : s = mkS k:=by rw [← q,mkS_of]
      exact .yes _ (List.find?_cons_of_pos (by exact decide_eq_true q)) (q ▸ .head _) v ((congrArg (Option.map _) (List.find?_cons_of_pos (by exact decide_eq_true e))).trans rfl) a
    · have e : ¬ s = mkS k:=fun e=>q (by rw [e,mkS_toList])
      have e2 : valueAt ((s,v) :: ps) (mkS k) = valueAt ps (mkS k):=congrArg (Option.map _) (List.find?_cons_of_neg (by exact fun z=>e (of_decide_eq_true z)))
      have e3 : (((s.cps.toList,x) :: kvs).find? fun p=>p.1 = k) = (kvs.find? fun p=>p.1 = k):=List.find?_cons_of_neg (by exact fun z=>q (of_decide_eq_true z))
      cases ih with
      | no e0 n e1=>exact .no (e3.trans e0) (fun z=>by cases z with | head=>exact q rfl | tail _ z=>exact n z) (e2.trans e1)
      | yes p e0 n v e1 b=>exact .yes p (e3.trans e0) (.tail _ n) v (e2.trans e1) b
theorem SPairs.found {h:Heap} {k:List Nat} {ps kvs} (x : SPairs h ps kvs) {p:List Nat × V} (e : (kvs.find? fun p=>p.1 = k) = some p) : ∃ v,valueAt ps (mkS k) = some v∧VIs h v p.2:=by
  cases x.at k with
  | no e0=>rw [e0] at e; cases e
  | yes p e0 n v e1 a=>rw [e0] at e; cases e; exact ⟨v,e1,a⟩
theorem SPairs.at_none {h:Heap} {k:List Nat} {ps kvs} (x : SPairs h ps kvs) (e : (kvs.find? fun p=>p.1 = k) = none) : valueAt ps (mkS k) = none:=by
  cases x.at k with
  | no e0 n e1=>exact e1
  | yes p e0=>rw [e0] at e; cases e
theorem valueAt_some {h:Heap} (k:List Nat) {ps kvs} (x : SPairs h ps kvs) : (valueAt ps (mkS k)).isSome = decide (k ∈ kvs.map (·.1)):=by
  cases x.at k with
  | no _ n e1=>rw [e1,decide_eq_false n]; rfl
  | yes p _ n v e1=>rw [e1,decide_eq_true n]; rfl
section
variable {g:G} (H : GOk g) {d:Nat} {A:Around} {σ:Sg} {s:Shared} {Q:V→Sg→Prop} {a b:Value} {x y:V}
theorem isNone_eq {h:Heap} {a:Value} {x:V} (v : VIs h a x) (k : known x = true) : PySem.plainIs a .none = true∧(a == Value.none) = isNone x:=
  v.casesOn (motive_1:=fun a x _=>known x = true→PySem.plainIs a .none = true∧(a == Value.none) = isNone x) (fun _=>⟨rfl,rfl⟩) (fun _ _=>⟨rfl,rfl⟩) (fun _ _ _=>⟨rfl,rfl⟩) (fun _ _ _=>⟨rfl,rfl⟩) (fun _ _=>⟨rfl,rfl⟩) (fun _ k=>nomatch k) (fun _ _=>⟨rfl,rfl⟩) (fun _ _=>⟨rfl,rfl⟩) (fun _ _ _ _ _=>⟨rfl,rfl⟩) (fun _ _=>⟨rfl,rfl⟩) (fun _ _ _ _=>⟨rfl,rfl⟩) k
theorem beq_dec (i j:Bool) : (i == j) = decide (i = j):=by cases i <;> cases j <;> rfl
theorem bne_dec {α : Type} [DecidableEq α] (i j : α) : (i != j) = decide (i ≠ j):=by by_cases q : i = j <;> simp [q]
include H
theorem cmpW_sound {op : CmpOp} (W : cmpW g op x y Q σ) (O : AOk d A) (R : Rep g σ s) (ha : VIs s.heap a x) (hb : VIs s.heap b y) :
    wpAny (M g) A (compareOp op a b) (post g s σ Q) nope s:=by
  have room : A.units + 64 < cLine:=by have:=O.units; lia
  induction W with
  | @c_eqi i j W=>
    refine ha.int_ fun t=>?_; refine hb.int_ fun u=>?_
    exact eq_int (post.here R (.bool _) W)
  | c_eqs W=>
    refine ha.str_ fun t=>?_; refine hb.str_ fun u=>?_
    exact eq_str (post.here R (by rw [mkS_beq]; exact .bool _) W)
  | @c_eqb i j W=>
    refine ha.bool_ ?_; refine hb.bool_ ?_
    exact eq_bool (post.here R (by rw [beq_dec]; exact .bool _) W)
  | c_eqd D1 D2 s1 s2 q=>
    obtain ⟨as,r1⟩:=(D1.reads R).1 _ ha
    obtain ⟨bs,r2⟩:=(D2.reads R).1 _ hb
    exact eq_dataH r1 r2 s1 s2 room (post.here R (.bool _) q)
  | c_nei W=>
    refine ha.int_ fun t=>?_; refine hb.int_ fun u=>?_
    exact ne_int (post.here R (by rw [bne_dec]; exact .bool _) W)
  | c_nes W=>
    refine ha.str_ fun t=>?_; refine hb.str_ fun u=>?_
    exact ne_str (post.here R (by rw [bne,mkS_beq, ← decide_not]; exact .bool _) W)
  | c_neb W=>
    refine ha.bool_ ?_; refine hb.bool_ ?_
    exact ne_bool (post.here R (by rw [bne_dec]; exact .bool _) W)
  | c_ned D1 D2 s1 s2 q=>
    obtain ⟨as,r1⟩:=(D1.reads R).1 _ ha
    obtain ⟨bs,r2⟩:=(D2.reads R).1 _ hb
    exact ne_dataH r1 r2 s1 s2 room (post.here R (.bool _) q)
  | c_lt W=>
    refine ha.int_ fun t=>?_; refine hb.int_ fun u=>?_
    exact lt_int (post.here R (.bool _) W)
  | c_le W=>
    refine ha.int_ fun t=>?_; refine hb.int_ fun u=>?_
    exact le_int (post.here R (.bool _) W)
  | c_gt W=>
    refine ha.int_ fun t=>?_; refine hb.int_ fun u=>?_
    exact gt_int (post.here R (.bool _) W)
  | c_ge W=>
    refine ha.int_ fun t=>?_; refine hb.int_ fun u=>?_
    exact ge_int (post.here R (.bool _) W)
  | c_is h W=>
    refine hb.none_ ?_
    obtain ⟨p,e⟩:=isNone_eq ha h
    exact wpAny_is_plain p (post.here R (by rw [e]; exact .bool _) W)
  | c_isn h W=>
    refine hb.none_ ?_
    obtain ⟨p,e⟩:=isNone_eq ha h
    exact wpAny_isNot_plain p (post.here R (by rw [e]; exact .bool _) W)
  | @c_inc c l W=>
    refine ha.str_ fun t=>?_; refine hb.str_ fun u=>?_
    refine SB.contains (post.here R ?_ W)
    have:=PySem.StrLaws.found_one (mkS l) c
    rw [mkS_toList] at this
    rw [show Txt.contains (mkS l) (mkS [c]) = decide (c ∈ l) from this]; exact .bool _
  | c_in e W=>
    refine ha.str_ fun t=>?_
    obtain ⟨a',o,items,n,rfl,e1,c,dd,vl⟩:=hb.inv_tup
    exact in_tuple_strs ⟨o,e1,c,n,dd⟩ (strs_are e vl) (post.here R (by rw [any_mkS]; exact .bool _) W)
  | c_inl eg e W=>
    refine ha.str_ fun t=>?_
    refine hb.ref_ ?_
    obtain ⟨⟨⟨items,p,vl⟩,_⟩,_⟩:=R.getO H eg
    exact in_list_strs (vs:=items.toList) (by assumption) (strs_are e vl) (post.here R (by rw [any_mkS]; exact .bool _) W)
  | c_ind eg W=>
    refine ha.str_ fun t=>?_
    refine hb.ref_ ?_
    obtain ⟨⟨ps,dk,sp⟩,ns⟩:=R.getO H eg
    exact wpAny_in_of (strKind_is g.prog g.w _ t) ns dk.mapOf (post.tok R (by rw [valueAt_some _ sp]; exact .bool _) W)
  | c_inb eg W=>
    refine ha.str_ fun t=>?_
    refine hb.base_ ?_
    obtain ⟨⟨ps,dk,sp⟩,ns⟩:=R.base H eg
    exact wpAny_in_of (strKind_is g.prog g.w _ t) ns dk.mapOf (post.tok R (by rw [valueAt_some _ sp]; exact .bool _) W)
  | c_nin e W=>
    refine ha.str_ fun t=>?_
    obtain ⟨a',o,items,n,rfl,e1,c,dd,vl⟩:=hb.inv_tup
    exact notin_tuple_strs ⟨o,e1,c,n,dd⟩ (strs_are e vl) (post.here R (by rw [any_mkS, ← decide_not]; exact .bool _) W)
  | @c_ninr _ _ dx dy D1 D2 s1 s2 q=>
    obtain ⟨as,r1⟩:=(D1.reads R).1 _ ha
    obtain ⟨bs,r2⟩:=(D2.reads R).1 _ hb
    have d2:=PySem.SeqAt.depth_of_shaped s2
    have c2:=PySem.SeqAt.canLay_of_shaped s2
    have d2 : PyData.depthAll dy + 1 ≤ _:=d2
    exact PySem.SeqAt.notIn_list_reads r2 r1 c2 (PySem.SeqAt.canLay_of_shaped s1) (by have:=Nat.min_le_right (PyData.depthAll dy) dx.depth; have:=Nat.min_le_left (PyData.depthAll dy) dx.depth; lia) (post.here R (.bool _) q)
end
noncomputable def truthW (x:V) (Q:Bool→Sg→Prop) (σ:Sg):Prop:=match x with
  | .bool b=>Q b σ
  | _=>False
noncomputable def clip (k:Int) (n:Nat):Nat:=if k < 0 then (k + n).toNat else min k.toNat n
noncomputable def sliceL {α : Type} (lo hi:Option Int) (l:List α):List α:=
  let a:=match lo with | some k=>clip k l.length | none=>0
  let b:=match hi with | some k=>clip k l.length | none=>l.length
  (l.drop a).take (b - a)
theorem pick_list {α : Type} (l:List α) (a b:Nat) (ha : a ≤ l.length) (hb : b ≤ l.length) :
    (sliceRange (a:Int) (b:Int) 1).filterMap (l[·]?) = (l.drop a).take (b - a):=by
  unfold sliceRange
  simp only [Int.lt_irrefl,show (1:Int) > 0 from by decide,if_true]
  have e : (if (a:Int) < b then ((b:Int) - a + 1 - 1) / 1 else 0).toNat = b - a:=by
    split
    · rw [Int.ediv_one]; simp
    · lia
  rw [e,List.filterMap_map]
  generalize hn : b - a = n
  have hn' : a + n ≤ l.length∨n = 0:=by lia
  clear e hn hb
  induction n generalizing a with
  | zero=>simp
  | succ n ih=>
    have h1 : a < l.length:=hn'.elim (fun h=>Nat.lt_of_lt_of_le (Nat.lt_add_of_pos_right (Nat.succ_pos n)) h) fun h=>nomatch h
    rw [List.range_succ_eq_map,List.filterMap_cons,List.filterMap_map]
    have : ((fun x=>l[x]?) ∘ fun (k:Nat)=>((a:Int) + 1 * (k:Int)).toNat) 0 = some l[a]:=by simp [h1]
    rw [this]
    have e2 : (((fun x=>l[x]?) ∘ fun (k:Nat)=>((a:Int) + 1 * (k:Int)).toNat) ∘ Nat.succ) = ((fun x=>l[x]?) ∘ fun (k:Nat)=>(((a + 1:Nat):Int) + 1 * (k:Int)).toNat):=by
      funext k
      simp only [Function.comp]
      congr 1
      simp +arith [*]
    rw [e2,ih (a + 1) (by assumption) (by lia)]
    rw [List.drop_eq_getElem_cons h1,List.take_succ_cons]
theorem clip_le (k:Int) (n:Nat) : clip k n ≤ n:=by
  unfold clip
  split
  · lia
  · exact Nat.min_le_right _ _
theorem cast_min (a b:Nat) : min (a:Int) b = ((min a b:Nat):Int):=by
  rcases Nat.le_total a b with h | h
  · rw [Nat.min_eq_left h,Int.min_eq_left (Int.ofNat_le.mpr h)]
  · rw [Nat.min_eq_right h,Int.min_eq_right (Int.ofNat_le.mpr h)]
theorem clip_is (k:Int) (n:Nat) : max 0 (min (if k < 0 then k + n else k) (n:Int)) = ((clip k n:Nat):Int):=by
  unfold clip
  by_cases h : k < 0
  · rw [if_pos h,if_pos h,Int.min_eq_left (Int.le_trans (Int.add_le_add_right (Int.le_of_lt h) n) (Int.le_of_eq (Int.zero_add _))),Int.max_comm,Int.ofNat_toNat]
  · have h0:=Int.not_lt.mp h
    rw [if_neg h,if_neg h,Int.max_eq_right (Int.le_min.mpr ⟨h0,Int.natCast_nonneg n⟩), ← cast_min,Int.toNat_of_nonneg h0]
theorem sliceL_length {α : Type} (lo hi:Option Int) (l:List α) : (sliceL lo hi l).length ≤ l.length:=by
  exact Nat.le_trans (List.take_sublist _ _).length_le (List.drop_sublist _ _).length_le
theorem str_slice (x:List Nat) (l u:Option (Int × Tok)) : (slicePicked (mkS x) l u none).filterMap ((mkS x).cps[·]?) = sliceL (l.map (·.1)) (u.map (·.1)) x:=by
  have hl : (mkS x).length = x.length:=by simp [mkS,Str.length]
  have hf : (fun i:Nat=>(mkS x).cps[i]?) = fun i=>x[i]?:=by funext i; simp [mkS]
  rw [hf]
  unfold slicePicked Builtin.Str.strSliceIndices sliceL
  rw [hl]
  simp only [Option.map_none,Option.getD_none,show (1:Int) > 0 from by decide,if_true]
  cases l with
  | none=>
    cases u with
    | none=>simpa using pick_list x 0 x.length (Nat.zero_le _) (Nat.le_refl _)
    | some p=>simp only [Option.map_none,Option.map_some]; rw [clip_is]; simpa using pick_list x 0 (clip p.1 x.length) (Nat.zero_le _) (clip_le _ _)
  | some p=>
    cases u with
    | none=>simp only [Option.map_none,Option.map_some]; rw [clip_is]; exact pick_list x _ _ (clip_le _ _) (Nat.le_refl _)
    | some q=>simp only [Option.map_some]; rw [clip_is,clip_is]; exact pick_list x _ _ (clip_le _ _) (clip_le _ _)
theorem range_len (a b:Nat) : (sliceRange (a:Int) (b:Int) 1).length = b - a:=by
  unfold sliceRange
  simp only [show (1:Int) > 0 from by decide,if_true,List.length_map,List.length_range]
  split
  · rw [Int.ediv_one]; simp
  · lia
theorem slice_whole (S:List Nat) (p q:Option (Int × Tok)) (c : (slicePicked (mkS S) p q none).length = S.length) : S = sliceL (p.map (·.1)) (q.map (·.1)) S:=by
  have hlen : (mkS S).length = S.length:=by simp [mkS,Str.length]
  have key : ∀ a b:Nat,b ≤ S.length→b - a = S.length→S = (S.drop a).take (b - a):=by
    intro a b hb h
    by_cases h0 : a = 0
    · subst h0; simp [h]
    · have : S = []:=List.length_eq_zero_iff.mp (by lia)
      subst this; simp
  unfold slicePicked Builtin.Str.strSliceIndices at c
  rw [hlen] at c
  simp only [Option.map_none,Option.getD_none,show (1:Int) > 0 from by decide,if_true] at c
  unfold sliceL
  cases p with
  | none=>
    cases q with
    | none=>exact key 0 _ (Nat.le_refl _) (Nat.sub_zero _)
    | some q=>
      simp only [Option.map_none,Option.map_some,clip_is] at c ⊢
      exact key 0 _ (clip_le _ _) (by rw [← range_len 0]; exact c)
  | some p=>
    cases q with
    | none=>
      simp only [Option.map_none,Option.map_some,clip_is] at c ⊢
      exact key _ _ (Nat.le_refl _) (by rw [← range_len]; exact c)
    | some q=>
      simp only [Option.map_some,clip_is] at c ⊢
      exact key _ _ (clip_le _ _) (by rw [← range_len]; exact c)
theorem list_slice (its : Array Value) (lo hi:Option Int) : (slicePick its lo hi none).toList = sliceL lo hi its.toList:=by
  unfold slicePick sliceBounds sliceL
  have hf : (fun i:Nat=>its[i]?) = fun i=>its.toList[i]?:=by funext i; simp
  rw [hf]
  simp only [Option.getD_none,show (1:Int) > 0 from by decide,if_true,Array.length_toList]
  cases lo with
  | none=>
    cases hi with
    | none=>simpa using pick_list its.toList 0 its.size (Nat.zero_le _) (by exact Nat.le_refl _)
    | some p=>simp only; rw [clip_is]; simpa using pick_list its.toList 0 (clip p its.size) (Nat.zero_le _) (by exact clip_le _ _)
  | some p=>
    cases hi with
    | none=>simp only; rw [clip_is]; exact pick_list its.toList _ _ (by exact clip_le _ _) (by exact Nat.le_refl _)
    | some q=>simp only; rw [clip_is,clip_is]; exact pick_list its.toList _ _ (by exact clip_le _ _) (by exact clip_le _ _)
theorem VIss.slice {h:Heap} {vs:List Value} {xs:List V} (x : VIss h vs xs) (lo hi:Option Int) : VIss h (sliceL lo hi vs) (sliceL lo hi xs):=by
  have dr : ∀ (n:Nat) {vs:List Value} {xs:List V},VIss h vs xs→VIss h (vs.drop n) (xs.drop n):=by
    intro n
    induction n with
    | zero=>intro vs xs x; exact x
    | succ n ih=>intro vs xs x; cases x with | nil=>simpa using .nil | cons a b=>exact ih b
  have tk : ∀ (n:Nat) {vs:List Value} {xs:List V},VIss h vs xs→VIss h (vs.take n) (xs.take n):=by
    intro n
    induction n with
    | zero=>intro vs xs x; simpa using .nil
    | succ n ih=>intro vs xs x; cases x with | nil=>simpa using .nil | cons a b=>exact .cons a (ih b)
  unfold sliceL
  rw [x.length]
  exact tk _ (dr _ x)
inductive IdxW (g:G) (Q:V→Sg→Prop) (σ:Sg):V→V→Prop
  | ix_s {s:List Nat} {k:Int} {c:Nat} (h : s[k.toNat]? = some c) (hk : 0 ≤ k∧k < 2 ^ 63) (q : Q (.str [c]) σ) : IdxW g Q σ (.str s) (.int k)
  | ix_t {s:List V} {k:Int} {c:V} (h : s[k.toNat]? = some c) (hk : 0 ≤ k∧k < 2 ^ 63) (q : Q c σ) : IdxW g Q σ (.tup s) (.int k)
  | ix_l {a:Addr} {s:List V} {k:Int} {c:V} (h0 : σ a = some (.list s)) (h : s[k.toNat]? = some c) (hk : 0 ≤ k∧k < 2 ^ 63) (q : Q c σ) : IdxW g Q σ (.ref a) (.int k)
  | ix_d {a:Addr} {kvs:List (List Nat × V)} {s:List Nat} {p:List Nat × V} (h0 : σ a = some (.sdict kvs)) (h : (kvs.find? fun p=>p.1 = s) = some p) (q : Q p.2 σ) : IdxW g Q σ (.ref a) (.str s)
  | ix_b {a:Addr} {kvs:List (List Nat × V)} {s:List Nat} {p:List Nat × V} (h0 : g.base a = some (.sdict kvs)) (h : (kvs.find? fun p=>p.1 = s) = some p) (q : Q p.2 σ) : IdxW g Q σ (.base a) (.str s)
noncomputable abbrev idxW (g:G) (o i:V) (Q:V→Sg→Prop) (σ:Sg):Prop:=IdxW g Q σ o i
noncomputable def slEnd:V→Option (Option Int)
  | .none=>some none | .int k=>some (some k) | _=>none
inductive SliceW (g:G) (Q:V→Sg→Prop) (σ:Sg):V→V→V→Prop
  | sl_s {s:List Nat} {lo hi:V} {l u:Option Int} (h1 : slEnd lo = some l) (h2 : slEnd hi = some u) (h : s.length ≤ big) (q : Q (.str (sliceL l u s)) σ) : SliceW g Q σ (.str s) lo hi
  | sl_l {a:Addr} {s:List V} {lo hi:V} {l u:Option Int} (h0 : σ a = some (.list s)) (h1 : slEnd lo = some l) (h2 : slEnd hi = some u) (h : s.length ≤ big) (q : ∀ r,σ r = none→Q (.ref r) (upd σ r (.list (sliceL l u s)))) : SliceW g Q σ (.ref a) lo hi
  | sl_b {a:Addr} {s:List V} {lo hi:V} {l u:Option Int} (h0 : g.base a = some (.list s)) (h1 : slEnd lo = some l) (h2 : slEnd hi = some u) (h : s.length ≤ big) (q : ∀ r,σ r = none→Q (.ref r) (upd σ r (.list (sliceL l u s)))) : SliceW g Q σ (.base a) lo hi
noncomputable abbrev sliceW (g:G) (o lo hi:V) (Q:V→Sg→Prop) (σ:Sg):Prop:=SliceW g Q σ o lo hi
theorem slEnd_is {h:Heap} {v:V} {p:Value} {r:Option Int} (hv : VIs h p v) (e : slEnd v = some r) : ∃ q:Option (Int × Tok),p = partValue q∧q.map (·.1) = r:=by
  cases v with
  | none=>cases e; exact ⟨none,hv.inv,rfl⟩
  | int i=>cases e; exact hv.int_ fun t=>⟨some (i,t),rfl,rfl⟩
  | _=>exact nomatch e
theorem seqIx {k:Int} {n:Nat} (h0 : 0 ≤ k) (h : k.toNat < n) : seqIndex? k n = some k.toNat:=by
  unfold seqIndex?
  have h1 : ¬ k < 0:=by lia
  have h2 : (decide (0 ≤ k) && decide (k < (n:Int))) = true:=by simp; lia
  simp only [if_neg h1,h2,if_true]
inductive SubsOps (slice:Expr) (o i:Value):Prop
  | a (h : subscripted slice false o i = operate [o,i] (getItem o i))
  | b (h : subscripted slice false o i = operate [i,o] (getItem o i))
theorem subs_ops (slice:Expr) (o i:Value) : SubsOps slice o i:=by
  cases slice with
  | Slice a b c p=>
    cases c with
    | none=>exact .b rfl
    | some c=>exact .a rfl
  | _=>exact .a rfl
theorem tail_' {prog : Program} {w:World} {A:Around} {E:Value→Shared→Prop} {s:Shared} {value slice:Expr} {o i:Value} {T id : String} {Q:Value→Shared→Prop} (hT : s.TypeIs o T)
    (hl : typeLookup (.type T) "__getitem__" = pure (some (.builtin id))) (hg : wpAny (model prog w) A (getItem o i) Q E s) : wpAny (model prog w) A (subscriptTail value slice o i) Q E s:=by
  cases subs_ops slice o i with
  | a h=>exact tail_any hT hl hg h
  | b h=>exact tail_any hT hl hg h
section
variable {g:G} (H : GOk g) {d:Nat} {A:Around} {σ:Sg} {s:Shared} {Q:V→Sg→Prop} {a b:Value} {x y:V}
include H
theorem idxW_sound {value slice:Expr} (W : idxW g x y Q σ) (_ : AOk d A) (R : Rep g σ s) (ha : VIs s.heap a x) (hb : VIs s.heap b y) :
    wpAny (M g) A (subscriptTail value slice a b) (post g s σ Q) nope s:=by
  induction W with
  | @ix_s S k c hc hk W=>
    refine ha.str_ fun t=>?_; refine hb.int_ fun u=>?_
    refine tail_' (T:="str") rfl PySem.F.slot_str_getitem.lookup (PySem.P.getItem_str (c:=c) (by simp; lia) ?_ (post.tok R (.mk_str (l:=[c])) W))
    have hl : (mkS S).length = S.length:=by simp [mkS,Str.length]
    rw [hl,seqIx hk.1 (List.getElem?_eq_some_iff.mp hc).1]; simpa [mkS] using hc
  | @ix_t xs k x' hx hk W=>
    refine hb.int_ fun u=>?_
    obtain ⟨a',o,items,n,rfl,e1,c,dd,vl⟩:=ha.inv_tup
    obtain ⟨v,hv,vv⟩:=vl.get hx
    have hlt : k.toNat < items.size:=by simpa using (List.getElem?_eq_some_iff.mp hv).1
    exact tail_' (T:="tuple") ⟨o,e1,c⟩ PySem.F.slot_tuple_getitem.lookup (getItem_tuple (j:=k.toNat) (x:=v) ⟨o,e1,c,n,dd⟩ (Int.le_trans (by decide) hk.1) hk.2 (seqIx hk.1 hlt) (by simpa using hv) (post.here R vv W))
  | ix_l eg hx hk W=>
    refine ha.ref_ ?_; refine hb.int_ fun u=>?_
    obtain ⟨⟨⟨items,p,vl⟩,_⟩,_⟩:=R.getO H eg
    obtain ⟨v,hv,vv⟩:=vl.get hx
    exact tail_' p.typeIs slot_list_getitem.lookup (wpAny_getItem_list (x:=v) p hk.1 hk.2 (by simpa using hv) (post.here R vv W))
  | @ix_d _ _ S _ eg hp W=>
    refine ha.ref_ ?_; refine hb.str_ fun u=>?_
    obtain ⟨⟨ps,dk,sp⟩,ns⟩:=R.getO H eg
    obtain ⟨v,hv,vv⟩:=sp.found hp
    exact tail_' dk.typeIs slot_dict_getitem.lookup (wpAny_getItem_of (strKind_is g.prog g.w _ u) dk.mapOf hv (post.tok R vv W))
  | @ix_b _ _ S _ eg hp W=>
    refine ha.base_ ?_; refine hb.str_ fun u=>?_
    obtain ⟨⟨ps,dk,sp⟩,ns⟩:=R.base H eg
    obtain ⟨v,hv,vv⟩:=sp.found hp
    exact tail_' dk.typeIs slot_dict_getitem.lookup (wpAny_getItem_of (strKind_is g.prog g.w _ u) dk.mapOf hv (post.tok R vv W))
omit H in
theorem list_slice_sound {value slice:Expr} {a' : Addr} {xs:List V} {l u:Option Int} {p q:Option (Int × Tok)} (R : Rep g σ s) (oi : ObjIs g s.heap a' (.list xs)) (hz : xs.length ≤ big) (W : ∀ r,σ r = none→Q (.ref r) (upd σ r (.list (sliceL l u xs)))) (p1 : p.map (·.1) = l) (q1 : q.map (·.1) = u) :
    wpAny (M g) A (subscriptTail value slice (.ref a') (.ref s.heap.objs.size)) (post g s σ Q) nope { s with heap:=s.heap.push { cls:=.type "slice",data:=.fields #[partValue p,partValue q, .none] } }:=by
  have k : ∀ a o,s.heap.get? a = some o→(s.heap.push { cls:=.type "slice",data:=.fields #[partValue p,partValue q, .none] }).get? a = some o:=fun a o e=>Heap.get?_push_of_some _ e
  obtain ⟨⟨items,⟨ol,pl,cl,n,dl⟩,vl⟩,_⟩:=oi
  have pl':=k _ _ pl
  have isp : ∀ p:Option (Int × Tok),IsPart (partValue p) (p.map (·.1)):=by
    intro p; cases p <;> first | exact .none | exact .int _ _ | constructor
  refine tail_' ⟨_,pl',cl⟩ slot_list_getitem.lookup (wpAny_getItem_list_slice (lo:=l) (hi:=u) (st:=none) ⟨_,pl',cl,n,dl⟩ ⟨_,Heap.get?_push_size _ rfl,rfl,rfl⟩ (p1 ▸ isp p) (q1 ▸ isp q) (isp none) (by decide) ?_ ?_)
  · have e : slicePick items l u none = (sliceL l u items.toList).toArray:=by rw [← list_slice]
    rw [e]
    exact post.trans (Step.grow k) (post.newList (n:=0) (Q:=Q) (R.grow (t:=s.toks) k) ((vl.keeps (FixKeep.of k)).slice l u) W)
  · rw [← Array.length_toList,vl.length,line_is]; exact hz
theorem sliceW_sound {value slice:Expr} {lo hi:V} {lv uv:Value} (W : sliceW g x lo hi Q σ) (_ : AOk d A) (R : Rep g σ s) (ha : VIs s.heap a x) (hl : VIs s.heap lv lo) (hu : VIs s.heap uv hi) :
    wpAny (M g) A (subscriptTail value slice a (.ref s.heap.objs.size)) (post g s σ Q) nope { s with heap:=s.heap.push { cls:=.type "slice",data:=.fields #[lv,uv, .none] } }:=by
  induction W with
  | sl_l eg e1 e2 hz W=>
    obtain ⟨p,rfl,p1⟩:=slEnd_is hl e1
    obtain ⟨q,rfl,q1⟩:=slEnd_is hu e2
    refine ha.ref_ ?_
    exact list_slice_sound R (R.getO H eg).1 hz W p1 q1
  | sl_b eg e1 e2 hz W=>
    obtain ⟨p,rfl,p1⟩:=slEnd_is hl e1
    obtain ⟨q,rfl,q1⟩:=slEnd_is hu e2
    refine ha.base_ ?_
    exact list_slice_sound R (R.base H eg).1 hz W p1 q1
  | @sl_s S _ _ l u e1 e2 hz W=>
    obtain ⟨p,rfl,p1⟩:=slEnd_is hl e1
    obtain ⟨q,rfl,q1⟩:=slEnd_is hu e2
    refine ha.str_ fun t=>?_
    refine tail_' (T:="str") rfl PySem.F.slot_str_getitem.lookup (wpAny_getItem_str_slice (l:=p) (u:=q) (st:=none) ⟨_,Heap.get?_push_size _ rfl,rfl,rfl⟩ rfl ?_)
    unfold sliceMade
    rw [str_slice S p q,p1,q1]
    refine post_val_or_made (fun _=>?_) fun t' n=>?_
    · show (sliceL l u S).toArray.size ≤ sizeLine
      rw [line_is]; simp; exact Nat.le_trans (sliceL_length l u S) hz
    · have W' : post g s σ Q (.str (mkS (sliceL l u S)) t') { s with heap:=s.heap.push { cls:=.type "slice",data:=.fields #[partValue p,partValue q, .none] },toks:=n }:=
        ⟨_,σ, .mk_str,R.grow fun a o e=>Heap.get?_push_of_some _ e,Step.grow fun a o e=>Heap.get?_push_of_some _ e,W⟩
      split
      · rename_i c
        have : S = sliceL l u S:=by rw [← p1, ← q1]; exact slice_whole S p q (by simpa [mkS,Str.length] using c)
        rw [← this] at W'
        exact W'
      · exact W'
end
theorem nm_table : ((List.range nmTab.length).all fun i=>(List.range nmTab.length).all fun j=>i == j || !(nm i == nm j)) = true:=by decide +kernel
theorem nm_inj {i j:Nat} (hi : i < nmTab.length) (hj : j < nmTab.length) (e : nm i = nm j) : i = j:=by
  have h:=List.all_eq_true.mp nm_table i (List.mem_range.mpr hi)
  have h:=List.all_eq_true.mp h j (List.mem_range.mpr hj)
  simpa [e] using h
theorem lookIn_ns {o:Obj} {es ep} {m:Str→Option Value} (hd : o.data = .dict es ep) (hk : StrKeys es) (hm : ∀ name,nsFind es name = m name) (name:Str) : lookIn name o = some (m name):=by
  unfold lookIn
  rw [hd, ← hm name]
  unfold nsFind findBy
  dsimp only
  rw [← Array.find?_toList]
  cases q : es.toList.find? (·.key.isStr name) with
  | some e=>rfl
  | none=>
    have : es.toList.any (·.refKey) = false:=by
      rw [Array.any_toList,Array.any_eq_false']; intro e he; obtain ⟨n,t,h⟩:=hk e he; simp [DictEntry.refKey,h]
    simp [this]
theorem putName_ns {o:Obj} {es ep} {m:Str→Option Value} (hd : o.data = .dict es ep) (hk : StrKeys es) (hm : ∀ name,nsFind es name = m name) (name:Str) (hs:Int) (t : Tok) (v:Value) :
    ∃ es' ep',(Obj.putName name hs (.str name t) v o).data = .dict es' ep'∧StrKeys es'∧(∀ x,nsFind es' x = if x = name then some v else m x)∧es'.size ≤ es.size + (if m name = none then 1 else 0):=by
  obtain ⟨c,d,dt,sl⟩:=o
  subst hd
  rw [Obj.putName_eq]
  cases hi : es.findIdx? (·.key.isStr name) with
  | some i=>
    refine ⟨_,ep,by simp only [Obj.putNameByArray,hi]; rfl,hk.modify _ _,fun x=>?_,by simp⟩
    rw [← hm]; exact findBy_modify (fun n v=>v.isStr n) Value.isStr_inj es name x v i hi
  | none=>
    have hn : m name = none:=by
      rw [← hm]
      have : es.find? (·.key.isStr name) = none:=by
        rw [Array.find?_eq_none]; rw [Array.findIdx?_eq_none_iff] at hi; intro x hx; simpa using hi x hx
      unfold nsFind findBy
      rw [this]; rfl
    refine ⟨_,ep + 1,by simp only [Obj.putNameByArray,hi]; rfl,hk.push _ _ _ _,fun x=>?_,by simp [hn]⟩
    rw [← hm]
    exact findBy_push (fun n v=>v.isStr n) es name x _ _ v (fun y=>by
      show (name == y) = decide (y = name)
      by_cases h : y = name
      · subst h; simp
      · have : ¬ name = y:=fun e=>h e.symm
        simp [h,this]) hi
noncomputable def repl:List (Nat × V)→Nat→V→List (Nat × V)
  | [],_,_=>[]
  | (j,y) :: r,i,x=>if j = i then (i,x) :: r else (j,y) :: repl r i x
noncomputable def aset (fs:List (Nat × V)) (i:Nat) (x:V):List (Nat × V):=match fs.lookup i with
  | none=>(i,x) :: fs
  | some _=>repl fs i x
theorem lookup_cons' (j k:Nat) (y:V) (r:List (Nat × V)) : ((k,y) :: r).lookup j = if j = k then some y else r.lookup j:=by
  show (match j == k with | true=>some y | false=>r.lookup j) = _
  by_cases h : j = k
  · subst h; simp
  · rw [if_neg h,beq_eq_false_iff_ne.mpr h]
theorem repl_lookup (fs:List (Nat × V)) (i:Nat) (x:V) (j:Nat) (h : fs.lookup i ≠ none) : (repl fs i x).lookup j = if j = i then some x else fs.lookup j:=by
  induction fs with
  | nil=>exact absurd rfl h
  | cons p r ih=>
    obtain ⟨k,y⟩:=p
    unfold repl
    by_cases h1 : k = i
    · subst h1; rw [if_pos rfl,lookup_cons',lookup_cons']
      by_cases h : j = k
      · rw [if_pos h,if_pos h]
      · rw [if_neg h,if_neg h,if_neg h]
    · rw [lookup_cons',if_neg fun e=>h1 e.symm] at h
      rw [if_neg h1,lookup_cons',lookup_cons',ih h]
      by_cases h : j = k
      · rw [if_pos h,if_pos h,if_neg fun e=>h1 (h.symm.trans e)]
      · rw [if_neg h,if_neg h]
theorem repl_length (fs:List (Nat × V)) (i:Nat) (x:V) : (repl fs i x).length = fs.length:=by
  induction fs with
  | nil=>rfl
  | cons p r ih=>
    obtain ⟨k,y⟩:=p
    unfold repl
    by_cases h1 : k = i
    · rw [if_pos h1]; rfl
    · rw [if_neg h1]; simp only [List.length_cons,ih]
theorem aset_lookup (fs:List (Nat × V)) (i:Nat) (x:V) (j:Nat) : (aset fs i x).lookup j = if j = i then some x else fs.lookup j:=by
  unfold aset
  cases e : fs.lookup i with
  | none=>exact lookup_cons' ..
  | some z=>exact repl_lookup fs i x j (by rw [e]; simp)
theorem aset_length (fs:List (Nat × V)) (i:Nat) (x:V) : (aset fs i x).length = fs.length + (if fs.lookup i = none then 1 else 0):=by
  unfold aset
  cases e : fs.lookup i with
  | none=>rw [if_pos rfl]; rfl
  | some z=>rw [if_neg (by simp)]; exact repl_length ..
noncomputable def flk:List (Nat × V)→Nat→Option V
  | [],_=>none
  | (j,y) :: r,i=>match Nat.beq i j with
    | true=>some y
    | false=>flk r i
theorem flk_eq : ∀ (fs:List (Nat × V)) (i:Nat),flk fs i = fs.lookup i
  | [],_=>rfl
  | (j,y) :: r,i=>by
    rw [lookup_cons', ← flk_eq r i]
    show (match Nat.beq i j with | true=>some y | false=>flk r i) = _
    by_cases h : i = j
    · subst h; rw [if_pos rfl,Nat.beq_refl]
    · rw [if_neg h]
      cases e:Nat.beq i j with
      | true=>exact absurd (Nat.eq_of_beq_eq_true e) h
      | false=>rfl
noncomputable def handed:V→Bool
  | .bi _=>false
  | _=>true
theorem handed_in {h:Heap} {v:Value} {x:V} (k : handed x = true) (a : VIs h v x) : handedIn v = true:=
  a.casesOn (motive_1:=fun v x _=>handed x = true→handedIn v = true) (fun _=>rfl) (fun _ _=>rfl) (fun _ _ _=>rfl) (fun _ _ _=>rfl) (fun _ _=>rfl) (fun _ k=>nomatch k) (fun _ _=>rfl) (fun _ _=>rfl) (fun _ _ _ _ _=>rfl) (fun _ _=>rfl) (fun _ _ _ _=>rfl) k
inductive AttrW (g:G) (i:Nat) (Q:V→Sg→Prop) (σ:Sg):V→Prop
  | attr_ok {a C dd:Addr} {fs:List (Nat × V)} {x:V} (h1 : σ a = some (.inst C dd)) (h2 : σ dd = some (.idict fs)) (h3 : flk fs i = some x) (h4 : attOk C i = true) (h5 : handed x = true) (q : Q x σ) : AttrW g i Q σ (.ref a)
noncomputable abbrev attrW (g:G) (o:V) (i:Nat) (Q:V→Sg→Prop) (σ:Sg):Prop:=AttrW g i Q σ o
inductive SetAttrW (g:G) (i:Nat) (x:V) (Q:Sg→Prop) (σ:Sg):V→Prop
  | setAttr_ok {a C dd:Addr} {fs:List (Nat × V)} (h1 : σ a = some (.inst C dd)) (h2 : σ dd = some (.idict fs)) (h4 : attOk C i = true) (h5 : shortL 40 fs = true) (q : Q (upd σ dd (.idict (aset fs i x)))) : SetAttrW g i x Q σ (.ref a)
noncomputable abbrev setAttrW (g:G) (o:V) (i:Nat) (x:V) (Q:Sg→Prop) (σ:Sg):Prop:=SetAttrW g i x Q σ o
inductive InstIs (s:Shared) (a C dd:Addr) (fs:List (Nat × V)):Prop
  | mk (od:Obj) (es : Array DictEntry) (ep:Nat) (m:Str→Option Value) (g1 : s.heap.get? dd = some od) (g2 : od.data = .dict es ep) (g3 : StrKeys es) (g4 : ∀ name,nsFind es name = m name) (g5 : es.size ≤ fs.length) (g6 : FieldsAre s.heap m fs) (I : W.InstAt s.heap a (instObj C dd) C (some od))
theorem FieldsAre.at {h:Heap} {m:Str→Option Value} {fs:List (Nat × V)} (f : FieldsAre h m fs) {i:Nat} (hi : i < nmTab.length) {x:V} (e : fs.lookup i = some x) : ∃ v,m (nm i) = some v∧VIs h v x:=by
  have:=f i hi
  rwa [e] at this
theorem FieldsAre.no {h:Heap} {m:Str→Option Value} {fs:List (Nat × V)} (f : FieldsAre h m fs) {i:Nat} (hi : i < nmTab.length) (e : fs.lookup i = none) : m (nm i) = none:=by
  have:=f i hi
  rwa [e] at this
theorem FieldsAre.one {h:Heap} {m:Str→Option Value} {fs:List (Nat × V)} (f : FieldsAre h m fs) {i:Nat} (hi : i < nmTab.length) (x:V) {n k:Nat} (p : n ≤ k + (if m (nm i) = none then 1 else 0)) (q : k ≤ fs.length) : n ≤ (aset fs i x).length:=by
  rw [aset_length]
  refine Nat.le_trans p (Nat.add_le_add q ?_)
  have:=f i hi
  cases e : fs.lookup i with
  | none=>rw [e] at this; rw [show m (nm i) = none from this]; exact Nat.le_refl 1
  | some y=>
    rw [e] at this
    obtain ⟨v,hv,_⟩:=this
    rw [hv]; exact Nat.zero_le _
theorem aset_le (fs:List (Nat × V)) (i:Nat) (v:V) : (aset fs i v).length ≤ fs.length + 1:=by
  rw [aset_length]
  cases fs.lookup i with
  | none=>exact Nat.le_refl _
  | some y=>exact Nat.le_succ _
theorem FieldsAre.put {h h' : Heap} (k : FixKeep h h') {m:Str→Option Value} {fs:List (Nat × V)} (f : FieldsAre h m fs) {i:Nat} (hi : i < nmTab.length) {b:Value} {y:V} (hb : VIs h b y) : FieldsAre h' (fun x=>if x = nm i then some b else m x) (aset fs i y):=fun j hj=>by
  rw [aset_lookup]
  by_cases hji : j = i
  · subst hji
    simp only [if_true]
    exact ⟨b,rfl,hb.keeps k⟩
  · have h6 : ¬ nm j = nm i:=fun e=>hji (nm_inj hj hi e)
    simp only [if_neg hji,if_neg h6]
    exact (f.keeps k) j hj
theorem Rep.inst {g:G} {σ:Sg} {s:Shared} (R : Rep g σ s) {a C dd:Addr} {fs:List (Nat × V)} (e1 : σ a = some (.inst C dd)) (e2 : σ dd = some (.idict fs)) : InstIs s a C dd fs:=by
  obtain ⟨m,⟨od,es,ep,e,d,k,f,z⟩,l⟩:=R.objs _ _ e2
  exact ⟨od,es,ep,m,e,d,k,f,z,l,⟨R.objs _ _ e1,rfl,rfl,e⟩⟩
theorem Rep.kin {g:G} (H : GOk g) {σ:Sg} {s:Shared} (R : Rep g σ s) : g.K.In s.heap:=H.kin.keeps R.keep
section
variable {g:G} (H : GOk g) {d:Nat} {A:Around} {σ:Sg} {s:Shared} {Q:V→Sg→Prop} {a b:Value} {x y:V}
include H
theorem attrW_sound {i:Nat} {expr:Bool} (W : attrW g x i Q σ) (_ : AOk d A) (R : Rep g σ s) (ha : VIs s.heap a x) : wpAny (M g) A (getAttr a (nm i) expr) (post g s σ Q) nope s:=by
  induction W with
  | attr_ok e1 e2 e3 h4 h1 W=>
    refine ha.ref_ ?_
    obtain ⟨h2,h3,h4⟩:=att_is h4
    rw [flk_eq] at e3
    obtain ⟨od,es,ep,m,g1,g2,g3,g4,g5,g6,I⟩:=R.inst e1 e2
    obtain ⟨v,hv,vv⟩:=g6.at h2 e3
    obtain ⟨c1,c2,_⟩:=clsOk_is (H.cls _ h3)
    exact get_value (R.kin H) I c1 (findObj_own (attr:=none) c2 (beq_iff_eq.mp (H.fld _ h3 i h2 h4)) rfl (by rw [lookIn_ns g2 g3 g4,hv])) (handed_in h1 vv) (post.tok R vv W)
theorem setAttrW_sound {i:Nat} {Q:Sg→Prop} (W : setAttrW g x i y Q σ) (_ : AOk d A) (R : Rep g σ s) (ha : VIs s.heap a x) (hb : VIs s.heap b y) :
    wpAny (M g) A (setAttr a (nm i) b) (fun _ s'=>endW g s σ Q s') nope s:=by
  induction W with
  | @setAttr_ok _ C dd fs e1 e2 h4 hz W=>
    refine ha.ref_ ?_
    obtain ⟨h2,h3,h4⟩:=att_is h4
    have hz:=shortL_iff.mp hz
    obtain ⟨od,es,ep,m,g1,g2,g3,g4,g5,g6,I⟩:=R.inst e1 e2
    obtain ⟨c1,c2,c3,c4⟩:=clsOk_is (H.cls C h3)
    have ht : takerIn g.K C (nm i) = some none:=by unfold takerIn; rw [show findIn g.K (.ref C) (nm i) = some none from beq_iff_eq.mp (H.fld C h3 i h2 h4)]; rfl
    have X:=R.kin H
    refine set_plain X I c4 (osa_open (s:={ s with toks:=s.toks + 1 }) X I c3 ht fun b'=>?_)
    obtain ⟨cd,hc,hd'⟩:=any_some c2
    refine wpAny_bind (wpAny_pure (wpAny_bind (wpAny_bind (wpAny_loadPart I.at_ (wpAny_bind (Looks.here (s:={ s with toks:=s.toks + 1 }) (looks_clsIn X hc) ?_))))))
    rw [hd']
    refine wpAny_pure (a:=some dd) (wpAny_bind (wpAny_pure (wpAny_bind ?_)))
    unfold nsSet
    refine wpAny_bind (wpAny_bind (wpAny_askSetting (wpAny_pure (wpAny_bind (wpAny_mkText (wpAny_bind (wpAny_loadPart g1 ?_)))))))
    rw [g2]
    dsimp only
    have cc : (!es.any (·.key.isStr (nm i)) && es.any (·.refKey)) = false:=by
      rw [show es.any (·.refKey) = false from Array.any_eq_false'.mpr fun e he=>by obtain ⟨n,t,h⟩:=g3 e he; simp [DictEntry.refKey,h],Bool.and_false]
    rw [aRefKeyMayBeTheName_at,cc]
    refine wpAny_updatePart g1 ?_
    obtain ⟨es',ep',p1,p2,p3,p4⟩:=putName_ns g2 g3 g4 (nm i) (PyData.keyHash g.w.params (nm i)) (s.toks + 1) b
    have gg:=Heap.get?_update_self (h:=s.heap) (Obj.putName (nm i) (PyData.keyHash g.w.params (nm i)) (.str (nm i) (s.toks + 1)) b) g1 (Obj.isFreed_of_dict p1)
    have p4:=g6.one h2 y p4 g5
    refine wpAny_bind (wpAny_lookBehind gg (by rw [p1]; exact pastItsLine_dict (Nat.le_trans p4 (Nat.le_trans (aset_le ..) (Nat.le_trans (Nat.succ_le_succ hz) (by rw [line_is]; decide))))) (wpAny_pure ?_))
    have hs:Heap.SameBut dd s.heap (s.heap.update dd (Obj.putName (nm i) (PyData.keyHash g.w.params (nm i)) (.str (nm i) (s.toks + 1)) b)):=Heap.SameBut.update ..
    exact ⟨_,Rep.change (o':=.idict (aset fs i y)) R e2 hs (fun k=>⟨_,⟨_,es',ep',gg,p1,p2,p3,p4⟩,g6.put k h2 hb⟩),Step.change e2 hs,W⟩
end
mutual
theorem Code.datIs (σ:Sg) : ∀ c : Code,DatIs σ c.toV c.data
  | .nil=>.tcons (.str _) (.tcons .none .tnil)
  | .bool b=>.tcons (.str _) (.tcons (.bool b) .tnil)
  | .int i=>.tcons (.str _) (.tcons (.int i) .tnil)
  | .sym s=>.tcons (.str _) (.tcons (.str s) .tnil)
  | .text s=>.tcons (.str _) (.tcons (.str s) .tnil)
  | .list cs=>.tcons (.str _) (.tcons (Code.datsIs σ cs) .tnil)
  | .range a b o=>.tcons (.str _) (.tcons (Code.datIs σ a) (.tcons (Code.datIs σ b) (.tcons (.bool o) .tnil)))
  | .thing n=>.tcons (.str _) (.tcons (.int n) .tnil)
theorem Code.datsIs (σ:Sg) : ∀ cs:List Code,DatIs σ (.tup (Code.toVs cs)) (.tuple (Code.datas cs))
  | []=>.tnil
  | c :: r=>.tcons (Code.datIs σ c) (Code.datsIs σ r)
end
noncomputable def Code.ok (c : Code):Prop:=keyish c.data = true∧c.data.depth ≤ 8
theorem Code.tup (c : Code) : ∃ xs,c.toV = .tup xs:=by cases c <;> exact ⟨_,rfl⟩
theorem VIs.inv_code {h:Heap} {v:Value} {c : Code} (x : VIs h v c.toV) : ∃ a,v = .ref a:=by
  obtain ⟨xs,e⟩:=c.tup
  rw [e] at x
  obtain ⟨a,_,_,_,e,_⟩:=x.inv_tup
  exact ⟨a,e⟩
open scoped Classical in
theorem code_is {g:G} {σ:Sg} {s:Shared} (R : Rep g σ s) {c : Code} {a:Addr} (k : c.ok) (v : VIs s.heap (.ref a) c.toV) : (codeKind g.prog g.w).is s.heap c a:=
  ⟨((Code.datIs σ c).reads R).1 _ v,k.1,k.2⟩
theorem SPairs.snoc {h:Heap} {s:List Nat} {v:Value} {x:V} (a : VIs h v x) {ps kvs} (r : SPairs h ps kvs) : SPairs h (ps ++ [(mkS s,v)]) (kvs ++ [(s,x)]):=by
  induction r with
  | nil=>
    have:=SPairs.cons (s:=mkS s) a (SPairs.nil (h:=h))
    rwa [mkS_toList] at this
  | cons b _ ih=>exact .cons b ih
theorem CPairs.snoc {h:Heap} {c : Code} {k:Addr} {v:Value} {x:V} (a : VIs h v x) {ps kvs} (r : CPairs h ps kvs) : CPairs h (ps ++ [(c,k,v)]) (kvs ++ [(c,x)]):=by
  induction r with
  | nil=>exact .cons a .nil
  | cons b _ ih=>exact .cons b ih
theorem CPairs.keys {h:Heap} {ps kvs} (r : CPairs h ps kvs) : ps.map (·.1) = kvs.map (·.1):=by
  induction r with
  | nil=>rfl
  | @cons c _ _ _ _ _ _ _ ih=>exact congrArg (c :: ·) ih
theorem CPairs.length {h:Heap} {ps kvs} (x : CPairs h ps kvs) : ps.length = kvs.length:=by have:=congrArg List.length x.keys; simpa using this
theorem SPairs.length {h:Heap} {ps kvs} (x : SPairs h ps kvs) : ps.length = kvs.length:=by have:=congrArg List.length x.keys; simpa using this
theorem CPairs.vals {h:Heap} {ps kvs} (r : CPairs h ps kvs) : VIss h (ps.map (·.2.2)) (kvs.map (·.2)):=by
  induction r with
  | nil=>exact .nil
  | cons a _ ih=>exact .cons a ih
open scoped Classical in
noncomputable def findC (kvs:List (Code × V)) (c : Code):Option V:=(kvs.find? fun p=>decide (p.1 = c)).map (·.2)
open scoped Classical in
inductive AtC (h:Heap) (ps:List (Code × Addr × Value)) (kvs:List (Code × V)) (k : Code):Prop
  | no (e : findC kvs k = none) (e1 : atKey ps k = none)
  | yes (x:V) (e : findC kvs k = some x) (a:Addr) (v:Value) (e1 : atKey ps k = some (a,v)) (b : VIs h v x)
open scoped Classical in
theorem CPairs.at {h:Heap} (k : Code) {ps kvs} (r : CPairs h ps kvs) : AtC h ps kvs k:=by
  induction r with
  | nil=>exact .no rfl rfl
  | @cons c a v x ps kvs b r ih=>
    by_cases q : c = k
    · exact .yes x ((congrArg (Option.map _) (List.find?_cons_of_pos (by exact decide_eq_true q))).trans rfl) a v ((congrArg (Option.map _) (List.find?_cons_of_pos (by exact decide_eq_true q))).trans rfl) b
    · have e1 : findC ((c,x) :: kvs) k = findC kvs k:=congrArg (Option.map _) (List.find?_cons_of_neg (by exact fun z=>q (of_decide_eq_true z)))
      have e2 : atKey ((c,a,v) :: ps) k = atKey ps k:=congrArg (Option.map _) (List.find?_cons_of_neg (by exact fun z=>q (of_decide_eq_true z)))
      cases ih with
      | no e e'=>exact .no (e1.trans e) (e2.trans e')
      | yes x e a v e' b=>exact .yes x (e1.trans e) a v (e2.trans e') b
section
variable {prog : Program} {w:World} {A:Around} {E:Value→Shared→Prop} {s:Shared}
theorem setItem_list {l:Addr} {items : Array Value} {k:Int} {t : Tok} {v:Value} {Q : Unit→Shared→Prop} (hl : s.heap.IsList l items)
    (h0 : 0 ≤ k) (hfit : k < 2 ^ 63) (hn : k < items.size)
    (hQ : (s.heap.update l (Obj.mapSeq (·.setIfInBounds k.toNat v))).IsList l (items.setIfInBounds k.toNat v)→Q () { s with heap:=s.heap.update l (Obj.mapSeq (·.setIfInBounds k.toNat v)) }) :
    wpAny (model prog w) A (setItem (.ref l) (.int k t) v) Q E s:=by
  obtain ⟨o,ho,hc,ne,hd⟩:=id hl
  unfold setItem
  try with_reducible refine wpAny_holding ?_
  first | refine wpAny_bind (wpAny_pure ?_) | skip
  refine wpAny_bind (wpAny_sequenceKey hl.typeIs (by decide) ?_)
  refine wpAny_bind (wpAny_callSpecial?_slot (name:=Str.ofString "__setitem__") hl.typeIs slot_list_setitem
    (wpAny_call_entry slot_list_setitem hl.typeIs entry_list_setitem ?_ (args_list_setitem _ _ _)))
  show wpAny _ _ (Builtin.List.listSubscript? (.int k t) >>= _) _ _ s
  refine wpAny_bind (wpAny_listSubscript_int (fitsIndex_of h0 hfit) ?_)
  clear hfit
  obtain ⟨j,rfl⟩:=Int.eq_ofNat_of_zero_le h0
  have hj : j < items.size:=by lia
  have hx' : items[j]? = some items[j]:=Array.getElem?_eq_getElem hj
  show wpAny _ _ ((seqItemAt l j >>= fun r=>pure (r.map (j, ·))) >>= _) _ _ s
  refine wpAny_bind (wpAny_bind (wpAny_seqItemAt ho hd (wpAny_pure ?_)))
  rw [hx']
  show wpAny _ _ (setSeqItemAt l j v >>= _) _ _ s
  obtain ⟨n',hd'⟩:=Obj.data_mapSeq hd (·.setIfInBounds j v)
  have hfin : (s.heap.update l (Obj.mapSeq (·.setIfInBounds j v))).IsList l (items.setIfInBounds j v):=
    ⟨_,Heap.get?_update_self _ ho (Obj.isFreed_of_seq hd'),(Obj.cls_mapSeq ..).trans hc,n',hd'⟩
  refine wpAny_bind (wpAny_setSeqItemAt ho hd ?_)
  first
    | exact wpAny_bind (wpAny_pure (wpAny_pure ⟨.none,rfl,wpAny_pure (hQ hfin)⟩))
    | exact wpAny_pure ⟨.none,rfl,wpAny_pure (hQ hfin)⟩
theorem list_append {l:Addr} {items : Array Value} {x:Value} {Q:Value→Shared→Prop} (hl : s.heap.IsList l items)
    (hQ : (s.heap.update l (Obj.mapSeq (·.push x))).IsList l (items.push x)→Q .none { s with heap:=s.heap.update l (Obj.mapSeq (·.push x)) }) (hsz : items.size ≤ sizeLine) :
    wpAny (model prog w) A (call (.builtin "list.append") [.ref l,x]) Q E s:=by
  obtain ⟨o,ho,hc,n,hd⟩:=id hl
  obtain ⟨n',hd'⟩:=Obj.data_mapSeq hd (·.push x)
  refine wpAny_call_entry slot_list_append hl.typeIs entry_list_append ?_ (args_list_append _ _)
  show wpAny _ _ (updateSeq l (·.push x) >>= fun _=>ret .none) _ _ s
  refine wpAny_bind ?_
  refine wpAny_updateSeq ho hd (wpAny_pure ⟨.none,rfl,hQ ?_⟩)
  exact ⟨_,Heap.get?_update_self _ ho (Obj.isFreed_of_seq hd'),(Obj.cls_mapSeq ..).trans hc,n',hd'⟩
end
theorem noDict.mapSeq {h:Heap} {l:Addr} {f : Array Value→Array Value} (x : noDict h l) {items : Array Value} (hl : h.IsList l items) : noDict (h.update l (Obj.mapSeq f)) l:=by
  obtain ⟨o,ho,hc,n,hd⟩:=hl
  obtain ⟨n',hd'⟩:=Obj.data_mapSeq hd f
  have:=Heap.get?_update_self (Obj.mapSeq f) ho (Obj.isFreed_of_seq hd')
  intro o' e
  rw [this] at e; cases e
  have:=x o ho
  obtain ⟨c,d,dt,sl⟩:=o
  subst hd
  exact this
inductive SetItW (v:V) (Q:Sg→Prop) (σ:Sg):V→V→Prop
  | set_l {a:Addr} {xs:List V} {k:Int} (h0 : σ a = some (.list xs)) (h : 0 ≤ k∧k < xs.length∧xs.length ≤ big) (q : Q (upd σ a (.list (xs.set k.toNat v)))) : SetItW v Q σ (.ref a) (.int k)
  | set_d {a:Addr} {kvs:List (List Nat × V)} {s:List Nat} (h0 : σ a = some (.sdict kvs)) (h : s ∉ kvs.map (·.1)∧kvs.length ≤ 1000) (q : Q (upd σ a (.sdict (kvs ++ [(s,v)])))) : SetItW v Q σ (.ref a) (.str s)
  | set_c {a:Addr} {kvs:List (Code × V)} {ep:Nat} {c : Code} (h0 : σ a = some (.cdict kvs ep)) (h : c.ok∧c ∉ kvs.map (·.1)∧kvs.length ≤ 100000) (q : ∀ ep,Q (upd σ a (.cdict (kvs ++ [(c,v)]) ep))) : SetItW v Q σ (.ref a) c.toV
noncomputable abbrev setItW (o i v:V) (Q:Sg→Prop) (σ:Sg):Prop:=SetItW v Q σ o i
section
variable {g:G} (H : GOk g) {d:Nat} {A:Around} {σ:Sg} {s:Shared} {a b c:Value} {x y z:V}
include H
open scoped Classical in
theorem setItW_sound {Q:Sg→Prop} (W : setItW x y z Q σ) (O : AOk d A) (R : Rep g σ s) (ha : VIs s.heap a x) (hb : VIs s.heap b y) (hc : VIs s.heap c z) :
    wpAny (M g) A (setItem a b c) (fun _ s'=>endW g s σ Q s') nope s:=by
  induction W with
  | @set_l a' xs k0 e h W=>
    refine ha.ref_ ?_
    refine hb.int_ fun t=>?_
    obtain ⟨items,p,vl⟩:=R.list e
    have hz : items.size = xs.length:=by rw [← vl.length]; simp
    refine setItem_list p h.1 (Int.lt_of_lt_of_le h.2.1 (Int.le_trans (Int.ofNat_le.mpr h.2.2) (by decide))) (by rw [hz]; exact h.2.1) fun p'=>?_
    have hs:Heap.SameBut a' s.heap (s.heap.update a' (Obj.mapSeq (·.setIfInBounds k0.toNat c))):=Heap.SameBut.update ..
    exact ⟨_,R.change (o':=.list (xs.set _ z)) e hs (fun k=>⟨⟨_,p',by simpa using (vl.keeps k).set _ (hc.keeps k)⟩,(R.objs _ _ e).2.mapSeq p⟩) (t:=s.toks),Step.change e hs (t:=s.toks),W⟩
  | @set_d a' kvs S e h W=>
    refine ha.ref_ ?_
    refine hb.str_ fun t=>?_
    obtain ⟨ps,dk,sp⟩:=R.objs _ _ e
    refine wpAny_setItem_pairs (strKind_is g.prog g.w _ t) dk (fun h' p' hs=>?_) (by rw [line_is,sp.length]; exact Nat.le_trans h.2 (by decide))
    refine ⟨_,R.change e hs (fun k=>?_) (t:=s.toks + 1),Step.change e hs (t:=s.toks + 1),W⟩
    have hn : ps.any (fun kv=>kv.1 = mkS S) = false:=by
      rw [List.any_eq_false]
      intro p hp q
      have:=List.mem_map_of_mem (f:=(·.1)) hp
      rw [sp.keys,show p.1 = mkS S by exact of_decide_eq_true q] at this
      obtain ⟨u,hu,hu'⟩:=List.mem_map.mp this
      exact h.1 (mkS_inj hu' ▸ hu)
    rw [show stored ps (mkS S) c = ps ++ [(mkS S,c)] by simp only [stored,hn,Bool.false_eq_true,if_false]] at p'
    exact ⟨_,p',(sp.keeps k).snoc (hc.keeps k)⟩
  | @set_c a' kvs _ cd e h W=>
    refine ha.ref_ ?_
    obtain ⟨ka,rfl⟩:=hb.inv_code
    obtain ⟨ps,dk,cp⟩:=R.objs _ _ e
    refine wpAny_setItem_heap (inU O) (code_is R h.1 hb) dk.H (fun h' p' hs=>?_) (by rw [line_is,cp.length]; exact Nat.le_trans h.2.2 (by decide))
    rw [storedH_new] at p'
    · obtain ⟨ep',p'⟩:=CodeDict.of p'
      exact ⟨_,R.change (o':=.cdict (kvs ++ [(cd,z)]) ep') e hs (fun k=>⟨_,p',(cp.keeps k).snoc (hc.keeps k)⟩) (t:=s.toks + (codeKind g.prog g.w).draws cd),Step.change e hs (t:=s.toks + (codeKind g.prog g.w).draws cd),W ep'⟩
    · unfold atKey
      rw [List.find?_eq_none.mpr fun p hp q=>h.2.1 (cp.keys ▸ List.mem_map.mpr ⟨p,hp,by exact of_decide_eq_true q⟩)]
      rfl
end
inductive Fn where
  | u (a:Addr) | len | chr | ord | sum | list | tuple | str | int | range
noncomputable def Fn.val:Fn→Value
  | .u a=>.ref a | .len=>.builtin "len" | .chr=>.builtin "chr" | .ord=>.builtin "ord" | .sum=>.builtin "sum"
  | .list=>.type "list" | .tuple=>.type "tuple" | .str=>.type "str" | .int=>.type "int" | .range=>.type "range"
inductive Mt where
  | isdigit | isalnum | join | index | lstrip | append | get | values
noncomputable def intsOf:List V→Option (List Int)
  | []=>some []
  | .int s :: r=>(intsOf r).map (s :: ·)
  | _=>none
noncomputable def strI (i:Int):List Nat:=(Str.ofString (toString i)).cps.toList
noncomputable def hexS:List Nat:=[48,49,50,51,52,53,54,55,56,57,65,66,67,68,69,70]
noncomputable def joinL (sep:List Nat):List (List Nat)→List Nat
  | []=>[]
  | [x]=>x
  | x :: y :: r=>x ++ sep ++ joinL sep (y :: r)
inductive BiW (g:G) (Q:V→Sg→Prop) (σ:Sg):Fn→List V→Prop
  | f_lens {s:List Nat} (h : s.length ≤ big) (q : Q (.int s.length) σ) : BiW g Q σ .len [.str s]
  | f_lenl {a:Addr} {l:List V} (h0 : σ a = some (.list l)) (h : l.length ≤ big) (q : Q (.int l.length) σ) : BiW g Q σ .len [.ref a]
  | f_lenc {a:Addr} {l:List (Code × V)} {ep:Nat} (h0 : σ a = some (.cdict l ep)) (h : l.length ≤ big) (q : Q (.int l.length) σ) : BiW g Q σ .len [.ref a]
  | f_chr {i:Int} (h : 0 ≤ i∧i ≤ 0x10FFFF) (q : Q (.str [i.toNat]) σ) : BiW g Q σ .chr [.int i]
  | f_ord {c:Nat} (q : Q (.int c) σ) : BiW g Q σ .ord [.str [c]]
  | f_sum {a:Addr} {l:List V} {is:List Int} (h0 : σ a = some (.list l)) (h : intsOf l = some is) (q : Q (.int is.sum) σ) : BiW g Q σ .sum [.ref a]
  | f_list {a:Addr} {l:List V} (h0 : σ a = some (.list l)) (h : l.length ≤ big) (q : ∀ r,σ r = none→Q (.ref r) (upd σ r (.list l))) : BiW g Q σ .list [.ref a]
  | f_listd {a:Addr} {l:List (List Nat × V)} (h0 : σ a = some (.sdict l)) (h : l.length ≤ big) (q : ∀ r,σ r = none→Q (.ref r) (upd σ r (.list (l.map fun p=>.str p.1)))) : BiW g Q σ .list [.ref a]
  | f_tuple {a:Addr} {l:List V} (h0 : σ a = some (.list l)) (h : l.length ≤ big) (q : Q (.tup l) σ) : BiW g Q σ .tuple [.ref a]
  | f_str {i:Int} (h : i.natAbs.log2 < 1920) (q : Q (.str (strI i)) σ) : BiW g Q σ .str [.int i]
  | f_int {s:List Nat} {n:Int} (h1 : PySem.intText? (mkS s) = some n) (h2 : s.length ≤ 640) (q : Q (.int n) σ) : BiW g Q σ .int [.str s]
  | f_range {n:Int} (h : 0 ≤ n∧n ≤ big) (q : Q (.rng n.toNat) σ) : BiW g Q σ .range [.int n]
noncomputable abbrev biW (g:G) (f:Fn) (xs:List V) (Q:V→Sg→Prop) (σ:Sg):Prop:=BiW g Q σ f xs
theorem int63 {n:Nat} (h : n ≤ big) : (n:Int) < 2 ^ 63:=Int.lt_of_le_of_lt (Int.ofNat_le.mpr h) (by decide)
theorem ints_are {h:Heap} {ys:List V} : ∀ {l:List Int} {vs:List Value},intsOf ys = some l→VIss h vs ys→∃ q:List (Int × Tok),vs = q.map (fun p=>.int p.1 p.2)∧q.map (·.1) = l:=by
  induction ys with
  | nil=>intro l vs e x; cases e; exact ⟨[],x.inv,rfl⟩
  | cons y r ih=>
    intro l vs e x
    obtain ⟨v,ws,rfl,a,b⟩:=x.inv
    cases y with
    | int s=>
      obtain ⟨m,e1,rfl⟩:=Option.map_eq_some_iff.mp (show (intsOf r).map (s :: ·) = some l from e)
      obtain ⟨q,e2,e3⟩:=ih e1 b
      exact a.int_ fun t=>⟨(s,t) :: q,congrArg (_ :: ·) e2,congrArg (_ :: ·) e3⟩
    | _=>exact nomatch e
theorem preSum_is (f:Nat→Int) (n:Nat) : preSum f n = ((List.range n).map f).sum:=by
  induction n with
  | zero=>rfl
  | succ n ih=>rw [List.range_succ,List.map_append,List.sum_append, ← ih]; simp [preSum]
theorem sum_is (q:List (Int × Tok)) : preSum (numAt q.toArray) q.toArray.size = (q.map (·.1)).sum:=by
  rw [preSum_is]
  congr 1
  apply List.ext_getElem?
  intro i
  simp only [List.getElem?_map,List.size_toArray]
  by_cases h : i < q.length
  · simp [h,numAt]
  · simp [h]
theorem keys_are {h:Heap} {kvs:List (List Nat × V)} {ps:List (Str × Value)} (r : SPairs h ps kvs) : ∀ {vs:List Value},vs.length = ps.length→
    (∀ (j:Nat) (v:Value),vs[j]? = some v→∃ (k:Str) (x:Value),ps[j]? = some (k,x)∧∃ t : Tok,v = Value.str k t)→VIss h vs (kvs.map fun p=>.str p.1):=by
  induction r with
  | nil=>
    intro vs hl _
    cases vs with
    | nil=>exact .nil
    | cons=>cases hl
  | @cons s u x ps kvs a r ih=>
    intro vs hl hv
    cases vs with
    | nil=>cases hl
    | cons v vs=>
      obtain ⟨k,y,e,t,rfl⟩:=hv 0 v rfl
      cases e
      exact .cons (.str _ _) (ih (Nat.succ.inj hl) fun j u hu=>hv (j + 1) u hu)
section
variable {g:G} (H : GOk g) {d:Nat} {A:Around} {σ:Sg} {s:Shared} {Q:V→Sg→Prop} {a b:Value} {x y:V}
include H
theorem biW_sound {f:Fn} {vs:List Value} {xs:List V} (W : biW g f xs Q σ) (O : AOk d A) (R : Rep g σ s) (ha : VIss s.heap vs xs) :
    wpAny (M g) A (call f.val vs) (post g s σ Q) nope s:=by
  induction W with
  | @f_lens S h W=>
    refine ha.one_ fun v1 a1=>?_
    refine a1.str_ fun t=>?_
    have hl : (mkS S).length = S.length:=by simp [mkS,Str.length]
    exact PyProof.Rows.len_str (by rw [hl]; exact Int.not_le.mpr (int63 h)) (post.tok R (by rw [hl]; exact .int ..) W)
  | f_lenl eg h W=>
    refine ha.one_ fun v1 a1=>?_
    refine a1.ref_ ?_
    obtain ⟨⟨⟨items,p,vl⟩,_⟩,_⟩:=R.getO H eg
    have hz:=vl.length
    rw [Array.length_toList] at hz
    exact PyProof.Rows.len_list p (by rw [hz]; exact int63 h) (post.tok R (by rw [hz]; exact .int ..) W)
  | f_lenc eg h W=>
    refine ha.one_ fun v1 a1=>?_
    refine a1.ref_ ?_
    obtain ⟨⟨ps,⟨o,es,ho,hc,hdat,he,_,_⟩,sp⟩,ns⟩:=R.getO H eg
    have hz : es.size = _:=(by simpa using congrArg List.length he : es.size = ps.length).trans sp.length
    have hT : s.TypeIs (.ref _) "dict":=⟨o,ho,hc.1⟩
    refine call_len_slot (n:=(es.size:Int)) hT PySem.F.slot_dict_len (fun Q' hq=>?_) (by simp) (by rw [hz]; exact Int.not_le.mpr (int63 h)) ?_
    · refine wpAny_call_entry PySem.F.slot_dict_len hT PySem.F.entry_dict_len ?_ (PySem.F.args_dict_len_1 _)
      show wpAny _ _ (dictSize _ >>= _) _ _ s
      unfold dictSize
      refine wpAny_bind (wpAny_bind (wpAny_dictEntries ho hdat (wpAny_pure ?_)))
      show wpAny _ _ (Builtin.Dict.pendingCount _ >>= _) _ _ s
      exact wpAny_bind (wpAny_pendingCount_other ns (wpAny_ret_mkInt (by rw [Nat.add_zero]; exact hq)))
    · rw [hz]; exact post.tok R (.int ..) W
  | @f_chr i h W=>
    refine ha.one_ fun v1 a1=>?_
    refine a1.int_ fun t=>?_
    exact PySem.P.chr_of_int (by simp; assumption) (post.tok R (.mk_str (l:=[i.toNat])) W)
  | f_ord W=>
    refine ha.one_ fun v1 a1=>?_
    refine a1.str_ fun t=>?_
    exact PySem.P.ord_of_char (post.tok R (.int ..) W)
  | f_sum eg ei W=>
    refine ha.one_ fun v1 a1=>?_
    refine a1.ref_ ?_
    obtain ⟨⟨⟨⟨items⟩,p,vl⟩,_⟩,_⟩:=R.getO H eg
    obtain ⟨q,rfl,rfl⟩:=ints_are ei vl
    exact sum_intListG (xs:=q.toArray) O.handled (by simpa [intItems] using p) fun h' tk t' k=>⟨_,σ, .int _ _,R.grow k,Step.grow k,by rw [sum_is]; exact W⟩
  | @f_list _ l eg h W=>
    refine ha.one_ fun v1 a1=>?_
    refine a1.ref_ ?_
    obtain ⟨⟨⟨items,⟨o,p1,p2,n,p3⟩,vl⟩,_⟩,_⟩:=R.getO H eg
    exact call_list_seq _ (.inl rfl) p1 p2 p3 (fun h' c' k e=>⟨_,_, .ref _,R.track (t:=s.toks) (o:=.list l) k (size_none _) ⟨⟨items,⟨_,e,rfl,_,rfl⟩,vl.keeps (FixKeep.of k)⟩,fun o' e'=>by rw [e] at e'; cases e'; rfl⟩,Step.track (t:=s.toks) k (size_none _),W _ (fresh_none R (size_none _))⟩) (by rw [line_is, ← Array.length_toList,vl.length]; exact h)
  | @f_listd _ l eg h W=>
    refine ha.one_ fun v1 a1=>?_
    refine a1.ref_ ?_
    obtain ⟨⟨ps,dk,sp⟩,ns⟩:=R.getO H eg
    obtain ⟨ep,hat⟩:=dk.dictAt
    refine kdl_call (kdl_dict (knd:=PySem.strKind g.prog g.w) (kvs:=ps) (ep:=ep) ns) O.handled hat (by rw [line_is,sp.length]; exact h) fun h' tk acc' c' k e ac=>?_
    refine ⟨_,_, .ref _,R.track (t:=tk) (o:=.list (l.map fun p=>.str p.1)) k (size_none _) ⟨⟨acc',⟨_,e,rfl,_,rfl⟩,?_⟩,fun o' e'=>by rw [e] at e'; cases e'; rfl⟩,Step.track (t:=tk) k (size_none _),W _ (fresh_none R (size_none _))⟩
    refine keys_are (sp.keeps (FixKeep.of k)) (by rw [Array.length_toList]; exact ac.1) fun j v hv=>?_
    obtain ⟨kk,x,e1,e2⟩:=ac.2 j v (by rw [← Array.getElem?_toList]; exact hv)
    exact ⟨kk,x,e1,Value.isStrOf_shape e2⟩
  | f_tuple eg h W=>
    refine ha.one_ fun v1 a1=>?_
    refine a1.ref_ ?_
    obtain ⟨⟨⟨items,p,vl⟩,_⟩,_⟩:=R.getO H eg
    refine call_tuple_list p (fun h' k=>?_) (by rw [line_is, ← Array.length_toList,vl.length]; exact h)
    exact post.trans (Step.grow (t:=s.toks) k) (by simpa using post.newTup (n:=0) (Q:=Q) (R.grow (t:=s.toks) k) (vs:=items.toList) (vl.keeps (FixKeep.of k)) W)
  | f_str h W=>
    refine ha.one_ fun v1 a1=>?_
    refine a1.int_ fun t=>?_
    exact PySem.P.str_of_int h (post.tok R (.str _ _) W)
  | f_int h0 h1 W=>
    refine ha.one_ fun v1 a1=>?_
    refine a1.str_ fun t=>?_
    exact PySem.W.KIN.call_text h0 (by simpa [mkS,Str.length] using h1) (post.tok R (.int _ _) W)
  | @f_range n h W=>
    refine ha.one_ fun v1 a1=>?_
    refine a1.int_ fun t=>?_
    refine call_range_1 ?_
    have k : ∀ a o,s.heap.get? a = some o→(s.heap.push { cls:=.type "range",data:=.fields #[.int 0 s.toks, .int n t, .int 1 (s.toks + 1)] }).get? a = some o:=fun a o e=>Heap.get?_push_of_some _ e
    exact ⟨_,_, .rng (n:=n.toNat) (t:=s.toks) (u:=t) (v:=s.toks + 1) (by rw [Int.toNat_of_nonneg h.1]; exact Heap.get?_push_size _ rfl),R.grow (t:=s.toks + 1 + 1) k,Step.grow (t:=s.toks + 1 + 1) k,W⟩
end
noncomputable def Mt.ty:Mt→String
  | .append=>"list" | .get=>"dict" | .values=>"dict" | _=>"str"
noncomputable def Mt.name:Mt→Str
  | .isdigit=>"isdigit" | .isalnum=>"isalnum" | .join=>"join" | .index=>"index" | .lstrip=>"lstrip" | .append=>"append" | .get=>"get" | .values=>"values"
noncomputable def Mt.id:Mt→String
  | .isdigit=>"str.isdigit" | .isalnum=>"str.isalnum" | .join=>"str.join" | .index=>"str.index" | .lstrip=>"str.lstrip" | .append=>"list.append" | .get=>"dict.get" | .values=>"dict.values"
theorem Mt.facts (m:Mt) : PlainAttrs m.ty∧Slot m.ty m.name m.id∧typeOf (.builtin m.id) = pure (.type "method_descriptor"):=by
  cases m
  · exact ⟨PySem.F.plainAttrs_str,PySem.F.slot_str_isdigit,PySem.F.type_str_isdigit⟩
  · exact ⟨PySem.F.plainAttrs_str,PySem.F.slot_str_isalnum,PySem.F.type_str_isalnum⟩
  · exact ⟨PySem.F.plainAttrs_str,PySem.F.slot_str_join,PySem.F.type_str_join⟩
  · exact ⟨PySem.F.plainAttrs_str,PySem.F.slot_str_index,PySem.F.type_str_index⟩
  · exact ⟨PySem.F.plainAttrs_str,PySem.F.slot_str_lstrip,PySem.F.type_str_lstrip⟩
  · exact ⟨PySem.F.plainAttrs_list,PySem.F.slot_list_append,PySem.F.type_list_append⟩
  · exact ⟨PySem.F.plainAttrs_dict,PySem.F.slot_dict_get,PySem.F.type_dict_get⟩
  · exact ⟨PySem.F.plainAttrs_dict,PySem.F.slot_dict_values,PySem.F.type_dict_values⟩
inductive RecvW (g:G) (P:Prop) (σ:Sg):Mt→V→Prop
  | r_str {m:Mt} {s:List Nat} (h : m.ty = "str") (p:P) : RecvW g P σ m (.str s)
  | r_append {a:Addr} {l:List V} (h : σ a = some (.list l)) (p:P) : RecvW g P σ .append (.ref a)
  | r_getd {a:Addr} {l} (h : σ a = some (.sdict l)) (p:P) : RecvW g P σ .get (.ref a)
  | r_getc {a:Addr} {l ep} (h : σ a = some (.cdict l ep)) (p:P) : RecvW g P σ .get (.ref a)
  | r_getb {a:Addr} {l} (h : g.base a = some (.sdict l)) (p:P) : RecvW g P σ .get (.base a)
  | r_values {a:Addr} {l ep} (h : σ a = some (.cdict l ep)) (p:P) : RecvW g P σ .values (.ref a)
noncomputable abbrev recvW (g:G) (m:Mt) (x:V) (P:Prop) (σ:Sg):Prop:=RecvW g P σ m x
inductive MtW (g:G) (Q:V→Sg→Prop) (σ:Sg):Mt→V→List V→Prop
  | mt_isdigit {s:List Nat} (q : Q (.bool (decide (0 < s.length) && s.all Unicode.isDigit)) σ) : MtW g Q σ .isdigit (.str s) []
  | mt_isalnum {s:List Nat} (q : Q (.bool (decide (0 < s.length) && s.all Unicode.isAlnum)) σ) : MtW g Q σ .isalnum (.str s) []
  | m_join {s:List Nat} {a:Addr} {l:List V} {ts:List (List Nat)} (h0 : σ a = some (.list l)) (h : strsOf l = some ts) (hb : (ts.map (·.length)).sum + ts.length * s.length ≤ big) (q : Q (.str (joinL s ts)) σ) : MtW g Q σ .join (.str s) [.ref a]
  | m_index {c:Nat} (h : c ∈ hexS) (q : Q (.int (hexS.idxOf c)) σ) : MtW g Q σ .index (.str hexS) [.str [c]]
  | mt_lstrip {s t:List Nat} (h : s.length ≤ big) (q : Q (.str (s.dropWhile fun c=>t.contains c)) σ) : MtW g Q σ .lstrip (.str s) [.str t]
  | m_append {a:Addr} {l:List V} {x:V} (h0 : σ a = some (.list l)) (h : l.length < big) (q : Q .none (upd σ a (.list (l ++ [x])))) : MtW g Q σ .append (.ref a) [x]
  | m_getd {a:Addr} {kvs:List (List Nat × V)} {s:List Nat} (h0 : σ a = some (.sdict kvs)) (q : Q (((kvs.find? fun p=>p.1 = s).map (·.2)).getD .none) σ) : MtW g Q σ .get (.ref a) [.str s]
  | m_getd2 {a:Addr} {kvs:List (List Nat × V)} {s:List Nat} {dv:V} (h0 : σ a = some (.sdict kvs)) (q : Q (((kvs.find? fun p=>p.1 = s).map (·.2)).getD dv) σ) : MtW g Q σ .get (.ref a) [.str s,dv]
  | m_getb {a:Addr} {kvs:List (List Nat × V)} {s:List Nat} {dv:V} (h0 : g.base a = some (.sdict kvs)) (q : Q (((kvs.find? fun p=>p.1 = s).map (·.2)).getD dv) σ) : MtW g Q σ .get (.base a) [.str s,dv]
  | m_getc {a:Addr} {kvs:List (Code × V)} {ep:Nat} {c : Code} (h0 : σ a = some (.cdict kvs ep)) (hc : c.ok) (q : Q ((findC kvs c).getD .none) σ) : MtW g Q σ .get (.ref a) [c.toV]
  | mt_values {a:Addr} {kvs:List (Code × V)} {ep:Nat} (h0 : σ a = some (.cdict kvs ep)) (q : Q (.vals a) σ) : MtW g Q σ .values (.ref a) []
noncomputable abbrev mtW (g:G) (m:Mt) (x:V) (xs:List V) (Q:V→Sg→Prop) (σ:Sg):Prop:=MtW g Q σ m x xs
theorem hex_index : ∀ c ∈ hexS,PySem.Builtin.Str.occurrences (mkS hexS) (mkS [c]) 0 (mkS hexS).length 1 = [hexS.idxOf c]:=by decide +kernel
theorem lstrip_is (s t:List Nat) : (if stripSame (mkS t).cps.contains true false (mkS s) then (mkS s) else PySem.stripped (mkS t).cps.contains true false (mkS s)) = mkS (s.dropWhile fun c=>t.contains c):=by
  have hc : (fun c=>(mkS t).cps.contains c) = fun c=>t.contains c:=by funext c; simp [mkS]
  have hlo : stripLo (mkS t).cps.contains true (mkS s) = (s.takeWhile fun c=>t.contains c).length:=by
    unfold stripLo; rw [if_pos rfl,mkS_toList]
    show (s.takeWhile fun c=>(mkS t).cps.contains c).length = _
    rw [hc]
  have hlen : (mkS s).length = s.length:=by simp [mkS,Str.length]
  have hhi : stripHi (mkS t).cps.contains false (mkS s) (stripLo (mkS t).cps.contains true (mkS s)) = s.length:=by unfold stripHi; rw [if_neg (by decide),hlen]
  have hd : s.drop (s.takeWhile fun c=>t.contains c).length = s.dropWhile fun c=>t.contains c:=by
    have:=List.takeWhile_append_dropWhile (p:=fun c=>t.contains c) (l:=s)
    conv=>lhs; rw [← this]
    exact List.drop_left' (by rw [this])
  have hs : PySem.stripped (mkS t).cps.contains true false (mkS s) = mkS (s.dropWhile fun c=>t.contains c):=by
    unfold PySem.stripped
    rw [hhi,hlo]
    unfold PySem.Builtin.Str.strSub
    apply Str.ext'
    apply Array.ext'
    simp only [mkS,Array.toList_extract,List.extract]
    rw [← hd]
    exact List.take_of_length_le (by simp)
  split
  · rename_i c
    unfold stripSame at c
    rw [hhi,hlo] at c
    simp only [Bool.and_eq_true,beq_iff_eq] at c
    rw [← hd,c.1]; rfl
  · exact hs
theorem join_is (sep:List Nat) (ts:List (List Nat)) : Txt.join (mkS sep) (ts.map mkS) = mkS (joinL sep ts):=by
  unfold Txt.join PySem.Builtin.Str.glued
  have key : ∀ (ts:List (List Nat)) (acc:List Nat),((ts.map mkS).foldl (fun a p=>a ++ (mkS sep).cps ++ p.cps) acc.toArray) = (acc ++ (ts.map fun p=>sep ++ p).flatten).toArray:=by
    intro ts
    induction ts with
    | nil=>intro acc; simp
    | cons t r ih=>
      intro acc
      rw [List.map_cons,List.foldl_cons]
      have : (acc.toArray ++ (mkS sep).cps ++ (mkS t).cps) = (acc ++ sep ++ t).toArray:=by simp [mkS]
      rw [this,ih]; simp
  have key2 : ∀ ts:List (List Nat),joinL sep ts = ts.headD [] ++ ((ts.drop 1).map fun p=>sep ++ p).flatten:=by
    intro ts
    induction ts with
    | nil=>rfl
    | cons t r ih=>
      cases r with
      | nil=>simp [joinL]
      | cons u r=>rw [joinL,ih]; simp
  rw [key2]
  cases ts with
  | nil=>rfl
  | cons t r=>
    simp only [List.map_cons,List.drop_succ_cons,List.drop_zero,List.headD_cons]
    have:=key r t
    unfold mkS at this ⊢
    rw [this]
section
variable {g:G} (H : GOk g) {d:Nat} {A:Around} {σ:Sg} {s:Shared} {Q:V→Sg→Prop} {a b:Value} {x y:V}
include H
theorem recv_sound {m:Mt} {P:Prop} (W : recvW g m x P σ) (R : Rep g σ s) (ha : VIs s.heap a x):P∧s.TypeIs a m.ty∧(∀ b,a = .ref b→∃ ob,s.heap.get? b = some ob∧ob.dict = none):=by
  induction W with
  | r_str h p=>
    refine ha.str_ fun t=>?_
    exact ⟨p,by rw [h]; rfl,fun b e=>(nomatch e)⟩
  | r_append eg p=>
    refine ha.ref_ ?_
    obtain ⟨⟨⟨items,⟨o,p1,p2,n,p3⟩,vl⟩,nd⟩,_⟩:=R.getO H eg
    exact ⟨p,⟨o,p1,p2⟩,fun b e=>by cases e; exact ⟨o,p1,nd o p1⟩⟩
  | r_getd eg p=>
    refine ha.ref_ ?_
    obtain ⟨⟨ps,dk,sp⟩,ns⟩:=R.getO H eg
    exact ⟨p,dk.typeIs,fun b e=>by cases e; exact dk.mapOf.noDict _ rfl⟩
  | r_getc eg p=>
    refine ha.ref_ ?_
    obtain ⟨⟨ps,⟨o,es,ho,hc,_⟩,sp⟩,ns⟩:=R.getO H eg
    exact ⟨p,⟨o,ho,hc.1⟩,fun b e=>by cases e; exact ⟨o,ho,hc.2.1⟩⟩
  | r_getb eg p=>
    refine ha.base_ ?_
    obtain ⟨⟨ps,dk,sp⟩,ns⟩:=R.base H eg
    exact ⟨p,dk.typeIs,fun b e=>by cases e; exact dk.mapOf.noDict _ rfl⟩
  | r_values eg p=>
    refine ha.ref_ ?_
    obtain ⟨⟨ps,⟨o,es,ho,hc,_⟩,sp⟩,ns⟩:=R.getO H eg
    exact ⟨p,⟨o,ho,hc.1⟩,fun b e=>by cases e; exact ⟨o,ho,hc.2.1⟩⟩
omit H
theorem strs_vals {h:Heap} {ys:List V} {l:List (List Nat)} {vs:List Value} (e : strsOf ys = some l) (x : VIss h vs ys) : ∃ q:List (Str × Tok),vs = strValues q∧q.map (·.1) = l.map mkS:=by
  have S:=strs_l e x
  clear e x
  induction S with
  | nil=>exact ⟨[],rfl,rfl⟩
  | cons s t r ih=>
    obtain ⟨q,e1,e2⟩:=ih
    exact ⟨(mkS s,t) :: q,congrArg (_ :: ·) e1,congrArg (_ :: ·) e2⟩
include H
open scoped Classical in
theorem mtW_sound {m:Mt} {vs:List Value} {xs:List V} (W : mtW g m x xs Q σ) (O : AOk d A) (R : Rep g σ s) (ha : VIs s.heap a x) (hb : VIss s.heap vs xs) :
    wpAny (M g) A (call (.builtin m.id) (a :: vs)) (post g s σ Q) nope s:=by
  have dget : ∀ {S:List Nat} {dv:V} {dval:Value} {ps:List (Str × Value)} {kvs:List (List Nat × V)} {n:Nat},SPairs s.heap ps kvs→VIs s.heap dval dv→Q (((kvs.find? fun p=>p.1 = S).map (·.2)).getD dv) σ→post g s σ Q ((valueAt ps (mkS S)).getD dval) { s with toks:=n }:=by
    intro S dv dval ps kvs n sp hd W
    cases sp.at S with
    | yes q e _ v e1 a=>rw [e] at W; rw [e1]; exact post.tok R a W
    | no e _ e1=>rw [e] at W; rw [e1]; exact post.tok R hd W
  induction W with
  | @mt_isdigit S W=>
    refine hb.nil_ ?_
    refine ha.str_ fun t=>?_
    exact call_gives PySem.F.slot_str_isdigit (typeIs_str _ _ _) PySem.F.entry_str_isdigit (PySem.F.args_str_isdigit_1 _) (gives_str_isdigit _ t) (post.here R (by
      rw [show ((mkS S).length > 0 && (mkS S).cps.all Unicode.isDigit:Bool) = (decide (0 < S.length) && S.all Unicode.isDigit) by simp [mkS,Str.length]]; exact .bool _) W)
  | @mt_isalnum S W=>
    refine hb.nil_ ?_
    refine ha.str_ fun t=>?_
    exact call_gives PySem.F.slot_str_isalnum (typeIs_str _ _ _) PySem.F.entry_str_isalnum (PySem.F.args_str_isalnum_1 _) (gives_str_isalnum _ t) (post.here R (by
      rw [show ((mkS S).length > 0 && (mkS S).cps.all Unicode.isAlnum:Bool) = (decide (0 < S.length) && S.all Unicode.isAlnum) by simp [mkS,Str.length]]; exact .bool _) W)
  | @m_join S _ _ ts eg et h W=>
    refine hb.one_ fun v1 a1=>?_
    refine ha.str_ fun t=>?_
    refine a1.ref_ ?_
    obtain ⟨⟨⟨⟨items⟩,p,vl⟩,_⟩,_⟩:=R.getO H eg
    obtain ⟨q,rfl,e2⟩:=strs_vals et vl
    refine PySem.SC.join p e2 (joinOk_of ?_) fun t' k=>post.tok R (by rw [join_is]; exact .mk_str) W
    have h2 : ∀ S:List Nat,(mkS S).length = S.length:=fun S=>by simp [mkS,Str.length]
    rw [show ((ts.map mkS).map (·.length)) = ts.map (·.length) by simp [mkS,Str.length],h2]; simpa using h
  | m_index h W=>
    refine hb.one_ fun v1 a1=>?_
    refine ha.str_ fun t=>?_
    refine a1.str_ fun u=>?_
    exact call_gives PySem.F.slot_str_index (typeIs_str _ _ _) PySem.F.entry_str_index (PySem.F.args_str_index_2 _ _) (gives_str_index _ _ t u _ [] (hex_index _ h)) (post.tok R (.int _ _) W)
  | @mt_lstrip S T h W=>
    refine hb.one_ fun v1 a1=>?_
    refine ha.str_ fun t=>?_
    refine a1.str_ fun u=>?_
    refine call_gives PySem.F.slot_str_lstrip (typeIs_str _ _ _) PySem.F.entry_str_lstrip (PySem.F.args_str_lstrip_2 _ _) (gives_str_lstrip_chars _ _ t u) ?_
    have e:=lstrip_is S T
    split
    · rename_i c
      rw [if_pos c] at e
      exact post.here R (by rw [e]; exact .mk_str) W
    · rename_i c
      rw [if_neg c] at e
      rw [e]
      refine ⟨?_,post.tok R .mk_str W⟩
      show (S.dropWhile fun c=>T.contains c).toArray.size ≤ sizeLine
      rw [line_is,List.size_toArray]; exact Nat.le_trans (List.dropWhile_sublist _).length_le h
  | @m_append a' l _ e h W=>
    refine hb.one_ fun v1 a1=>?_
    refine ha.ref_ ?_
    obtain ⟨items,p,vl⟩:=R.list e
    refine list_append p (fun p'=>?_) (by rw [line_is, ← Array.length_toList,vl.length]; exact Nat.le_of_lt h)
    have hs:Heap.SameBut a' s.heap (s.heap.update a' (Obj.mapSeq (·.push v1))):=Heap.SameBut.update ..
    exact ⟨.none,_, .none,R.change (o':=.list (l ++ [_])) e hs (fun k=>⟨⟨_,p',by simpa using (vl.keeps k).append (.cons (a1.keeps k) .nil)⟩,(R.objs _ _ e).2.mapSeq p⟩) (t:=s.toks),Step.change e hs (t:=s.toks),W⟩
  | @m_getd _ kvs S eg W=>
    refine hb.one_ fun v1 a1=>?_
    refine ha.ref_ ?_
    refine a1.str_ fun t=>?_
    obtain ⟨⟨ps,dk,sp⟩,ns⟩:=R.getO H eg
    exact call_meetsIn PySem.F.slot_dict_get dk.typeIs PySem.F.entry_dict_get (PySem.F.args_dict_get_2 _ _) (meets_dict_get _ _ (strKind_is g.prog g.w _ t) ns) ⟨_,dk.mapOf,dget sp .none W⟩
  | @m_getc _ kvs ep c eg ck W=>
    refine hb.one_ fun v1 a1=>?_
    refine ha.ref_ ?_
    obtain ⟨ka,rfl⟩:=a1.inv_code
    obtain ⟨⟨ps,dk,sp⟩,ns⟩:=R.getO H eg
    have hT : s.TypeIs (.ref _) "dict":=let ⟨o,es,ho,hc,_,_,_,_⟩:=dk; ⟨o,ho,hc.1⟩
    refine call_meetsIn PySem.F.slot_dict_get hT PySem.F.entry_dict_get (PySem.F.args_dict_get_2 _ _) (meetsH_dict_get (codeKind g.prog g.w) _ ka ns) ⟨inU O,c,ps,code_is R ck a1,dk.H,?_⟩
    cases sp.at c with
    | yes x e k2 v e1 e2=>rw [e] at W; rw [e1]; exact post.tok R e2 W
    | no e e1=>rw [e] at W; rw [e1]; exact post.tok R .none W
  | @m_getd2 _ kvs S _ eg W=>
    refine hb.two_ fun v1 v2 a1 a2=>?_
    refine ha.ref_ ?_
    refine a1.str_ fun t=>?_
    obtain ⟨⟨ps,dk,sp⟩,ns⟩:=R.getO H eg
    exact call_meetsIn PySem.F.slot_dict_get dk.typeIs PySem.F.entry_dict_get (PySem.F.args_dict_get_3 _ _ _) (meets_dict_get_default _ _ (strKind_is g.prog g.w _ t) ns _) ⟨_,dk.mapOf,dget sp a2 W⟩
  | @m_getb _ kvs S _ eg W=>
    refine hb.two_ fun v1 v2 a1 a2=>?_
    refine ha.base_ ?_
    refine a1.str_ fun t=>?_
    obtain ⟨⟨ps,dk,sp⟩,ns⟩:=R.base H eg
    exact call_meetsIn PySem.F.slot_dict_get dk.typeIs PySem.F.entry_dict_get (PySem.F.args_dict_get_3 _ _ _) (meets_dict_get_default _ _ (strKind_is g.prog g.w _ t) ns _) ⟨_,dk.mapOf,dget sp a2 W⟩
  | mt_values eg W=>
    refine hb.nil_ ?_
    refine ha.ref_ ?_
    obtain ⟨⟨ps,dk,sp⟩,ns⟩:=R.getO H eg
    have hT : s.TypeIs (.ref _) "dict":=let ⟨o,es,ho,hc,_,_,_,_⟩:=dk; ⟨o,ho,hc.1⟩
    refine wpAny_call (codeAny_call_builtin PySem.F.slot_dict_values.plain PySem.F.entry_dict_values (PySem.F.slot_dict_values.check _ _ _ _ _ _ _ _ hT (PySem.F.args_dict_values_1 _) ?_))
    refine wpAny_bind ?_
    unfold Builtin.Dict.noArgs
    refine wpAny_bind (wpAny_notOrdered_dict hT ?_)
    refine wpAny_pure ?_
    show wpAny _ _ (Builtin.Dict.showsAll _ >>= _) _ _ s
    unfold Builtin.Dict.showsAll
    rw [if_neg (by rw [ns]; exact Bool.false_ne_true)]
    refine wpAny_bind (wpAny_pure ?_)
    refine wpAny_bind (wpAny_newObj_type (wpAny_pure ?_))
    have k : ∀ a', ∀ a o,s.heap.get? a = some o→(s.heap.push { cls:=.type "dict_values",data:=.fields #[.ref a'] }).get? a = some o:=fun a' a o e=>Heap.get?_push_of_some _ e
    exact ⟨_,_, .vals (Heap.get?_push_size _ rfl) rfl rfl,R.grow (t:=s.toks) (k _),Step.grow (t:=s.toks) (k _),W⟩
end
noncomputable def listAt:Option AObj→Option (List V × Nat)
  | some (.list xs)=>some (xs,0)
  | _=>none
noncomputable def valsAt:Option AObj→Option (List V × Nat)
  | some (.cdict kvs ep)=>some (kvs.map (·.2),ep)
  | _=>none
noncomputable def srcOf (g:G) (σ:Sg):V→Option (List V × Nat)
  | .ref a=>listAt (getO g σ a)
  | .str s=>some (s.map fun c=>.str [c],0)
  | .tup xs=>some (xs,0)
  | .rng n=>some ((List.range n).map fun i:Nat=>.int (i:Int),0)
  | .vals a=>valsAt (getO g σ a)
  | _=>none
noncomputable abbrev ownL:List String:=["enumerate", "zip", "dict_itemiterator", "dict_reverseitemiterator", "odict_iterator", "itertools.zip_longest", "itertools.pairwise"]
inductive OwnIt (h:Heap) (I:Addr):Prop
  | mk (o:Obj) (n : String) (vs : Array Value) (e : h.get? I = some o) (c : o.cls = .type n) (d : o.data = .fields vs) (hn : (ownL.contains n || ["range", "dict_values"].contains n) = false)
theorem OwnIt.free {h:Heap} {I:Addr} (x : OwnIt h I) : ∃ o,h.get? I = some o∧¬ fixedObj o:=by
  obtain ⟨o,n,vs,e,c,d,hn⟩:=x
  refine ⟨o,e,?_⟩
  unfold fixedObj; rw [d,c]
  rintro (z | z) <;> (cases z; exact absurd hn (by decide))
theorem fix_of {h h' : Heap} {I:Addr} {o:Obj} (e : h.get? I = some o) (n : ¬ fixedObj o) (k : ∀ b o,b ≠ I→h.get? b = some o→h'.get? b = some o) : FixKeep h h':=fun b ob eb c=>
  k b ob (fun z=>by subst z; rw [e] at eb; cases eb; exact n c) eb
structure Iter (g:G) (A:Around) (x:V) (xs:List V) (ep:Nat) (I:Addr) (St:Nat→Heap→Prop):Prop where
  frame : ∀ i h h',St i h→FixKeep h h'→h'.get? I = h.get? I→St i h'
  item : ∀ i s σ y (Q:Option Value→Shared→Prop),Rep g σ s→srcOf g σ x = some (xs,ep)→St i s.heap→xs[i]? = some y→
    (∀ v h' tk,VIs h' v y→St (i + 1) h'→(∀ b o,b ≠ I→s.heap.get? b = some o→h'.get? b = some o)→Q (some v) { s with heap:=h',toks:=tk })→wpAny (M g) A (pyNext (.ref I)) Q nope s
  done : ∀ s σ (Q:Option Value→Shared→Prop),Rep g σ s→srcOf g σ x = some (xs,ep)→St xs.length s.heap→
    (∀ h' tk,(∀ b o,b ≠ I→s.heap.get? b = some o→h'.get? b = some o)→Q none { s with heap:=h',toks:=tk })→wpAny (M g) A (pyNext (.ref I)) Q nope s
  self : ∀ i s (Q:Value→Shared→Prop),St i s.heap→Q (.ref I) s→wpAny (M g) A (pyIter (.ref I)) Q nope s
  own : ∀ i h,St i h→OwnIt h I
theorem Iter.live {g:G} {A:Around} {x:V} {xs:List V} {ep:Nat} {I:Addr} {St:Nat→Heap→Prop} (It : Iter g A x xs ep I St) (i:Nat) (h:Heap) (st : St i h) : ∃ o,h.get? I = some o∧¬ fixedObj o:=(It.own i h st).free
theorem not1 {b I:Addr} (h : b ≠ I) : b ∉ [I]:=fun q=>h (List.mem_singleton.mp q)
theorem Iter.of {g:G} {A:Around} {x:V} {xs:List V} {ep:Nat} {I:Addr} {fp:List Addr} {n:Nat} {P:Nat→Value→Prop} {St:Nat→Heap→Prop} (W : Walks g.prog g.w A I fp [I] n P St) (hn : xs.length = n)
    (fr : ∀ i h h',St i h→h'.get? I = h.get? I→St i h') (good : ∀ i v y h,P i v→xs[i]? = some y→VIs h v y) (own : ∀ i h,St i h→OwnIt h I) : Iter g A x xs ep I St where
  frame:=fun i h h' st _ e=>fr i h h' st e
  item:=fun i s σ y Q _ _ st hy hQ=>W.item i s Q _ (hn ▸ (List.getElem?_eq_some_iff.mp hy).1) st fun v h' tk hp st' k=>hQ v h' tk (good i v y h' hp hy) st' fun b o hb e=>k b o (not1 hb) e
  done:=fun s σ Q _ _ st hQ=>W.done s Q _ (hn ▸ st) fun h' tk k=>hQ h' tk fun b o hb e=>k b o (not1 hb) e
  self:=fun i s Q st q=>W.self i s Q _ st q
  own:=own
section
variable {prog : Program} {w:World} {A:Around} {s:Shared} {E:Value→Shared→Prop}
theorem iter_vals {v d:Addr} {o:Obj} {es : Array DictEntry} {ep:Nat} {Q:Value→Shared→Prop} (hv : s.heap.IsValuesView v d) (ho : s.heap.get? d = some o) (hdat : o.data = .dict es ep)
    (hQ : Q (.ref s.heap.objs.size) { s with heap:=s.heap.push { cls:=.type "dict_valueiterator",data:=.fields #[.ref d, .int 0 0, .int es.size 0, .int ep 0] } }) :
    wpAny (model prog w) A (pyIter (.ref v)) Q E s:=by
  obtain ⟨ov,hov,hcv,hdv⟩:=id hv
  refine wpAny_pyIter_slot hv.typeIs PySem.F.slot_dict_values_iter (wpAny_call_entry PySem.F.slot_dict_values_iter hv.typeIs PySem.F.entry_dict_values_iter ?_ (PySem.F.args_dict_values_iter_1 _))
  unfold Builtin.«dict_values.__iter__»
  refine wpAny_bind (wpAny_pure ?_)
  refine wpAny_bind ?_
  unfold Builtin.Dict_items.dictOf
  refine wpAny_bind (wpAny_field hov hdv (x:=.ref d) rfl (wpAny_pure ?_))
  refine wpAny_bind ?_
  unfold Builtin.Dict_items.newIterator
  refine wpAny_bind (wpAny_dictEntries ho hdat ?_)
  refine wpAny_bind (wpAny_dictEpoch ho hdat ?_)
  dsimp only
  rw [if_neg (show ¬ (Builtin.Dict_items.ownsTuple "dict_valueiterator" = true) by decide)]
  refine wpAny_newObj_type (wpAny_pure ⟨_,rfl, "dict_valueiterator",_,⟨_,Heap.get?_push_size _ rfl,rfl⟩,PySem.F.slot_dict_valueiterator_next.lookup,?_⟩)
  simpa [rawInt] using hQ
theorem next_vals {it d:Addr} {i ep:Nat} {od:Obj} {es : Array DictEntry} {e : DictEntry} {Q:Option Value→Shared→Prop} (hit : s.heap.IsValIter it d i es.size ep)
    (hod : s.heap.get? d = some od) (hdd : od.data = .dict es ep) (hx : es[i]? = some e)
    (hQ : ∀ h',h'.IsValIter it d (i + 1) es.size ep→Heap.SameBut it s.heap h'→Q (some e.val) { s with heap:=h' }) :
    wpAny (model prog w) A (pyNext (.ref it)) Q E s:=by
  obtain ⟨o,ho,hc,hd⟩:=id hit
  unfold pyNext
  refine wpAny_bind (wpAny_attempt (wpAny_callSpecial?_slot (name:=Str.ofString "__next__") hit.typeIs PySem.F.slot_dict_valueiterator_next
    (wpAny_call_entry PySem.F.slot_dict_valueiterator_next hit.typeIs PySem.F.entry_dict_valueiterator_next ?_ (PySem.F.args_dict_valueiterator_next_1 _))))
  refine wpAny_bind (wpAny_pure ?_)
  refine wpAny_bind ?_
  refine wpAny_bind ?_
  first | refine wpAny_bind (wpAny_typeNameOfWhole_valiter hit.typeIs (wpAny_pure ?_)) | refine wpAny_bind (wpAny_typeNameOf_valiter hit.typeIs (wpAny_pure ?_))
  refine wpAny_bind (wpAny_fieldsOf ho hd ?_)
  dsimp only
  rw [if_neg (show ¬ (Builtin.Dict_items.ownsTuple "dict_valueiterator" = true) by decide)]
  show wpAny _ _ (if (Value.ref d == Value.none) = true then _ else _) _ _ s
  rw [if_neg (show ¬ ((Value.ref d == Value.none) = true) from Bool.false_ne_true)]
  refine wpAny_bind (wpAny_pure ?_)
  refine wpAny_bind (wpAny_dictEntries hod hdd ?_)
  rw [if_neg (by simp)]
  refine wpAny_bind (wpAny_pure ?_)
  refine wpAny_bind (wpAny_dictEpoch hod hdd ?_)
  rw [if_neg (by simp)]
  refine wpAny_pure ?_
  dsimp only
  rw [if_neg (show ¬ ((i:Int) < 0) from Int.not_lt.mpr (Int.natCast_nonneg i)),Int.toNat_natCast,hx]
  refine wpAny_bind ?_
  first | refine wpAny_bind (wpAny_typeNameOfWhole_valiter hit.typeIs (wpAny_pure ?_)) | refine wpAny_bind (wpAny_typeNameOf_valiter hit.typeIs (wpAny_pure ?_))
  refine wpAny_bind (wpAny_isOneOf_valiter hit.typeIs ?_)
  show wpAny _ _ (setField (.ref it) 1 (rawInt ((i:Int) + 1)) >>= _) _ _ s
  refine wpAny_bind (wpAny_setField ho hd (by simp) ?_)
  have hit' : (s.heap.update it (Obj.mapFields (·.setIfInBounds 1 (rawInt ((i:Int) + 1))))).IsValIter it d (i + 1) es.size ep:=
    ⟨_,Heap.get?_update_self _ ho (Obj.isFreed_of_fields (Obj.data_mapFields hd _)),(Obj.cls_mapFields ..).trans hc,by rw [Obj.data_mapFields hd]; simp [rawInt]⟩
  refine wpAny_bind (wpAny_holding ?_)
  refine wpAny_bind (wpAny_isOneOf_valiter (s:={ s with heap:=s.heap.update it (Obj.mapFields (·.setIfInBounds 1 (rawInt ((i:Int) + 1)))) }) hit'.typeIs ?_)
  refine wpAny_bind (wpAny_isOneOf_valiter (s:={ s with heap:=s.heap.update it (Obj.mapFields (·.setIfInBounds 1 (rawInt ((i:Int) + 1)))) }) hit'.typeIs ?_)
  show wpAny _ _ (pure e.val) _ _ _
  exact wpAny_pure (wpAny_pure ⟨_,rfl,wpAny_pure (hQ _ hit' (Heap.SameBut.update ..))⟩)
theorem end_vals {it d:Addr} {i ep:Nat} {od:Obj} {es : Array DictEntry} {Q:Option Value→Shared→Prop} (hh : A.handled = none) (hit : s.heap.IsValIter it d i es.size ep)
    (hod : s.heap.get? d = some od) (hdd : od.data = .dict es ep) (hx : es[i]? = none)
    (hQ : ∀ h',Heap.ExtBut it s.heap h'→Q none { s with heap:=h' }) : wpAny (model prog w) A (pyNext (.ref it)) Q E s:=by
  obtain ⟨o,ho,hc,hd⟩:=id hit
  unfold pyNext
  refine wpAny_bind (wpAny_attempt (wpAny_callSpecial?_slot (name:=Str.ofString "__next__") hit.typeIs PySem.F.slot_dict_valueiterator_next
    (wpAny_call_entry PySem.F.slot_dict_valueiterator_next hit.typeIs PySem.F.entry_dict_valueiterator_next ?_ (PySem.F.args_dict_valueiterator_next_1 _))))
  refine wpAny_bind (wpAny_pure ?_)
  refine wpAny_bind ?_
  refine wpAny_bind ?_
  first | refine wpAny_bind (wpAny_typeNameOfWhole_valiter hit.typeIs (wpAny_pure ?_)) | refine wpAny_bind (wpAny_typeNameOf_valiter hit.typeIs (wpAny_pure ?_))
  refine wpAny_bind (wpAny_fieldsOf ho hd ?_)
  dsimp only
  rw [if_neg (show ¬ (Builtin.Dict_items.ownsTuple "dict_valueiterator" = true) by decide)]
  show wpAny _ _ (if (Value.ref d == Value.none) = true then _ else _) _ _ s
  rw [if_neg (show ¬ ((Value.ref d == Value.none) = true) from Bool.false_ne_true)]
  refine wpAny_bind (wpAny_pure ?_)
  refine wpAny_bind (wpAny_dictEntries hod hdd ?_)
  rw [if_neg (by simp)]
  refine wpAny_bind (wpAny_pure ?_)
  refine wpAny_bind (wpAny_dictEpoch hod hdd ?_)
  rw [if_neg (by simp)]
  refine wpAny_pure ?_
  dsimp only
  rw [if_neg (show ¬ ((i:Int) < 0) from Int.not_lt.mpr (Int.natCast_nonneg i)),Int.toNat_natCast,hx]
  refine wpAny_bind ?_
  first | refine wpAny_bind (wpAny_typeNameOfWhole_valiter hit.typeIs (wpAny_pure ?_)) | refine wpAny_bind (wpAny_typeNameOf_valiter hit.typeIs (wpAny_pure ?_))
  show wpAny _ _ (setField (.ref it) 0 .none >>= _) _ _ s
  refine wpAny_bind (wpAny_setField ho hd (by exact Nat.succ_pos _) ?_)
  show wpAny _ _ (newExc (.type "StopIteration") [] >>= _) _ _ _
  refine wpAny_bind ?_
  simp only [newExc,newTuple]
  refine wpAny_bind (wpAny_newObj_type ?_ (by size_fits))
  refine wpAny_bind (m:=firstArgMember _ _) (wpAny_of_eq (a:=Value.none) (by first | rfl | (simp only [firstArgMember]; rfl)) ?_)
  refine wpAny_newObj_type ?_ (by size_fits)
  unfold raiseNew
  refine wpAny_bind (wpAny_handled ?_)
  rw [show A.in1.handled = none from hh]
  refine wpAny_bind (wpAny_pure (wpAny_throw ?_))
  refine wpAny_bind (wpAny_isInstance (T:="StopIteration") (b:=true) ⟨_,Heap.get?_push_size _ rfl,rfl⟩ isSubtype_stop ?_)
  exact wpAny_pure (hQ _ (((Heap.SameBut.update ..).extBut.push _).push _))
end
theorem entries_at {h:Heap} {ps kvs} (x : CPairs h ps kvs) {es : Array DictEntry} (knd : Code→Int)
    (he : es.toList = ps.map fun x=>⟨knd x.1, .ref x.2.1,x.2.2⟩) {i:Nat} {y:V} (hy : (kvs.map (·.2))[i]? = some y) : ∃ e : DictEntry,es[i]? = some e∧VIs h e.val y:=by
  obtain ⟨v,hv,vv⟩:=x.vals.get hy
  rw [List.getElem?_map] at hv
  cases hp : ps[i]? with
  | none=>rw [hp] at hv; cases hv
  | some p=>
    rw [hp] at hv
    cases hv
    refine ⟨⟨knd p.1, .ref p.2.1,p.2.2⟩,?_,vv⟩
    rw [← Array.getElem?_toList,he,List.getElem?_map,hp]; rfl
theorem src_list {g:G} (H : GOk g) {σ:Sg} {s:Shared} (R : Rep g σ s) {a:Addr} {xs:List V} {ep:Nat} (hs : srcOf g σ (.ref a) = some (xs,ep)) : ∃ items,s.heap.IsList a items∧VIss s.heap items.toList xs:=by
  have hs : listAt (getO g σ a) = some (xs,ep):=hs
  cases e : getO g σ a with
  | none=>rw [e] at hs; cases hs
  | some o=>
    rw [e] at hs
    cases o with
    | list ys=>cases hs; exact (R.getO H e).1.1
    | _=>cases hs
theorem src_ep {g:G} {σ:Sg} {a:Addr} {xs:List V} {ep:Nat} (hs : srcOf g σ (.ref a) = some (xs,ep)) : ep = 0:=by
  have hs : listAt (getO g σ a) = some (xs,ep):=hs
  cases e : getO g σ a with
  | none=>rw [e] at hs; cases hs
  | some o=>
    rw [e] at hs
    cases o with
    | list ys=>cases hs; rfl
    | _=>cases hs
open scoped Classical in
inductive ValsAre (g:G) (s:Shared) (a:Addr) (ep:Nat) (xs:List V):Prop
  | mk (ps:List (Code × Addr × Value)) (kvs:List (Code × V)) (o:Obj) (es : Array DictEntry) (ho : s.heap.get? a = some o) (hdat : o.data = .dict es ep) (he : es.toList = ps.map (entryOfKey (codeKind g.prog g.w))) (sp : CPairs s.heap ps kvs) (hz : es.size = xs.length) (hx : kvs.map (·.2) = xs)
open scoped Classical in
theorem src_vals {g:G} (H : GOk g) {σ:Sg} {s:Shared} (R : Rep g σ s) {a:Addr} {xs:List V} {ep:Nat} (hs : srcOf g σ (.vals a) = some (xs,ep)) : ValsAre g s a ep xs:=by
  have hs : valsAt (getO g σ a) = some (xs,ep):=hs
  cases e : getO g σ a with
  | none=>rw [e] at hs; cases hs
  | some o=>
    rw [e] at hs
    cases o with
    | cdict kvs ep'=>
      cases hs
      obtain ⟨⟨ps,⟨o,es,ho,hc,hdat,he,hk,hn⟩,sp⟩,ns⟩:=R.getO H e
      exact ⟨ps,kvs,o,es,ho,hdat,he,sp,by rw [List.length_map, ← sp.length]; simpa using congrArg List.length he,rfl⟩
    | _=>cases hs
theorem listiter_frame {h h' : Heap} {I l:Addr} {i:Nat} (x : h.IsListIter I l i) (e : h'.get? I = h.get? I) : h'.IsListIter I l i:=let ⟨o,ho,r⟩:=x; ⟨o,e.trans ho,r⟩
section
variable {g:G} (H : GOk g) {A:Around} (hh : A.handled = none) {I:Addr}
include H hh
theorem iter_list {a:Addr} {xs:List V} : Iter g A (.ref a) xs 0 I (fun i h=>h.IsListIter I a i) where
  frame:=fun i h h' st _ e=>listiter_frame st e
  item:=fun i s σ y Q R hs st hy hQ=>by
    obtain ⟨items,p,vl⟩:=src_list H R hs
    obtain ⟨v,hv,vv⟩:=vl.get hy
    have own : OwnIt s.heap I:=let ⟨o,e,c,d⟩:=st; ⟨o,_,_,e,c,d,by decide⟩
    obtain ⟨o,e,nf⟩:=own.free
    refine wpAny_pyNext_list_item st p (x:=v) (by simpa using hv) fun h' it sb=>?_
    have k : ∀ b o,b ≠ I→s.heap.get? b = some o→h'.get? b = some o:=fun b o hb e=>(sb.2 b hb).trans e
    exact hQ _ h' s.toks (vv.keeps (fix_of e nf k)) it k
  done:=fun s σ Q R hs st hQ=>by
    obtain ⟨items,p,vl⟩:=src_list H R hs
    exact wpAny_pyNext_list_end hh st p (by rw [← vl.length]; simp) fun h' sb=>hQ h' s.toks fun b o hb e=>sb b o hb e
  self:=fun i s Q st q=>wpAny_pyIter_listiter st q
  own:=fun i h st=>let ⟨o,e,c,d⟩:=st; ⟨o,_,_,e,c,d,by decide⟩
omit H in
theorem iter_tup {a:Addr} {xs:List V} {o:Obj} {items : Array Value} {n:Nat} (c : o.cls = .type "tuple") (dd : o.data = .seq items n) : Iter g A (.tup xs) xs 0 I (fun i h=>h.IsTupleIter I a i∧h.get? a = some o∧VIss h items.toList xs):=by
  have fx : fixedObj o:=by unfold fixedObj; rw [dd]; exact c
  have own : ∀ i h,h.IsTupleIter I a i∧h.get? a = some o∧VIss h items.toList xs→OwnIt h I:=fun i h st=>let ⟨o,e,c,d⟩:=st.1; ⟨o,_,_,e,c,d,by decide⟩
  refine ⟨fun i h h' st fk e=>⟨let ⟨o,ho,r⟩:=st.1; ⟨o,e.trans ho,r⟩,fk _ _ st.2.1 fx,st.2.2.keeps fk⟩,fun i s σ y Q R hs st hy hQ=>?_,fun s σ Q R hs st hQ=>?_,fun i s Q st q=>wpAny_pyIter_tupleiter st.1 q,own⟩
  · obtain ⟨v,hv,vv⟩:=st.2.2.get hy
    obtain ⟨oI,e,nf⟩:=(own _ _ st).free
    refine wpAny_pyNext_tuple_item st.1 (items:=items) ⟨o,st.2.1,c,n,dd⟩ (x:=v) (by simpa using hv) fun h' it sb=>?_
    have k : ∀ b o,b ≠ I→s.heap.get? b = some o→h'.get? b = some o:=fun b o hb e=>(sb.2 b hb).trans e
    have fk:=fix_of e nf k
    exact hQ _ h' s.toks (vv.keeps fk) ⟨it,fk _ _ st.2.1 fx,st.2.2.keeps fk⟩ k
  · exact wpAny_pyNext_tuple_end hh st.1 (items:=items) ⟨o,st.2.1,c,n,dd⟩ (by rw [← st.2.2.length]; simp) fun h' sb=>hQ h' s.toks fun b o hb e=>sb b o hb e
theorem iter_dv {a:Addr} {xs:List V} {ep:Nat} : Iter g A (.vals a) xs ep I (fun i h=>h.IsValIter I a i xs.length ep) where
  frame:=fun i h h' st _ e=>let ⟨o,ho,r⟩:=st; ⟨o,e.trans ho,r⟩
  item:=fun i s σ y Q R hs st hy hQ=>by
    obtain ⟨ps,kvs,o,es,ho,hdat,he,sp,hz,rfl⟩:=src_vals H R hs
    obtain ⟨e,he1,he2⟩:=entries_at sp _ he hy
    have own : OwnIt s.heap I:=let ⟨o,e,c,d⟩:=st; ⟨o,_,_,e,c,d,by decide⟩
    obtain ⟨oI,eI,nf⟩:=own.free
    rw [← hz] at st
    refine next_vals st ho hdat he1 fun h' it sb=>?_
    have k : ∀ b o,b ≠ I→s.heap.get? b = some o→h'.get? b = some o:=fun b o hb e=>(sb.2 b hb).trans e
    rw [hz] at it
    exact hQ _ h' s.toks (he2.keeps (fix_of eI nf k)) it k
  done:=fun s σ Q R hs st hQ=>by
    obtain ⟨ps,kvs,o,es,ho,hdat,he,sp,hz,rfl⟩:=src_vals H R hs
    rw [← hz] at st
    exact end_vals hh st ho hdat (by simp) fun h' sb=>hQ h' s.toks fun b o hb e=>sb b o hb e
  self:=fun i s Q st q=>wpAny_pyIter_valiter st q
  own:=fun i h st=>let ⟨o,e,c,d⟩:=st; ⟨o,_,_,e,c,d,by decide⟩
end
theorem iter_strs {g:G} {A:Around} {S:List Nat} {I:Addr} {T : String} {t : Tok} (W : Walks g.prog g.w A I [I] [I] (mkS S).cps.size (SignAt (mkS S)) (fun i h=>h.IsStrIter I T (mkS S) t i)) (hT : (ownL.contains T || ["range", "dict_values"].contains T) = false) :
    Iter g A (.str S) (S.map fun c=>.str [c]) 0 I (fun i h=>h.IsStrIter I T (mkS S) t i):=
  .of W (by simp [mkS]) (fun i h h' st e=>let ⟨o,ho,r⟩:=st; ⟨o,e.trans ho,r⟩) (fun i v y h hp e2=>by
    obtain ⟨c,u,e1,rfl⟩:=hp
    rw [List.getElem?_map,show S[i]? = some c by simpa [mkS] using e1] at e2
    cases e2
    exact .mk_str (l:=[c])) fun i h st=>let ⟨o,e,c,d⟩:=st; ⟨o,_,_,e,c,d,hT⟩
theorem iter_start {g:G} (H : GOk g) {d:Nat} {A:Around} {σ:Sg} {s:Shared} {v:Value} {x:V} {xs:List V} {ep:Nat} {Q:Value→Shared→Prop} (hs : srcOf g σ x = some (xs,ep)) (hz : xs.length ≤ big) (R : Rep g σ s) (O : AOk d A) (hv : VIs s.heap v x)
    (h : ∀ I St h',Iter g A x xs ep I St→St 0 h'→s.heap.get? I = none→(∀ b o,s.heap.get? b = some o→h'.get? b = some o)→Q (.ref I) { s with heap:=h' }) :
    wpAny (M g) A (pyIter v) Q nope s:=by
  have kp : ∀ ob:Obj, ∀ b o,s.heap.get? b = some o→(s.heap.push ob).get? b = some o:=fun ob b o e=>Heap.get?_push_of_some _ e
  cases x with
  | ref a=>
    obtain ⟨items,p,vl⟩:=src_list H R hs
    obtain rfl : ep = 0:=src_ep hs
    refine hv.ref_ ?_
    exact wpAny_pyIter_list p (h _ _ _ (iter_list H O.handled) ⟨_,Heap.get?_push_size _ rfl,rfl,rfl⟩ (size_none _) (kp _))
  | str S=>
    cases hs
    refine hv.str_ fun t=>?_
    cases ha : (mkS S).cps.all (· < 128)
    · exact wpAny_pyIter_wide ha (h _ _ _ (iter_strs (Walks.strWide O.handled s.heap.objs.size (mkS S) t) (by decide)) ⟨_,Heap.get?_push_size _ rfl,rfl,rfl⟩ (size_none _) (kp _))
    · exact wpAny_pyIter_ascii ha (h _ _ _ (iter_strs (Walks.strAscii O.handled s.heap.objs.size (mkS S) t) (by decide)) ⟨_,Heap.get?_push_size _ rfl,rfl,rfl⟩ (size_none _) (kp _))
  | tup ys=>
    cases hs
    obtain ⟨a,o,items,n,rfl,e1,c,dd,vl⟩:=hv.inv_tup
    exact wpAny_pyIter_tuple (items:=items) ⟨o,e1,c,n,dd⟩ (h _ _ _ (iter_tup O.handled (a:=a) c dd) ⟨⟨_,Heap.get?_push_size _ rfl,rfl,rfl⟩,kp _ _ _ e1,vl.keeps (FixKeep.of (kp _))⟩ (size_none _) (kp _))
  | rng n=>
    cases hs
    obtain ⟨a,t,u,v',rfl,hr⟩:=hv.inv
    have hn : n ≤ big:=by simpa using hz
    have hsz : Builtin.Range.rangeSize 0 n 1 = n:=by
      unfold Builtin.Range.rangeSize
      rw [if_pos (by decide)]
      split
      · rw [Int.ediv_one]; simp
      · lia
    refine wpAny_pyIter_range hr (small_one (by decide) (by decide) (by simp) (by lia)) ?_
    rw [hsz]
    exact h _ _ _ (.of (Walks.range (prog:=g.prog) (w:=g.w) O.handled s.heap.objs.size 0 1 n) (by simp) (fun i h h' st e=>e.trans st) (fun i v y h hp hy=>by
      obtain ⟨t,rfl⟩:=hp
      have hi:=(List.getElem?_eq_some_iff.mp hy).1
      rw [List.length_map,List.length_range] at hi
      rw [List.getElem?_map,List.getElem?_range hi] at hy
      cases hy
      rw [show (0 + (i:Int) * 1) = (i:Int) by simp]; exact .int _ _) fun i h st=>⟨_,_,_,st,rfl,rfl,by decide⟩) (by exact Heap.get?_push_size _ rfl) (size_none _) (kp _)
  | vals a=>
    obtain ⟨b,ob,rfl,hb,cb,db⟩:=hv.inv
    obtain ⟨ps,kvs,o,es,ho,hdat,he,sp,hz',rfl⟩:=src_vals H R hs
    exact iter_vals ⟨ob,hb,cb,db⟩ ho hdat (h _ _ _ (iter_dv H O.handled) ⟨_,Heap.get?_push_size _ rfl,rfl,by rw [hz']; rfl⟩ (size_none _) (kp _))
  | _=>exact nomatch hs
set_option genInjectivity false
inductive ITy where
  | bool | int | str | cls (C:Addr)
mutual
inductive CE where
  | k (v:V) | var (i:Nat) | bin (op : Operator) (a b:CE) | cmp (op : CmpOp) (a b:CE) | cmp2 (o1 o2 : CmpOp) (a b c:CE)
  | not (t:CE) | and (ts:CEs) | or (ts:CEs) | ite (t a b:CE) | attr (e:CE) (i:Nat) | idx (a b:CE) | slice (a lo hi:CE)
  | isin (e:CE) (c : ITy) | call (f:Fn) (args:CEs) | meth (m:Mt) (e:CE) (args:CEs) | umeth (i:Nat) (e:CE) (args:CEs)
  | tup (es:CEs) | lst (es:CEs) | dct (ks:List (List Nat)) (vs:CEs) | emp (c:Bool)
  | comp (elt:CE) (nt:Nat) (cap:List Nat) (iter:CE) | compIf (elt:CE) (nt:Nat) (cap:List Nat) (iter cond:CE)
inductive CEs where
  | nil | cons (e:CE) (r:CEs)
end
mutual
inductive CS where
  | set (i:Nat) (e:CE) | setIt (o i e:CE) | setAt (o:CE) (n:Nat) (e:CE) | augAt (o:CE) (n:Nat) (e:CE) | unp (is:List Nat) (e:CE)
  | ev (e:CE) | ite (t:CE) (a b:CSs) | whl (t:CE) (b:CSs) | for (is:List Nat) (it:CE) (b:CSs) | ret (e:CE)
inductive CSs where
  | nil | cons (s:CS) (r:CSs)
end
noncomputable abbrev Env':=List (Option V)
noncomputable def rset (ρ:Env') (i:Nat) (v:V):Env':=ρ.set i (some v)
noncomputable def rsets:List Nat→List V→Env'→Env'
  | i :: is,v :: vs,ρ=>rsets is vs (rset ρ i v)
  | _,_,ρ=>ρ
noncomputable def bindN (is:List Nat) (y:V) (ρ:Env'):Option Env':=match is,y with
  | [i],y=>some (rset ρ i y)
  | is, .tup ys=>if is.length = ys.length then some (rsets is ys ρ) else none
  | _,_=>none
noncomputable def bindT (nt:Nat) (y:V) (cap:Env'):Option Env':=match nt,y with
  | 1,y=>some (some y :: cap)
  | 2, .tup [a,b]=>some (some a :: some b :: cap)
  | _,_=>none
noncomputable def endC (P:Value→Shared→Prop) (r : Result) (s' : Shared):Prop:=match r with
  | .ok (.ret v)=>P v s'
  | _=>False
structure UCall (g:G) (d:Nat) (f:Value) (vs:List V) (Q:V→Sg→Prop) (σ:Sg):Prop where
  h : ∀ A s vals,AOk d A→Rep g σ s→VIss s.heap vals vs→codeAny (M g) A (.call f ⟨vals,[]⟩) (endC (post g s σ Q)) s
theorem endC_is {P:Value→Shared→Prop} {r : Result} {s' : Shared} (h : endC P r s') : ∃ v,r = .ok (.ret v)∧P v s':=by
  cases r with
  | error e=>exact h.elim
  | ok f=>cases f with
    | ret v=>exact ⟨v,rfl,h⟩
    | _=>exact h.elim
theorem UCall.run {g:G} {d:Nat} {f:Value} {vs:List V} {Q:V→Sg→Prop} {σ:Sg} (u : UCall g d f vs Q σ) {A:Around} {s:Shared} {vals:List Value} (O : AOk d A) (R : Rep g σ s) (v : VIss s.heap vals vs) : wpAny (M g) A (call f vals) (post g s σ Q) nope s:=
  wpAny_call (codeAny_mono (u.h A s vals O R v) fun r s' h=>by obtain ⟨v,rfl,h⟩:=endC_is h; exact h)
theorem UCall.mono {g:G} {d:Nat} {f:Value} {vs:List V} {Q Q' : V→Sg→Prop} {σ:Sg} (u : UCall g d f vs Q σ) (h : ∀ x σ',Q x σ'→Q' x σ') : UCall g d f vs Q' σ:=
  ⟨fun A s vals O R v=>codeAny_mono (u.h A s vals O R v) fun r s' e=>by obtain ⟨v,rfl,e⟩:=endC_is e; exact e.mono h⟩
theorem AOk.le {d d' : Nat} {A:Around} (h : d ≤ d') (O : AOk d' A) : AOk d A:=⟨O.handled,by have:=O.depth; lia,by have:=O.units; lia⟩
theorem UCall.le {g:G} {d d' : Nat} {f:Value} {vs:List V} {Q:V→Sg→Prop} {σ:Sg} (h : d ≤ d') (u : UCall g d f vs Q σ) : UCall g d' f vs Q σ:=⟨fun A s vals O=>u.h A s vals (O.le h)⟩
noncomputable def callW (g:G) (d:Nat) (f:Fn) (vs:List V) (Q:V→Sg→Prop) (σ:Sg):Prop:=match f with
  | .u a=>UCall g d (.ref a) vs Q σ
  | f=>biW g f vs Q σ
noncomputable def atV (o:Option V) (K:V→Prop):Prop:=match o with
  | some x=>K x
  | none=>False
noncomputable def bound {α : Type} (o:Option α) (K : α→Prop):Prop:=match o with
  | some x=>K x
  | none=>False
inductive SrcW (g:G) (σ:Sg) (P:List V × Nat→Prop):V→Prop
  | src_l {a:Addr} {xs:List V} (h : σ a = some (.list xs)) (p:P (xs,0)) : SrcW g σ P (.ref a)
  | src_v {a:Addr} {kvs:List (Code × V)} {ep:Nat} (h : σ a = some (.cdict kvs ep)) (p:P (kvs.map (·.2),ep)) : SrcW g σ P (.vals a)
  | src_s {s:List Nat} (p:P (s.map fun c=>.str [c],0)) : SrcW g σ P (.str s)
  | src_t {xs:List V} (p:P (xs,0)) : SrcW g σ P (.tup xs)
  | src_r {n:Nat} (p:P ((List.range n).map fun i:Nat=>.int (i:Int),0)) : SrcW g σ P (.rng n)
noncomputable abbrev srcW (g:G) (σ:Sg) (x:V) (P:List V × Nat→Prop):Prop:=SrcW g σ P x
theorem src_l' {g:G} {σ:Sg} {a:Addr} {xs:List V} (h : σ a = some (.list xs)) : srcOf g σ (.ref a) = some (xs,0):=congrArg listAt h
theorem src_v' {g:G} {σ:Sg} {a:Addr} {kvs:List (Code × V)} {ep:Nat} (h : σ a = some (.cdict kvs ep)) : srcOf g σ (.vals a) = some (kvs.map (·.2),ep):=congrArg valsAt h
theorem SrcW.ok {g:G} {σ:Sg} {P:List V × Nat→Prop} {x:V} (W : SrcW g σ P x) : ∃ p,srcOf g σ x = some p∧P p:=by
  cases W with
  | src_l h p=>exact ⟨_,src_l' h,p⟩
  | src_v h p=>exact ⟨_,src_v' h,p⟩
  | _ p=>exact ⟨_,rfl,p⟩
noncomputable def isCls : ITy→Bool
  | .cls _=>true
  | _=>false
noncomputable def tagV:V→Option Value
  | .none=>some (.type "NoneType") | .bool _=>some (.type "bool") | .int _=>some (.type "int") | .str _=>some (.type "str") | _=>none
noncomputable def ITy.val : ITy→Value
  | .bool=>.type "bool" | .int=>.type "int" | .str=>.type "str" | .cls C=>.ref C
inductive IsinW (g:G) (Q:V→Sg→Prop) (σ:Sg):V→ITy→Prop
  | isin_i {a C dd D:Addr} {fs:List (Nat × V)} (h1 : σ a = some (.inst C dd)) (h2 : σ dd = some (.idict fs)) (h3 : (clsL.contains C && clsL.contains D) = true) (q : Q (.bool (subB C D)) σ) : IsinW g Q σ (.ref a) (.cls D)
  | isin_b {a C dd:Addr} {fs:List (Nat × V)} {c : ITy} (h1 : σ a = some (.inst C dd)) (h2 : σ dd = some (.idict fs)) (h3 : clsL.contains C = true) (hc : isCls c = false) (q : Q (.bool false) σ) : IsinW g Q σ (.ref a) c
  | isin_n {v:V} {t:Value} {D:Addr} (h : tagV v = some t) (h3 : clsL.contains D = true) (q : Q (.bool false) σ) : IsinW g Q σ v (.cls D)
  | isin_t {v:V} {t:Value} {c : ITy} {b:Bool} (h : tagV v = some t) (hc : isCls c = false) (hb : (t == c.val || (t == .type "bool" && c.val == .type "int")) = b) (q : Q (.bool b) σ) : IsinW g Q σ v c
noncomputable abbrev isinW (g:G) (x:V) (c : ITy) (Q:V→Sg→Prop) (σ:Sg):Prop:=IsinW g Q σ x c
inductive UmW (g:G) (i:Nat) (K:Addr→Prop) (σ:Sg):V→Prop
  | um_ok {a C dd f:Addr} {fs:List (Nat × V)} (h1 : σ a = some (.inst C dd)) (h2 : σ dd = some (.idict fs)) (h3 : flk fs i = none) (h4 : methTab C i = some f) (h5 : decide (i < 68) = true) (h6 : clsL.contains C = true) (q : K f) : UmW g i K σ (.ref a)
noncomputable abbrev umW (g:G) (x:V) (i:Nat) (K:Addr→Prop) (σ:Sg):Prop:=UmW g i K σ x
noncomputable def compW (t:V→(Bool→Sg→Prop)→Sg→Prop) (f:V→(V→Sg→Prop)→Sg→Prop) (stay:Sg→Prop):List V→List V→(List V→Sg→Prop)→Sg→Prop
  | [],acc,K,σ=>stay σ∧K acc σ
  | y :: ys,acc,K,σ=>stay σ∧t y (fun b σ'=>if b = true then f y (fun v σ''=>compW t f stay ys (acc ++ [v]) K σ'') σ' else compW t f stay ys acc K σ') σ
noncomputable def forW (body:V→Env'→(Env'→Sg→Prop)→Sg→Prop) (stay:Sg→Prop) (Qn:Env'→Sg→Prop):List V→Env'→Sg→Prop
  | [],ρ,σ=>stay σ∧Qn ρ σ
  | y :: ys,ρ,σ=>stay σ∧body y ρ (fun ρ' σ'=>forW body stay Qn ys ρ' σ') σ
section
variable (g:G) (d:Nat)
mutual
noncomputable def wpE:CE→Env'→(V→Sg→Prop)→Sg→Prop
  | .k v,_,Q,σ=>Q v σ
  | .var i,ρ,Q,σ=>atV (ρ.getD i none) fun v=>Q v σ
  | .bin op a b,ρ,Q,σ=>wpE a ρ (fun x σ₁=>wpE b ρ (fun y σ₂=>binW op x y Q σ₂) σ₁) σ
  | .cmp op a b,ρ,Q,σ=>wpE a ρ (fun x σ₁=>wpE b ρ (fun y σ₂=>cmpW g op x y Q σ₂) σ₁) σ
  | .cmp2 o1 o2 a b c,ρ,Q,σ=>wpE a ρ (fun x σ₁=>wpE b ρ (fun y σ₂=>cmpW g o1 x y (fun r σ₃=>truthW r (fun t σ₄=>if t = true then wpE c ρ (fun z σ₅=>cmpW g o2 y z Q σ₅) σ₄ else Q (.bool false) σ₄) σ₃) σ₂) σ₁) σ
  | .not t,ρ,Q,σ=>wpE t ρ (fun x σ₁=>truthW x (fun b σ₂=>Q (.bool (!b)) σ₂) σ₁) σ
  | .and ts,ρ,Q,σ=>wpAnd ts ρ Q σ
  | .or ts,ρ,Q,σ=>wpOr ts ρ Q σ
  | .ite t a b,ρ,Q,σ=>wpE t ρ (fun x σ₁=>truthW x (fun c σ₂=>if c = true then wpE a ρ Q σ₂ else wpE b ρ Q σ₂) σ₁) σ
  | .attr e i,ρ,Q,σ=>wpE e ρ (fun x σ₁=>attrW g x i Q σ₁) σ
  | .idx a b,ρ,Q,σ=>wpE a ρ (fun x σ₁=>wpE b ρ (fun y σ₂=>idxW g x y Q σ₂) σ₁) σ
  | .slice a lo hi,ρ,Q,σ=>wpE a ρ (fun x σ₁=>wpE lo ρ (fun y σ₂=>wpE hi ρ (fun z σ₃=>sliceW g x y z Q σ₃) σ₂) σ₁) σ
  | .isin e c,ρ,Q,σ=>wpE e ρ (fun x σ₁=>isinW g x c Q σ₁) σ
  | .call f args,ρ,Q,σ=>wpEs args ρ (fun vs σ₁=>callW g d f vs Q σ₁) σ
  | .meth m e args,ρ,Q,σ=>wpE e ρ (fun x σ₁=>recvW g m x (wpEs args ρ (fun vs σ₂=>mtW g m x vs Q σ₂) σ₁) σ₁) σ
  | .umeth i e args,ρ,Q,σ=>wpE e ρ (fun x σ₁=>umW g x i (fun f=>wpEs args ρ (fun vs σ₂=>UCall g d (.ref f) (x :: vs) Q σ₂) σ₁) σ₁) σ
  | .tup es,ρ,Q,σ=>wpEs es ρ (fun vs σ₁=>Q (.tup vs) σ₁) σ
  | .lst es,ρ,Q,σ=>wpEs es ρ (fun vs σ₁=>∀ r,σ₁ r = none→Q (.ref r) (upd σ₁ r (.list vs))) σ
  | .dct ks es,ρ,Q,σ=>wpEs es ρ (fun vs σ₁=>∀ r,σ₁ r = none→Q (.ref r) (upd σ₁ r (.sdict (ks.zip vs)))) σ
  | .emp true,_,Q,σ=>∀ r ep,σ r = none→Q (.ref r) (upd σ r (.cdict [] ep))
  | .emp false,_,Q,σ=>∀ r,σ r = none→Q (.ref r) (upd σ r (.sdict []))
  | .comp elt nt cap iter,ρ,Q,σ=>wpE iter ρ (fun x σ₁=>srcW g σ₁ x fun p=>p.1.length ≤ big∧
      compW (fun y P σ₂=>bound (bindT nt y (cap.map fun i=>ρ.getD i none)) fun _=>P true σ₂) (fun y K σ₂=>bound (bindT nt y (cap.map fun i=>ρ.getD i none)) fun ρ'=>wpE elt ρ' K σ₂) (fun σ₂=>srcOf g σ₂ x = some p) p.1 []
        (fun vs σ₂=>∀ r,σ₂ r = none→Q (.ref r) (upd σ₂ r (.list vs))) σ₁) σ
  | .compIf elt nt cap iter cond,ρ,Q,σ=>wpE iter ρ (fun x σ₁=>srcW g σ₁ x fun p=>p.1.length ≤ big∧
      compW (fun y P σ₂=>bound (bindT nt y (cap.map fun i=>ρ.getD i none)) fun ρ'=>wpE cond ρ' (fun r σ₃=>truthW r P σ₃) σ₂)
        (fun y K σ₂=>bound (bindT nt y (cap.map fun i=>ρ.getD i none)) fun ρ'=>wpE elt ρ' K σ₂) (fun σ₂=>srcOf g σ₂ x = some p) p.1 []
        (fun vs σ₂=>∀ r,σ₂ r = none→Q (.ref r) (upd σ₂ r (.list vs))) σ₁) σ
noncomputable def wpEs:CEs→Env'→(List V→Sg→Prop)→Sg→Prop
  | .nil,_,Q,σ=>Q [] σ
  | .cons e r,ρ,Q,σ=>wpE e ρ (fun v σ₁=>wpEs r ρ (fun vs σ₂=>Q (v :: vs) σ₂) σ₁) σ
noncomputable def wpAnd:CEs→Env'→(V→Sg→Prop)→Sg→Prop
  | .nil,_,Q,σ=>Q (.bool true) σ
  | .cons e .nil,ρ,Q,σ=>wpE e ρ (fun x σ₁=>truthW x (fun b σ₂=>Q (.bool b) σ₂) σ₁) σ
  | .cons e r,ρ,Q,σ=>wpE e ρ (fun x σ₁=>truthW x (fun b σ₂=>if b = true then wpAnd r ρ Q σ₂ else Q (.bool false) σ₂) σ₁) σ
noncomputable def wpOr:CEs→Env'→(V→Sg→Prop)→Sg→Prop
  | .nil,_,Q,σ=>Q (.bool false) σ
  | .cons e .nil,ρ,Q,σ=>wpE e ρ (fun x σ₁=>truthW x (fun b σ₂=>Q (.bool b) σ₂) σ₁) σ
  | .cons e r,ρ,Q,σ=>wpE e ρ (fun x σ₁=>truthW x (fun b σ₂=>if b = true then Q (.bool true) σ₂ else wpOr r ρ Q σ₂) σ₁) σ
end
mutual
noncomputable def wpS:CS→Env'→(Env'→Sg→Prop)→(V→Sg→Prop)→Sg→Prop
  | .set i e,ρ,Qn,_,σ=>wpE g d e ρ (fun v σ₁=>Qn (rset ρ i v) σ₁) σ
  | .setIt o i e,ρ,Qn,_,σ=>wpE g d e ρ (fun v σ₁=>wpE g d o ρ (fun x σ₂=>wpE g d i ρ (fun y σ₃=>setItW x y v (fun σ₄=>Qn ρ σ₄) σ₃) σ₂) σ₁) σ
  | .setAt o n e,ρ,Qn,_,σ=>wpE g d e ρ (fun v σ₁=>wpE g d o ρ (fun x σ₂=>setAttrW g x n v (fun σ₃=>Qn ρ σ₃) σ₂) σ₁) σ
  | .augAt o n e,ρ,Qn,_,σ=>wpE g d o ρ (fun x σ₁=>attrW g x n (fun old σ₂=>wpE g d e ρ (fun v σ₃=>(match old,v with
      | .int a, .int b=>setAttrW g x n (.int (a + b)) (fun σ₄=>Qn ρ σ₄) σ₃
      | _,_=>False)) σ₂) σ₁) σ
  | .unp is e,ρ,Qn,_,σ=>wpE g d e ρ (fun v σ₁=>(match v with
      | .tup ys=>is.length = ys.length∧Qn (rsets is ys ρ) σ₁
      | _=>False)) σ
  | .ev e,ρ,Qn,_,σ=>wpE g d e ρ (fun v σ₁=>isNone v = true∧Qn ρ σ₁) σ
  | .ite t a b,ρ,Qn,Qr,σ=>wpE g d t ρ (fun x σ₁=>truthW x (fun c σ₂=>if c = true then wpSs a ρ Qn Qr σ₂ else wpSs b ρ Qn Qr σ₂) σ₁) σ
  | .whl t b,ρ,Qn,Qr,σ=>∃ I:Nat→Env'→Sg→Prop,(∃ n,I n ρ σ)∧∀ n ρ' σ',I n ρ' σ'→wpE g d t ρ' (fun x σ₁=>truthW x (fun c σ₂=>if c = true then wpSs b ρ' (fun ρ₂ σ₃=>∃ m,m < n∧I m ρ₂ σ₃) Qr σ₂ else Qn ρ' σ₂) σ₁) σ'
  | .for is it b,ρ,Qn,Qr,σ=>wpE g d it ρ (fun x σ₁=>srcW g σ₁ x fun p=>p.1.length ≤ big∧
      forW (fun y ρ' K σ₂=>bound (bindN is y ρ') fun ρ''=>wpSs b ρ'' K Qr σ₂) (fun σ₂=>srcOf g σ₂ x = some p) Qn p.1 ρ σ₁) σ
  | .ret e,ρ,_,Qr,σ=>wpE g d e ρ Qr σ
noncomputable def wpSs:CSs→Env'→(Env'→Sg→Prop)→(V→Sg→Prop)→Sg→Prop
  | .nil,ρ,Qn,_,σ=>Qn ρ σ
  | .cons s r,ρ,Qn,Qr,σ=>wpS s ρ (fun ρ' σ'=>wpSs r ρ' Qn Qr σ') Qr σ
end
end
noncomputable abbrev Sl:=List (Str × Bool)
structure FrameIs (g:G) (σ:Sg) (h:Heap) (env:Env) (sc : Scope) (sl : Sl) (ρ:Env'):Prop where
  kind : env.scope.kind = .function
  glob : env.globals = mainGlobals
  blt : env.builtins = builtinsNs
  kg : ∀ x,sc.names.lookup x = some .globalImplicit→env.kindOf x = some .globalImplicit
  ks : ∀ (i:Nat) x b,sl[i]? = some (x,b)→env.kindOf x = some (if b = true then .cell else .local)
  len : ρ.length = sl.length
  nodup : (sl.map (·.1)).Nodup
  loc : σ env.locals = none
  loc0 : g.h₀.get? env.locals = none
  ns : ∃ m,h.Ns env.locals m∧∀ (i:Nat) x v,sl[i]? = some (x,false)→ρ[i]? = some (some v)→∃ val,m x = some val∧VIs h val v
  cells : ∀ (i:Nat) x,sl[i]? = some (x,true)→∃ c v₀,env.cells.lookup x = some c∧h.IsCell c v₀∧∀ v,ρ[i]? = some (some v)→∃ val,v₀ = some val∧VIs h val v
  cell0 : ∀ x c,env.cells.lookup x = some c→σ c = none∧g.h₀.get? c = none∧c ≠ env.locals∧∃ v,h.IsCell c v
  apart : ∀ x y c,env.cells.lookup x = some c→env.cells.lookup y = some c→x = y
theorem cell_free {h:Heap} {c:Addr} {v} (x : h.IsCell c v) : ∃ o,h.get? c = some o∧¬ fixedObj o:=by
  obtain ⟨o,e,d⟩:=x
  exact ⟨o,e,by unfold fixedObj; rw [d]; exact fun f=>f⟩
theorem ns_free {h:Heap} {a:Addr} {m} (x : h.Ns a m) : ∃ o,h.get? a = some o∧¬ fixedObj o:=by
  obtain ⟨o,es,ep,e,d,_⟩:=x
  exact ⟨o,e,by unfold fixedObj; rw [d]; exact fun f=>f⟩
theorem Step.gone {s s' : Shared} {σ σ' : Sg} (x : Step s σ s' σ') {a:Addr} {o:Obj} (h : σ a = none) (e : s.heap.get? a = some o) : σ' a = none:=by
  cases q : σ' a with
  | none=>rfl
  | some v=>
    rcases x.dom a (by rw [q]; simp) with z | z
    · exact absurd h z
    · rw [z] at e; cases e
theorem FrameIs.keeps {g:G} {σ σ' : Sg} {h h' : Heap} {env:Env} {sc : Scope} {sl : Sl} {ρ:Env'} (F : FrameIs g σ h env sc sl ρ) (fk : FixKeep h h')
    (k : ∀ a o,σ a = none→h.get? a = some o→(a = env.locals∨∃ x,env.cells.lookup x = some a)→h'.get? a = some o) (n : ∀ a o,σ a = none→h.get? a = some o→(a = env.locals∨∃ x,env.cells.lookup x = some a)→σ' a = none) : FrameIs g σ' h' env sc sl ρ:=by
  obtain ⟨m,hm,hv⟩:=F.ns
  obtain ⟨oL,es,ep,eL,r⟩:=id hm
  refine ⟨F.kind,F.glob,F.blt,F.kg,F.ks,F.len,F.nodup,n _ _ F.loc eL (.inl rfl),F.loc0,⟨m,⟨oL,es,ep,k _ _ F.loc eL (.inl rfl),r⟩,fun i x v a b=>?_⟩,fun i x a=>?_,fun x c e=>?_,F.apart⟩
  · obtain ⟨val,p,q⟩:=hv i x v a b
    exact ⟨val,p,q.keeps fk⟩
  · obtain ⟨c,v₀,e1,⟨o,e2,e3⟩,e4⟩:=F.cells i x a
    refine ⟨c,v₀,e1,⟨o,k _ _ (F.cell0 _ _ e1).1 e2 (.inr ⟨_,e1⟩),e3⟩,fun v b=>?_⟩
    obtain ⟨val,p,q⟩:=e4 v b
    exact ⟨val,p,q.keeps fk⟩
  · obtain ⟨h1,h2,h3,v,o,h4,h5⟩:=F.cell0 x c e
    exact ⟨n _ _ h1 h4 (.inr ⟨_,e⟩),h2,h3,v,o,k _ _ h1 h4 (.inr ⟨_,e⟩),h5⟩
theorem FrameIs.step {g:G} {s s' : Shared} {σ σ' : Sg} {env:Env} {sc : Scope} {sl : Sl} {ρ:Env'} (F : FrameIs g σ s.heap env sc sl ρ) (R : Rep g σ s) (x : Step s σ s' σ') : FrameIs g σ' s'.heap env sc sl ρ:=
  F.keeps (x.tup R) (fun a o n e _=>x.keep a o n e) fun a o n e _=>x.gone n e
theorem closure_is {scope : Scope} {env:Env} (h : ∀ x,(x,NameKind.free) ∈ scope.names→(env.cells.lookup x).isSome = true) :
    ∃ cl,closureFor scope env = pure cl∧(∀ x c,(x,c) ∈ cl→env.cells.lookup x = some c)∧∀ x,(x,NameKind.free) ∈ scope.names→cl.lookup x = env.cells.lookup x:=by
  have key : ∀ (names:List (Str × NameKind)) (acc:List (Str × Addr)),(∀ x,(x,NameKind.free) ∈ names→(env.cells.lookup x).isSome = true)→(∀ x c,(x,c) ∈ acc→env.cells.lookup x = some c)→
      ∃ cl,(forIn names acc fun x r=>match x with
        | (name,kind)=>if (kind == NameKind.free) = true then do let a ← cellOf env name; pure (ForInStep.yield ((name,a) :: r)) else (pure (ForInStep.yield r) : Sem (ForInStep (List (Str × Addr))))) = (pure cl : Sem _)∧
        (∀ x c,(x,c) ∈ cl→env.cells.lookup x = some c)∧(∀ x,((x,NameKind.free) ∈ names∨(∃ c,(x,c) ∈ acc))→∃ c,(x,c) ∈ cl):=by
    intro names
    induction names with
    | nil=>intro acc _ h2; exact ⟨acc,rfl,h2,fun x hx=>by rcases hx with hx | hx; cases hx; exact hx⟩
    | cons p r ih=>
      intro acc h1 h2
      obtain ⟨n,kd⟩:=p
      rw [List.forIn_cons]
      by_cases q : (kd == NameKind.free) = true
      · have q' : kd = .free:=by exact of_decide_eq_true q
        subst q'
        obtain ⟨c,hc⟩:=Option.isSome_iff_exists.mp (h1 n (List.mem_cons_self ..))
        obtain ⟨cl,e1,e2,e3⟩:=ih ((n,c) :: acc) (fun x hx=>h1 x (List.mem_cons_of_mem _ hx)) (fun x c' hx=>by
          rcases List.mem_cons.mp hx with e | hx
          · cases e; exact hc
          · exact h2 x c' hx)
        refine ⟨cl,?_,e2,fun x hx=>e3 x ?_⟩
        · dsimp only
          rw [if_pos q]
          have : cellOf env n = pure c:=by unfold cellOf; rw [hc]
          rw [this]; exact e1
        · rcases hx with hx | ⟨c',hx⟩
          · rcases List.mem_cons.mp hx with e | hx
            · cases e; exact .inr ⟨c,List.mem_cons_self ..⟩
            · exact .inl hx
          · exact .inr ⟨c',List.mem_cons_of_mem _ hx⟩
      · obtain ⟨cl,e1,e2,e3⟩:=ih acc (fun x hx=>h1 x (List.mem_cons_of_mem _ hx)) h2
        refine ⟨cl,?_,e2,fun x hx=>e3 x ?_⟩
        · dsimp only
          rw [if_neg q]; exact e1
        · rcases hx with hx | hx
          · rcases List.mem_cons.mp hx with e | hx
            · cases e; exact absurd rfl q
            · exact .inl hx
          · exact .inr hx
  obtain ⟨cl,e1,e2,e3⟩:=key scope.names [] h (fun _ _ h=>(nomatch h))
  refine ⟨cl,?_,e2,fun x hx=>?_⟩
  · unfold closureFor
    show (forIn scope.names [] _ >>= fun r=>pure r) = _
    exact (congrArg (· >>= fun r=>pure r) e1)
  · obtain ⟨c,hc⟩:=e3 x (.inl hx)
    rw [e2 x c hc]
    cases q : cl.lookup x with
    | some c'=>exact (e2 x c' (mem_of_lookup q)).symm.trans (e2 x c hc)
    | none=>
      exfalso
      clear e1 e2 e3 key h hx
      induction cl with
      | nil=>cases hc
      | cons p r ih=>
        rw [List.lookup_cons] at q
        split at q
        · cases q
        · rename_i hb
          rcases List.mem_cons.mp hc with e | hc
          · subst e; simp at hb
          · exact ih hc q
structure Ctx where
  K:Frag
  sc : Scope
  sl : Sl
  cd:Bool
noncomputable abbrev postB (g:G) (s:Shared) (σ:Sg) (P:Bool→Sg→Prop) (b:Bool) (s' : Shared):Prop:=endW g s σ (P b) s'
noncomputable def Snd (g:G) (C:Ctx) (e:Expr) (c:CE):Prop:=∀ d A env ρ s σ Q,FrameIs g σ s.heap env C.sc C.sl ρ→Rep g σ s→AOk d A→wpE g d c ρ Q σ→wpAny (M g) A (eval e env) (post g s σ Q) nope s
noncomputable def SndT (g:G) (C:Ctx) (e:Expr) (c:CE):Prop:=∀ d A env ρ s σ P,FrameIs g σ s.heap env C.sc C.sl ρ→Rep g σ s→AOk d A→wpE g d c ρ (fun v σ'=>truthW v P σ') σ→
  wpAny (M g) A (isTrue e env (eval e env)) (postB g s σ P) nope s
theorem Rep.off {g:G} {σ:Sg} {s:Shared} (R : Rep g σ s) {h' : Heap} {t:Nat} {F:Addr→Prop} (k : ∀ b o, ¬ F b→s.heap.get? b = some o→h'.get? b = some o)
    (hF : ∀ b,F b→σ b = none∧g.h₀.get? b = none) (fk : FixKeep s.heap h') : Rep g σ { s with heap:=h',toks:=t }:=by
  refine ⟨fun b o e=>k b o (fun f=>by rw [(hF b f).2] at e; cases e) (R.keep b o e),R.gens,R.os,fun b ob e=>?_,R.new⟩
  have x:=R.objs b ob e
  obtain ⟨o,e1,_⟩:=x.live
  refine x.keeps fk ?_
  rw [e1]
  exact k b o (fun f=>by rw [(hF b f).1] at e; cases e) e1
theorem Step.off {s₀ s:Shared} {σ₀ σ:Sg} (x : Step s₀ σ₀ s σ) {h' : Heap} {t:Nat} {F:Addr→Prop} (k : ∀ b o, ¬ F b→s.heap.get? b = some o→h'.get? b = some o)
    (hF : ∀ b,F b→s₀.heap.get? b = none) : Step s₀ σ₀ { s with heap:=h',toks:=t } σ:=
  ⟨fun a o n e=>k a o (fun f=>by rw [hF a f] at e; cases e) (x.keep a o n e),x.dom⟩
theorem Rep.none0 {g:G} {σ:Sg} {s:Shared} (R : Rep g σ s) {a:Addr} (e : s.heap.get? a = none) : g.h₀.get? a = none:=by
  cases q : g.h₀.get? a with
  | none=>rfl
  | some o=>rw [R.keep _ _ q] at e; cases e
theorem Rep.at1 {g:G} {σ:Sg} {s:Shared} (R : Rep g σ s) {I:Addr} (free : ∃ o,s.heap.get? I = some o∧¬ fixedObj o) {h' : Heap} {t:Nat} (k : ∀ b o,b ≠ I→s.heap.get? b = some o→h'.get? b = some o) (sI : σ I = none) (h0 : g.h₀.get? I = none) : Rep g σ { s with heap:=h',toks:=t }:=
  let ⟨_,e,n⟩:=free; R.off (F:=(· = I)) k (fun _ z=>z ▸ ⟨sI,h0⟩) (fix_of e n k)
theorem Step.at1 {s₀ s:Shared} {σ₀ σ:Sg} (x : Step s₀ σ₀ s σ) {I:Addr} (f : s₀.heap.get? I = none) {h' : Heap} {t:Nat} (k : ∀ b o,b ≠ I→s.heap.get? b = some o→h'.get? b = some o) : Step s₀ σ₀ { s with heap:=h',toks:=t } σ:=
  x.off (F:=(· = I)) k fun _ z=>z ▸ f
theorem Rep.track' {g:G} {σ:Sg} {s:Shared} (R : Rep g σ s) {a:Addr} {o:AObj} (h0 : g.h₀.get? a = none) (ho : ObjIs g s.heap a o) : Rep g (upd σ a o) s:=by
  refine ⟨R.keep,R.gens,R.os,fun b ob e=>?_,fun b ob e=>?_⟩
  · by_cases h : b = a
    · subst h; rw [upd_same] at e; cases e; exact ho
    · rw [upd_ne h] at e; exact R.objs b ob e
  · by_cases h : b = a
    · subst h; exact h0
    · rw [upd_ne h] at e; exact R.new b ob e
theorem Step.track' {s₀ s:Shared} {σ₀ σ:Sg} (x : Step s₀ σ₀ s σ) {a:Addr} {o:AObj} (h : s₀.heap.get? a = none) : Step s₀ σ₀ s (upd σ a o):=by
  refine ⟨x.keep,fun b hb=>?_⟩
  by_cases q : b = a
  · subst q; exact .inr h
  · rw [upd_ne q] at hb; exact x.dom b hb
theorem owned_go {g:G} {A:Around} {s:Shared} {I:Addr} {target:Expr} {v:Value} {Q : Unit→Shared→Prop} (x : OwnIt s.heap I) (h : Q () s) : wpAny (M g) A (letOwnedTupleGo target (.ref I) v) Q nope s:=by
  obtain ⟨o,n,vs,e,c,dd,hn⟩:=x
  have hn:=(Bool.or_eq_false_iff.mp hn).1
  have key : wpAny (M g) A (match (Value.ref I),v with
    | .ref r, .ref a=>do
      let o ← load r
      match o.cls,o.data with
      | .type n, .fields vs=>
        if (ownL.contains n && vs[0]? == some (rawInt a)) = true then do
          rule "for.unpacks-the-owned-tuple"
          updateField r 0 .none
        else pure ()
      | _,_=>pure ()
    | _,_=>pure ()) Q nope s:=by
    cases v with
    | ref a=>
      refine wpAny_bind (wpAny_load e ?_)
      rw [c,dd]
      dsimp only
      rw [hn,Bool.false_and,if_neg Bool.false_ne_true]
      exact wpAny_pure h
    | _=>exact wpAny_pure h
  cases target <;> first | exact wpAny_pure h | (cases v <;> exact key)
theorem lookup_map {f:Str→NameKind→NameKind} : ∀ {names:List (Str × NameKind)} {x:Str},(names.map fun p=>(p.1,f p.1 p.2)).lookup x = (names.lookup x).map (f x)
  | [],_=>rfl
  | (n,k) :: r,x=>by
    rw [List.map_cons,List.lookup_cons,List.lookup_cons]
    by_cases h : x = n
    · subst h; simp
    · have : (x == n) = false:=beq_eq_false_iff_ne.mpr h
      rw [this]; exact lookup_map
noncomputable def relK (env:Env) (n:Str) (k : NameKind) : NameKind:=if (k == .free && env.scope.kind == .function && env.kindOf n == some .cell) = true then .cell else k
theorem relabel_lookup (scope : Scope) (env:Env) (x:Str) : (relabel scope env).names.lookup x = (scope.names.lookup x).map (relK env x):=by
  rw [← lookup_map (f:=relK env)]
  unfold relabel relK
  dsimp only
  congr 1
  apply List.map_congr_left
  rintro ⟨n,k⟩ _
  dsimp only
  split <;> rfl
structure CompOk (C:Ctx) (scope : Scope) (tg caps:List Str) (cap:List Nat):Prop where
  kind : scope.kind = .function
  nocell : ∀ x ∈ scope.names,x.2 ≠ .cell
  nodup : (scope.names.map (·.1)).Nodup
  tgs : ∀ t ∈ tg,scope.names.lookup t = some .local
  capsAre : ∀ x,(x,NameKind.free) ∈ scope.names ↔ x ∈ caps
  len : cap.length = caps.length
  at_ : ∀ (j:Nat) x (i:Nat),caps[j]? = some x→cap[j]? = some i→C.sl[i]? = some (x,true)
  sl : ((tg.map (·,false) ++ caps.map (·,true) : Sl).map (·.1)).Nodup
noncomputable def compSl (tg caps:List Str) : Sl:=tg.map (·,false) ++ caps.map (·,true)
theorem lookup_of_mem {α : Type} : ∀ {l:List (Str × α)} {n:Str} {c : α},(l.map (·.1)).Nodup→(n,c) ∈ l→l.lookup n = some c
  | (k,v) :: r,n,c,hn,h=>by
    rw [List.map_cons,List.nodup_cons] at hn
    rw [List.lookup_cons]
    rcases List.mem_cons.mp h with e | h
    · cases e; simp
    · have : n ≠ k:=fun e=>hn.1 (e ▸ List.mem_map_of_mem (f:=(·.1)) h)
      rw [beq_eq_false_iff_ne.mpr this]
      exact lookup_of_mem hn.2 h
theorem FrameIs.comp {g:G} {σ:Sg} {h:Heap} {env:Env} {C:Ctx} {ρ:Env'} {scope : Scope} {tg caps:List Str} {cap:List Nat} {cl:List (Str × Addr)} {L:Addr} {m:Str→Option Value} {tv:Env'}
    (F : FrameIs g σ h env C.sc C.sl ρ) (K : CompOk C scope tg caps cap) (c1 : ∀ x c,(x,c) ∈ cl→env.cells.lookup x = some c) (c2 : ∀ x,(x,NameKind.free) ∈ scope.names→cl.lookup x = env.cells.lookup x)
    (hm : h.Ns L m) (hl : σ L = none) (h0 : g.h₀.get? L = none) (hc : ∀ x c,env.cells.lookup x = some c→c ≠ L) (ht : tv.length = tg.length)
    (hv : ∀ (j:Nat) x v,tg[j]? = some x→tv[j]? = some (some v)→∃ val,m x = some val∧VIs h val v) :
    FrameIs g σ h (compEnvC scope cl L env) scope (compSl tg caps) (tv ++ cap.map fun i=>ρ.getD i none):=by
  have cell : ∀ (j:Nat) x,caps[j]? = some x→∃ i,cap[j]? = some i∧C.sl[i]? = some (x,true):=by
    intro j x e
    have hj:=(List.getElem?_eq_some_iff.mp e).1
    have : j < cap.length:=by rw [K.len]; exact hj
    exact ⟨cap[j],by simp [this],K.at_ j x _ e (by simp [this])⟩
  have cl0 : ∀ x c,cl.lookup x = some c→env.cells.lookup x = some c:=fun x c e=>c1 x c (mem_of_lookup e)
  refine ⟨K.kind,F.glob,F.blt,fun x e=>?_,fun i x b e=>?_,?_,K.sl,hl,h0,⟨m,hm,fun i x v a b=>?_⟩,fun i x a=>?_,fun x c e=>?_,fun x y c a b=>F.apart x y c (cl0 x c a) (cl0 y c b)⟩
  · show (relabel scope env).names.lookup x = _
    rw [relabel_lookup,e]; rfl
  · show (relabel scope env).names.lookup x = _
    rw [relabel_lookup]
    unfold compSl at e
    rw [List.getElem?_append] at e
    split at e
    · rw [List.getElem?_map] at e
      cases q : tg[i]? with
      | none=>rw [q] at e; cases e
      | some t=>
        rw [q] at e; cases e
        rw [K.tgs x (List.mem_of_getElem? q)]; rfl
    · rw [List.getElem?_map] at e
      cases q : caps[i - (tg.map (·,false)).length]? with
      | none=>rw [q] at e; cases e
      | some t=>
        rw [q] at e; cases e
        have hm:=(K.capsAre x).mpr (List.mem_of_getElem? q)
        rw [lookup_of_mem K.nodup hm]
        obtain ⟨i',_,e2⟩:=cell _ _ q
        have ks:=F.ks _ _ _ e2
        rw [if_pos rfl] at ks
        simp only [Option.map_some,relK,F.kind,ks,beq_self_eq_true,Bool.and_self,if_true]
  · simp only [compSl,List.length_append,List.length_map,ht,K.len]
  · unfold compSl at a
    rw [List.getElem?_append] at a b
    simp only [List.length_map] at a
    split at a
    · rename_i hi
      rw [if_pos (by rw [ht]; exact hi)] at b
      rw [List.getElem?_map] at a
      cases q : tg[i]? with
      | none=>rw [q] at a; cases a
      | some t=>rw [q] at a; cases a; exact hv i _ v q b
    · rw [List.getElem?_map] at a
      cases q : caps[i - tg.length]? with
      | none=>rw [q] at a; cases a
      | some t=>rw [q] at a; cases a
  · unfold compSl at a
    rw [List.getElem?_append] at a
    simp only [List.length_map] at a
    split at a
    · rw [List.getElem?_map] at a
      cases q : tg[i]? with
      | none=>rw [q] at a; cases a
      | some t=>rw [q] at a; cases a
    · rename_i hi
      rw [List.getElem?_map] at a
      cases q : caps[i - tg.length]? with
      | none=>rw [q] at a; cases a
      | some t=>
        rw [q] at a; cases a
        obtain ⟨i',e1,e2⟩:=cell _ _ q
        obtain ⟨c,v₀,e3,e4,e5⟩:=F.cells _ _ e2
        refine ⟨c,v₀,(c2 x ((K.capsAre x).mpr (List.mem_of_getElem? q))).trans e3,e4,fun v b=>e5 v ?_⟩
        rw [List.getElem?_append,if_neg (by rw [ht]; exact hi),ht,List.getElem?_map,e1] at b
        simp only [Option.map_some,Option.some.injEq,List.getD] at b
        cases q2 : ρ[i']? with
        | none=>rw [q2] at b; cases b
        | some u=>rw [q2] at b; exact congrArg some b
  · have e':=cl0 x c e
    obtain ⟨a1,a2,a3,a4⟩:=F.cell0 x c e'
    exact ⟨a1,a2,hc x c e',a4⟩
section
variable {prog : Program} {w:World} {A:Around} {E:Value→Shared→Prop} {R : Result→Shared→Prop} {s:Shared}
theorem comp_loop {elt target iter:Expr} {ifs:List Expr} {scope : Scope} {pos:Pos} {it acc:Value} {env:Env} (I:Nat→Shared→Prop)
    (turn : ∀ n s,I n s→wpAny (model prog w) A (pyNext it) (fun r s₁=>match r with
      | none=>R (.ok .next) s₁
      | some v=>wpAny (model prog w) A (letOwnedTupleGo target it v) (fun _ s₁'=>wpAny (model prog w) A (assign target env v) (fun _ s₂=>
          wpAny (model prog w) A (forIn ifs true fun c r=>if r = true then do let ok ← isTrue c env (eval c env); pure (ForInStep.yield ok) else pure (ForInStep.yield r)) (fun ok s₃=>
            if ok = true then wpAny (model prog w) A (eval elt env) (fun x s₄=>
              wpAny (model prog w) A (call (.builtin "list.append") [acc,x]) (fun _ s₅=>∃ m,m < n∧I m s₅) nope s₄) nope s₃
            else ∃ m,m < n∧I m s₃) nope s₂) nope s₁') nope s₁) nope s)
    (n:Nat) (h : I n s) : codeAny (model prog w) A (.compLoop (.ListComp elt [⟨target,iter,ifs,0⟩] scope pos) 0 it acc env) R s:=by
  have nx : ∀ {E' : Value→Shared→Prop} v s',nope v s'→E' v s':=fun _ _ f=>f.elim
  refine codeAny_loop rfl I (fun n s hI=>?_) n h
  show wpAny _ A ((compTurn (.ListComp elt [⟨target,iter,ifs,0⟩] scope pos) 0 it acc env).onRaise (fun x=>do noteFrame x env; theTreesLotGoes x)) _ _ s
  refine wpAny_noted ?_
  rw [compTurn_list]
  refine wpAny_bind (wpAny_standAt (wpAny_bind (wpAny_mono (turn n s hI) (fun r s₁ h₁=>?_) nx)))
  cases r with
  | none=>exact wpAny_pure h₁
  | some v=>
    refine wpAny_bind (wpAny_mono h₁ (fun _ s₁' h₁'=>?_) nx)
    refine wpAny_bind (wpAny_mono h₁' (fun _ s₂ h₂=>wpAny_bind (wpAny_mono h₂ (fun ok s₃ h₃=>?_) nx)) nx)
    cases ok with
    | false=>exact wpAny_pure ⟨rfl,h₃⟩
    | true=>
      exact wpAny_bind (wpAny_bind (wpAny_mono h₃ (fun x s₄ h₄=>wpAny_bind (wpAny_mono h₄ (fun _ s₅ h₅=>wpAny_pure (wpAny_pure ⟨rfl,h₅⟩)) nx)) nx))
end
inductive TgtIs:Expr→List Str→Prop
  | one {x:Str} {p:Pos} : TgtIs (.Name x p) [x]
  | two {a b:Str} {pa pb p:Pos} {k:Nat} (h : a ≠ b) : TgtIs (.Tuple [.Name a pa, .Name b pb] k p) [a,b]
theorem bindT2 {y:V} {cap ρ' : Env'} (h : bindT 2 y cap = some ρ') : ∃ ya yb,y = .tup [ya,yb]∧ρ' = some ya :: some yb :: cap:=by
  cases y with
  | tup ys=>
    cases ys with
    | nil=>cases h
    | cons a r=>cases r with
      | nil=>cases h
      | cons b r=>cases r with
        | nil=>cases h; exact ⟨a,b,rfl,rfl⟩
        | cons c r=>cases h
  | _=>cases h
theorem assign_tgt {g:G} {A:Around} {s:Shared} {env:Env} {tgt:Expr} {tg:List Str} {m:Str→Option Value} {y:V} {cap ρ' : Env'} {v:Value} {Q : Unit→Shared→Prop} (ht : TgtIs tgt tg)
    (hk : ∀ x ∈ tg,env.kindOf x = some .local) (hs : env.scope.kind = .function) (hh : A.handled = none) (hm : s.heap.Ns env.locals m) (hb : bindT tg.length y cap = some ρ') (hv : VIs s.heap v y)
    (h : ∀ h' tk m' tv,ρ' = tv ++ cap→tv.length = tg.length→h'.Ns env.locals m'→(∀ (j:Nat) x u,tg[j]? = some x→tv[j]? = some (some u)→∃ val,m' x = some val∧VIs h' val u)→
      (∀ b o,b ≠ env.locals→s.heap.get? b = some o→h'.get? b = some o)→Q () { s with heap:=h',toks:=tk }) : wpAny (M g) A (assign tgt env v) Q nope s:=by
  have hp : (env.scope.kind == .class || (env.scope.kind == .module && env.locals != env.globals)) = false:=by rw [hs]; rfl
  obtain ⟨oL,eL,fL⟩:=ns_free hm
  cases ht with
  | @one x px=>
    cases hb
    refine wpAny_assign_Name (wpAny_storeName_local (hk x (by exact List.mem_cons_self ..)) hm (fun h' hn sb=>?_) hp)
    have k : ∀ b o,b ≠ env.locals→s.heap.get? b = some o→h'.get? b = some o:=fun b o n e=>(sb.2 b n).trans e
    refine h h' _ _ [some y] rfl rfl hn (fun j x' u e1 e2=>?_) k
    cases j with
    | zero=>cases e1; cases e2; exact ⟨v,by simp,hv.keeps (fix_of eL fL k)⟩
    | succ j=>cases e1
  | @two a b pa pb x1 tp hab=>
    obtain ⟨ya,yb,rfl,rfl⟩:=bindT2 hb
    obtain ⟨t,o,⟨items⟩,n,rfl,e1,c,dd,vl⟩:=hv.inv_tup
    obtain ⟨va,vb,rfl,hva,hvb⟩:=vl.inv2
    refine assign_Tuple_tuple hh (items:=#[va,vb]) ⟨o,e1,c,n,dd⟩ rfl rfl fun h₁ eb=>?_
    have k1 : ∀ b o,s.heap.get? b = some o→h₁.get? b = some o:=fun b o e=>eb b o (Nat.ne_of_lt (Heap.lt_size e)) e
    have hm1 : h₁.Ns env.locals m:=hm.at' fun o e=>k1 _ _ e
    refine assignInOrder_cons (wpAny_assign_Name (wpAny_storeName_local (hk a (by exact List.mem_cons_self ..)) hm1 (fun h₂ hn₂ sb₂=>?_) hp))
    refine assignInOrder_cons (wpAny_assign_Name (wpAny_storeName_local (hk b (by exact .tail _ (.head _))) hn₂ (fun h₃ hn₃ sb₃=>?_) hp))
    refine assignInOrder_nil ?_
    have k : ∀ b o,b ≠ env.locals→s.heap.get? b = some o→h₃.get? b = some o:=fun b o n e=>(sb₃.2 b n).trans ((sb₂.2 b n).trans (k1 b o e))
    have fk:=fix_of eL fL k
    refine h h₃ _ _ [some ya,some yb] rfl rfl hn₃ (fun j x' u e1 e2=>?_) k
    cases j with
    | zero=>cases e1; cases e2; exact ⟨va,by simp [hab],hva.keeps fk⟩
    | succ j=>cases j with
      | zero=>cases e1; cases e2; exact ⟨vb,by simp,hvb.keeps fk⟩
      | succ j=>cases e1
inductive CompEnd (g:G) (s:Shared) (σ:Sg) (Kf:List V→Sg→Prop) (D L:Addr) (s' : Shared):Prop
  | mk (vs:List V) (σ' : Sg) (m:Str→Option Value) (R : Rep g σ' s') (S : Step s σ s' σ') (oD : ObjIs g s'.heap D (.list vs)) (hm : s'.heap.Ns L m) (W : Kf vs σ') (sD : σ' D = none) (sL : σ' L = none) (fD : s.heap.get? D = none) (fL : s.heap.get? L = none) (ne : D ≠ L)
theorem ns_at {h h' : Heap} {a:Addr} {m} (x : h.Ns a m) (e : h'.get? a = h.get? a) : h'.Ns a m:=x.at' fun o eo=>e.trans eo
structure Own3 (g:G) (s:Shared) (D I L:Addr):Prop where
  fD : s.heap.get? D = none
  fI : s.heap.get? I = none
  fL : s.heap.get? L = none
  gD : g.h₀.get? D = none
  gI : g.h₀.get? I = none
  gL : g.h₀.get? L = none
  ID : I ≠ D
  IL : I ≠ L
  DL : D ≠ L
structure Lp (g:G) (A:Around) (x:V) (xs:List V) (ep:Nat) (s:Shared) (σ:Sg) (D I L:Addr) (St:Nat→Heap→Prop) (i:Nat) (vs:List V) (m:Str→Option Value) (s' : Shared) (σ' : Sg):Prop where
  It : Iter g A x xs ep I St
  N : Own3 g s D I L
  R : Rep g σ' s'
  S : Step s σ s' σ'
  st : St i s'.heap
  oD : ObjIs g s'.heap D (.list vs)
  hm : s'.heap.Ns L m
  sD : σ' D = none
  sI : σ' I = none
  sL : σ' L = none
section
variable {g:G} {A:Around} {x:V} {xs:List V} {ep:Nat} {s:Shared} {σ:Sg} {D I L:Addr} {St:Nat→Heap→Prop} {i:Nat} {vs:List V} {m:Str→Option Value} {s' : Shared} {σ' : Sg}
theorem at_eq {h h' : Heap} {a:Addr} (free : ∃ o,h.get? a = some o∧¬ fixedObj o) (k : ∀ o,h.get? a = some o→h'.get? a = some o) : h'.get? a = h.get? a:=by
  obtain ⟨o,e,_⟩:=free
  rw [e]; exact k o e
theorem Lp.freeI (X : Lp g A x xs ep s σ D I L St i vs m s' σ') : ∃ o,s'.heap.get? I = some o∧¬ fixedObj o:=X.It.live _ _ X.st
theorem Lp.step (X : Lp g A x xs ep s σ D I L St i vs m s' σ') {s₂:Shared} {σ₂:Sg} (R : Rep g σ₂ s₂) (S : Step s' σ' s₂ σ₂) : Lp g A x xs ep s σ D I L St i vs m s₂ σ₂:=by
  have fk:=S.tup X.R
  have gone : ∀ {a},(∃ o,s'.heap.get? a = some o∧¬ fixedObj o)→σ' a = none→σ₂ a = none:=fun ⟨_,e,_⟩ h=>S.gone h e
  exact ⟨X.It,X.N,R,X.S.trans S,X.It.frame _ _ _ X.st fk (at_eq X.freeI fun o e=>S.keep _ o X.sI e),X.oD.keeps fk (at_eq X.oD.live fun o e=>S.keep _ o X.sD e),ns_at X.hm (at_eq (ns_free X.hm) fun o e=>S.keep _ o X.sL e),
    gone X.oD.live X.sD,gone X.freeI X.sI,gone (ns_free X.hm) X.sL⟩
theorem Lp.item (X : Lp g A x xs ep s σ D I L St i vs m s' σ') {h' : Heap} {t:Nat} (k : ∀ b o,b ≠ I→s'.heap.get? b = some o→h'.get? b = some o) {j:Nat} (st : St j h') : Lp g A x xs ep s σ D I L St j vs m { s' with heap:=h',toks:=t } σ':=
  let ⟨_,e,n⟩:=X.freeI
  ⟨X.It,X.N,X.R.at1 X.freeI k X.sI X.N.gI,X.S.at1 X.N.fI k,st,X.oD.keeps (fix_of e n k) (at_eq X.oD.live fun o e=>k _ o X.N.ID.symm e),ns_at X.hm (at_eq (ns_free X.hm) fun o e=>k _ o X.N.IL.symm e),X.sD,X.sI,X.sL⟩
theorem Lp.fin (X : Lp g A x xs ep s σ D I L St i vs m s' σ') {h' : Heap} {t:Nat} (k : ∀ b o,b ≠ I→s'.heap.get? b = some o→h'.get? b = some o) {Kf:List V→Sg→Prop} (W : Kf vs σ') : CompEnd g s σ Kf D L { s' with heap:=h',toks:=t }:=
  let ⟨_,e,n⟩:=X.freeI
  ⟨vs,σ',m,X.R.at1 X.freeI k X.sI X.N.gI,X.S.at1 X.N.fI k,X.oD.keeps (fix_of e n k) (at_eq X.oD.live fun o e=>k _ o X.N.ID.symm e),ns_at X.hm (at_eq (ns_free X.hm) fun o e=>k _ o X.N.IL.symm e),W,X.sD,X.sL,X.N.fD,X.N.fL,X.N.DL⟩
theorem Lp.bind (X : Lp g A x xs ep s σ D I L St i vs m s' σ') {h' : Heap} {t:Nat} {m' : Str→Option Value} (k : ∀ b o,b ≠ L→s'.heap.get? b = some o→h'.get? b = some o) (hm : h'.Ns L m') : Lp g A x xs ep s σ D I L St i vs m' { s' with heap:=h',toks:=t } σ':=
  let ⟨_,e,n⟩:=ns_free X.hm
  have fk:=fix_of e n k
  ⟨X.It,X.N,X.R.at1 (ns_free X.hm) k X.sL X.N.gL,X.S.at1 X.N.fL k,X.It.frame _ _ _ X.st fk (at_eq X.freeI fun o e=>k _ o X.N.IL e),X.oD.keeps fk (at_eq X.oD.live fun o e=>k _ o X.N.DL e),hm,X.sD,X.sI,X.sL⟩
theorem Lp.push (X : Lp g A x xs ep s σ D I L St i vs m s' σ') {items : Array Value} (il : s'.heap.IsList D items) (vl : VIss s'.heap items.toList vs) {u:Value} {ux:V} (hu : VIs s'.heap u ux) (il' : (s'.heap.update D (Obj.mapSeq (·.push u))).IsList D (items.push u)) :
    Lp g A x xs ep s σ D I L St i (vs ++ [ux]) m { s' with heap:=s'.heap.update D (Obj.mapSeq (·.push u)) } σ':=by
  have sb:Heap.SameBut D s'.heap (s'.heap.update D (Obj.mapSeq (·.push u))):=Heap.SameBut.update ..
  have k : ∀ b o,b ≠ D→s'.heap.get? b = some o→(s'.heap.update D (Obj.mapSeq (·.push u))).get? b = some o:=fun b o n e=>(sb.2 b n).trans e
  obtain ⟨o,e,n⟩:=X.oD.live
  have fk:=fix_of e n k
  exact ⟨X.It,X.N,X.R.at1 (t:=s'.toks) X.oD.live k X.sD X.N.gD,X.S.at1 (t:=s'.toks) X.N.fD k,X.It.frame _ _ _ X.st fk (sb.2 I X.N.ID),⟨⟨_,il',by simpa using (vl.keeps fk).append (.cons (hu.keeps fk) .nil)⟩,X.oD.2.mapSeq il⟩,ns_at X.hm (sb.2 L X.N.DL.symm),X.sD,X.sI,X.sL⟩
end
inductive CompInv (g:G) (A:Around) (x:V) (xs:List V) (ep:Nat) (s:Shared) (σ:Sg) (D I L:Addr) (St:Nat→Heap→Prop) (C:List V→List V→Sg→Prop) (n:Nat) (s' : Shared):Prop
  | mk (i:Nat) (vs:List V) (σ' : Sg) (m:Str→Option Value) (hn : n = xs.length - i) (hi : i ≤ xs.length) (hv : vs.length ≤ i) (X : Lp g A x xs ep s σ D I L St i vs m s' σ') (W : C (xs.drop i) vs σ')
theorem drop_at {α : Type} {xs:List α} {i:Nat} {y : α} (h : xs[i]? = some y) : xs.drop i = y :: xs.drop (i + 1):=by
  obtain ⟨hlt,e⟩:=List.getElem?_eq_some_iff.mp h
  rw [List.drop_eq_getElem_cons hlt,e]
theorem comp_core {g:G} (Hg : GOk g) {d:Nat} {C:Ctx} {scope : Scope} {tg caps:List Str} {cap:List Nat} (K : CompOk C scope tg caps cap) {elt tgt iter:Expr} {ce:CE} (ht : TgtIs tgt tg) (he : Snd g ⟨C.K,scope,compSl tg caps,C.cd⟩ elt ce)
    {ifs:List Expr} {t:Env'→(Bool→Sg→Prop)→Sg→Prop}
    (hT : ∀ A env ρ s σ P,FrameIs g σ s.heap env scope (compSl tg caps) ρ→Rep g σ s→AOk d A→t ρ P σ→
      wpAny (M g) A (forIn ifs true fun c r=>if r = true then do let ok ← isTrue c env (eval c env); pure (ForInStep.yield ok) else pure (ForInStep.yield r)) (postB g s σ P) nope s)
    {A:Around} {env:Env} {ρ:Env'} {s:Shared} {σ:Sg} {x:V} {p:List V × Nat} {xv:Value} {Kf:List V→Sg→Prop} {RR:Value→Addr→Result→Shared→Prop} {pos:Pos} {cl:List (Str × Addr)}
    (c1 : ∀ x c,(x,c) ∈ cl→env.cells.lookup x = some c) (c2 : ∀ x,(x,NameKind.free) ∈ scope.names→cl.lookup x = env.cells.lookup x)
    (F : FrameIs g σ s.heap env C.sc C.sl ρ) (R : Rep g σ s) (O : AOk d A) (hx : VIs s.heap xv x) (hsrc : srcOf g σ x = some p) (hlen : p.1.length ≤ big)
    (W : compW (fun y P σ₂=>bound (bindT tg.length y (cap.map fun i=>ρ.getD i none)) fun ρ'=>t ρ' P σ₂) (fun y K σ₂=>bound (bindT tg.length y (cap.map fun i=>ρ.getD i none)) fun ρ'=>wpE g d ce ρ' K σ₂) (fun σ₂=>srcOf g σ₂ x = some p) p.1 [] Kf σ)
    (hfin : ∀ D L s',CompEnd g s σ Kf D L s'→RR (.ref D) L (.ok .next) s') :
    wpAny (M g) A (pyIter xv) (fun it s₂=>wpAny (M g) A (newList []) (fun acc s₃=>wpAny (M g) A (newFunctionEnv scope env.globals cl [] env.qual none .none (some env)) (fun cenv s₄=>
      codeAny (M g) A (.compStart (.ListComp elt [⟨tgt,iter,ifs,0⟩] scope pos) 0 it acc { cenv with scope:=relabel scope env }) (RR acc cenv.locals) s₄) nope s₃) nope s₂) nope s:=by
  obtain ⟨xs,ep⟩:=p
  refine iter_start Hg hsrc hlen R O hx fun I St h₂ It st0 fI k₂=>?_
  refine wpAny_newObj_type (wpAny_newFunctionEnv K.nocell (by intro y hy; simp at hy) (fun h₄ hns₄ hsb₄=>?_) K.kind)
  dsimp only at hns₄ hsb₄ ⊢
  generalize hD : h₂.objs.size = D at hns₄ hsb₄ ⊢
  generalize hH3 : h₂.push { cls:=.type "list",dict:=none,data:=.seq ([] : List Value).toArray } = h₃ at hns₄ hsb₄ ⊢
  generalize hL : h₃.objs.size = L at hns₄ hsb₄ ⊢
  have g3 : ∀ b o,h₂.get? b = some o→h₃.get? b = some o:=fun b o e=>hH3 ▸ Heap.get?_push_of_some _ e
  have n2 : h₂.get? D = none:=hD ▸ size_none _
  have n3 : h₃.get? L = none:=hL ▸ size_none _
  have d3 : h₃.get? D = some { cls:=.type "list",dict:=none,data:=.seq ([] : List Value).toArray }:=by rw [← hH3, ← hD]; exact Heap.get?_push_size _ rfl
  have g4 : ∀ b o,h₃.get? b = some o→h₄.get? b = some o:=fun b o e=>(hsb₄.2 b fun z=>by subst z; rw [n3] at e; cases e).trans (Heap.get?_push_of_some _ e)
  have kk : ∀ b o,s.heap.get? b = some o→h₄.get? b = some o:=fun b o e=>g4 _ _ (g3 _ _ (k₂ _ _ e))
  have back : ∀ {h h' : Heap} {a},(∀ b o,h.get? b = some o→h'.get? b = some o)→h'.get? a = none→h.get? a = none:=fun {h h' a} k e=>by
    cases q : h.get? a with
    | none=>rfl
    | some o=>rw [k _ _ q] at e; cases e
  have fD:=back k₂ n2
  have fL:=back (fun b o e=>g3 b o (k₂ b o e)) n3
  clear hD hH3 hL hsb₄
  obtain ⟨oI,eI,_⟩:=It.live 0 _ st0
  have eI3:=g3 _ _ eI
  have N : Own3 g s D I L:=⟨fD,fI,fL,R.none0 fD,R.none0 fI,R.none0 fL,fun z=>(by subst z; rw [n2] at eI; cases eI),fun z=>(by subst z; rw [n3] at eI3; cases eI3),fun z=>by subst z; rw [n3] at d3; cases d3⟩
  have st4 : St 0 h₄:=It.frame _ _ _ st0 (FixKeep.of fun b o e=>g4 _ _ (g3 _ _ e)) (by rw [eI]; exact g4 _ _ eI3)
  have d4:=g4 _ _ d3
  have X0 : Lp g A x xs ep s σ D I L St 0 [] _ { s with heap:=h₄,toks:=s.toks + ([] : List (Str × Value)).length } σ:=
    ⟨It,N,R.grow kk,Step.grow kk,st4,⟨⟨#[],⟨_,d4,rfl,_,rfl⟩, .nil⟩,fun o e=>by rw [d4] at e; cases e; rfl⟩,hns₄,fresh_none R fD,fresh_none R fI,fresh_none R fL⟩
  clear d3 d4 n2 n3 g3 g4 kk back eI eI3 k₂ fD fL st0
  have hk' : ∀ x ∈ tg,(compEnvC scope cl L env).kindOf x = some .local:=fun x hx=>by
    show (relabel scope env).names.lookup x = _
    rw [relabel_lookup,K.tgs x hx]; rfl
  have loop : codeAny (M g) A (.compLoop (.ListComp elt [⟨tgt,iter,ifs,0⟩] scope pos) 0 (.ref I) (.ref D) (compEnvC scope cl L env)) (RR (.ref D) L)
      { s with heap:=h₄,toks:=s.toks + ([] : List (Str × Value)).length }:=by
    refine comp_loop (CompInv g A x xs ep s σ D I L St fun ys vs σ'=>compW (fun y P σ₂=>bound (bindT tg.length y (cap.map fun i=>ρ.getD i none)) fun ρ'=>t ρ' P σ₂) (fun y K σ₂=>bound (bindT tg.length y (cap.map fun i=>ρ.getD i none)) fun ρ'=>wpE g d ce ρ' K σ₂) (fun σ₂=>srcOf g σ₂ x = some (xs,ep)) ys vs Kf σ') ?_ xs.length
      ⟨0,[],σ,_,rfl,Nat.zero_le _,Nat.zero_le _,X0,W⟩
    clear X0 W hns₄ st4
    rintro n s' ⟨i,vs,σ',m,rfl,hi,hvi,X,W'⟩
    cases hy : xs[i]? with
    | none=>
      obtain rfl : i = xs.length:=Nat.le_antisymm hi (List.getElem?_eq_none_iff.mp hy)
      rw [List.drop_length] at W'
      refine It.done s' σ' _ X.R W'.1 X.st fun h' tk k=>?_
      exact hfin D L _ (X.fin k W'.2)
    | some y=>
      have hlt:=(List.getElem?_eq_some_iff.mp hy).1
      rw [drop_at hy] at W'
      obtain ⟨stay,W'⟩:=W'
      refine It.item i s' σ' y _ X.R stay X.st hy fun v h₅ tk₅ hv st₅ k₅=>?_
      have X₅:=X.item (t:=tk₅) k₅ st₅
      refine owned_go (s:={ s' with heap:=h₅,toks:=tk₅ }) (It.own _ _ st₅) ?_
      have W' : bound (bindT tg.length y (cap.map fun i=>ρ.getD i none)) _:=W'
      cases hbt : bindT tg.length y (cap.map fun i=>ρ.getD i none) with
      | none=>rw [hbt] at W'; exact W'.elim
      | some ρ'=>
      rw [hbt] at W'
      refine assign_tgt (s:={ s' with heap:=h₅,toks:=tk₅ }) (env:=compEnvC scope cl L env) ht hk' K.kind O.handled X₅.hm hbt hv fun h₆ tk₆ m₆ tv eρ ltv hm₆ hv₆ k₆=>?_
      have X₆:=X₅.bind (t:=tk₆) k₆ hm₆
      have FR : FrameIs g σ' h₆ (compEnvC scope cl L env) scope (compSl tg caps) ρ':=by
        rw [eρ]
        refine (F.step R X₆.S).comp K c1 c2 hm₆ X₆.sL N.gL (fun x c e z=>?_) ltv hv₆
        subst z
        obtain ⟨_,_,_,_,o,e1,_⟩:=F.cell0 x c e
        rw [N.fL] at e1; cases e1
      clear X X₅ hv₆ ltv eρ hm₆ k₆ k₅ st₅ hv stay
      refine wpAny_mono (hT A _ ρ' { s' with heap:=h₆,toks:=tk₆ } σ' _ FR X₆.R O W') (fun ok s₇ h₇=>?_) fun _ _ e=>e
      obtain ⟨σ₇,R₇,S₇,W₇⟩:=h₇
      have X₇:=X₆.step R₇ S₇
      have FR₇:=FR.step X₆.R S₇
      clear FR W' X₆ S₇
      cases ok with
      | false=>exact ⟨_,Nat.sub_lt_sub_left hlt (Nat.lt_succ_self i),i + 1,vs,σ₇,m₆,rfl,hlt,Nat.le_succ_of_le hvi,X₇,W₇⟩
      | true=>
        rw [if_pos rfl] at W₇
        have W₇ : bound (bindT tg.length y (cap.map fun i=>ρ.getD i none)) _:=W₇
        rw [hbt] at W₇
        refine wpAny_mono (he d A _ ρ' s₇ σ₇ _ FR₇ R₇ O W₇) (fun u s₈ h₈=>?_) fun _ _ e=>e
        obtain ⟨ux,σ₈,hu,R₈,S₈,W₈⟩:=h₈
        have X₈:=X₇.step R₈ S₈
        clear X₇ S₈ W₇ FR₇ R₇
        obtain ⟨⟨items,il,vl⟩,nd⟩:=X₈.oD
        refine list_append il (fun il'=>?_) (by rw [line_is, ← Array.length_toList,vl.length]; exact Nat.le_trans hvi (Nat.le_trans hi hlen))
        exact ⟨_,Nat.sub_lt_sub_left hlt (Nat.lt_succ_self i),i + 1,vs ++ [ux],σ₈,m₆,rfl,hlt,by rw [List.length_append]; exact Nat.succ_le_succ hvi,X₈.push il vl hu il',W₈⟩
  exact codeAny_compStart_list loop (wpAny_mono (It.self 0 { s with heap:=h₄,toks:=s.toks + ([] : List (Str × Value)).length } _ st4 loop) (fun _ _ z=>z) fun _ _ f=>f.elim)
theorem nx {g:G} {A:Around} {s:Shared} {α : Type} {m : Sem α} {Q Q' : α→Shared→Prop} (h : wpAny (M g) A m Q nope s) (k : ∀ x s',Q x s'→Q' x s') : wpAny (M g) A m Q' nope s:=wpAny_mono h k fun _ _ e=>e
theorem nxp {g:G} {A:Around} {s s₀:Shared} {σ:Sg} {m : Sem Value} {Q:V→Sg→Prop} {Q' : Value→Shared→Prop} (h : wpAny (M g) A m (post g s σ Q) nope s₀) (k : ∀ v s₁ y σ₁,VIs s₁.heap v y→Rep g σ₁ s₁→Step s σ s₁ σ₁→Q y σ₁→Q' v s₁) : wpAny (M g) A m Q' nope s₀:=
  nx h fun v s₁ p=>by obtain ⟨y,σ₁,a,b,c,d⟩:=p; exact k v s₁ y σ₁ a b c d
theorem nxe {g:G} {A:Around} {s s₀:Shared} {σ:Sg} {α : Type} {m : Sem α} {Q : α→Sg→Prop} {Q' : α→Shared→Prop} (h : wpAny (M g) A m (fun b s'=>endW g s σ (Q b) s') nope s₀) (k : ∀ b s₁ σ₁,Rep g σ₁ s₁→Step s σ s₁ σ₁→Q b σ₁→Q' b s₁) : wpAny (M g) A m Q' nope s₀:=
  nx h fun v s₁ p=>by obtain ⟨σ₁,b,c,d⟩:=p; exact k v s₁ σ₁ b c d
noncomputable abbrev StarF (e:Expr):Prop:=∀ r env,starEach (e :: r) env = (false,eval e env) :: starEach r env
noncomputable abbrev SetF (e:Expr):Prop:=∀ env x,foldedSetIterable e env x = pure x
noncomputable abbrev SupF (e:Expr):Prop:=∀ n env w,attributeBase e n env w = w
noncomputable abbrev CmpF (e:Expr):Prop:=∀ t l env,swapsWith e t l env = pure false
noncomputable abbrev TupF (e:Expr):Prop:=∀ ts k p env,swappedStores [.Tuple ts k p] e env = pure none
noncomputable abbrev AttF (e:Expr):Prop:=∀ o n p l env,swapsWith e (some (.Attribute o n p)) l env = pure false
noncomputable abbrev TstF (e:Expr):Prop:=∀ env w,isTrue e env w = (do let v ← w; standAt e.pos; holding [v] (truthy v))
structure Fct (e:Expr):Prop where
  (star : StarF e) (set : SetF e) (att : AttF e)
noncomputable def SndL (g:G) (C:Ctx) (es:List Expr) (cs:CEs):Prop:=(∀ e ∈ es,StarF e)∧∀ d A env ρ s σ pos Q,FrameIs g σ s.heap env C.sc C.sl ρ→Rep g σ s→AOk d A→wpEs g d cs ρ Q σ→
  wpAny (M g) A (spliced (backTo pos (starEach es env))) (fun vals s'=>∃ vs σ',VIss s'.heap vals vs∧vals.length = es.length∧Rep g σ' s'∧Step s σ s' σ'∧Q vs σ') nope s
theorem VIss.step {g:G} {s s' : Shared} {σ σ' : Sg} {vals:List Value} {vs:List V} (v : VIss s.heap vals vs) (R : Rep g σ s) (x : Step s σ s' σ') : VIss s'.heap vals vs:=v.keeps (x.tup R)
theorem VIs.step {g:G} {s s' : Shared} {σ σ' : Sg} {v:Value} {y:V} (h : VIs s.heap v y) (R : Rep g σ s) (x : Step s σ s' σ') : VIs s'.heap v y:=h.keeps (x.tup R)
section
variable {g:G} (H : GOk g) {C:Ctx}
theorem sndL_nil : SndL g C [] .nil:=⟨fun _ h=>(nomatch h),fun d A env ρ s σ pos Q F R O W=>wpAny_items_nil ⟨[],σ, .nil,rfl,R, .refl _ _,W⟩⟩
theorem sndL_cons {e:Expr} {r:List Expr} {c:CE} {cs:CEs} (hn : StarF e) (he : Snd g C e c) (hr : SndL g C r cs) : SndL g C (e :: r) (.cons c cs):=by
  refine ⟨fun x hx=>by rcases List.mem_cons.mp hx with rfl | hx; exact hn; exact hr.1 x hx,fun d A env ρ s σ pos Q F R O W=>?_⟩
  refine wpAny_items_cons (nxp (he d A env ρ s σ _ F R O W) fun v s₁ x σ₁ hv R₁ S₁ W₁=>?_) (hn r env)
  refine nx (hr.2 d A env ρ s₁ σ₁ pos _ (F.step R S₁) R₁ O W₁) fun vals s₂ ⟨vs,σ₂,hvs,hl,R₂,S₂,W₂⟩=>?_
  exact ⟨x :: vs,σ₂, .cons (hv.step R₁ S₂) hvs,by simp [hl],R₂,S₁.trans S₂,W₂⟩
theorem snd_const {c : Const} {k:Nat} {p:Pos} {v:V} (h : (match c with | .none=>some V.none | .bool b=>some (.bool b) | .int i=>some (.int i) | .str s=>some (.str s.cps.toList) | _=>none) = some v) : Snd g C (.Constant c k p) (.k v):=by
  intro d A env ρ s σ Q F R O W
  cases c <;> simp only [reduceCtorEq,Option.some.injEq] at h <;> subst h
  · exact wpAny_Constant_none (post.here R .none W)
  · exact wpAny_Constant_bool (post.here R (.bool _) W)
  · exact wpAny_Constant_int (post.tok R (.int _ _) W)
  · exact wpAny_Constant_str (post.tok R (.str _ _) W)
theorem snd_var {x:Str} {p:Pos} {i:Nat} {b:Bool} (hd : (x == ("__debug__" : Str)) = false) (hi : C.sl[i]? = some (x,b)) : Snd g C (.Name x p) (.var i):=by
  intro d A env ρ s σ Q F R O W
  have W : atV (ρ.getD i none) fun v=>Q v σ:=W
  cases e : ρ.getD i none with
  | none=>rw [e] at W; exact W.elim
  | some v=>
    rw [e] at W
    have W : Q v σ:=W
    have e' : ρ[i]? = some (some v):=by
      rw [List.getD] at e
      cases q : ρ[i]? with
      | none=>rw [q] at e; cases e
      | some u=>rw [q] at e; exact congrArg some e
    cases b with
    | false=>
      obtain ⟨m,hm,hv⟩:=F.ns
      obtain ⟨val,h1,h2⟩:=hv i x v hi e'
      exact wpAny_Name (wpAny_loadName_local F.kind (F.ks i x false hi) hm h1 (post.here R h2 W)) hd
    | true=>
      obtain ⟨c,v₀,h1,h2,h3⟩:=F.cells i x hi
      obtain ⟨val,rfl,h5⟩:=h3 v e'
      exact wpAny_Name (wpAny_loadName_cell F.kind (F.ks i x true hi) h1 h2 (post.here R h5 W)) hd
noncomputable def val0:Value→Option V
  | .none=>some .none | .bool b=>some (.bool b) | .int i _=>some (.int i) | .str s _=>some (.str s.cps.toList) | .builtin n=>some (.bi n) | .type n=>some (.ty n)
  | _=>none
noncomputable def vals0:List Value→Option (List V)
  | []=>some []
  | v :: r=>(val0 v).bind fun x=>(vals0 r).map (x :: ·)
noncomputable def valV (K:Frag):Value→Option V
  | .ref a=>match K.lookup a with
    | some o=>if o.cls == .type "tuple" then (match o.data with
        | .seq items _=>(vals0 items.toList).map .tup
        | _=>none)
      else if o.cls == .type "dict" then some (.base a) else some (.ref a)
    | none=>none
  | v=>val0 v
theorem val0_is {h:Heap} {v:Value} {x:V} (e : val0 v = some x) : VIs h v x:=by
  cases v <;> simp only [val0,reduceCtorEq,Option.some.injEq] at e <;> subst e
  · exact .none
  · exact .bool _
  · exact .int _ _
  · exact .str _ _
  · exact .ty _
  · exact .bi _
theorem vals0_is {h:Heap} : ∀ {vs:List Value} {xs:List V},vals0 vs = some xs→VIss h vs xs
  | [],xs,e=>by cases e; exact .nil
  | v :: r,xs,e=>by
    simp only [vals0,Option.bind_eq_some_iff,Option.map_eq_some_iff] at e
    obtain ⟨x,e1,ys,e2,rfl⟩:=e
    exact .cons (val0_is e1) (vals0_is e2)
set_option tactic.hygienic true in
theorem valV_is {K:Frag} {h:Heap} (X : K.In h) {v:Value} {x:V} (e : valV K v = some x) : VIs h v x:=by
  unfold valV at e
  split at e
  · rename_i a
    split at e
    · rename_i o ho
      split at e
      · rename_i hc
        split at e
        · rename_i items n hd
          obtain ⟨xs,e1,rfl⟩:=Option.map_eq_some_iff.mp e
          exact .tup (X _ _ ho) (by exact of_decide_eq_true hc) hd (vals0_is e1)
        · cases e
      · split at e
        · cases e; exact .base _
        · cases e; exact .ref _
    · cases e
  · exact val0_is e
noncomputable def globVal (K:Frag) (x:Str):Option Value:=match nsIn K mainGlobals x with
  | some (some v)=>some v
  | some none=>if x == "__name__" then none else bootBuiltins x
  | none=>none
set_option tactic.hygienic true in
include H in
theorem glob_eval {x:Str} {p:Pos} {v:Value} {A:Around} {env:Env} {ρ:Env'} {s:Shared} {σ:Sg} {Q:Value→Shared→Prop} (hd : (x == ("__debug__" : Str)) = false) (hk : C.sc.names.lookup x = some .globalImplicit) (hv : globVal g.K x = some v)
    (F : FrameIs g σ s.heap env C.sc C.sl ρ) (R : Rep g σ s) (q : Q v s) : wpAny (M g) A (eval (.Name x p) env) Q nope s:=by
  obtain ⟨pr,loose,mg,mb,T⟩:=H.top
  have TG : s.heap.Ns env.globals mg:=by rw [F.glob]; exact T.g.keeps R.keep
  have TB : s.heap.Ns env.builtins mb:=by rw [F.blt]; exact T.b.keeps R.keep
  unfold globVal at hv
  split at hv
  · rename_i v' e
    cases hv
    exact Name_function_global F.kind (F.kg x hk) (loadGlobal_global TG (mg_of H.kin T.g e) q) hd
  · rename_i e
    split at hv
    · cases hv
    · rename_i hn
      have hn : x ≠ "__name__":=by simpa using hn
      exact Name_function_global F.kind (F.kg x hk) (loadGlobal_builtin TG (mg_none_of H.kin T.g e) TB ((T.builtins x hn).trans hv) q) hd
  · cases hv
include H in
theorem snd_glob {x:Str} {p:Pos} {v:Value} {y:V} (hd : (x == ("__debug__" : Str)) = false) (hk : C.sc.names.lookup x = some .globalImplicit) (hv : globVal g.K x = some v) (hy : valV g.K v = some y) : Snd g C (.Name x p) (.k y):=by
  intro d A env ρ s σ Q F R O W
  exact glob_eval H hd hk hv F R (post.here R (valV_is (R.kin H) hy) W)
theorem snd_bin {l r:Expr} {op : Operator} {p:Pos} {a b:CE} (hl : Snd g C l a) (hr : Snd g C r b) : Snd g C (.BinOp l op r p) (.bin op a b):=by
  intro d A env ρ s σ Q F R O W
  refine wpAny_BinOp (nxp (hl d A env ρ s σ _ F R O W) fun v s₁ x σ₁ hv R₁ S₁ W₁=>nxp (hr d A env ρ s₁ σ₁ _ (F.step R S₁) R₁ O W₁) fun u s₂ y σ₂ hu R₂ S₂ W₂=>?_)
  exact nx (binW_sound W₂ O R₂ (hv.step R₁ S₂) hu) fun _ _ p=>p.trans (S₁.trans S₂)
include H in
theorem snd_cmp {l r:Expr} {op : CmpOp} {p:Pos} {a b:CE} (hm : behindInMarks op r = false) (hl : Snd g C l a) (hr : Snd g C r b) : Snd g C (.Compare l [op] [r] p) (.cmp op a b):=by
  intro d A env ρ s σ Q F R O W
  refine wpAny_Compare1 (nxp (hl d A env ρ s σ _ F R O W) fun v s₁ x σ₁ hv R₁ S₁ W₁=>nxp (hr d A env ρ s₁ σ₁ _ (F.step R S₁) R₁ O W₁) fun u s₂ y σ₂ hu R₂ S₂ W₂=>?_) hm
  exact nx (cmpW_sound H W₂ O R₂ (hv.step R₁ S₂) hu) fun _ _ p=>p.trans (S₁.trans S₂)
theorem truth_bool {A:Around} {s:Shared} {σ:Sg} {v:Value} {x:V} {P:Bool→Sg→Prop} {Q:Bool→Shared→Prop} (hv : VIs s.heap v x) (W : truthW x P σ) (k : ∀ b,x = .bool b→P b σ→Q b s) : wpAny (M g) A (truthy v) Q nope s:=by
  cases x <;> try exact W.elim
  cases hv.inv_bool
  exact wpAny_truthy_bool (k _ rfl W)
include H in
theorem snd_cmp2 {l m r:Expr} {o1 o2 : CmpOp} {p:Pos} {a b c:CE} (hm : behindInMarks o2 r = false) (hl : Snd g C l a) (hmm : Snd g C m b) (hr : Snd g C r c) : Snd g C (.Compare l [o1,o2] [m,r] p) (.cmp2 o1 o2 a b c):=by
  intro d A env ρ s σ Q F R O W
  have e : eval (.Compare l [o1,o2] [m,r] p) env = (do
      let left ← eval l env
      let rv ← holding [left] (eval m env)
      standAt p
      let c ← holding [left,rv] (compareOp o1 left rv)
      release [left,rv] [c]
      if ← holding [c,rv] (truthy c) then (do
        let rv2 ← holding [rv] (markedBehindIn o2 r (eval r env))
        standAt p
        operate [rv,rv2] (compareOp o2 rv rv2)) else pure c):=rfl
  rw [e,markedBehindIn_of_false hm]
  refine wpAny_bind (nxp (hl d A env ρ s σ _ F R O W) fun v s₁ x σ₁ hv R₁ S₁ W₁=>wpAny_bind (wpAny_holding (nxp (hmm d A env ρ s₁ σ₁ _ (F.step R S₁) R₁ O W₁) fun u s₂ y σ₂ hu R₂ S₂ W₂=>?_)))
  refine wpAny_bind (wpAny_standAt (wpAny_bind (wpAny_holding (nxp (cmpW_sound H W₂ O R₂ (hv.step R₁ S₂) hu) fun w s₃ z σ₃ hw R₃ S₃ W₃=>?_))))
  refine wpAny_bind (wpAny_release' (wpAny_bind (wpAny_holding (truth_bool hw W₃ fun t _ W₄=>?_))))
  have S:=(S₁.trans S₂).trans S₃
  cases t with
  | false=>exact wpAny_pure ⟨_,_,by rename_i ez; rw [ez] at hw; exact hw,R₃,S,W₄⟩
  | true=>
    refine wpAny_bind (wpAny_holding (nxp (hr d A env ρ s₃ σ₃ _ (F.step R S) R₃ O W₄) fun k s₄ z' σ₄ hk R₄ S₄ W₅=>?_))
    refine wpAny_bind (wpAny_standAt (wpAny_operate' ?_))
    exact nx (cmpW_sound H W₅ O R₄ ((hu.step R₂ S₃).step R₃ S₄) hk) fun _ _ p=>p.trans (S.trans S₄)
end
section
variable {g:G} (H : GOk g) {C:Ctx}
theorem truth_post {A:Around} {s:Shared} {σ:Sg} {v:Value} {x:V} {P:Bool→Sg→Prop} (hv : VIs s.heap v x) (W : truthW x P σ) (R : Rep g σ s) : wpAny (M g) A (truthy v) (postB g s σ P) nope s:=
  truth_bool hv W fun b _ W=>⟨σ,R, .refl _ _,W⟩
theorem postB.trans {s s₁ s₂:Shared} {σ σ₁:Sg} {P:Bool→Sg→Prop} {b:Bool} (x : Step s σ s₁ σ₁) (p : postB g s₁ σ₁ P b s₂) : postB g s σ P b s₂:=let ⟨σ',a,c,q⟩:=p; ⟨σ',a,x.trans c,q⟩
theorem sndT_of {e:Expr} {c:CE} (h : TstF e) (he : Snd g C e c) : SndT g C e c:=by
  intro d A env ρ s σ P F R O W
  refine wpAny_isTrue_value (nxp (he d A env ρ s σ _ F R O W) fun v s₁ x σ₁ hv R₁ S₁ W₁=>?_) (h env _)
  exact nx (truth_post hv W₁ R₁) fun _ _ p=>p.trans S₁
theorem snd_not {x:Expr} {p:Pos} {c:CE} (hx : Snd g C x c) : Snd g C (.UnaryOp .Not x p) (.not c):=by
  intro d A env ρ s σ Q F R O W
  refine wpAny_UnaryOp (nxp (hx d A env ρ s σ _ F R O W) fun v s₁ y σ₁ hv R₁ S₁ W₁=>not_value (truth_bool hv W₁ fun b _ W=>⟨_,_, .bool _,R₁,S₁,W⟩))
theorem sndT_not {x:Expr} {p:Pos} {c:CE} (hx : SndT g C x c) : SndT g C (.UnaryOp .Not x p) (.not c):=by
  intro d A env ρ s σ P F R O W
  exact wpAny_isTrue_Not (nxe (hx d A env ρ s σ _ F R O W) fun b s₁ σ₁ R₁ S₁ W₁=>⟨σ₁,R₁,S₁,W₁⟩)
theorem snd_neg {i:Int} {k:Nat} {p p' : Pos} : Snd g C (.UnaryOp .USub (.Constant (.int i) k p) p') (.k (.int (-i))):=by
  intro d A env ρ s σ Q F R O W
  exact wpAny_UnaryOp (wpAny_Constant_int (neg_int (post.tok (t:=s.toks + 1 + 1) R (.int _ _) W)))
theorem snd_ite {t a b:Expr} {p:Pos} {ct ca cb:CE} (ht : SndT g C t ct) (ha : Snd g C a ca) (hb : Snd g C b cb) : Snd g C (.IfExp t a b p) (.ite ct ca cb):=by
  intro d A env ρ s σ Q F R O W
  refine wpAny_IfExp (nxe (ht d A env ρ s σ _ F R O W) fun c s₁ σ₁ R₁ S₁ W₁=>?_)
  cases c with
  | true=>exact nx (ha d A env ρ s₁ σ₁ _ (F.step R S₁) R₁ O W₁) fun _ _ p=>p.trans S₁
  | false=>exact nx (hb d A env ρ s₁ σ₁ _ (F.step R S₁) R₁ O W₁) fun _ _ p=>p.trans S₁
inductive SndB (g:G) (C:Ctx):List Expr→CEs→Prop
  | nil : SndB g C [] .nil
  | cons {e:Expr} {r:List Expr} {c:CE} {cs:CEs} : Snd g C e c→SndT g C e c→SndB g C r cs→SndB g C (e :: r) (.cons c cs)
theorem and_cons {d:Nat} {c:CE} {cs:CEs} {ρ:Env'} {Q:V→Sg→Prop} {σ:Sg} (W : wpAnd g d (.cons c cs) ρ Q σ) : wpE g d c ρ (fun x σ₁=>truthW x (fun b σ₂=>if b = true then wpAnd g d cs ρ Q σ₂ else Q (.bool false) σ₂) σ₁) σ∨
    (cs = .nil∧wpE g d c ρ (fun x σ₁=>truthW x (fun b σ₂=>Q (.bool b) σ₂) σ₁) σ):=by
  cases cs with
  | nil=>exact .inr ⟨rfl,W⟩
  | cons a b=>exact .inl W
theorem or_cons {d:Nat} {c:CE} {cs:CEs} {ρ:Env'} {Q:V→Sg→Prop} {σ:Sg} (W : wpOr g d (.cons c cs) ρ Q σ) : wpE g d c ρ (fun x σ₁=>truthW x (fun b σ₂=>if b = true then Q (.bool true) σ₂ else wpOr g d cs ρ Q σ₂) σ₁) σ∨
    (cs = .nil∧wpE g d c ρ (fun x σ₁=>truthW x (fun b σ₂=>Q (.bool b) σ₂) σ₁) σ):=by
  cases cs with
  | nil=>exact .inr ⟨rfl,W⟩
  | cons a b=>exact .inl W
theorem boolOp_cons2 (pos:Pos) (op : BoolOp) (x y : Sem Value) (r:List (Sem Value)) : boolOp pos op (x :: y :: r) = (do
    let v ← x
    standAt pos
    let t ← holding [v] (truthy v)
    match op,t with
    | .And,false | .Or,true=>pure v
    | _,_=>boolOp pos op (y :: r)):=rfl
theorem snd_and {p:Pos} : ∀ {es:List Expr} {cs:CEs},SndB g C es cs→es ≠ []→∀ d A env ρ s σ Q,FrameIs g σ s.heap env C.sc C.sl ρ→Rep g σ s→AOk d A→wpAnd g d cs ρ Q σ→
    wpAny (M g) A (boolOp p .And (evalEach es env)) (post g s σ Q) nope s
  | _,_, .nil,hn=>absurd rfl hn
  | [e],_, .cons he hT .nil,_=>by
    intro d A env ρ s σ Q F R O W
    exact nxp (he d A env ρ s σ _ F R O W) fun v s₁ x σ₁ hv R₁ S₁ W₁=>by
      cases x <;> first | exact W₁.elim | exact ⟨_,σ₁,hv,R₁,S₁,W₁⟩
  | e :: e' :: r,_, .cons he hT (.cons (cs:=cs) he' hT' hr),_=>by
    intro d A env ρ s σ Q F R O W
    show wpAny _ _ (boolOp p .And (eval e env :: eval e' env :: evalEach r env)) _ _ _
    rw [boolOp_cons2]
    refine wpAny_bind (nxp (he d A env ρ s σ _ F R O W) fun v s₁ x σ₁ hv R₁ S₁ W₁=>wpAny_bind (wpAny_standAt (wpAny_bind (wpAny_holding (truth_bool hv W₁ fun b ex W₂=>?_)))))
    cases b with
    | false=>exact wpAny_pure ⟨_,_,by rw [ex] at hv; exact hv,R₁,S₁,W₂⟩
    | true=>exact nx (snd_and (.cons he' hT' hr) (by simp) d A env ρ s₁ σ₁ _ (F.step R S₁) R₁ O W₂) fun _ _ p=>p.trans S₁
theorem snd_or {p:Pos} : ∀ {es:List Expr} {cs:CEs},SndB g C es cs→es ≠ []→∀ d A env ρ s σ Q,FrameIs g σ s.heap env C.sc C.sl ρ→Rep g σ s→AOk d A→wpOr g d cs ρ Q σ→
    wpAny (M g) A (boolOp p .Or (evalEach es env)) (post g s σ Q) nope s
  | _,_, .nil,hn=>absurd rfl hn
  | [e],_, .cons he hT .nil,_=>by
    intro d A env ρ s σ Q F R O W
    exact nxp (he d A env ρ s σ _ F R O W) fun v s₁ x σ₁ hv R₁ S₁ W₁=>by
      cases x <;> first | exact W₁.elim | exact ⟨_,σ₁,hv,R₁,S₁,W₁⟩
  | e :: e' :: r,_, .cons he hT (.cons (cs:=cs) he' hT' hr),_=>by
    intro d A env ρ s σ Q F R O W
    show wpAny _ _ (boolOp p .Or (eval e env :: eval e' env :: evalEach r env)) _ _ _
    rw [boolOp_cons2]
    refine wpAny_bind (nxp (he d A env ρ s σ _ F R O W) fun v s₁ x σ₁ hv R₁ S₁ W₁=>wpAny_bind (wpAny_standAt (wpAny_bind (wpAny_holding (truth_bool hv W₁ fun b ex W₂=>?_)))))
    cases b with
    | true=>exact wpAny_pure ⟨_,_,by rw [ex] at hv; exact hv,R₁,S₁,W₂⟩
    | false=>exact nx (snd_or (.cons he' hT' hr) (by simp) d A env ρ s₁ σ₁ _ (F.step R S₁) R₁ O W₂) fun _ _ p=>p.trans S₁
theorem sndT_and : ∀ {es:List Expr} {cs:CEs},SndB g C es cs→∀ d A env ρ s σ P,FrameIs g σ s.heap env C.sc C.sl ρ→Rep g σ s→AOk d A→wpAnd g d cs ρ (fun v σ'=>truthW v P σ') σ→
    wpAny (M g) A (allTrue .And es env) (postB g s σ P) nope s
  | _,_, .nil=>fun d A env ρ s σ P F R O W=>wpAny_allTrue_And_nil ⟨σ,R, .refl _ _,W⟩
  | _,_, .cons he hT hr=>by
    intro d A env ρ s σ P F R O W
    rcases and_cons W with W | ⟨rfl,W⟩
    · refine wpAny_allTrue_And_cons (nxe (hT d A env ρ s σ _ F R O W) fun b s₁ σ₁ R₁ S₁ W₁=>?_)
      cases b with
      | false=>exact ⟨σ₁,R₁,S₁,W₁⟩
      | true=>exact nx (sndT_and hr d A env ρ s₁ σ₁ _ (F.step R S₁) R₁ O W₁) fun _ _ p=>p.trans S₁
    · cases hr
      refine wpAny_allTrue_And_cons (nxe (hT d A env ρ s σ _ F R O W) fun b s₁ σ₁ R₁ S₁ W₁=>?_)
      cases b with
      | false=>exact ⟨σ₁,R₁,S₁,W₁⟩
      | true=>exact wpAny_allTrue_And_nil ⟨σ₁,R₁,S₁,W₁⟩
theorem sndT_or : ∀ {es:List Expr} {cs:CEs},SndB g C es cs→∀ d A env ρ s σ P,FrameIs g σ s.heap env C.sc C.sl ρ→Rep g σ s→AOk d A→wpOr g d cs ρ (fun v σ'=>truthW v P σ') σ→
    wpAny (M g) A (allTrue .Or es env) (postB g s σ P) nope s
  | _,_, .nil=>fun d A env ρ s σ P F R O W=>wpAny_allTrue_Or_nil ⟨σ,R, .refl _ _,W⟩
  | _,_, .cons he hT hr=>by
    intro d A env ρ s σ P F R O W
    rcases or_cons W with W | ⟨rfl,W⟩
    · refine wpAny_allTrue_Or_cons (nxe (hT d A env ρ s σ _ F R O W) fun b s₁ σ₁ R₁ S₁ W₁=>?_)
      cases b with
      | true=>exact ⟨σ₁,R₁,S₁,W₁⟩
      | false=>exact nx (sndT_or hr d A env ρ s₁ σ₁ _ (F.step R S₁) R₁ O W₁) fun _ _ p=>p.trans S₁
    · cases hr
      refine wpAny_allTrue_Or_cons (nxe (hT d A env ρ s σ _ F R O W) fun b s₁ σ₁ R₁ S₁ W₁=>?_)
      cases b with
      | true=>exact ⟨σ₁,R₁,S₁,W₁⟩
      | false=>exact wpAny_allTrue_Or_nil ⟨σ₁,R₁,S₁,W₁⟩
theorem snd_BoolAnd {es:List Expr} {cs:CEs} {p:Pos} (hn : es ≠ []) (h : SndB g C es cs) : Snd g C (.BoolOp .And es p) (.and cs):=by
  intro d A env ρ s σ Q F R O W
  rw [arm_eval_BoolOp]
  exact snd_and h hn d A env ρ s σ Q F R O W
theorem snd_BoolOr {es:List Expr} {cs:CEs} {p:Pos} (hn : es ≠ []) (h : SndB g C es cs) : Snd g C (.BoolOp .Or es p) (.or cs):=by
  intro d A env ρ s σ Q F R O W
  rw [arm_eval_BoolOp]
  exact snd_or h hn d A env ρ s σ Q F R O W
theorem sndT_BoolAnd {es:List Expr} {cs:CEs} {p:Pos} (h : SndB g C es cs) : SndT g C (.BoolOp .And es p) (.and cs):=by
  intro d A env ρ s σ P F R O W
  exact wpAny_isTrue_BoolOp (sndT_and h d A env ρ s σ P F R O W)
theorem sndT_BoolOr {es:List Expr} {cs:CEs} {p:Pos} (h : SndB g C es cs) : SndT g C (.BoolOp .Or es p) (.or cs):=by
  intro d A env ρ s σ P F R O W
  exact wpAny_isTrue_BoolOp (sndT_or h d A env ρ s σ P F R O W)
theorem sndT_ite {t a b:Expr} {p:Pos} {ct ca cb:CE} (ht : SndT g C t ct) (ha : SndT g C a ca) (hb : SndT g C b cb) : SndT g C (.IfExp t a b p) (.ite ct ca cb):=by
  intro d A env ρ s σ P F R O W
  rw [arm_isTrue_IfExp]
  refine wpAny_bind (nxe (ht d A env ρ s σ _ F R O W) fun c s₁ σ₁ R₁ S₁ W₁=>?_)
  cases c with
  | true=>exact nx (ha d A env ρ s₁ σ₁ _ (F.step R S₁) R₁ O W₁) fun _ _ p=>p.trans S₁
  | false=>exact nx (hb d A env ρ s₁ σ₁ _ (F.step R S₁) R₁ O W₁) fun _ _ p=>p.trans S₁
include H in
theorem sndT_cmp {l r:Expr} {op : CmpOp} {p:Pos} {a b:CE} (hm : behindInMarks op r = false) (hl : Snd g C l a) (hr : Snd g C r b) : SndT g C (.Compare l [op] [r] p) (.cmp op a b):=by
  intro d A env ρ s σ P F R O W
  refine wpAny_isTrue_Compare1 (nxp (hl d A env ρ s σ _ F R O W) fun v s₁ x σ₁ hv R₁ S₁ W₁=>nxp (hr d A env ρ s₁ σ₁ _ (F.step R S₁) R₁ O W₁) fun u s₂ y σ₂ hu R₂ S₂ W₂=>?_) hm
  refine nxp (cmpW_sound H W₂ O R₂ (hv.step R₁ S₂) hu) fun w s₃ z σ₃ hw R₃ S₃ W₃=>?_
  exact nx (truth_post hw W₃ R₃) fun _ _ p=>p.trans ((S₁.trans S₂).trans S₃)
include H in
theorem sndT_cmp2 {l m r:Expr} {o1 o2 : CmpOp} {p:Pos} {a b c:CE} (hm : behindInMarks o2 r = false) (hl : Snd g C l a) (hmm : Snd g C m b) (hr : Snd g C r c) : SndT g C (.Compare l [o1,o2] [m,r] p) (.cmp2 o1 o2 a b c):=by
  intro d A env ρ s σ P F R O W
  have e : isTrue (.Compare l [o1,o2] [m,r] p) env (eval (.Compare l [o1,o2] [m,r] p) env) = (do
      let left ← eval l env
      let rv ← holding [left] (eval m env)
      standAt p
      let c ← holding [left,rv] (compareOp o1 left rv)
      release [left,rv] [c]
      if ← holding [c,rv] (truthy c) then (do
        let rv2 ← holding [rv] (markedBehindIn o2 r (eval r env))
        standAt p
        let c2 ← operate [rv,rv2] (compareOp o2 rv rv2)
        holding [c2] (truthy c2)) else pure false):=rfl
  rw [e,markedBehindIn_of_false hm]
  refine wpAny_bind (nxp (hl d A env ρ s σ _ F R O W) fun v s₁ x σ₁ hv R₁ S₁ W₁=>wpAny_bind (wpAny_holding (nxp (hmm d A env ρ s₁ σ₁ _ (F.step R S₁) R₁ O W₁) fun u s₂ y σ₂ hu R₂ S₂ W₂=>?_)))
  refine wpAny_bind (wpAny_standAt (wpAny_bind (wpAny_holding (nxp (cmpW_sound H W₂ O R₂ (hv.step R₁ S₂) hu) fun w s₃ z σ₃ hw R₃ S₃ W₃=>?_))))
  refine wpAny_bind (wpAny_release' (wpAny_bind (wpAny_holding (truth_bool hw W₃ fun t ez W₄=>?_))))
  have S:=(S₁.trans S₂).trans S₃
  cases t with
  | false=>exact wpAny_pure ⟨_,R₃,S,W₄⟩
  | true=>
    refine wpAny_bind (wpAny_holding (nxp (hr d A env ρ s₃ σ₃ _ (F.step R S) R₃ O W₄) fun k s₄ z' σ₄ hk R₄ S₄ W₅=>?_))
    refine wpAny_bind (wpAny_standAt (wpAny_bind (wpAny_operate' ?_)))
    refine nxp (cmpW_sound H W₅ O R₄ ((hu.step R₂ S₃).step R₃ S₄) hk) fun c s₅ z5 σ₅ hc R₅ S₅ W₆=>wpAny_holding ?_
    exact nx (truth_post hc W₆ R₅) fun _ _ p=>p.trans ((S.trans S₄).trans S₅)
include H in
theorem snd_attr {o:Expr} {n:Str} {i:Nat} {p:Pos} {c:CE} (hs : SupF o) (hn : nm i = n) (ho : Snd g C o c) : Snd g C (.Attribute o n p) (.attr c i):=by
  intro d A env ρ s σ Q F R O W
  subst hn
  refine Attribute_any_ (nxp (ho d A env ρ s σ _ F R O W) fun v s₁ x σ₁ hv R₁ S₁ W₁=>?_) (by rw [arm_eval_Attribute,hs])
  exact nx (attrW_sound H W₁ O R₁ hv) fun _ _ p=>p.trans S₁
include H in
theorem snd_idx {o i:Expr} {p:Pos} {a b:CE} (ho : Snd g C o a) (hi : Snd g C i b) : Snd g C (.Subscript o i p) (.idx a b):=by
  intro d A env ρ s σ Q F R O W
  refine Subscript_ (nxp (ho d A env ρ s σ _ F R O W) fun v s₁ x σ₁ hv R₁ S₁ W₁=>nxp (hi d A env ρ s₁ σ₁ _ (F.step R S₁) R₁ O W₁) fun u s₂ y σ₂ hu R₂ S₂ W₂=>?_)
  exact nx (idxW_sound H W₂ O R₂ (hv.step R₁ S₂) hu) fun _ _ p=>p.trans (S₁.trans S₂)
noncomputable def SndO (g:G) (C:Ctx) (e:Option Expr) (c:CE):Prop:=match e with
  | some e=>Snd g C e c
  | none=>c = .k .none
theorem sndO {e:Option Expr} {c:CE} (h : SndO g C e c) : ∀ d A env ρ s σ Q,FrameIs g σ s.heap env C.sc C.sl ρ→Rep g σ s→AOk d A→wpE g d c ρ Q σ→wpAny (M g) A (evalPart e env) (post g s σ Q) nope s:=by
  intro d A env ρ s σ Q F R O W
  cases e with
  | some e=>exact h d A env ρ s σ Q F R O W
  | none=>
    have h : c = .k .none:=h
    subst h
    exact wpAny_pure (post.here R .none W)
include H in
theorem snd_slice {o:Expr} {lo hi:Option Expr} {p p' : Pos} {a b c:CE} (ho : Snd g C o a) (hl : SndO g C lo b) (hu : SndO g C hi c) : Snd g C (.Subscript o (.Slice lo hi none p') p) (.slice a b c):=by
  intro d A env ρ s σ Q F R O W
  refine Subscript_ (nxp (ho d A env ρ s σ _ F R O W) fun v s₁ x σ₁ hv R₁ S₁ W₁=>wpAny_Slice (nxp (sndO hl d A env ρ s₁ σ₁ _ (F.step R S₁) R₁ O W₁) fun u s₂ y σ₂ hy R₂ S₂ W₂=>
    nxp (sndO hu d A env ρ s₂ σ₂ _ ((F.step R S₁).step R₁ S₂) R₂ O W₂) fun w s₃ z σ₃ hz R₃ S₃ W₃=>wpAny_pure ?_))
  exact nx (sliceW_sound H W₃ O R₃ ((hv.step R₁ S₂).step R₂ S₃) (hy.step R₂ S₃) hz) fun _ _ p=>p.trans ((S₁.trans S₂).trans S₃)
theorem snd_tup {es:List Expr} {k:Nat} {p:Pos} {cs:CEs} (hn : es.length ≤ 1000) (h : SndL g C es cs) : Snd g C (.Tuple es k p) (.tup cs):=by
  intro d A env ρ s σ Q F R O W
  refine wpAny_Tuple (nx (h.2 d A env ρ s σ p _ F R O W) fun vals s₁ ⟨vs,σ₁,hv,hl,R₁,S₁,W₁⟩=>⟨by rw [line_is]; lia,?_⟩)
  exact post.trans S₁ (post.newTup R₁ hv W₁)
theorem snd_lst {es:List Expr} {p:Pos} {cs:CEs} (hn : es.length ≤ 1000) (h : SndL g C es cs) : Snd g C (.List es p) (.lst cs):=by
  intro d A env ρ s σ Q F R O W
  refine wpAny_List (nx (h.2 d A env ρ s σ p _ F R O W) fun vals s₁ ⟨vs,σ₁,hv,hl,R₁,S₁,W₁⟩=>⟨by rw [line_is]; lia,?_⟩)
  exact post.trans S₁ (post.newList R₁ hv W₁)
end
noncomputable def callable (K:Frag):Value→Bool
  | .builtin _=>true
  | .type _=>true
  | v=>keepIn K v
noncomputable def fnOf' : Value→Option Fn
  | .ref a=>some (.u a)
  | .builtin n=>if n = "len" then some .len else if n = "chr" then some .chr else if n = "ord" then some .ord else if n = "sum" then some .sum else none
  | .type n=>if n = "list" then some .list else if n = "tuple" then some .tuple else if n = "str" then some .str else if n = "int" then some .int else if n = "range" then some .range else none
  | _=>none
theorem fnOf'_val {v:Value} {f:Fn} (h : fnOf' v = some f) : f.val = v:=by
  unfold fnOf' at h
  split at h
  · cases h; rfl
  · repeat (split at h; · rename_i e; cases h; rw [e]; rfl)
    cases h
  · repeat (split at h; · rename_i e; cases h; rw [e]; rfl)
    cases h
  · cases h
noncomputable def ityOf:Value→Option ITy
  | .ref C=>some (.cls C)
  | .type n=>if n = "bool" then some .bool else if n = "int" then some .int else if n = "str" then some .str else none
  | _=>none
theorem ityOf_val {v:Value} {c : ITy} (h : ityOf v = some c) : c.val = v:=by
  unfold ityOf at h
  split at h
  · cases h; rfl
  · repeat (split at h; · rename_i e; cases h; rw [e]; rfl)
    cases h
  · cases h
section
variable {g:G} (H : GOk g) {C:Ctx}
set_option tactic.hygienic true in
theorem keeps_any {M : Model} {f:Value} (hk : callable g.K f = true) (h:Heap) (X : g.K.In h) : ∃ k,(k = Keeper.frame∨k = Keeper.machine∨k = Keeper.boundFrame)∧Looks M h (keeperOf f) k:=by
  cases f
  case ref a=>
    have hk : keepIn g.K (.ref a) = true:=hk
    exact keeps_K hk h X
  all_goals first | (have hk : keepIn g.K _ = true:=hk; exact keeps_K hk h X) | exact ⟨.machine, .inr (.inl rfl),Looks.of_pure rfl⟩
theorem call_parts {f:Value} (hk : callable g.K f = true) {pos:Pos} {first:List Value} {es:List Expr} {cs:CEs} (h : SndL g C es cs) {d:Nat} {A:Around} {env:Env} {ρ:Env'} {s:Shared} {σ:Sg} {Q:List V→Sg→Prop} {Q' : Value→Shared→Prop}
    (H : GOk g) (F : FrameIs g σ s.heap env C.sc C.sl ρ) (R : Rep g σ s) (O : AOk d A) (W : wpEs g d cs ρ Q σ)
    (k : ∀ vals vs s₁ σ₁,VIss s₁.heap vals vs→Rep g σ₁ s₁→Step s σ s₁ σ₁→Q vs σ₁→wpAny (M g) A (call f (first ++ vals)) Q' nope s₁) : wpAny (M g) A (callWith pos f first (backTo pos (starEach es env)) (backToKw pos (keywordEach [] env))) Q' nope s:=by
  have plain : ∀ {es:List Expr},(∀ e ∈ es,StarF e)→(backTo pos (starEach es env)).any (·.1) = false:=by
    intro es
    induction es with
    | nil=>intro _; rfl
    | cons e r ih=>
      intro hs
      rw [hs e (by exact List.mem_cons_self ..)]
      show (false || (backTo pos (starEach r env)).any (·.1)) = false
      rw [ih fun x hx=>hs x (by simp [hx])]; rfl
  have key : wpAny (M g) A (evalArgs f true (backTo pos (starEach es env)) (backToKw pos (keywordEach [] env))) (fun a s₁=>g.K.In s₁.heap∧wpAny (M g) A (call f (first ++ a.pos) a.kw) Q' nope s₁) nope s:=by
    have sp:=h.2 d A env ρ s σ pos Q F R O W
    show wpAny (M g) A (evalArgs f true (backTo pos (starEach es env)) []) _ _ _
    cases es with
    | nil=>
      have sp : wpAny (M g) A (spliced []) _ nope s:=sp
      unfold evalArgs
      show wpAny _ _ (spliced [] >>= _) _ _ s
      refine wpAny_bind (nx sp fun vals s₁ ⟨vs,σ₁,hv,hl,R₁,S₁,W₁⟩=>?_)
      refine wpAny_bind (wpAny_pure (wpAny_holding (wpAny_bind (wpAny_pure (wpAny_bind (wpAny_pure (wpAny_pure ⟨R₁.kin H,?_⟩)))))))
      exact k vals vs s₁ σ₁ hv R₁ S₁ W₁
    | cons e r=>
      rw [h.1 e (by exact List.mem_cons_self ..)] at sp ⊢
      exact evalArgs_plain (nx sp fun vals s₁ ⟨vs,σ₁,hv,hl,R₁,S₁,W₁⟩=>⟨R₁.kin H,k vals vs s₁ σ₁ hv R₁ S₁ W₁⟩)
  exact callWith_of (by rw [plain h.1]; rfl) (keeps_any hk) key
include H in
theorem snd_call {x:Str} {p pos:Pos} {v:Value} {f:Fn} {es:List Expr} {cs:CEs} (hd : (x == ("__debug__" : Str)) = false) (hk : C.sc.names.lookup x = some .globalImplicit) (hv : globVal g.K x = some v) (hf : fnOf' v = some f) (hc : callable g.K v = true)
    (h : SndL g C es cs) : Snd g C (.Call (.Name x p) es [] pos) (.call f cs):=by
  intro d A env ρ s σ Q F R O W
  refine wpAny_Call_ofName (glob_eval H hd hk hv F R ?_)
  refine call_parts hc h H F R O W fun vals vs s₁ σ₁ hv R₁ S₁ W₁=>?_
  show wpAny _ _ (call v vals) _ _ _
  rw [← fnOf'_val hf]
  have W₁ : callW g d f vs Q σ₁:=W₁
  have : wpAny (M g) A (call f.val vals) (post g s₁ σ₁ Q) nope s₁:=by
    cases f with
    | u a=>exact UCall.run (f:=.ref a) W₁ O R₁ hv
    | _=>exact biW_sound H W₁ O R₁ hv
  exact nx this fun _ _ p=>p.trans S₁
theorem tag_kit {h:Heap} {a:Value} {v:V} {t:Value} (ht : tagV v = some t) (ha : VIs h a v) : KitX g.K a t (fun _=>True)∧a ≠ .builtin "__main__.__loader__#opaque"∧t ∈ builtinTags:=by
  cases ha with
  | none=>cases ht; exact ⟨kitx_none,by decide,by simp [builtinTags]⟩
  | bool b=>cases ht; exact ⟨kitx_bool,by simp,by simp [builtinTags]⟩
  | int i t=>cases ht; exact ⟨kitx_int,by simp,by simp [builtinTags]⟩
  | str s t=>cases ht; exact ⟨kitx_str,by simp,by simp [builtinTags]⟩
  | _=>cases ht
theorem ity_in {c : ITy} (hc : isCls c = false) : c.val ∈ builtinCls:=by cases c <;> first | (cases hc; done) | simp [builtinCls,ITy.val]
include H in
theorem isi_all : ((∀ t ∈ builtinTags, ∀ c ∈ builtinCls,kitOne g.K t c = some (t == c || (t == .type "bool" && c == .type "int")))∧(∀ t ∈ builtinTags, ∀ D ∈ clsL,kitOne g.K t (.ref D) = some false))∧(∀ C ∈ clsL, ∀ c ∈ builtinCls,kitOne g.K (.ref C) c = some false)∧∀ C ∈ clsL, ∀ D ∈ clsL,kitOne g.K (.ref C) (.ref D) = some (subB C D):=by
  have e:=H.isi
  unfold isiOk at e
  simp only [Bool.and_eq_true,List.all_eq_true,beq_iff_eq] at e
  exact ⟨e.1.1,e.1.2,e.2⟩
include H in
theorem isin_own {d:Nat} {A:Around} {σ:Sg} {s:Shared} {Q:V→Sg→Prop} {a C dd:Addr} {fs:List (Nat × V)} {c:Value} {r:Bool} (R : Rep g σ s) (e1 : σ a = some (.inst C dd)) (e2 : σ dd = some (.idict fs)) (hC : C ∈ clsL) (ek : kitOne g.K (.ref C) c = some r) (W : Q (.bool r) σ) :
    wpAny (M g) A (call (.builtin "isinstance") [.ref a,c]) (post g s σ Q) nope s:=by
  obtain ⟨od,es,ep,m,g1,g2,g3,g4,g5,g6,I⟩:=R.inst e1 e2
  have c2:=H.cls2 C hC
  unfold clsOk2 at c2
  simp only [Bool.and_eq_true,beq_iff_eq] at c2
  exact kia_one (kitx_own c2.1.1.1.1.1 c2.1.1.1.1.2 c2.1.1.1.2 c2.1.1.2 c2.1.2 c2.2) (R.kin H) I ek (by simp) fun tk=>post.tok R (.bool _) W
include H in
theorem isinW_sound {d:Nat} {A:Around} {σ:Sg} {s:Shared} {Q:V→Sg→Prop} {a:Value} {x:V} {c : ITy} (W : isinW g x c Q σ) (_ : AOk d A) (R : Rep g σ s) (ha : VIs s.heap a x) :
    wpAny (M g) A (call (.builtin "isinstance") [a,c.val]) (post g s σ Q) nope s:=by
  cases W with
  | isin_i h1 h2 h3 W=>
    cases ha.inv_ref
    have h3:=Bool.and_eq_true_iff.mp h3
    have hC:=List.contains_iff_mem.mp h3.1
    exact isin_own H (d:=d) R h1 h2 hC ((isi_all H).2.2 _ hC _ (List.contains_iff_mem.mp h3.2)) W
  | isin_b h1 h2 h3 hc W=>
    cases ha.inv_ref
    have hC:=List.contains_iff_mem.mp h3
    exact isin_own H (d:=d) R h1 h2 hC ((isi_all H).2.1 _ hC _ (ity_in hc)) W
  | isin_n h h3 W=>
    obtain ⟨k1,k2,k3⟩:=tag_kit h ha
    exact kia_one k1 (R.kin H) trivial ((isi_all H).1.2 _ k3 _ (List.contains_iff_mem.mp h3)) k2 fun tk=>post.tok R (.bool _) W
  | isin_t h hc hb W=>
    obtain ⟨k1,k2,k3⟩:=tag_kit h ha
    exact kia_one k1 (R.kin H) trivial (((isi_all H).1.1 _ k3 _ (ity_in hc)).trans (congrArg some hb)) k2 fun tk=>post.tok R (.bool _) W
end
section
variable {g:G} (H : GOk g) {C:Ctx}
include H
theorem snd_isin {e c:Expr} {p pos pc:Pos} {x:Str} {v:Value} {ct : ITy} {ce:CE} (hn : StarF e) (hk : C.sc.names.lookup (Str.ofString "isinstance") = some .globalImplicit) (hv : globVal g.K (Str.ofString "isinstance") = some (.builtin "isinstance"))
    (hd : (x == ("__debug__" : Str)) = false) (hkc : C.sc.names.lookup x = some .globalImplicit) (hvc : globVal g.K x = some v) (hc : ityOf v = some ct) (he : Snd g C e ce) (hcx : c = .Name x pc) :
    Snd g C (.Call (.Name (Str.ofString "isinstance") p) [e,c] [] pos) (.isin ce ct):=by
  intro d A env ρ s σ Q F R O W
  subst hcx
  refine wpAny_Call_ofName (glob_eval H (by decide) hk hv F R ?_)
  show wpAny _ _ (callWith pos (.builtin "isinstance") [] (backTo pos (starEach [e, .Name x pc] env)) []) _ _ _
  rw [hn]
  refine callWith_builtin rfl (evalArgs_plain ?_)
  have key : wpAny (M g) A (spliced (backTo pos (starEach [e, .Name x pc] env))) (fun vals s₁=>wpAny (M g) A (call (.builtin "isinstance") vals) (post g s σ Q) nope s₁) nope s:=by
    refine wpAny_items_cons (nxp (he d A env ρ s σ _ F R O W) fun u s₁ y σ₁ hu R₁ S₁ W₁=>?_) (hn _ _)
    refine wpAny_items_cons (glob_eval H hd hkc hvc (F.step R S₁) R₁ (wpAny_items_nil ?_)) rfl
    rw [← ityOf_val hc]
    exact nx (isinW_sound H W₁ O R₁ hu) fun _ _ p=>p.trans S₁
  rw [hn] at key
  exact key
omit H in
theorem form_ok {es:List Expr} (hs : ∀ e ∈ es,StarF e) (hl : es.length < 29) (pos:Pos) (env:Env) :
    methodCallForm (es.length + ([] : List Keyword).length) (backTo pos (starEach es env)) (backToKw pos (keywordEach [] env)) = true:=by
  have plain : ∀ {es:List Expr},(∀ e ∈ es,StarF e)→(backTo pos (starEach es env)).all (fun x=>!x.1) = true:=by
    intro es
    induction es with
    | nil=>intro _; rfl
    | cons e r ih=>
      intro hs
      rw [hs e (by exact List.mem_cons_self ..)]
      show (true && (backTo pos (starEach r env)).all (fun x=>!x.1)) = true
      rw [ih fun x hx=>hs x (by simp [hx])]; rfl
  unfold methodCallForm
  rw [plain hs]
  show (true && true && decide (es.length + 0 + 0 < 30)) = true
  simp; exact Nat.lt_succ_of_lt ‹_›
theorem method_open {o:Expr} {name:Str} {apos pos:Pos} {es:List Expr} {A:Around} {env:Env} {s:Shared} {Q:Value→Shared→Prop} (hs : SupF o) (hline : (apos.endLine == pos.line) = true) (hp : ∀ e ∈ es,StarF e) (hl : es.length < 29)
    (h : wpAny (M g) A (eval o env) (fun ov s₁=>∀ pl,wpAny (M g) A (getMethod ov name pl) (fun p s₂=>wpAny (M g) A (callWith pos p.1 p.2 (backTo pos (starEach es env)) (backToKw pos (keywordEach [] env))) Q nope s₂) nope s₁) nope s) :
    wpAny (M g) A (eval (.Call (.Attribute o name apos) es [] pos) env) Q nope s:=by
  rw [arm_eval_Call,hs]
  refine wpAny_bind (nx h fun ov s₁ h₁=>wpAny_bind (wpAny_standAt ?_))
  have hpos : methodCallPos true o env apos pos = pure pos:=by unfold methodCallPos; simp [hline]
  unfold methodCall
  rw [form_ok hp hl]
  refine wpAny_bind (wpAny_holding (nx (h₁ _) fun p s₂ h₂=>?_))
  exact wpAny_bind (wpAny_of_eq hpos h₂)
theorem snd_meth {o:Expr} {m:Mt} {apos pos:Pos} {es:List Expr} {ce:CE} {cs:CEs} (hs : SupF o) (hline : (apos.endLine == pos.line) = true) (hl : es.length < 29) (ho : Snd g C o ce) (h : SndL g C es cs) :
    Snd g C (.Call (.Attribute o m.name apos) es [] pos) (.meth m ce cs):=by
  intro d A env ρ s σ Q F R O W
  refine method_open H hs hline h.1 hl (nx (ho d A env ρ s σ _ F R O W) fun ov s₁ ⟨x,σ₁,hv,R₁,S₁,W₁⟩ pl=>?_)
  obtain ⟨W₁,hT,hd⟩:=recv_sound H W₁ R₁ hv
  refine getMethod_builtin hT m.facts.1 m.facts.2.1 m.facts.2.2 hd ?_
  refine call_parts (f:=.builtin m.id) (first:=[ov]) rfl h H (F.step R S₁) R₁ O W₁ fun vals vs s₂ σ₂ hvs R₂ S₂ W₂=>?_
  exact nx (mtW_sound H W₂ O R₂ (hv.step R₁ S₂) hvs) fun _ _ p=>p.trans (S₁.trans S₂)
theorem snd_umeth {o:Expr} {n:Str} {i:Nat} {apos pos:Pos} {es:List Expr} {ce:CE} {cs:CEs} (hs : SupF o) (hn : nm i = n) (hline : (apos.endLine == pos.line) = true) (hl : es.length < 29) (ho : Snd g C o ce) (h : SndL g C es cs) :
    Snd g C (.Call (.Attribute o n apos) es [] pos) (.umeth i ce cs):=by
  intro d A env ρ s σ Q F R O W
  subst hn
  refine method_open H hs hline h.1 hl (nx (ho d A env ρ s σ _ F R O W) fun ov s₁ ⟨x,σ₁,hv,R₁,S₁,W₁⟩ pl=>?_)
  cases W₁ with
  | um_ok e1 e2 l1 e3 l2 l3 W₁=>
    cases hv.inv_ref
    have l2 : i < nmTab.length:=of_decide_eq_true l2
    have l3:=List.contains_iff_mem.mp l3
    rw [flk_eq] at l1
    obtain ⟨od,es',ep,m,g1,g2,g3,g4,g5,g6,I⟩:=R₁.inst e1 e2
    have c:=H.cls _ l3
    unfold clsOk at c
    simp only [Bool.and_eq_true,beq_iff_eq] at c
    have mo:=H.mth _ l3 i _ e3
    unfold methOk at mo
    simp only [Bool.and_eq_true,beq_iff_eq] at mo
    refine method_fn (R₁.kin H) I c.1.1.1.1 c.1.1.1.2 mo.1.1 (beq_iff_eq.mp mo.1.2) (by unfold shadowIn; dsimp only; rw [lookIn_ns g2 g3 g4,g6.no l2 l1]; rfl) ?_
    refine call_parts (f:=.ref _) (first:=[.ref _]) mo.2 h H (F.step R S₁) R₁ O W₁ fun vals vs s₂ σ₂ hvs R₂ S₂ W₂=>?_
    exact nx (UCall.run W₂ O R₂ (.cons (hv.step R₁ S₂) hvs)) fun _ _ p=>p.trans (S₁.trans S₂)
inductive ClsFn (K:Frag) (C:Addr) (n:Str) (f:Addr):Prop
  | mk (e1 : findCls K (.ref C) (.type "type") n = some (.val (.ref f))) (e2 : (readsIn K C (.type "type") && specialIn K (.ref C) "__getattribute__" == some (some (.builtin "type.__getattribute__")) && keepIn K (.ref f)) = true)
theorem snd_clsm {x n:Str} {px apos pos:Pos} {Cl f:Addr} {es:List Expr} {cs:CEs} (hd : (x == ("__debug__" : Str)) = false) (hk : C.sc.names.lookup x = some .globalImplicit) (hv : globVal g.K x = some (.ref Cl)) (hf : ClsFn g.K Cl n f)
    (hline : (apos.endLine == pos.line) = true) (hl : es.length < 29) (h : SndL g C es cs) : Snd g C (.Call (.Attribute (.Name x px) n apos) es [] pos) (.call (.u f) cs):=by
  intro d A env ρ s σ Q F R O W
  obtain ⟨e1,e2⟩:=hf
  simp only [Bool.and_eq_true,beq_iff_eq] at e2
  refine method_open H (fun _ _ _=>rfl) hline h.1 hl (glob_eval H hd hk hv F R fun pl=>?_)
  refine method_cls (R.kin H) e2.1.2 (cls_value (R.kin H) e2.1.1 e1 rfl ?_)
  refine call_parts (s:={ s with toks:=s.toks + 1 }) (f:=.ref f) (first:=[]) e2.2 h H F (R.tok _) O W fun vals vs s₂ σ₂ hvs R₂ S₂ W₂=>?_
  exact nx (UCall.run (f:=.ref f) W₂ O R₂ hvs) fun _ _ p=>p.trans ((Step.tok _).trans S₂)
end
inductive KeyStrs:List (Option Expr)→List (List Nat)→Prop
  | nil : KeyStrs [] []
  | cons {x:Str} {k:Nat} {p:Pos} {r:List (Option Expr)} {l:List (List Nat)} (h : KeyStrs r l) : KeyStrs (some (.Constant (.str x) k p) :: r) (x.cps.toList :: l)
inductive SndV (g:G) (C:Ctx):List Expr→CEs→Prop
  | nil : SndV g C [] .nil
  | cons {e:Expr} {r:List Expr} {c:CE} {cs:CEs} : Snd g C e c→SndV g C r cs→SndV g C (e :: r) (.cons c cs)
theorem keyStrs_some {keys:List (Option Expr)} {ks:List (List Nat)} (h : KeyStrs keys ks) : keys.all (·.isSome) = true:=by
  induction h with
  | nil=>rfl
  | cons h ih=>exact ih
section
variable {g:G} (H : GOk g) {C:Ctx}
inductive PrsOk (g:G) (ks:List (List Nat)) (s:Shared) (σ:Sg) (Q:List V→Sg→Prop) (prs:List (Value × Value)) (s₁:Shared):Prop
  | mk (kvs:List (Str × Value)) (vs:List V) (σ₁:Sg) (c : Carries (PySem.strKind g.prog g.w) prs kvs) (p : SPairs s₁.heap kvs (ks.zip vs)) (R : Rep g σ₁ s₁) (S : Step s σ s₁ σ₁) (W : Q vs σ₁)
theorem pairs_sound {env:Env} {pos:Pos} {keys:List (Option Expr)} {ks:List (List Nat)} (K : KeyStrs keys ks) : ∀ {es:List Expr} {cs:CEs},SndV g C es cs→keys.length = es.length→
    ∀ d A ρ s σ Q,FrameIs g σ s.heap env C.sc C.sl ρ→Rep g σ s→AOk d A→wpEs g d cs ρ Q σ→
    wpAny (M g) A (evalPairs (pairTrees keys es env pos)) (PrsOk g ks s σ Q) nope s:=by
  induction K with
  | nil=>
    intro es cs V hl d A ρ s σ Q F R O W
    cases V with
    | cons=>cases hl
    | nil=>exact wpAny_pure ⟨[],[],σ,trivial, .nil,R, .refl _ _,W⟩
  | @cons x k p r l h ih=>
    intro es cs V hl d A ρ s σ Q F R O W
    cases V with
    | nil=>cases hl
    | @cons e0 es' c0 cs' he hV=>
      show wpAny _ _ (do
        let kv ← eval _ env
        let vv ← holding [kv] (do let x ← eval e0 env; standAt pos; pure x)
        return (kv,vv) :: (← holding [kv,vv] (evalPairs (pairTrees r es' env pos)))) _ _ _
      refine wpAny_bind (wpAny_Constant_str (wpAny_bind (wpAny_holding (wpAny_bind ?_))))
      refine nxp (he d A env ρ { s with toks:=s.toks + 1 } σ _ F (R.tok _) O W) fun u s₁ y σ₁ hu R₁ S₁ W₁=>wpAny_bind (wpAny_standAt (wpAny_pure (wpAny_bind (wpAny_holding ?_))))
      refine nx (ih hV (Nat.succ.inj hl) d A ρ s₁ σ₁ _ (FrameIs.step (s:={ s with toks:=s.toks + 1 }) F (R.tok _) S₁) R₁ O W₁) fun prs s₂ ⟨kvs,vs,σ₂,hc,hp,R₂,S₂,W₂⟩=>wpAny_pure ?_
      exact ⟨_ :: kvs,y :: vs,σ₂,⟨strKind_is g.prog g.w _ _,rfl,hc⟩, .cons (hu.step R₁ S₂) hp,R₂,(Step.tok _).trans (S₁.trans S₂),W₂⟩
theorem snd_dct {keys:List (Option Expr)} {ks:List (List Nat)} {es:List Expr} {cs:CEs} {pos:Pos} (hk : KeyStrs keys ks) (hn : ks.Nodup) (h0 : keys ≠ []) (hlen : keys.length ≤ 15) (hl : keys.length = es.length) (hv : SndV g C es cs) : Snd g C (.Dict keys es pos) (.dct ks cs):=by
  intro d A env ρ s σ Q F R O W
  have kp : ∀ a o,s.heap.get? a = some o→(s.heap.push { cls:=.type "dict",data:=.dict #[] }).get? a = some o:=fun a o e=>Heap.get?_push_of_some _ e
  have hD : (s.heap.push { cls:=.type "dict",data:=.dict #[] }).get? s.heap.objs.size = some { cls:=.type "dict",data:=.dict #[] }:=Heap.get?_push_size _ rfl
  have sD:=fresh_none R (size_none s.heap)
  have S0 : Step s σ { s with heap:=s.heap.push { cls:=.type "dict",data:=.dict #[] } } σ:=Step.grow (t:=s.toks) kp
  have R0 : Rep g σ { s with heap:=s.heap.push { cls:=.type "dict",data:=.dict #[] } }:=R.grow (t:=s.toks) kp
  refine wpAny_Dict_walk (knd:=PySem.strKind g.prog g.w) (keyStrs_some hk) hl h0 hlen ?_
  refine nx (pairs_sound hk hv hl d A ρ _ σ _ (F.step R S0) R0 O W) fun prs s₁ ⟨kvs,vs,σ₁,hc,hp,R₁,S₁,W₁⟩=>?_
  have e1:=S₁.keep _ _ sD hD
  refine ⟨kvs,hc,⟨_, #[],_,e1,⟨rfl,rfl,rfl⟩,rfl,fun e he=>by simp at he, .nil, .nil⟩,fun h' dk sb=>?_⟩
  have nd : (kvs.map (·.1)).Nodup:=by
    have key : ∀ {es:List (Str × Value)} {l:List (List Nat × V)},SPairs s₁.heap es l→(l.map (·.1)).Nodup→(es.map (·.1)).Nodup:=by
      intro es l x hn
      rw [x.keys]
      exact List.Pairwise.map mkS (fun a b (hab : a ≠ b) e=>hab (mkS_inj e)) hn
    refine key hp ?_
    have : ∀ (a:List (List Nat)) (b:List V),((a.zip b).map (·.1)).Sublist a:=by
      intro a
      induction a with
      | nil=>intro b; simp
      | cons x r ih=>
        intro b
        cases b with
        | nil=>simp
        | cons y t=>simpa using (ih t).cons₂ x
    exact (this ks vs).nodup hn
  rw [merged_nil_of_nodup _ nd] at dk
  have fk : FixKeep s₁.heap h':=fix_of e1 (by simp [fixedObj]) fun b o n e=>(sb.2 b n).trans e
  have h0n : g.h₀.get? s.heap.objs.size = none:=by
    cases q : g.h₀.get? s.heap.objs.size with
    | none=>rfl
    | some o=>have:=R.keep _ _ q; rw [size_none] at this; cases this
  have R₂ : Rep g σ₁ { s₁ with heap:=h',toks:=s₁.toks + prs.length }:=R₁.off (F:=(· = s.heap.objs.size)) (fun b o n e=>(sb.2 b n).trans e) (fun b e=>by subst e; exact ⟨S₁.gone sD hD,h0n⟩) fk
  have S₂ : Step s σ { s₁ with heap:=h',toks:=s₁.toks + prs.length } σ₁:=(S0.trans S₁).off (F:=(· = s.heap.objs.size)) (fun b o n e=>(sb.2 b n).trans e) (fun b e=>by subst e; exact size_none _)
  exact ⟨_,_, .ref _,R₂.track' (o:=.sdict (ks.zip vs)) h0n ⟨kvs,dk,hp.keeps fk⟩,S₂.track' (size_none _),W₁ _ (S₁.gone sD hD)⟩
theorem snd_emp {pos:Pos} {c:Bool} : Snd g C (.Dict [] [] pos) (.emp c):=by
  intro d A env ρ s σ Q F R O W
  have kp : ∀ a o,s.heap.get? a = some o→(s.heap.push { cls:=.type "dict",data:=.dict #[] }).get? a = some o:=fun a o e=>Heap.get?_push_of_some _ e
  have hD : (s.heap.push { cls:=.type "dict",data:=.dict #[] }).get? s.heap.objs.size = some { cls:=.type "dict",data:=.dict #[] }:=Heap.get?_push_size _ rfl
  refine wpAny_Dict_empty ?_
  cases c with
  | true=>exact ⟨_,_, .ref _,R.track (t:=s.toks) (o:=.cdict [] 0) kp (size_none _) ⟨[],⟨_, #[],hD,⟨rfl,rfl,rfl⟩,rfl,rfl,fun x hx=>(nomatch hx), .nil⟩, .nil⟩,Step.track (t:=s.toks) kp (size_none _),W _ 0 (fresh_none R (size_none _))⟩
  | false=>exact ⟨_,_, .ref _,R.track (t:=s.toks) (o:=.sdict []) kp (size_none _) ⟨[],⟨_, #[],_,hD,⟨rfl,rfl,rfl⟩,rfl,fun e he=>by simp at he, .nil, .nil⟩, .nil⟩,Step.track (t:=s.toks) kp (size_none _),W _ (fresh_none R (size_none _))⟩
end
section
variable {g:G} (H : GOk g) {C:Ctx} {scope : Scope} {tg caps:List Str} {cap:List Nat} {elt tgt iter:Expr} {ce ci:CE} {pos:Pos}
theorem comp_names (K : CompOk C scope tg caps cap) : ∀ x ∈ scope.names,x.2 = .local→scope.names.lookup x.1 = some .local:=fun x hx hl=>by
  obtain ⟨n,k⟩:=x
  cases hl
  exact lookup_of_mem K.nodup hx
theorem comp_closure (K : CompOk C scope tg caps cap) {σ:Sg} {h:Heap} {env:Env} {ρ:Env'} (F : FrameIs g σ h env C.sc C.sl ρ) :
    ∃ cl,closureFor scope env = pure cl∧(∀ x c,(x,c) ∈ cl→env.cells.lookup x = some c)∧∀ x,(x,NameKind.free) ∈ scope.names→cl.lookup x = env.cells.lookup x:=by
  refine closure_is fun x hx=>?_
  have hc:=(K.capsAre x).mp hx
  obtain ⟨j,hj,e⟩:=List.mem_iff_getElem.mp hc
  have e1 : caps[j]? = some x:=by rw [← e]; simp [hj]
  have : j < cap.length:=by rw [K.len]; exact hj
  obtain ⟨c,v₀,e3,_⟩:=F.cells _ _ (K.at_ j x cap[j] e1 (by simp [this]))
  rw [e3]; rfl
theorem comp_end {s₁ s' : Shared} {σ₁:Sg} {Kf:List V→Sg→Prop} {Q:V→Sg→Prop} {D L:Addr} (hK : Kf = fun vs σ'=>∀ r,σ' r = none→Q (.ref r) (upd σ' r (.list vs))) (R : Rep g σ₁ s₁) (E : CompEnd g s₁ σ₁ Kf D L s') :
    ∃ m,s'.heap.Ns L m∧∀ h',Heap.SameBut L s'.heap h'→post g s₁ σ₁ Q (.ref D) { s' with heap:=h' }:=by
  subst hK
  obtain ⟨vs,σ',m,R',S',oD,hm,W,sD,sL,fD,fL,ne⟩:=E
  refine ⟨m,hm,fun h' sb=>?_⟩
  obtain ⟨oL,eL,nL⟩:=ns_free hm
  have kb : ∀ b o,b ≠ L→s'.heap.get? b = some o→h'.get? b = some o:=fun b o n e=>(sb.2 b n).trans e
  exact ⟨_,_, .ref _,(R'.at1 (t:=s'.toks) ⟨oL,eL,nL⟩ kb sL (R.none0 fL)).track' (o:=.list vs) (R.none0 fD) (oD.keeps (fix_of eL nL kb) (sb.2 D ne)),(S'.at1 (t:=s'.toks) fL kb).track' fD,W D sD⟩
include H in
theorem snd_comp_ {ifs:List Expr} {t:Nat→Env'→(Bool→Sg→Prop)→Sg→Prop} {cc:CE} (K : CompOk C scope tg caps cap) (ht : TgtIs tgt tg) (hns : SetF iter) (hi : Snd g C iter ci) (he : Snd g ⟨C.K,scope,compSl tg caps,C.cd⟩ elt ce)
    (hT : ∀ d A env ρ s σ P,FrameIs g σ s.heap env scope (compSl tg caps) ρ→Rep g σ s→AOk d A→t d ρ P σ→
      wpAny (M g) A (forIn ifs true fun c r=>if r = true then do let ok ← isTrue c env (eval c env); pure (ForInStep.yield ok) else pure (ForInStep.yield r)) (postB g s σ P) nope s)
    (hcc : ∀ d ρ Q σ,wpE g d cc ρ Q σ→wpE g d ci ρ (fun x σ₁=>srcW g σ₁ x fun p=>p.1.length ≤ big∧
      compW (fun y P σ₂=>bound (bindT tg.length y (cap.map fun i=>ρ.getD i none)) fun ρ'=>t d ρ' P σ₂) (fun y K σ₂=>bound (bindT tg.length y (cap.map fun i=>ρ.getD i none)) fun ρ'=>wpE g d ce ρ' K σ₂) (fun σ₂=>srcOf g σ₂ x = some p) p.1 []
        (fun vs σ₂=>∀ r,σ₂ r = none→Q (.ref r) (upd σ₂ r (.list vs))) σ₁) σ) :
    Snd g C (.ListComp elt [⟨tgt,iter,ifs,0⟩] scope pos) cc:=by
  intro d A env ρ s σ Q F R O W
  obtain ⟨cl,hcl,c1,c2⟩:=comp_closure K F
  rw [eval_ListComp]
  refine wpAny_comprehension_free (use:=none) rfl (hns env) hcl K.kind (comp_names K) ?_
  refine nxp (hi d A env ρ s σ _ F R O (hcc d ρ Q σ W)) fun xv s₁ x σ₁ hx R₁ S₁ W₁=>?_
  obtain ⟨p,hs,W₁,W₂⟩:=W₁.ok
  refine comp_core (RR:=fun acc L=>compPost (M g) A nope none (post g s σ Q) acc L) H K ht he (hT d) c1 c2 (F.step R S₁) R₁ O hx hs W₁ W₂ fun D L s' E=>?_
  obtain ⟨m,hm,k⟩:=comp_end rfl R₁ E
  exact ⟨m,hm,fun h' sb=>(k h' sb).trans S₁⟩
include H in
theorem snd_comp (K : CompOk C scope tg caps cap) (ht : TgtIs tgt tg) (hns : SetF iter) (hi : Snd g C iter ci) (he : Snd g ⟨C.K,scope,compSl tg caps,C.cd⟩ elt ce) :
    Snd g C (.ListComp elt [⟨tgt,iter,[],0⟩] scope pos) (.comp ce tg.length cap ci):=
  snd_comp_ H (t:=fun _ _ P σ=>P true σ) K ht hns hi he (fun d A env ρ s σ P F R O W=>wpAny_tests_nil ⟨σ,R, .refl _ _,W⟩) fun d ρ Q σ W=>W
include H in
theorem snd_compIf {cnd:Expr} {cc:CE} (K : CompOk C scope tg caps cap) (ht : TgtIs tgt tg) (hns : SetF iter) (hi : Snd g C iter ci) (he : Snd g ⟨C.K,scope,compSl tg caps,C.cd⟩ elt ce) (hc : SndT g ⟨C.K,scope,compSl tg caps,C.cd⟩ cnd cc) :
    Snd g C (.ListComp elt [⟨tgt,iter,[cnd],0⟩] scope pos) (.compIf ce tg.length cap ci cc):=
  snd_comp_ H (t:=fun d ρ' P σ₂=>wpE g d cc ρ' (fun r σ₃=>truthW r P σ₃) σ₂) K ht hns hi he (fun d A env ρ s σ P F R O W=>wpAny_tests_one (hc d A env ρ s σ P F R O W)) fun d ρ Q σ W=>W
noncomputable def own (env:Env) (a:Addr):Prop:=a = env.locals∨∃ x,env.cells.lookup x = some a
structure StepF (env:Env) (s:Shared) (σ:Sg) (s' : Shared) (σ' : Sg):Prop where
  keep : ∀ a o, ¬ own env a→σ a = none→s.heap.get? a = some o→s'.heap.get? a = some o
  dom : ∀ a,σ' a ≠ none→σ a ≠ none∨s.heap.get? a = none
  fix : FixKeep s.heap s'.heap
theorem StepF.of {env:Env} {s s' : Shared} {σ σ' : Sg} (R : Rep g σ s) (x : Step s σ s' σ') : StepF env s σ s' σ':=⟨fun a o _=>x.keep a o,x.dom,x.tup R⟩
theorem StepF.gone {env:Env} {s s' : Shared} {σ σ' : Sg} (x : StepF env s σ s' σ') {a:Addr} {o:Obj} (n : σ a = none) (e : s.heap.get? a = some o) : σ' a = none:=by
  cases q : σ' a with
  | none=>rfl
  | some v=>
    rcases x.dom a (by rw [q]; simp) with z | z
    · exact absurd n z
    · rw [z] at e; cases e
theorem StepF.trans {env:Env} {s s₁ s₂:Shared} {σ σ₁ σ₂:Sg} (ow : ∀ a,own env a→∃ o,s₁.heap.get? a = some o) (x : StepF env s σ s₁ σ₁) (y : StepF env s₁ σ₁ s₂ σ₂) : StepF env s σ s₂ σ₂:=by
  refine ⟨fun a o no n e=>y.keep a o no (x.gone n e) (x.keep a o no n e),fun a h=>?_,fun a o e c=>y.fix a o (x.fix a o e c) c⟩
  rcases y.dom a h with z | z
  · exact x.dom a z
  · cases q : σ a with
    | some v=>exact .inl (by simp)
    | none=>
      right
      cases e : s.heap.get? a with
      | none=>rfl
      | some o=>
        by_cases ho : own env a
        · obtain ⟨o',e'⟩:=ow a ho
          rw [z] at e'; cases e'
        · rw [x.keep a o ho q e] at z; cases z
theorem FrameIs.live {σ:Sg} {h:Heap} {env:Env} {sc : Scope} {sl : Sl} {ρ:Env'} (F : FrameIs g σ h env sc sl ρ) {a:Addr} (ho : own env a) : ∃ o,h.get? a = some o∧¬ fixedObj o:=by
  rcases ho with rfl | ⟨x,e⟩
  · obtain ⟨m,hm,_⟩:=F.ns
    exact ns_free hm
  · obtain ⟨_,_,_,v,hv⟩:=F.cell0 x a e
    exact cell_free hv
theorem FrameIs.lives {σ:Sg} {h:Heap} {env:Env} {sc : Scope} {sl : Sl} {ρ:Env'} (F : FrameIs g σ h env sc sl ρ) : ∀ a,own env a→∃ o,h.get? a = some o:=fun _ ho=>let ⟨o,e,_⟩:=F.live ho; ⟨o,e⟩
theorem FrameIs.own0 {σ:Sg} {h:Heap} {env:Env} {sc : Scope} {sl : Sl} {ρ:Env'} (F : FrameIs g σ h env sc sl ρ) {a:Addr} (ho : own env a) : σ a = none∧g.h₀.get? a = none:=by
  rcases ho with rfl | ⟨x,e⟩
  · exact ⟨F.loc,F.loc0⟩
  · have:=F.cell0 x a e; exact ⟨this.1,this.2.1⟩
theorem StepF.at1 {env:Env} {s s' : Shared} {σ σ' : Sg} (x : StepF env s σ s' σ') {I:Addr} (fI : s.heap.get? I = none) (free : ∃ o,s'.heap.get? I = some o∧¬ fixedObj o) {h' : Heap} {t:Nat} (k : ∀ b o,b ≠ I→s'.heap.get? b = some o→h'.get? b = some o) : StepF env s σ { s' with heap:=h',toks:=t } σ':=
  let ⟨_,e,n⟩:=free
  ⟨fun a o no z e2=>k a o (fun y=>by rw [y,fI] at e2; cases e2) (x.keep a o no z e2),x.dom,fun a o e' c=>fix_of e n k a o (x.fix a o e' c) c⟩
theorem FrameIs.at1 {σ:Sg} {h:Heap} {env:Env} {sc : Scope} {sl : Sl} {ρ:Env'} (F : FrameIs g σ h env sc sl ρ) {I:Addr} (nI : ¬ own env I) (free : ∃ o,h.get? I = some o∧¬ fixedObj o) {h' : Heap} (k : ∀ b o,b ≠ I→h.get? b = some o→h'.get? b = some o) : FrameIs g σ h' env sc sl ρ:=
  let ⟨_,e,n⟩:=free
  F.keeps (fix_of e n k) (fun a o _ e ho=>k a o (fun z=>nI (z ▸ ho)) e) fun _ _ e _ _=>e
theorem frame_set {σ:Sg} {s:Shared} {A:Around} {env:Env} {sc : Scope} {sl : Sl} {ρ:Env'} {i:Nat} {x:Str} {b:Bool} {v:Value} {y:V} {Q : Unit→Shared→Prop} (F : FrameIs g σ s.heap env sc sl ρ) (R : Rep g σ s) (hi : sl[i]? = some (x,b)) (hv : VIs s.heap v y)
    (h : ∀ h' tk,FrameIs g σ h' env sc sl (rset ρ i y)→(∀ b o, ¬ own env b→s.heap.get? b = some o→h'.get? b = some o)→FixKeep s.heap h'→Q () { s with heap:=h',toks:=tk }) : wpAny (M g) A (storeName env x v) Q nope s:=by
  have hil:=(List.getElem?_eq_some_iff.mp hi).1
  have hρ : i < ρ.length:=by rw [F.len]; exact hil
  have other : ∀ (j:Nat) x',sl[j]? = some (x',b)→x' = x→j = i:=fun j x' e1 e2=>by
    subst e2
    have hj:=(List.getElem?_eq_some_iff.mp e1).1
    have n:=F.nodup
    have a1 : (sl.map (·.1))[j]? = some x':=by rw [List.getElem?_map,e1]; rfl
    have a2 : (sl.map (·.1))[i]? = some x':=by rw [List.getElem?_map,hi]; rfl
    exact (List.getElem?_inj (by simpa using hj) n).mp (a1.trans a2.symm)
  have gs : ∀ (j:Nat) (u:V),(rset ρ i y)[j]? = some (some u)→(j = i∧u = y)∨(j ≠ i∧ρ[j]? = some (some u)):=fun j u e=>by
    unfold rset at e
    rw [List.getElem?_set] at e
    split at e
    · rename_i hj
      subst hj
      cases e; exact .inl ⟨rfl,rfl⟩
    · rename_i hj; exact .inr ⟨fun z=>hj z.symm,e⟩
  have hl : (rset ρ i y).length = sl.length:=by unfold rset; rw [List.length_set]; exact F.len
  cases b with
  | false=>
    obtain ⟨m,hm,hvs⟩:=F.ns
    obtain ⟨oL,eL,nL⟩:=ns_free hm
    have hp : (env.scope.kind == .class || (env.scope.kind == .module && env.locals != env.globals)) = false:=by rw [F.kind]; rfl
    refine wpAny_storeName_local (F.ks i x false hi) hm (fun h' hn sb=>?_) hp
    have k : ∀ b o,b ≠ env.locals→s.heap.get? b = some o→h'.get? b = some o:=fun b o n e=>(sb.2 b n).trans e
    have fk:=fix_of eL nL k
    refine h h' _ ⟨F.kind,F.glob,F.blt,F.kg,F.ks,hl,F.nodup,F.loc,F.loc0,⟨_,hn,fun j x' u e1 e2=>?_⟩,fun j x' e1=>?_,fun x' c e=>?_,F.apart⟩ (fun b o no e=>k b o (fun z=>no (.inl z)) e) fk
    · rcases gs j u e2 with ⟨rfl,rfl⟩ | ⟨nj,e3⟩
      · rw [hi] at e1; cases e1
        exact ⟨v,by simp,hv.keeps fk⟩
      · obtain ⟨val,p,q⟩:=hvs j x' u e1 e3
        have : x' ≠ x:=fun z=>nj (other j x' e1 z)
        exact ⟨val,by simp [this,p],q.keeps fk⟩
    · obtain ⟨c,v₀,a1,⟨o,a2,a3⟩,a4⟩:=F.cells j x' e1
      have nc:=(F.cell0 x' c a1).2.2.1
      refine ⟨c,v₀,a1,⟨o,k _ _ nc a2,a3⟩,fun u e2=>?_⟩
      rcases gs j u e2 with ⟨rfl,rfl⟩ | ⟨nj,e3⟩
      · rw [hi] at e1; cases e1
      · obtain ⟨val,p,q⟩:=a4 u e3
        exact ⟨val,p,q.keeps fk⟩
    · obtain ⟨b1,b2,b3,v,o,b4,b5⟩:=F.cell0 x' c e
      exact ⟨b1,b2,b3,v,o,k _ _ b3 b4,b5⟩
  | true=>
    obtain ⟨c,v₀,a1,a2,a4⟩:=F.cells i x hi
    obtain ⟨oC,eC,nC⟩:=cell_free a2
    refine wpAny_storeName_cell F.kind (F.ks i x true hi) a1 a2 fun h' hc sb=>?_
    have k : ∀ b o,b ≠ c→s.heap.get? b = some o→h'.get? b = some o:=fun b o n e=>(sb.2 b n).trans e
    have fk:=fix_of eC nC k
    have nc:=(F.cell0 x c a1).2.2.1
    obtain ⟨m,hm,hvs⟩:=F.ns
    refine h h' s.toks ⟨F.kind,F.glob,F.blt,F.kg,F.ks,hl,F.nodup,F.loc,F.loc0,⟨m,hm.sameBut sb (Ne.symm nc),fun j x' u e1 e2=>?_⟩,fun j x' e1=>?_,fun x' c' e=>?_,F.apart⟩ (fun b o no e=>k b o (fun z=>no (.inr ⟨x,z ▸ a1⟩)) e) fk
    · rcases gs j u e2 with ⟨rfl,rfl⟩ | ⟨nj,e3⟩
      · rw [hi] at e1; cases e1
      · obtain ⟨val,p,q⟩:=hvs j x' u e1 e3
        exact ⟨val,p,q.keeps fk⟩
    · by_cases hx : x' = x
      · have:=other j x' e1 hx
        subst this
        rw [hi] at e1; cases e1
        refine ⟨c,_,a1,hc,fun u e2=>?_⟩
        rcases gs j u e2 with ⟨_,rfl⟩ | ⟨nj,_⟩
        · exact ⟨v,rfl,hv.keeps fk⟩
        · exact absurd rfl nj
      · obtain ⟨c',v₁,d1,⟨o,d2,d3⟩,d4⟩:=F.cells j x' e1
        have ncc : c' ≠ c:=fun z=>hx (F.apart x' x c (z ▸ d1) a1)
        refine ⟨c',v₁,d1,⟨o,k _ _ ncc d2,d3⟩,fun u e2=>?_⟩
        rcases gs j u e2 with ⟨rfl,rfl⟩ | ⟨nj,e3⟩
        · rw [hi] at e1; cases e1; exact absurd rfl hx
        · obtain ⟨val,p,q⟩:=d4 u e3
          exact ⟨val,p,q.keeps fk⟩
    · obtain ⟨b1,b2,b3,v',o,b4,b5⟩:=F.cell0 x' c' e
      by_cases hcc : c' = c
      · subst hcc; exact ⟨b1,b2,b3,_,hc⟩
      · exact ⟨b1,b2,b3,v',o,k _ _ hcc b4,b5⟩
inductive endN (g:G) (C:Ctx) (env:Env) (Qn:Env'→Sg→Prop) (σ' : Sg) (s' : Shared):Prop
  | mk (ρ' : Env') (F : FrameIs g σ' s'.heap env C.sc C.sl ρ') (W : Qn ρ' σ')
inductive endR (Qr:V→Sg→Prop) (v:Value) (σ' : Sg) (s' : Shared):Prop
  | mk (x:V) (hv : VIs s'.heap v x) (W : Qr x σ')
inductive endS (g:G) (C:Ctx) (env:Env) (s:Shared) (σ:Sg) (Qn:Env'→Sg→Prop) (Qr:V→Sg→Prop) (fl : Flow) (s' : Shared):Prop
  | mk (σ' : Sg) (R : Rep g σ' s') (S : StepF env s σ s' σ') (W : match fl with | .next=>endN g C env Qn σ' s' | .ret v=>endR Qr v σ' s' | _=>False)
noncomputable def SndS (g:G) (C:Ctx) (st : Stmt) (c:CS):Prop:=∀ d A env ρ s σ Qn Qr,FrameIs g σ s.heap env C.sc C.sl ρ→Rep g σ s→AOk d A→wpS g d c ρ Qn Qr σ→wpAny (M g) A (exec st env) (endS g C env s σ Qn Qr) nope s
noncomputable def SndSs (g:G) (C:Ctx) (st:List Stmt) (c:CSs):Prop:=∀ d A env ρ s σ Qn Qr,FrameIs g σ s.heap env C.sc C.sl ρ→Rep g σ s→AOk d A→wpSs g d c ρ Qn Qr σ→wpAny (M g) A (execs st env) (endS g C env s σ Qn Qr) nope s
theorem endS.trans {env:Env} {s s₁ s₂:Shared} {σ σ₁:Sg} {Qn:Env'→Sg→Prop} {Qr:V→Sg→Prop} {fl : Flow} (ow : ∀ a,own env a→∃ o,s₁.heap.get? a = some o) (x : StepF env s σ s₁ σ₁) (p : endS g C env s₁ σ₁ Qn Qr fl s₂) : endS g C env s σ Qn Qr fl s₂:=
  let ⟨σ',a,b,c⟩:=p; ⟨σ',a,x.trans ow b,c⟩
end
section
variable {g:G} (H : GOk g) {C:Ctx}
theorem nn {A:Around} {E:Value→Shared→Prop} {α : Type} {m : Sem α} {s:Shared} {Q Q' : α→Shared→Prop} (h : wpAny (M g) A m Q nope s) (k : ∀ x s',Q x s'→Q' x s') : wpAny (M g) A m Q' E s:=wpAny_mono h k fun _ _ f=>f.elim
theorem nns {A:Around} {E:Value→Shared→Prop} {env:Env} {m : Sem Flow} {s s₀:Shared} {σ:Sg} {Qn:Env'→Sg→Prop} {Qr:V→Sg→Prop} {Q' : Flow→Shared→Prop} (h : wpAny (M g) A m (endS g C env s σ Qn Qr) nope s₀)
    (k1 : ∀ s₁ σ₁ ρ',Rep g σ₁ s₁→StepF env s σ s₁ σ₁→FrameIs g σ₁ s₁.heap env C.sc C.sl ρ'→Qn ρ' σ₁→Q' .next s₁) (k2 : ∀ v s₁ σ₁,Rep g σ₁ s₁→StepF env s σ s₁ σ₁→endR Qr v σ₁ s₁→Q' (.ret v) s₁) : wpAny (M g) A m Q' E s₀:=
  nn h fun fl s₁ p=>by
    obtain ⟨σ₁,a,b,c⟩:=p
    cases fl with
    | next=>obtain ⟨ρ',d,e⟩:=c; exact k1 s₁ σ₁ ρ' a b d e
    | ret v=>exact k2 v s₁ σ₁ a b c
    | _=>exact c.elim
theorem sndSs_nil : SndSs g C [] .nil:=fun d A env ρ s σ Qn Qr F R O W=>wpAny_execs_nil ⟨σ,R, .of R (.refl _ _),ρ,F,W⟩
theorem sndSs_cons {st : Stmt} {r:List Stmt} {c:CS} {cs:CSs} (h : SndS g C st c) (hr : SndSs g C r cs) : SndSs g C (st :: r) (.cons c cs):=by
  intro d A env ρ s σ Qn Qr F R O W
  exact wpAny_execs_cons (nns (h d A env ρ s σ _ _ F R O W) (fun s₁ σ₁ ρ' R₁ S₁ F' W'=>nx (hr d A env ρ' s₁ σ₁ _ _ F' R₁ O W') fun _ _ p=>p.trans F'.lives S₁) fun v s₁ σ₁ R₁ S₁ W₁=>⟨σ₁,R₁,S₁,W₁⟩)
theorem sndS_ret {e:Expr} {p:Pos} {c:CE} (h : Snd g C e c) : SndS g C (.Return (some e) p) (.ret c):=by
  intro d A env ρ s σ Qn Qr F R O W
  exact wpAny_Return_some (nxp (h d A env ρ s σ _ F R O W) fun v s₁ x σ₁ hv R₁ S₁ W₁=>⟨σ₁,R₁, .of R S₁,x,hv,W₁⟩)
theorem sndS_ev {e:Expr} {p:Pos} {c:CE} (hn : CmpF e) (h : Snd g C e c) : SndS g C (.Expr e p) (.ev c):=by
  intro d A env ρ s σ Qn Qr F R O W
  refine wpAny_Expr (nxp (h d A env ρ s σ _ F R O W) fun v s₁ x σ₁ hv R₁ S₁ W₁=>?_) (by unfold interactive; rw [F.kind]; rfl) (hn _ _ _)
  cases x with
  | none=>
    refine hv.none_ ?_
    exact ⟨σ₁,R₁, .of R S₁,ρ,F.step R S₁,W₁.2⟩
  | _=>exact absurd W₁.1 (by simp [isNone])
theorem set_tail {x:Str} {b:Bool} {i:Nat} {env:Env} {ρ:Env'} {s s₁:Shared} {σ σ₁:Sg} {A:Around} {v:Value} {y:V} {Qn:Env'→Sg→Prop} {Qr:V→Sg→Prop} (hi : C.sl[i]? = some (x,b)) (F : FrameIs g σ s.heap env C.sc C.sl ρ) (R : Rep g σ s)
    (hv : VIs s₁.heap v y) (R₁ : Rep g σ₁ s₁) (S₁ : Step s σ s₁ σ₁) (W : Qn (rset ρ i y) σ₁) : wpAny (M g) A (storeName env x v) (fun _=>endS g C env s σ Qn Qr .next) nope s₁:=by
  have F₁:=F.step R S₁
  refine frame_set F₁ R₁ hi hv fun h' tk F' k fk=>⟨σ₁,R₁.off k (fun b ho=>F₁.own0 ho) fk,(StepF.of R S₁).trans F₁.lives ⟨fun a o no _ e=>k a o no e,fun _ h=>.inl h,fk⟩,_,F',W⟩
theorem sndS_set {x:Str} {b:Bool} {i:Nat} {px p:Pos} {e:Expr} {c:CE} (hi : C.sl[i]? = some (x,b)) (hn : CmpF e) (h : Snd g C e c) : SndS g C (.Assign [.Name x px] e p) (.set i c):=by
  intro d A env ρ s σ Qn Qr F R O W
  exact wpAny_Assign_Name (nxp (h d A env ρ s σ _ F R O W) fun v s₁ y σ₁ hv R₁ S₁ W₁=>set_tail hi F R hv R₁ S₁ W₁) (hn _ _ _)
noncomputable def swaps (b:Bool) (x:Str) (px pos:Pos) (scope : Scope):Bool:=!b && px.line == pos.line && !(scope.names.any fun (n,k)=>n == x && (k == .local || k == .cell))
theorem swaps_is {b:Bool} {x:Str} {i:Nat} {px:Pos} {elt:Expr} {gens:List Comprehension} {scope : Scope} {pos:Pos} {l:Nat} {env:Env} {ρ:Env'} {σ:Sg} {h:Heap} (hi : C.sl[i]? = some (x,b)) (F : FrameIs g σ h env C.sc C.sl ρ) :
    swapsWith (.ListComp elt gens scope pos) (some (.Name x px)) l env = pure (swaps b x px pos scope):=by
  have bk : env.blockKind = .function:=by unfold Env.blockKind; rw [F.kind]; rfl
  show (pure (env.blockKind == .function && env.kindOf x == some .local && px.line == (Expr.ListComp elt gens scope pos).pos.line && !(scope.names.any fun (n,k)=>n == x && (k == .local || k == .cell))) : Sem Bool) = _
  have kx:=F.ks i x b hi
  rw [bk,kx]
  unfold swaps
  cases b <;> rfl
theorem sndS_setc {x:Str} {b:Bool} {i:Nat} {px p:Pos} {elt:Expr} {gens:List Comprehension} {scope : Scope} {pos:Pos} {c:CE} (hi : C.sl[i]? = some (x,b)) (hs : swaps b x px pos scope = false) (h : Snd g C (.ListComp elt gens scope pos) c) :
    SndS g C (.Assign [.Name x px] (.ListComp elt gens scope pos) p) (.set i c):=by
  intro d A env ρ s σ Qn Qr F R O W
  exact wpAny_Assign_Name (nxp (h d A env ρ s σ _ F R O W) fun v s₁ y σ₁ hv R₁ S₁ W₁=>set_tail hi F R hv R₁ S₁ W₁) (by rw [swaps_is hi F,hs])
include H in
theorem sndS_setu {x:Str} {b:Bool} {i:Nat} {px p:Pos} {scope : Scope} {tg caps:List Str} {cap:List Nat} {elt tgt iter:Expr} {ce ci:CE} {pos:Pos} (hi : C.sl[i]? = some (x,b)) (hs : swaps b x px pos scope = true)
    (K : CompOk C scope tg caps cap) (ht : TgtIs tgt tg) (hns : SetF iter) (hit : Snd g C iter ci) (he : Snd g ⟨C.K,scope,compSl tg caps,C.cd⟩ elt ce) :
    SndS g C (.Assign [.Name x px] (.ListComp elt [⟨tgt,iter,[],0⟩] scope pos) p) (.set i (.comp ce tg.length cap ci)):=by
  intro d A env ρ s σ Qn Qr F R O W
  obtain ⟨cl,hcl,c1,c2⟩:=comp_closure K F
  rw [exec_Assign_Name_used _ _ _ _ (by rw [swaps_is hi F,hs])]
  refine wpAny_bind (wpAny_standAt (wpAny_bind ?_))
  show wpAny _ A (do let _ ← comprehension (.ListComp elt [⟨tgt,iter,[],0⟩] scope pos) scope env _ (newList []) false (eval iter env) (some (assign (.Name x px) env))) _ _ s
  refine wpAny_bind (nx (wpAny_comprehension_free (use:=some (assign (.Name x px) env)) (Q:=fun _ s'=>endS g C env s σ Qn Qr .next s') rfl (hns env) hcl K.kind (comp_names K) ?_) fun _ s' hq=>wpAny_pure (wpAny_pure hq))
  have W : wpE g d ci ρ _ σ:=W
  refine nxp (hit d A env ρ s σ _ F R O W) fun xv s₁ y σ₁ hx R₁ S₁ W₁=>?_
  obtain ⟨p,hs,W₁,W₂⟩:=W₁.ok
  have F₁:=F.step R S₁
  refine comp_core (t:=fun _ P σ=>P true σ) (RR:=fun acc L=>compPost (M g) A nope (some (assign (.Name x px) env)) (fun _ s'=>endS g C env s σ Qn Qr .next s') acc L) H K ht he (fun A env ρ s σ P F R O W=>wpAny_tests_nil ⟨σ,R, .refl _ _,W⟩) c1 c2 F₁ R₁ O hx hs W₁ W₂ fun D L s' E=>?_
  obtain ⟨vs,σ',m,R',S',oD,hm,W',sD,sL,fD,fL,ne⟩:=E
  have RD:=R'.track' (o:=.list vs) (R₁.none0 fD) oD
  have nL : ¬ own env L:=fun ho=>by obtain ⟨o,e⟩:=F₁.lives L ho; rw [fL] at e; cases e
  have nD : ¬ own env D:=fun ho=>by obtain ⟨o,e⟩:=F₁.lives D ho; rw [fD] at e; cases e
  have FD : FrameIs g (upd σ' D (.list vs)) s'.heap env C.sc C.sl ρ:=(F₁.step R₁ S').keeps (fun a o e _=>e) (fun a o _ e _=>e) fun a o e _ ho=>by
    rw [upd_ne (fun z=>nD (by rw [← z]; exact ho))]; exact e
  show wpAny _ A (assign (.Name x px) env (.ref D)) _ _ _
  refine wpAny_assign_Name (frame_set FD RD hi (.ref D) fun h₂ tk₂ F₂ k₂ fk₂=>?_)
  obtain ⟨oL,eL,nfL⟩:=ns_free hm
  have eL2:=k₂ L oL nL eL
  refine ⟨m,ns_at hm (eL2.trans eL.symm),fun h₃ sb₃=>?_⟩
  have kb : ∀ b o,b ≠ L→h₂.get? b = some o→h₃.get? b = some o:=fun b o n e=>(sb₃.2 b n).trans e
  have fk₃:=fix_of eL2 nfL kb
  have R₂ : Rep g (upd σ' D (.list vs)) { s' with heap:=h₂,toks:=tk₂ }:=RD.off k₂ (fun b ho=>FD.own0 ho) fk₂
  have T₁₂ : StepF env s σ { s' with heap:=h₂,toks:=tk₂ } (upd σ' D (.list vs)):=(StepF.of R (S₁.trans (S'.track' (o:=.list vs) fD))).trans FD.lives ⟨fun a o no _ e=>k₂ a o no e,fun _ h=>.inl h,fk₂⟩
  exact ⟨_,Rep.at1 (s:={ s' with heap:=h₂,toks:=tk₂ }) R₂ ⟨oL,eL2,nfL⟩ kb (by rw [upd_ne (Ne.symm ne)]; exact sL) (R₁.none0 fL),⟨fun a o no n e=>kb a o (fun z=>by subst z; have:=S₁.keep _ _ n e; rw [fL] at this; cases this) (T₁₂.keep a o no n e),T₁₂.dom,fun a o e c=>fk₃ a o (T₁₂.fix a o e c) c⟩,_,
    F₂.keeps fk₃ (fun a o _ e ho=>kb a o (fun z=>nL (by rw [← z]; exact ho)) e) fun a o e _ _=>e,W' D sD⟩
include H in
theorem sndS_setIt {o i e:Expr} {p' p:Pos} {co ci' c:CE} (hn : CmpF e) (ho : Snd g C o co) (hi : Snd g C i ci') (h : Snd g C e c) : SndS g C (.Assign [.Subscript o i p'] e p) (.setIt co ci' c):=by
  intro d A env ρ s σ Qn Qr F R O W
  refine wpAny_Assign_Subscript (nxp (h d A env ρ s σ _ F R O W) fun v s₁ z σ₁ hv R₁ S₁ W₁=>?_) (hn _ _ _)
  have F₁:=F.step R S₁
  refine nxp (ho d A env ρ s₁ σ₁ _ F₁ R₁ O W₁) fun u s₂ x σ₂ hu R₂ S₂ W₂=>?_
  have F₂:=F₁.step R₁ S₂
  refine nxp (hi d A env ρ s₂ σ₂ _ F₂ R₂ O W₂) fun w s₃ y σ₃ hw R₃ S₃ W₃=>?_
  have F₃:=F₂.step R₂ S₃
  refine nxe (setItW_sound H W₃ O R₃ (hu.step R₂ S₃) hw ((hv.step R₁ S₂).step R₂ S₃)) fun _ s₄ σ₄ R₄ S₄ W₄=>?_
  exact ⟨σ₄,R₄, .of R (((S₁.trans S₂).trans S₃).trans S₄),ρ,F₃.step R₃ S₄,W₄⟩
include H in
theorem sndS_setAt {o e:Expr} {n:Str} {i:Nat} {p' p:Pos} {co c:CE} (hnm : nm i = n) (hs : ∀ env:Env,env.scope.kind = .function→swapsWith e (some (.Attribute o n p')) p.line env = pure false) (ho : Snd g C o co) (h : Snd g C e c) : SndS g C (.Assign [.Attribute o n p'] e p) (.setAt co i c):=by
  intro d A env ρ s σ Qn Qr F R O W
  subst hnm
  refine plainObj_wpAny_Assign_Attribute (nxp (h d A env ρ s σ _ F R O W) fun v s₁ z σ₁ hv R₁ S₁ W₁=>?_) (hs env F.kind)
  have F₁:=F.step R S₁
  refine nxp (ho d A env ρ s₁ σ₁ _ F₁ R₁ O W₁) fun u s₂ x σ₂ hu R₂ S₂ W₂=>?_
  have F₂:=F₁.step R₁ S₂
  refine nxe (setAttrW_sound H W₂ O R₂ hu (hv.step R₁ S₂)) fun _ s₃ σ₃ R₃ S₃ W₃=>?_
  exact ⟨σ₃,R₃, .of R ((S₁.trans S₂).trans S₃),ρ,F₂.step R₂ S₃,W₃⟩
include H in
theorem sndS_augAt {o e:Expr} {n:Str} {i:Nat} {p' p:Pos} {co c:CE} (hnm : nm i = n) (ho : Snd g C o co) (h : Snd g C e c) : SndS g C (.AugAssign (.Attribute o n p') .Add e p) (.augAt co i c):=by
  intro d A env ρ s σ Qn Qr F R O W
  subst hnm
  refine wpAny_AugAssign_AttributeAny (nxp (ho d A env ρ s σ _ F R O W) fun u s₁ x σ₁ hu R₁ S₁ W₁=>?_)
  have F₁:=F.step R S₁
  refine nxp (attrW_sound H W₁ O R₁ hu) fun old s₂ y σ₂ hy R₂ S₂ W₂=>?_
  have F₂:=F₁.step R₁ S₂
  refine nxp (h d A env ρ s₂ σ₂ _ F₂ R₂ O W₂) fun v s₃ z σ₃ hz R₃ S₃ W₃=>?_
  have F₃:=F₂.step R₂ S₃
  have hy3:=hy.step R₂ S₃
  have hu3 : VIs s₃.heap u x:=(hu.step R₁ S₂).step R₂ S₃
  cases y <;> first | exact W₃.elim | skip
  cases z <;> first | exact W₃.elim | skip
  obtain ⟨t,rfl⟩:=hy3.inv_int; obtain ⟨t',rfl⟩:=hz.inv_int
  refine PySem.P.iadd_int ?_
  refine nxe (setAttrW_sound (s:={ s₃ with toks:=s₃.toks + 1 }) H W₃ O (R₃.tok _) hu3 (.int _ _)) fun _ s₄ σ₄ R₄ S₄ W₄=>?_
  have S₃' : Step s₃ σ₃ s₄ σ₄:=(Step.tok _).trans S₄
  exact ⟨σ₄,R₄, .of R (((S₁.trans S₂).trans S₃).trans S₃'),ρ,F₃.step R₃ S₃',W₄⟩
theorem sndS_ite {t:Expr} {a b:List Stmt} {p:Pos} {ct:CE} {ca cb:CSs} (ht : SndT g C t ct) (ha : SndSs g C a ca) (hb : SndSs g C b cb) : SndS g C (.If t a b p) (.ite ct ca cb):=by
  intro d A env ρ s σ Qn Qr F R O W
  refine wpAny_If (nxe (ht d A env ρ s σ _ F R O W) fun c s₁ σ₁ R₁ S₁ W₁=>?_)
  have F₁:=F.step R S₁
  cases c with
  | true=>exact nx (ha d A env ρ s₁ σ₁ _ _ F₁ R₁ O W₁) fun _ _ p=>p.trans F₁.lives (.of R S₁)
  | false=>exact nx (hb d A env ρ s₁ σ₁ _ _ F₁ R₁ O W₁) fun _ _ p=>p.trans F₁.lives (.of R S₁)
inductive WhlI (g:G) (C:Ctx) (env:Env) (s:Shared) (σ:Sg) (I:Nat→Env'→Sg→Prop) (n:Nat) (s' : Shared):Prop
  | mk (ρ' : Env') (σ' : Sg) (F : FrameIs g σ' s'.heap env C.sc C.sl ρ') (R : Rep g σ' s') (S : StepF env s σ s' σ') (h : I n ρ' σ')
theorem sndS_whl {t:Expr} {b:List Stmt} {p:Pos} {ct:CE} {cb:CSs} (ht : SndT g C t ct) (hb : SndSs g C b cb) : SndS g C (.While t b [] p) (.whl ct cb):=by
  intro d A env ρ s σ Qn Qr F R O W
  obtain ⟨I,⟨n,hI⟩,turn⟩:=(show ∃ I:Nat→Env'→Sg→Prop,(∃ n,I n ρ σ)∧∀ n ρ' σ',I n ρ' σ'→wpE g d ct ρ' (fun x σ₁=>truthW x (fun c σ₂=>if c = true then wpSs g d cb ρ' (fun ρ₂ σ₃=>∃ m,m < n∧I m ρ₂ σ₃) Qr σ₂ else Qn ρ' σ₂) σ₁) σ' from W)
  refine wpAny_While (codeAny_whileLoop (WhlI g C env s σ I) ?_ n ⟨ρ,σ,F,R, .of R (.refl _ _),hI⟩)
  intro n s' J
  obtain ⟨ρ',σ',F',R',S',hI'⟩:=J
  refine nn (ht d A env ρ' s' σ' _ F' R' O (turn n ρ' σ' hI')) fun c s₁ p=>?_
  obtain ⟨σ₁,R₁,S₁,W₁⟩:=p
  have F₁:=F'.step R' S₁
  have T₁:=S'.trans F'.lives (.of R' S₁)
  cases c with
  | true=>
    refine nns (hb d A env ρ' s₁ σ₁ _ _ F₁ R₁ O W₁) (fun s₂ σ₂ ρ₂ R₂ S₂ F₂ W₂=>?_) fun v s₂ σ₂ R₂ S₂ W₂=>⟨σ₂,R₂,T₁.trans F₁.lives S₂,W₂⟩
    obtain ⟨m,hm,hI₂⟩:=W₂
    exact ⟨m,hm,ρ₂,σ₂,F₂,R₂,T₁.trans F₁.lives S₂,hI₂⟩
  | false=>exact wpAny_execs_nil ⟨σ₁,R₁,T₁,ρ',F₁,W₁⟩
end
inductive SlotsAre (C:Ctx):List Expr→List Nat→Prop
  | nil : SlotsAre C [] []
  | cons {x:Str} {p:Pos} {i:Nat} {b:Bool} {r:List Expr} {is:List Nat} : C.sl[i]? = some (x,b)→SlotsAre C r is→SlotsAre C (.Name x p :: r) (i :: is)
theorem SlotsAre.length {C:Ctx} : ∀ {es is},SlotsAre C es is→es.length = is.length
  | _,_, .nil=>rfl
  | _,_, .cons _ r=>by simp [r.length]
section
variable {g:G} (H : GOk g) {C:Ctx}
noncomputable def SetTo (g:G) (C:Ctx) (env:Env) (σ:Sg) (ρ:Env') (h h' : Heap):Prop:=FrameIs g σ h' env C.sc C.sl ρ∧(∀ b o, ¬ own env b→h.get? b = some o→h'.get? b = some o)∧FixKeep h h'
theorem SetTo.rep {env:Env} {σ:Sg} {ρ ρ' : Env'} {s:Shared} {h' : Heap} {tk:Nat} (F : FrameIs g σ s.heap env C.sc C.sl ρ) (R : Rep g σ s) (x : SetTo g C env σ ρ' s.heap h') : Rep g σ { s with heap:=h',toks:=tk }:=R.off x.2.1 (fun b ho=>F.own0 ho) x.2.2
theorem SetTo.step {env:Env} {σ:Sg} {ρ' : Env'} {s:Shared} {h' : Heap} {tk:Nat} (x : SetTo g C env σ ρ' s.heap h') : StepF env s σ { s with heap:=h',toks:=tk } σ:=⟨fun a o no _ e=>x.2.1 a o no e,fun _ h=>.inl h,x.2.2⟩
theorem assign_list {env:Env} {A:Around} {σ:Sg} {Q : Unit→Shared→Prop} : ∀ {es:List Expr} {is:List Nat} {vals:List Value} {ys:List V} {ρ:Env'} {s:Shared},SlotsAre C es is→VIss s.heap vals ys→es.length = ys.length→
    FrameIs g σ s.heap env C.sc C.sl ρ→Rep g σ s→(∀ h' tk,SetTo g C env σ (rsets is ys ρ) s.heap h'→Q () { s with heap:=h',toks:=tk })→wpAny (M g) A (assignInOrder ((assignEach es env).map (·.2)) vals) Q nope s
  | _,_,_,_,ρ,s, .nil,v,hl,F,R,h=>by
    cases v with
    | cons=>simp at hl
    | nil=>exact assignInOrder_nil (h s.heap s.toks ⟨F,fun _ _ _ e=>e,fun _ _ e _=>e⟩)
  | _,_,_,_,ρ,s, .cons hi hr,v,hl,F,R,h=>by
    cases v with
    | nil=>simp at hl
    | cons hv hvs=>
      refine assignInOrder_cons (wpAny_assign_Name (frame_set F R hi hv fun h₁ tk F₁ k₁ fk₁=>?_))
      have T : SetTo g C env σ _ s.heap h₁:=⟨F₁,k₁,fk₁⟩
      refine assign_list (s:={ s with heap:=h₁,toks:=tk }) hr (hvs.keeps fk₁) (by simpa using hl) F₁ (T.rep F R) fun h₂ tk₂ x=>?_
      exact h h₂ tk₂ ⟨x.1,fun b o no e=>x.2.1 b o no (k₁ b o no e),fun a o e c=>x.2.2 a o (fk₁ a o e c) c⟩
theorem ext_step {σ:Sg} {s:Shared} {h₁:Heap} (R : Rep g σ s) (eb:Heap.ExtBut s.heap.objs.size s.heap h₁) : Rep g σ { s with heap:=h₁,toks:=s.toks }∧Step s σ { s with heap:=h₁,toks:=s.toks } σ:=by
  have k : ∀ b o,s.heap.get? b = some o→h₁.get? b = some o:=fun b o e=>eb b o (Nat.ne_of_lt (Heap.lt_size e)) e
  exact ⟨R.grow k,Step.grow k⟩
theorem tup_items {h:Heap} {v:Value} {ys:List V} (x : VIs h v (.tup ys)) : ∃ a items,v = .ref a∧IsTup h a items∧VIss h items.toList ys∧items.size = ys.length:=by
  obtain ⟨a,o,items,n,rfl,e1,c,dd,vl⟩:=x.inv_tup
  have:=vl.length
  rw [Array.length_toList] at this
  exact ⟨a,items,rfl,⟨o,e1,c,n,dd⟩,vl,this⟩
theorem slots_len {es:List Expr} {is:List Nat} (x : SlotsAre C es is) (env:Env) : (assignEach es env).length = es.length∧(assignEach es env).findIdx? (·.1) = none:=by
  induction x with
  | nil=>exact ⟨rfl,rfl⟩
  | @cons x p i b r is h hr ih=>
    have e : assignEach (.Name x p :: r) env = (false,assign (.Name x p) env) :: assignEach r env:=rfl
    rw [e]
    exact ⟨by simp [ih.1],by rw [List.findIdx?_cons]; simp [ih.2]⟩
theorem assign_tuple {env:Env} {A:Around} {σ:Sg} {es:List Expr} {is:List Nat} {v:Value} {ys:List V} {ρ:Env'} {s:Shared} {k:Nat} {p:Pos} {Q : Unit→Shared→Prop} (x : SlotsAre C es is) (hv : VIs s.heap v (.tup ys)) (hl : is.length = ys.length)
    (F : FrameIs g σ s.heap env C.sc C.sl ρ) (R : Rep g σ s) (hh : A.handled = none) (h : ∀ h' tk,SetTo g C env σ (rsets is ys ρ) s.heap h'→Q () { s with heap:=h',toks:=tk }) : wpAny (M g) A (assign (.Tuple es k p) env v) Q nope s:=by
  obtain ⟨a,items,rfl,it,vl,hz⟩:=tup_items hv
  have el:=x.length
  refine assign_Tuple_tuple hh it (by rw [(slots_len x env).1,hz]; exact Eq.trans ‹_› ‹_›) (slots_len x env).2 fun h₁ eb=>?_
  obtain ⟨R₁,S₁⟩:=ext_step R eb
  refine assign_list (s:={ s with heap:=h₁ }) x (vl.keeps (S₁.tup R)) (by exact Eq.trans ‹_› ‹_›) (F.step R S₁) R₁ fun h₂ tk₂ y=>?_
  exact h h₂ tk₂ ⟨y.1,fun b o no e=>y.2.1 b o no (by
    exact eb b o (Nat.ne_of_lt (Heap.lt_size e)) e),fun a o e c=>y.2.2 a o (S₁.tup R a o e c) c⟩
theorem sndS_unp {es:List Expr} {is:List Nat} {k:Nat} {p p' : Pos} {e:Expr} {c:CE} (x : SlotsAre C es is) (hn : CmpF e) (ht : TupF e) (h : Snd g C e c) : SndS g C (.Assign [.Tuple es k p] e p') (.unp is c):=by
  intro d A env ρ s σ Qn Qr F R O W
  rw [arm_exec_Assign]
  have e1 : swapsWithSole [.Tuple es k p] e p'.line env = pure false:=by unfold swapsWithSole; exact hn _ _ _
  rw [e1]
  refine wpAny_bind (wpAny_standAt (wpAny_bind (wpAny_pure ?_)))
  refine wpAny_bind (nxp (h d A env ρ s σ _ F R O W) fun v s₁ y σ₁ hv R₁ S₁ W₁=>?_)
  rw [ht]
  refine wpAny_bind (wpAny_pure ?_)
  cases y with
  | tup ys=>?_
  | _=>exact W₁.elim
  have F₁:=F.step R S₁
  show wpAny _ _ (assign (.Tuple es k p) env v >>= fun _=>pure Flow.next) _ _ _
  refine wpAny_bind (assign_tuple x hv W₁.1 F₁ R₁ O.handled fun h' tk z=>wpAny_pure ?_)
  exact ⟨σ₁,z.rep F₁ R₁,(StepF.of R S₁).trans F₁.lives z.step,_,z.1,W₁.2⟩
noncomputable def isStar:Expr→Bool
  | .Starred ..=>true
  | _=>false
noncomputable def swp2 (a b:Str) (pa pb:Pos) (v1 v2:Expr):Bool:=!isStar v1 && !isStar v2 && pb.line == pa.line && !(a == b) && !([v1,v2].all (foldedForSure 8)) && !([v1,v2].all (constantsAlone 8))
theorem swp2_is {a b:Str} {pa pb p p' : Pos} {k k' : Nat} {v1 v2:Expr} {i j:Nat} (h : swp2 a b pa pb v1 v2 = true) (hi : C.sl[i]? = some (a,false)) (hj : C.sl[j]? = some (b,false)) {env:Env} {ρ:Env'} {σ:Sg} {hp:Heap} (F : FrameIs g σ hp env C.sc C.sl ρ) :
    swappedStores [.Tuple [.Name a pa, .Name b pb] k p] (.Tuple [v1,v2] k' p') env = pure (some [a,b]):=by
  unfold swp2 at h
  simp only [Bool.and_eq_true,Bool.not_eq_true',beq_iff_eq] at h
  obtain ⟨⟨⟨⟨⟨n1,n2⟩,hl⟩,hab⟩,hf⟩,hc⟩:=h
  have bk : env.blockKind = .function:=by unfold Env.blockKind; rw [F.kind]; rfl
  have ka:=F.ks i a false hi
  have kb:=F.ks j b false hj
  have hab' : (b == a) = false:=by rw [beq_eq_false_iff_ne] at hab ⊢; exact Ne.symm hab
  have hs : ∀ f:Expr→Bool,f v1 = false→f v2 = false→[v1,v2].any f = false:=fun f z1 z2=>by simp only [List.any_cons,List.any_nil,z1,z2,Bool.or_false]
  have e1 : (if (env.kindOf a == some .local && pa.line == pa.line) = true then some a else none) = some a:=by rw [ka,beq_self_eq_true]; rfl
  have e2 : (if (env.kindOf b == some .local && pb.line == pa.line) = true then some b else none) = some b:=by rw [kb,hl,beq_self_eq_true]; rfl
  have e3 : [a,b].eraseDups = [a,b]:=by simp only [List.eraseDups,List.eraseDupsBy,List.eraseDupsBy.loop,List.any_nil,List.any_cons,hab',Bool.or_false]; rfl
  unfold swappedStores
  dsimp only
  rw [hs,bk,hf,hc]
  · generalize hn:List.filterMap _ [Expr.Name a pa, .Name b pb] = names
    have e4 : names = [a,b]:=hn.symm.trans ((List.filterMap_cons_some (by exact e1)).trans (congrArg (a :: ·) ((List.filterMap_cons_some (by exact e2)).trans rfl)))
    subst e4
    rw [e3]; rfl
  · exact n1
  · exact n2
set_option tactic.hygienic true in
theorem sndS_swp {a b:Str} {pa pb p p' p'' : Pos} {k k' : Nat} {v1 v2:Expr} {i j:Nat} {c:CE} (h : swp2 a b pa pb v1 v2 = true) (hi : C.sl[i]? = some (a,false)) (hj : C.sl[j]? = some (b,false)) (he : Snd g C (.Tuple [v1,v2] k' p') c) :
    SndS g C (.Assign [.Tuple [.Name a pa, .Name b pb] k p] (.Tuple [v1,v2] k' p') p'') (.unp [i,j] c):=by
  intro d A env ρ s σ Qn Qr F R O W
  rw [arm_exec_Assign]
  have e1 : swapsWithSole [.Tuple [.Name a pa, .Name b pb] k p] (.Tuple [v1,v2] k' p') p''.line env = pure false:=by unfold swapsWithSole; rfl
  rw [e1]
  refine wpAny_bind (wpAny_standAt (wpAny_bind (wpAny_pure ?_)))
  refine wpAny_bind (nxp (he d A env ρ s σ _ F R O W) fun v s₁ y σ₁ hv R₁ S₁ W₁=>?_)
  rw [swp2_is h hi hj F]
  refine wpAny_bind (wpAny_pure ?_)
  cases y <;> first | exact W₁.elim | skip
  rename_i ys
  obtain ⟨hl,W₁⟩:=W₁
  have F₁:=F.step R S₁
  obtain ⟨ad,items,rfl,it,vl,hz⟩:=tup_items hv
  have hz2 : items.size = 2:=by rw [hz, ← hl]; rfl
  unfold assignStores
  refine wpAny_bind (wpAny_rule (wpAny_bind ?_))
  show wpAny _ _ (unpackItems (.ref ad) 2 none) _ _ _
  rw [← hz2]
  refine unpackItems_tuple O.handled it fun h₁ eb=>?_
  obtain ⟨R₂,S₂⟩:=ext_step R₁ eb
  have F₂:=F₁.step R₁ S₂
  have vl2:=vl.keeps (S₂.tup R₁)
  match ys,hl,W₁,vl2 with
  | [y1,y2],hl,W₁,vl2=>
    obtain ⟨u1,u2,e,h1,h2⟩:=vl2.inv2
    rw [e]
    refine wpAny_bind (m:=assignInOrder ([a,b].reverse.map fun n=>bindName env n) [u1,u2].reverse) ?_
    show wpAny _ _ (assignInOrder [bindName env b,bindName env a] [u2,u1]) _ _ _
    refine assignInOrder_cons (wpAny_bindName (frame_set (s:={ s₁ with heap:=h₁ }) F₂ R₂ hj h2 fun h₂ tk F₃ k₃ fk₃=>?_))
    have T : SetTo g C env σ₁ _ h₁ h₂:=⟨F₃,k₃,fk₃⟩
    have R₃ : Rep g σ₁ { s₁ with heap:=h₂,toks:=tk }:=SetTo.rep (s:={ s₁ with heap:=h₁ }) F₂ R₂ T
    refine assignInOrder_cons (wpAny_bindName (frame_set (s:={ s₁ with heap:=h₂,toks:=tk }) F₃ R₃ hi (h1.keeps fk₃) fun h₄ tk₄ F₄ k₄ fk₄=>assignInOrder_nil (wpAny_pure ?_)))
    have T₄ : SetTo g C env σ₁ _ h₂ h₄:=⟨F₄,k₄,fk₄⟩
    have R₄ : Rep g σ₁ { s₁ with heap:=h₄,toks:=tk₄ }:=SetTo.rep (s:={ s₁ with heap:=h₂,toks:=tk }) F₃ R₃ T₄
    have hij : i ≠ j:=fun z=>by
      subst z; rw [hi] at hj; cases hj
      unfold swp2 at h; simp at h
    have er : rset (rset ρ j y2) i y1 = rsets [i,j] [y1,y2] ρ:=by
      show (ρ.set j (some y2)).set i (some y1) = (ρ.set i (some y1)).set j (some y2)
      exact List.set_comm _ _ (Ne.symm hij)
    have S02 : StepF env s σ { s₁ with heap:=h₁ } σ₁:=.of R (S₁.trans S₂)
    have S03:=S02.trans F₂.lives (T.step (s:={ s₁ with heap:=h₁ }) (tk:=tk))
    have S04:=S03.trans F₃.lives (T₄.step (s:={ s₁ with heap:=h₂,toks:=tk }) (tk:=tk₄))
    exact ⟨σ₁,R₄,S04,_,F₄,by rw [er]; exact W₁⟩
theorem for_loop {prog : Program} {w:World} {A:Around} {s:Shared} {R : Result→Shared→Prop} {target it body env} (I:Nat→Shared→Prop)
    (turn : ∀ n s,I n s→wpAny (model prog w) A (pyNext it) (fun r s₁=>match r with
      | none=>wpAny (model prog w) A (execs [] env) (fun f s₃=>R (.ok f) s₃) nope s₁
      | some v=>wpAny (model prog w) A (letOwnedTupleGo target it v) (fun _ s₁'=>wpAny (model prog w) A (assign target env v) (fun _ s₂=>wpAny (model prog w) A (execs body env) (fun f s₃=>match f with
          | .next | .cont=>∃ m,m < n∧I m s₃
          | .brk=>R (.ok .next) s₃
          | .ret v=>R (.ok (.ret v)) s₃) nope s₂) nope s₁') nope s₁) nope s)
    (n:Nat) (h : I n s) : codeAny (model prog w) A (.forLoop target it body [] env) R s:=by
  have nx : ∀ {E' : Value→Shared→Prop} v s',nope v s'→E' v s':=fun _ _ f=>f.elim
  refine codeAny_loop' rfl I (fun n s hI=>?_) n h
  show wpAny _ _ ((forTurn target it body [] env).onRaise (fun x=>do noteFrame x env; theTreesLotGoes x)) _ _ s
  refine wpAny_noted ?_
  simp only [forTurn]
  refine wpAny_bind (wpAny_standAt (wpAny_bind (wpAny_onRaise (wpAny_mono (turn n s hI) (fun r s₁ h₁=>?_) nx))))
  cases r with
  | none=>exact wpAny_pure (.inr ⟨rfl,codeAny_block (wpAny_mono h₁ (fun _ _ z=>z) nx)⟩)
  | some v=>
    refine wpAny_bind (wpAny_mono h₁ (fun _ s₁' h₁'=>?_) nx)
    refine wpAny_bind (wpAny_mono h₁' (fun _ s₂ h₂=>wpAny_bind (wpAny_mono h₂ (fun f s₃ h₃=>?_) nx)) nx)
    cases f with
    | next=>exact wpAny_pure (.inl ⟨rfl,h₃⟩)
    | cont=>exact wpAny_pure (.inl ⟨rfl,h₃⟩)
    | brk=>exact wpAny_pure h₃
    | ret v=>exact wpAny_pure h₃
inductive ForT (C:Ctx):Expr→List Nat→Prop
  | one {x:Str} {p:Pos} {i:Nat} {b:Bool} : C.sl[i]? = some (x,b)→ForT C (.Name x p) [i]
  | many {es:List Expr} {k:Nat} {p:Pos} {i j:Nat} {is:List Nat} : SlotsAre C es (i :: j :: is)→ForT C (.Tuple es k p) (i :: j :: is)
set_option tactic.hygienic true in
theorem assign_for {env:Env} {A:Around} {σ:Sg} {tgt:Expr} {is:List Nat} {v:Value} {y:V} {ρ ρ' : Env'} {s:Shared} {Q : Unit→Shared→Prop} (x : ForT C tgt is) (hv : VIs s.heap v y) (hb : bindN is y ρ = some ρ') (F : FrameIs g σ s.heap env C.sc C.sl ρ) (R : Rep g σ s) (hh : A.handled = none)
    (h : ∀ h' tk,SetTo g C env σ ρ' s.heap h'→Q () { s with heap:=h',toks:=tk }) : wpAny (M g) A (assign tgt env v) Q nope s:=by
  cases x with
  | one hi=>
    cases hb
    exact wpAny_assign_Name (frame_set F R hi hv fun h₁ tk F₁ k₁ fk₁=>h h₁ tk ⟨F₁,k₁,fk₁⟩)
  | @many es k p i j is hx=>
    cases y <;> first | cases hb | skip
    rename_i ys
    have hb : (if (i :: j :: is).length = ys.length then some (rsets (i :: j :: is) ys ρ) else none) = some ρ':=hb
    split at hb
    · rename_i hl
      cases hb
      exact assign_tuple hx hv hl F R hh h
    · cases hb
inductive ForInv (g:G) (C:Ctx) (env:Env) (s:Shared) (σ:Sg) (I:Addr) (St:Nat→Heap→Prop) (xs:List V) (W:List V→Env'→Sg→Prop) (n:Nat) (s' : Shared):Prop
  | mk (i:Nat) (ρ' : Env') (σ' : Sg) (hn : n = xs.length - i) (hi : i ≤ xs.length) (F : FrameIs g σ' s'.heap env C.sc C.sl ρ') (R : Rep g σ' s') (S : StepF env s σ s' σ') (st : St i s'.heap) (sI : σ' I = none) (w : W (xs.drop i) ρ' σ')
include H in
theorem sndS_for {tgt iter:Expr} {is:List Nat} {b:List Stmt} {p:Pos} {ci:CE} {cb:CSs} (x : ForT C tgt is) (hns : SetF iter) (hi : Snd g C iter ci) (hb : SndSs g C b cb) : SndS g C (.For tgt iter b [] p) (.for is ci cb):=by
  intro d A env ρ s σ Qn Qr F R O W
  have W : wpE g d ci ρ _ σ:=W
  refine wpAny_For (nxp (hi d A env ρ s σ _ F R O W) fun xv s₁ xx σ₁ hx R₁ S₁ W₁=>?_) (hns env)
  obtain ⟨⟨xs,ep⟩,hs,hlen,W₁⟩:=W₁.ok
  have F₁:=F.step R S₁
  refine iter_start H hs hlen R₁ O hx fun I St h₂ It st0 fI k₂=>?_
  have nI : ¬ own env I:=fun ho=>by obtain ⟨o,e⟩:=F₁.lives I ho; rw [fI] at e; cases e
  have S₂ : Step s₁ σ₁ { s₁ with heap:=h₂ } σ₁:=Step.grow (t:=s₁.toks) k₂
  refine for_loop (ForInv g C env s₁ σ₁ I St xs fun ys ρ' σ'=>forW (fun y ρ' K σ₂=>bound (bindN is y ρ') fun ρ''=>wpSs g d cb ρ'' K Qr σ₂) (fun σ₂=>srcOf g σ₂ xx = some (xs,ep)) Qn ys ρ' σ') ?_ xs.length ⟨0,ρ,σ₁,rfl,Nat.zero_le _,F₁.step R₁ S₂,R₁.grow (t:=s₁.toks) k₂, .of R₁ S₂,st0,fresh_none R₁ fI,W₁⟩
  clear W S₂ st0 k₂ W₁ hx hlen
  rintro n s' ⟨i,ρ',σ',rfl,hil,F',R',S',st,sI,W'⟩
  have live:=It.live i _ st
  cases hy : xs[i]? with
  | none=>
    obtain rfl : i = xs.length:=Nat.le_antisymm hil (List.getElem?_eq_none_iff.mp hy)
    rw [List.drop_length] at W'
    exact It.done s' σ' _ R' W'.1 st fun h' tk k=>wpAny_execs_nil ⟨σ',R'.at1 live k sI (R₁.none0 fI),(StepF.of R S₁).trans F₁.lives (S'.at1 fI live k),ρ',F'.at1 nI live k,W'.2⟩
  | some y=>
    have hlt:=(List.getElem?_eq_some_iff.mp hy).1
    rw [drop_at hy] at W'
    obtain ⟨stay,W'⟩:=W'
    refine It.item i s' σ' y _ R' stay st hy fun v h₅ tk₅ hv st₅ k₅=>?_
    have ow:=It.own _ _ st₅
    refine owned_go (s:={ s' with heap:=h₅,toks:=tk₅ }) ow ?_
    have R₅ : Rep g σ' { s' with heap:=h₅,toks:=tk₅ }:=R'.at1 live k₅ sI (R₁.none0 fI)
    have F₅:=F'.at1 nI live k₅
    have W' : bound (bindN is y ρ') _:=W'
    cases hbn : bindN is y ρ' with
    | none=>rw [hbn] at W'; exact W'.elim
    | some ρ''=>
      rw [hbn] at W'
      refine assign_for (s:={ s' with heap:=h₅,toks:=tk₅ }) x hv hbn F₅ R₅ O.handled fun h₆ tk₆ z=>?_
      have R₆ : Rep g σ' { s' with heap:=h₆,toks:=tk₆ }:=SetTo.rep (s:={ s' with heap:=h₅,toks:=tk₅ }) F₅ R₅ z
      have S₆:=(S'.at1 (t:=tk₅) fI live k₅).trans F₅.lives (z.step (s:={ s' with heap:=h₅,toks:=tk₅ }) (tk:=tk₆))
      have eI6:=at_eq ow.free fun o e=>z.2.1 _ o nI e
      have st₆:=It.frame _ _ _ st₅ z.2.2 eI6
      refine nns (hb d A env ρ'' { s' with heap:=h₆,toks:=tk₆ } σ' _ _ z.1 R₆ O W') (fun s₇ σ₇ ρ₇ R₇ S₇ F₇ W₇=>?_) fun v s₇ σ₇ R₇ S₇ W₇=>⟨σ₇,R₇,(StepF.of R S₁).trans F₁.lives (S₆.trans z.1.lives S₇),W₇⟩
      have S07:=S₆.trans z.1.lives S₇
      obtain ⟨oI,eI,_⟩:=It.live _ _ st₆
      exact ⟨_,Nat.sub_lt_sub_left hlt (Nat.lt_succ_self i),i + 1,ρ₇,σ₇,rfl,hlt,F₇,R₇,S07,It.frame _ _ _ st₆ S₇.fix (by rw [S₇.keep I oI nI sI eI]; exact eI.symm),S₇.gone sI eI,W₇⟩
end
theorem forIn_pure {α β : Type} {f : α→β→Sem (ForInStep β)} {k : α→β→β} (hf : ∀ x r,f x r = pure (.yield (k x r))) : ∀ (l:List α) (b : β),forIn l b f = (pure (l.foldl (fun r x=>k x r) b) : Sem β)
  | [],b=>rfl
  | x :: r,b=>by
    rw [List.forIn_cons,hf]
    exact forIn_pure hf r _
theorem zip_lookup {β : Type} : ∀ {xs:List Str} {vs:List β},xs.Nodup→∀ {i:Nat} {x:Str},xs[i]? = some x→(xs.zip vs).lookup x = vs[i]?
  | [],_,_,i,x,e=>by simp at e
  | y :: r,[],_,i,x,e=>by rfl
  | y :: r,v :: vs,hn,0,x,e=>by
    simp only [List.getElem?_cons_zero,Option.some.injEq] at e
    subst e
    simp
  | y :: r,v :: vs,hn,i + 1,x,e=>by
    rw [List.nodup_cons] at hn
    simp only [List.getElem?_cons_succ] at e
    have : x ≠ y:=fun z=>hn.1 (z ▸ List.mem_of_getElem? e)
    rw [List.zip_cons_cons,List.lookup_cons,beq_eq_false_iff_ne.mpr this]
    simpa using zip_lookup hn.2 e
theorem zip_full {β : Type} : ∀ {xs:List Str} {vs:List β},xs.length = vs.length→xs.Nodup→(xs.filterMap fun n=>((xs.zip vs).lookup n).map (n, ·)) = xs.zip vs:=by
  intro xs vs hl hn
  apply List.ext_getElem?
  have key : ∀ (l:List Str) (k:Str→Option (Str × β)) ,(∀ x ∈ l,(k x).isSome = true)→∀ i:Nat,(l.filterMap k)[i]? = l[i]?.bind k:=by
    intro l k
    induction l with
    | nil=>intro _ i; simp
    | cons a r ih=>
      intro h i
      obtain ⟨u,hu⟩:=Option.isSome_iff_exists.mp (h a (by exact List.mem_cons_self ..))
      rw [List.filterMap_cons_some hu]
      cases i with
      | zero=>simp [hu]
      | succ i=>simpa using ih (fun x hx=>h x (by simp [hx])) i
  intro i
  rw [key]
  · cases h : xs[i]? with
    | none=>
      have : xs.length ≤ i:=List.getElem?_eq_none_iff.mp h
      rw [List.getElem?_eq_none_iff.mpr (by simp; lia)]; rfl
    | some x=>
      have hi:=(List.getElem?_eq_some_iff.mp h).1
      have hv : i < vs.length:=by lia
      have hv2 : vs[i]? = some vs[i]:=by simp [hv]
      rw [Option.bind_some,zip_lookup hn h,hv2]
      exact (List.getElem?_zip_eq_some.mpr ⟨h,hv2⟩).symm
  · intro x hx
    obtain ⟨i,hi,e⟩:=List.mem_iff_getElem.mp hx
    have e1 : xs[i]? = some x:=by rw [← e]; simp [hi]
    rw [zip_lookup hn e1]
    have hv : i < vs.length:=by lia
    simp [hv]
theorem fold_skip (slots:List (Str × Value)) : ∀ l:List (Str × Value),(∀ p ∈ l,(slots.lookup p.1).isNone = false)→l.foldl (fun r x=>if (r.lookup x.1).isNone = true then r ++ [(x.1,x.2)] else r) slots = slots
  | [],_=>rfl
  | p :: r,h=>by
    rw [List.foldl_cons,h p (by exact List.mem_cons_self ..),if_neg Bool.false_ne_true]
    exact fold_skip slots r fun q hq=>h q (by simp [hq])
theorem lookup_none_of {l:List (Str × Value)} {x:Str} (h : x ∉ l.map (·.1)) : l.lookup x = none:=by
  induction l with
  | nil=>rfl
  | cons p r ih=>
    simp only [List.map_cons,List.mem_cons,not_or] at h
    rw [List.lookup_cons,beq_eq_false_iff_ne.mpr h.1]
    exact ih h.2
theorem fold_add : ∀ (l slots:List (Str × Value)),(((slots ++ l).map (·.1)).Nodup)→l.foldl (fun r x=>if (r.lookup x.1).isNone = true then r ++ [(x.1,x.2)] else r) slots = slots ++ l
  | [],slots,_=>by simp
  | p :: r,slots,h=>by
    have hp : slots.lookup p.1 = none:=lookup_none_of fun hm=>by
      rw [List.map_append,List.map_cons,List.nodup_append] at h
      exact h.2.2 _ hm _ (by exact List.mem_cons_self ..) rfl
    rw [List.foldl_cons,hp,if_pos (show (none:Option Value).isNone = true from rfl),fold_add r (slots ++ [(p.1,p.2)]) (by simpa using h)]
    simp
noncomputable def parsOk (p : Arguments):Bool:=p.posonlyargs.isEmpty && p.vararg.isNone && p.kwonlyargs.isEmpty && p.kwarg.isNone
theorem zip_hit {x:Str} {as:List Str} : ∀ {vs:List Value},as.length = vs.length→x ∈ as→((as.zip vs).lookup x).isNone = false:=by
  induction as with
  | nil=>intro vs _ hm; cases hm
  | cons a as ih=>
    intro vs hl hm
    cases vs with
    | nil=>cases hl
    | cons v vs=>
      rw [List.zip_cons_cons,List.lookup_cons]
      by_cases e : x = a
      · rw [e,beq_self_eq_true]; rfl
      · rw [beq_eq_false_iff_ne.mpr e]; exact ih (Nat.succ.inj hl) (List.mem_of_ne_of_mem e hm)
theorem bd_fold {xa xb yb:List Str} {va vb da db:List Value} (hn : (xa ++ (xb ++ yb)).Nodup) (ha : va.length = xa.length) (hb : vb.length = xb.length) (hd : da.length = xb.length) (he : db.length = yb.length) :
    ((xb ++ yb).zip (da ++ db)).foldl (fun r x=>if (r.lookup x.1).isNone = true then r ++ [(x.1,x.2)] else r) ((xa ++ (xb ++ yb)).zip (va ++ vb)) = (xa ++ (xb ++ yb)).zip (va ++ (vb ++ db)):=by
  have e0 : (xb ++ yb).zip (vb ++ []) = xb.zip vb ++ yb.zip []:=List.zip_append hb.symm
  rw [List.append_nil,List.zip_nil_right,List.append_nil] at e0
  have e1 : (xa ++ (xb ++ yb)).zip (va ++ vb) = (xa ++ xb).zip (va ++ vb):=by rw [List.zip_append ha.symm,List.zip_append ha.symm,e0]
  have e2 : (xa ++ (xb ++ yb)).zip (va ++ (vb ++ db)) = (xa ++ xb).zip (va ++ vb) ++ yb.zip db:=by rw [List.zip_append ha.symm,List.zip_append hb.symm,List.zip_append ha.symm,List.append_assoc]
  have hl : (xa ++ xb).length = (va ++ vb).length:=by rw [List.length_append,List.length_append (as:=va),ha,hb]
  have hm : (xa ++ (xb ++ yb)).length ≤ (va ++ (vb ++ db)).length:=by simp only [List.length_append,ha,hb,he]; exact Nat.le_refl _
  have sk:=fold_skip ((xa ++ xb).zip (va ++ vb)) (xb.zip da) fun p hp=>zip_hit hl (List.mem_append_right _ (List.of_mem_zip (a:=p.1) (b:=p.2) hp).1)
  have ad:=fold_add (yb.zip db) ((xa ++ xb).zip (va ++ vb)) (by rw [← e2,List.map_fst_zip hm]; exact hn)
  rw [e1,e2,List.zip_append hd.symm,List.foldl_append,sk,ad]
theorem bd_split {xs:List Str} {vals ds:List Value} (h1 : vals.length ≤ xs.length) (h2 : xs.length ≤ vals.length + ds.length) (h3 : ds.length ≤ xs.length) :
    ∃ xa xb yb va vb da db,xs = xa ++ (xb ++ yb)∧vals = va ++ vb∧ds = da ++ db∧va.length = xa.length∧vb.length = xb.length∧da.length = xb.length∧db.length = yb.length:=by
  obtain ⟨n,hn⟩ : ∃ n,xs.length = n + ds.length:=⟨_,(Nat.sub_add_cancel h3).symm⟩
  rw [hn] at h1 h2
  obtain ⟨k,hk⟩:=Nat.exists_eq_add_of_le (Nat.le_of_add_le_add_right h2)
  have hkd : k ≤ ds.length:=Nat.le_of_add_le_add_left (hk ▸ h1)
  refine ⟨xs.take n,(xs.drop n).take k,(xs.drop n).drop k,vals.take n,vals.drop n,ds.take k,ds.drop k,by rw [List.take_append_drop,List.take_append_drop],(List.take_append_drop ..).symm,(List.take_append_drop ..).symm,?_,?_,?_,?_⟩
  · rw [List.length_take,List.length_take,hn,hk,Nat.min_eq_left (Nat.le_add_right _ _),Nat.min_eq_left (Nat.le_add_right _ _)]
  · rw [List.length_take,List.length_drop,List.length_drop,hn,hk,Nat.add_sub_cancel_left,Nat.add_sub_cancel_left,Nat.min_eq_left hkd]
  · rw [List.length_take,List.length_take,List.length_drop,hn,Nat.add_sub_cancel_left]
  · rw [List.length_drop,List.length_drop,List.length_drop,hn,Nat.add_sub_cancel_left]
theorem bd_facts {xs:List Str} {vals ds:List Value} (hn : xs.Nodup) (h1 : vals.length ≤ xs.length) (h2 : xs.length ≤ vals.length + ds.length) (h3 : ds.length ≤ xs.length) :
    ((xs.take (xs.length - ds.length)).filter fun n=>((xs.zip vals).lookup n).isNone) = []∧
    ((xs.drop (xs.length - ds.length)).zip ds).foldl (fun r x=>if (r.lookup x.1).isNone = true then r ++ [(x.1,x.2)] else r) (xs.zip vals) = xs.zip (vals ++ ds.drop (vals.length + ds.length - xs.length))∧
    (vals ++ ds.drop (vals.length + ds.length - xs.length)).length = xs.length:=by
  obtain ⟨xa,xb,yb,va,vb,da,db,rfl,rfl,rfl,ha,hb,hd,he⟩:=bd_split h1 h2 h3
  clear h1 h2 h3
  have l1 : (xa ++ (xb ++ yb)).length - (da ++ db).length = xa.length:=by simp only [List.length_append,hd,he,Nat.add_sub_cancel]
  have l2 : (va ++ vb).length + (da ++ db).length - (xa ++ (xb ++ yb)).length = da.length:=by
    simp only [List.length_append,ha,hb,hd,he]
    rw [← Nat.add_assoc xa.length,Nat.add_assoc, ← Nat.add_assoc xa.length,Nat.add_comm xb.length yb.length, ← Nat.add_assoc,Nat.add_sub_cancel_left]
  rw [l1,l2,List.take_left,List.drop_left,List.drop_left,List.append_assoc]
  refine ⟨?_,bd_fold hn ha hb hd he,by simp only [List.length_append,ha,hb,he]⟩
  rw [List.filter_eq_nil_iff]
  intro x hx
  have:=zip_hit (vs:=va ++ vb) (as:=xa ++ xb) (by rw [List.length_append,List.length_append (as:=va),ha,hb]) (List.mem_append_left _ hx)
  have e0 : (xb ++ yb).zip (vb ++ []) = xb.zip vb ++ yb.zip []:=List.zip_append hb.symm
  rw [List.append_nil,List.zip_nil_right,List.append_nil] at e0
  rw [List.zip_append ha.symm] at this ⊢
  rw [e0,this]
  exact Bool.false_ne_true
theorem binds_to {s:Shared} {fd:FuncData} {vals ds:List Value} (hp : parsOk fd.params = true) (hn : (fd.params.args.map (·.arg)).Nodup) (hd : (fd.defaults = .none∧ds = [])∨∃ a o n,fd.defaults = .ref a∧s.heap.get? a = some o∧o.data = .seq ds.toArray n)
    (h1 : vals.length ≤ fd.params.args.length) (h2 : fd.params.args.length ≤ vals.length + ds.length) (h3 : ds.length ≤ fd.params.args.length) :
    BindsTo s fd ⟨vals,[]⟩ ((fd.params.args.map (·.arg)).zip (vals ++ ds.drop (vals.length + ds.length - fd.params.args.length))):=by
  intro M A E Q q
  unfold parsOk at hp
  simp only [Bool.and_eq_true,List.isEmpty_iff,Option.isNone_iff_eq_none] at hp
  obtain ⟨nm,qn,⟨po,as,va,ko,kd,kw,df⟩,bd,sc,gl,cl,dv,kdv,dc,pm,an,cd,ct,bt⟩:=fd
  dsimp only at hp hn hd h1 h2 h3 q ⊢
  obtain ⟨⟨⟨rfl,rfl⟩,rfl⟩,rfl⟩:=hp
  rw [← List.length_map (f:=(·.arg)) (as:=as)] at h1 h2 h3 q
  generalize hxs : as.map (·.arg) = xs at hn h1 h2 h3 q
  obtain ⟨c3,fold,hz⟩:=bd_facts hn h1 h2 h3
  have c1 : (decide (vals.length > xs.length) && (none:Option Arg).isNone) = false:=by rw [decide_eq_false (Nat.not_lt.mpr h1)]; rfl
  have c2 : ds.length - xs.length = 0:=Nat.sub_eq_zero_of_le h3
  clear h1 h2 h3
  have sq : ∀ {Q' : Option (Array Value)→Shared→Prop},(∀ r,(r.getD #[]).toList = ds→Q' r s)→wpAny M A (seqItems? dv) Q' E s:=by
    intro Q' k
    rcases hd with ⟨e,rfl⟩ | ⟨a,o,n,e,ho,hdt⟩
    · rw [e]; exact wpAny_pure (k none rfl)
    · rw [e]; exact wpAny_seqItems ho hdt (k (some ds.toArray) rfl)
  unfold bindArgs
  dsimp only
  rw [hxs]
  simp only [List.map_nil,List.nil_append,List.append_nil,List.forIn_nil]
  refine wpAny_bind (wpAny_pure (wpAny_bind (sq fun r hr=>?_)))
  dsimp only
  rw [hr]
  rw [if_neg (by rw [c1]; exact Bool.false_ne_true)]
  simp only [c2,List.drop_zero,c3,List.isEmpty_nil,Bool.not_true,Bool.false_eq_true,if_false]
  rw [forIn_pure (k:=fun x r=>if (r.lookup x.1).isNone = true then r ++ [(x.1,x.2)] else r) (fun x r=>by obtain ⟨a,b⟩:=x; dsimp only; split <;> rfl)]
  refine wpAny_bind (wpAny_pure ?_)
  rw [fold]
  refine wpAny_bind (wpAny_pure (wpAny_pure ?_))
  dsimp only
  rw [zip_full hz.symm hn]
  exact q
theorem cells_some : ∀ (names:List (Str × NameKind)) (n:Nat) (acc:List (Str × Addr)) (x:Str),((x,NameKind.cell) ∈ names∨(acc.lookup x).isSome = true)→((cellsFrom n names acc).lookup x).isSome = true
  | [],_,acc,x,h=>by
    rcases h with h | h
    · cases h
    · exact h
  | (y,k) :: r,n,acc,x,h=>by
    unfold cellsFrom
    split
    · rename_i hk
      refine cells_some r _ _ x ?_
      rcases h with h | h
      · rcases List.mem_cons.mp h with e | h
        · cases e; exact .inr (by simp)
        · exact .inl h
      · refine .inr ?_
        rw [List.lookup_cons]
        split <;> simp [h]
    · rename_i hk
      refine cells_some r _ _ x ?_
      rcases h with h | h
      · rcases List.mem_cons.mp h with e | h
        · cases e; exact absurd rfl hk
        · exact .inl h
      · exact .inr h
theorem bindL_none {kind:Str→Option NameKind} {x:Str} : ∀ {binds:List (Str × Value)} {m:Str→Option Value},x ∉ binds.map (·.1)→bindL kind binds m x = m x
  | [],_,_=>rfl
  | (n,v) :: r,m,h=>by
    simp only [List.map_cons,List.mem_cons,not_or] at h
    unfold bindL
    rw [bindL_none h.2]
    split
    · exact if_neg h.1
    · rfl
theorem bindL_at {kind:Str→Option NameKind} : ∀ {binds:List (Str × Value)} {m:Str→Option Value} {x:Str} {v:Value},(binds.map (·.1)).Nodup→(x,v) ∈ binds→kind x = some .local→bindL kind binds m x = some v
  | (n,u) :: r,m,x,v,hn,h,hk=>by
    rw [List.map_cons,List.nodup_cons] at hn
    unfold bindL
    rcases List.mem_cons.mp h with e | h
    · cases e
      rw [bindL_none hn.1,if_pos hk]; simp
    · exact bindL_at hn.2 h hk
theorem bindC_none {kind:Str→Option NameKind} {x:Str} : ∀ {binds:List (Str × Value)} {m:Str→Option Value},x ∉ binds.map (·.1)→bindC kind binds m x = m x
  | [],_,_=>rfl
  | (n,v) :: r,m,h=>by
    simp only [List.map_cons,List.mem_cons,not_or] at h
    unfold bindC
    rw [bindC_none h.2]
    split
    · rfl
    · exact if_neg h.1
theorem bindC_at {kind:Str→Option NameKind} : ∀ {binds:List (Str × Value)} {m:Str→Option Value} {x:Str} {v:Value},(binds.map (·.1)).Nodup→(x,v) ∈ binds→kind x = some .cell→bindC kind binds m x = some v
  | (n,u) :: r,m,x,v,hn,h,hk=>by
    rw [List.map_cons,List.nodup_cons] at hn
    unfold bindC
    rcases List.mem_cons.mp h with e | h
    · cases e
      rw [bindC_none hn.1,if_neg (by rw [hk]; decide)]; simp
    · exact bindC_at hn.2 h hk
structure FnD where
  sl : Sl
  np:Nat
  dfl:List V
  body:CSs
noncomputable def FnD.args (F : FnD) (vs:List V):List V:=vs ++ F.dfl.drop (vs.length + F.dfl.length - F.np)
noncomputable def FnD.env (F : FnD) (vs:List V):Env':=(F.args vs).map some ++ List.replicate (F.sl.length - F.np) none
inductive DflIs (g:G) (fd:FuncData) (dfl:List V):Prop
  | none (e1 : fd.defaults = .none) (e2 : dfl = [])
  | some (a o items n) (e1 : fd.defaults = .ref a) (e2 : g.K.lookup a = some o) (e3 : o.data = .seq items n) (e4 : ∀ h,g.K.In h→VIss h items.toList dfl)
inductive FnOk (g:G) (f:Addr) (F : FnD) (cd:Bool):Prop
  | mk (oc od fd osl body) (ho : g.K.lookup f = some ⟨oc,od, .func fd,osl⟩) (hb : fd.body = .stmts body) (hcd : codeIn g.K fd.code fd.qualname = true) (hclo : fd.closure = []) (hgl : fd.globals = mainGlobals) (hbt : fd.builtins = builtinsNs)
    (hco : fd.scope.isCoroutine = false) (hgen : fd.scope.isGenerator = false) (hk : fd.scope.kind = .function) (hpar : parsOk fd.params = true) (hnames : fd.params.args.map (·.arg) = (F.sl.map (·.1)).take F.np) (hnp : F.np ≤ F.sl.length)
    (hkinds : ∀ (i:Nat) x b,F.sl[i]? = some (x,b)→fd.scope.names.lookup x = some (if b = true then .cell else .local)) (hnd : (F.sl.map (·.1)).Nodup) (hdf : DflIs g fd F.dfl) (hdl : F.dfl.length ≤ F.np)
    (snd : SndSs g ⟨g.K,fd.scope,F.sl,cd⟩ body F.body)
theorem AOk.deep {d:Nat} {A:Around} (O : AOk (d + 1) A) (env:Env) : AOk d (A.deeper env):=⟨O.handled,by have:=O.depth; show A.depth + 1 + _ + _ ≤ _; lia,by have:=O.units; show A.units + 3 + _ + _ ≤ _; lia⟩
theorem fn_sound {g:G} (H : GOk g) {f:Addr} {F : FnD} {cd:Bool} (h : FnOk g f F cd) {d:Nat} {vs:List V} {Q:V→Sg→Prop} {σ:Sg} (h1 : vs.length ≤ F.np) (h2 : F.np ≤ vs.length + F.dfl.length)
    (W : wpSs g d F.body (F.env vs) (fun _ σ'=>Q .none σ') Q σ) : UCall g (d + 1) (.ref f) vs Q σ:=by
  obtain ⟨oc,od,fd,osl,body,ho,hbody,hcd,hclo,hgl,hbt,hco,hgen,hk,hpar,hnames,hnp,hkinds,hnd,hdf,hdl,snd⟩:=h
  refine ⟨fun A s vals O R hv=>?_⟩
  have hvl:=hv.length
  have X:=R.kin H
  have hpl : fd.params.args.length = F.np:=by have:=congrArg List.length hnames; simp at this; simp +arith [*]
  obtain ⟨ds,hds,hdv⟩ : ∃ ds:List Value,((fd.defaults = .none∧ds = [])∨∃ a o n,fd.defaults = .ref a∧s.heap.get? a = some o∧o.data = .seq ds.toArray n)∧VIss s.heap ds F.dfl:=by
    rcases hdf with ⟨e1,e2⟩ | ⟨a,o,items,n,e1,e2,e3,e4⟩
    · exact ⟨[], .inl ⟨e1,rfl⟩,by rw [e2]; exact .nil⟩
    · exact ⟨items.toList, .inr ⟨a,o,n,e1,X _ _ e2,by rw [e3]⟩,e4 _ X⟩
  have hdsl:=hdv.length
  have hn' : (fd.params.args.map (·.arg)).Nodup:=by rw [hnames]; exact hnd.sublist (List.take_sublist _ _)
  have bt:=binds_to (s:=s) (vals:=vals) (ds:=ds) hpar hn' hds (by simp +arith [*]) (by simp +arith [*]) (by simp +arith [*])
  generalize hfull : vals ++ ds.drop (vals.length + ds.length - fd.params.args.length) = full at bt
  have hfl : VIss s.heap full (F.args vs):=by
    rw [← hfull]
    unfold FnD.args
    refine hv.append ?_
    have key : ∀ {k:Nat} {a:List Value} {b:List V},VIss s.heap a b→VIss s.heap (a.drop k) (b.drop k):=by
      intro k
      induction k with
      | zero=>intro a b x; exact x
      | succ k ih=>
        intro a b x
        cases x with
        | nil=>exact .nil
        | cons _ r=>exact ih r
    have : vals.length + ds.length - fd.params.args.length = vs.length + F.dfl.length - F.np:=by simp +arith [*]
    rw [this]; exact key hdv
  have hfn : full.length = F.np:=by rw [← hfull]; simp; omega
  generalize hbinds : (fd.params.args.map (·.arg)).zip full = binds at bt
  have bfst : binds.map (·.1) = fd.params.args.map (·.arg):=by rw [← hbinds]; exact List.map_fst_zip (by simp; simp +arith [*])
  have pslot : ∀ x ∈ fd.params.args.map (·.arg), ∃ i b,F.sl[i]? = some (x,b)∧i < F.np:=by
    intro x hx
    rw [hnames] at hx
    obtain ⟨i,hi,e⟩:=List.mem_iff_getElem.mp hx
    have hi2 : i < F.np:=by have:=hi; simp at this; lia
    have hi3 : i < F.sl.length:=by exact Nat.lt_of_lt_of_le ‹_› ‹_›
    refine ⟨i,F.sl[i].2,?_,hi2⟩
    have : F.sl[i].1 = x:=by rw [← e]; simp
    rw [← this]; simp [hi3]
  refine codeAny_call_function (by have:=O.depth; lia) (X _ _ ho) rfl hco hgen hbody (codeRec_of X hcd) (bt _ _ _ _ ?_)
  rw [hclo]
  refine wpAny_newFunctionEnv_cells hk (fun x hx=>?_) fun env he s₁ x=>?_
  · obtain ⟨i,b,e,_⟩:=pslot x.1 (by rw [← bfst]; exact List.mem_map_of_mem hx)
    have:=hkinds i _ b e
    cases b with
    | false=>exact .inl this
    | true=>exact .inr ⟨this,cells_some _ _ _ _ (.inl (mem_of_lookup this))⟩
  · subst he
    have keep:=x.toInCall.keep
    refine ⟨(H.nolimit.keeps R.keep).keeps keep,codeAny_func ?_⟩
    generalize henv : newEnv fd.scope s.heap.objs.size fd.globals (cellsFrom (s.heap.objs.size + 1) fd.scope.names []) (fd.qualname ++ ".<locals>.") (some f) fd.code none fd.builtins = env at x ⊢
    have eL : env.locals = s.heap.objs.size:=by rw [← henv]; rfl
    have eC : env.cells = cellsFrom (s.heap.objs.size + 1) fd.scope.names []:=by rw [← henv]; rfl
    have eS : env.scope = fd.scope:=by rw [← henv]; rfl
    have eK : ∀ y,env.kindOf y = fd.scope.names.lookup y:=by intro y; unfold Env.kindOf; rw [eS]
    obtain ⟨h',tk,hs₁⟩:=x.toInCall.same
    have fresh : ∀ a,s.heap.objs.size ≤ a→s.heap.get? a = none:=fun a ha=>by
      cases e : s.heap.get? a with
      | none=>rfl
      | some o'=>exact absurd (Heap.lt_size e) (Nat.not_lt.mpr ha)
    have g0 : ∀ {a},s.heap.get? a = none→g.h₀.get? a = none:=fun {a} e=>by
      cases q : g.h₀.get? a with
      | none=>rfl
      | some o=>have:=R.keep _ _ q; rw [e] at this; cases this
    have cellfresh : ∀ y c,env.cells.lookup y = some c→s.heap.get? c = none∧env.locals < c:=fun y c e=>by
      have:=x.above y c (mem_of_lookup e)
      exact ⟨fresh _ (by rw [eL] at this; exact Nat.le_of_lt this),this⟩
    have R₁ : Rep g σ s₁:=by rw [hs₁]; rw [hs₁] at keep; exact R.grow keep
    have S₁ : Step s σ s₁ σ:=by rw [hs₁]; rw [hs₁] at keep; exact Step.grow keep
    have fk : FixKeep s.heap s₁.heap:=S₁.tup R
    have FR : FrameIs g σ s₁.heap env fd.scope F.sl (F.env vs):=by
      have hal : (F.args vs).length = F.np:=by rw [← hfl.length]; exact hfn
      have getarg : ∀ (i:Nat) (v:V),(F.env vs)[i]? = some (some v)→i < F.np∧(F.args vs)[i]? = some v:=fun i v e=>by
        unfold FnD.env at e
        rw [List.getElem?_append] at e
        split at e
        · rename_i hi
          simp only [List.length_map,hal] at hi
          rw [List.getElem?_map] at e
          cases q : (F.args vs)[i]? with
          | none=>rw [q] at e; cases e
          | some u=>rw [q] at e; exact ⟨hi,by simpa using e⟩
        · rw [List.getElem?_replicate] at e
          split at e <;> cases e
      have bmem : ∀ (i:Nat) y b v,F.sl[i]? = some (y,b)→(F.env vs)[i]? = some (some v)→∃ val,(y,val) ∈ binds∧VIs s₁.heap val v:=fun i y b v e1 e2=>by
        obtain ⟨hi,e3⟩:=getarg i v e2
        obtain ⟨val,e4,e5⟩:=hfl.get e3
        refine ⟨val,?_,e5.keeps fk⟩
        rw [← hbinds]
        refine List.mem_iff_getElem?.mpr ⟨i,List.getElem?_zip_eq_some.mpr ⟨?_,e4⟩⟩
        rw [hnames,List.getElem?_take,if_pos hi,List.getElem?_map,e1]; rfl
      have bnd : (binds.map (·.1)).Nodup:=by rw [bfst]; exact hn'
      refine ⟨by rw [eS]; exact hk,by rw [← henv]; exact hgl,by rw [← henv]; exact hbt,fun y e=>by rw [eK]; exact e,fun i y b e=>by rw [eK]; exact hkinds i y b e,?_,hnd,?_,?_,⟨_,x.toInCall.ns,fun i y v e1 e2=>?_⟩,fun i y e1=>?_,fun y c e=>?_,fun y z c e1 e2=>?_⟩
      · unfold FnD.env; simp [hal]; simp +arith [*]
      · rw [eL]; exact fresh_none R (size_none _)
      · rw [eL]; exact g0 (size_none _)
      · obtain ⟨val,hm,hvv⟩:=bmem i y false v e1 e2
        exact ⟨val,bindL_at bnd hm (by rw [eK]; exact hkinds i y false e1),hvv⟩
      · have hkc:=hkinds i y true e1
        rw [if_pos rfl] at hkc
        obtain ⟨c,hc⟩:=Option.isSome_iff_exists.mp (cells_some fd.scope.names (s.heap.objs.size + 1) [] y (.inl (mem_of_lookup hkc)))
        rw [← eC] at hc
        refine ⟨c,_,hc,x.cell y c hc,fun v e2=>?_⟩
        obtain ⟨val,hm,hvv⟩:=bmem i y true v e1 e2
        exact ⟨val,bindC_at bnd hm (by rw [eK]; exact hkc),hvv⟩
      · obtain ⟨a1,a2⟩:=cellfresh y c e
        exact ⟨fresh_none R a1,g0 a1,Nat.ne_of_gt a2,_,x.cell y c e⟩
      · exact name_of_addr x.apart (mem_of_lookup e1) (mem_of_lookup e2)
    have fin:=snd d (A.deeper env) env (F.env vs) s₁ σ _ _ FR R₁ (O.deep env) W
    refine wpAny_mono fin (fun fl s₂ ⟨σ₂,R₂,S₂,W₂⟩=>?_) fun _ _ e=>e.elim
    have ownf : ∀ a,own env a→s.heap.get? a = none:=fun a ha=>by
      rcases ha with rfl | ⟨y,e⟩
      · rw [eL]; exact size_none _
      · exact (cellfresh y a e).1
    have T : Step s σ s₂ σ₂:=⟨fun a o n e=>S₂.keep a o (fun ho=>by rw [ownf a ho] at e; cases e) n (keep a o e),fun a ha=>by
      rcases S₂.dom a ha with z | z
      · exact .inl z
      · cases q : s.heap.get? a with
        | none=>exact .inr rfl
        | some o=>rw [keep a o q] at z; cases z⟩
    cases fl with
    | next=>obtain ⟨ρ',F',W'⟩:=W₂; exact ⟨.none,σ₂, .none,R₂,T,W'⟩
    | ret v=>obtain ⟨y,hy,W'⟩:=W₂; exact ⟨y,σ₂,hy,R₂,T,W'⟩
    | _=>exact W₂.elim
theorem under_ok {d:Nat} {A:Around} (O : AOk (d + 1) A) (a : Args) : AOk d (A.under (.builtin "type.__call__" a)):=by
  have e1 : (Code.builtin "type.__call__" a).weight ≤ 3:=by
    show (Code.builtin "type.__call__" a).frames + _ + _ + _ ≤ 3
    have : (Code.builtin "type.__call__" a).isCreation = true∨(Code.builtin "type.__call__" a).isCreation = false:=by cases (Code.builtin "type.__call__" a).isCreation <;> simp
    have f : (Code.builtin "type.__call__" a).frames = 0:=rfl
    have g : (Code.builtin "type.__call__" a).isGuard = false:=rfl
    have c : (Code.builtin "type.__call__" a).isCaller = false:=rfl
    rw [f,g,c]
    split <;> simp
  have e2 : (Code.builtin "type.__call__" a).cUnits ≤ 3:=by
    have f : (Code.builtin "type.__call__" a).frames = 0:=rfl
    show 1 + 3 * (Code.builtin "type.__call__" a).frames ≤ 3
    rw [f]; simp
  exact ⟨O.handled,by have:=O.depth; show A.depth + _ + _ + _ ≤ _; lia,by have:=O.units; show A.units + _ + _ + _ ≤ _; lia⟩
theorem cls_sound {g:G} (H : GOk g) {C init:Addr} (hm : makesIn g.K C = true) (hi : findIn g.K (.ref C) "__init__" = some (some (.ref init))) (hf : typeIn g.K (.ref init) = some (.type "function"))
    {d:Nat} {vs:List V} {Q:V→Sg→Prop} {σ:Sg} (W : ∀ a dd,σ a = none→σ dd = none→a ≠ dd→UCall g d (.ref init) (.ref a :: vs) (fun v σ'=>isNone v = true∧Q (.ref a) σ') (upd (upd σ dd (.idict [])) a (.inst C dd))) : UCall g (d + 1) (.ref C) vs Q σ:=by
  refine ⟨fun A s vals O R hv=>?_⟩
  have X:=R.kin H
  obtain ⟨hh,gn,dr,tk,os⟩:=s
  refine make_core (A:=A) (makes_of X hm) (looks_findIn X hi) (fun self=>bind_fn X self hf) (.inl rfl) ?_
  have k1 : ∀ b o,hh.get? b = some o→(hh.push emptyDict).get? b = some o:=fun b o e=>Heap.get?_push_of_some _ e
  have n1 : hh.get? hh.objs.size = none:=size_none _
  have hd : (hh.push emptyDict).get? hh.objs.size = some emptyDict:=Heap.get?_push_size _ rfl
  have R₁ : Rep g (upd σ hh.objs.size (.idict [])) ⟨hh.push emptyDict,gn,dr,tk,os⟩:=
    R.track (t:=tk) (o:=.idict []) k1 n1 ⟨fun _=>none,⟨_, #[],_,hd,rfl,fun e he=>by simp at he,fun name=>rfl,by exact Nat.le_refl _⟩,fun i _=>rfl⟩
  have k2 : ∀ b o,(hh.push emptyDict).get? b = some o→((hh.push emptyDict).push (instObj C hh.objs.size)).get? b = some o:=fun b o e=>Heap.get?_push_of_some _ e
  have sz : (hh.push emptyDict).objs.size = hh.objs.size + 1:=Heap.size_push ..
  have n2 : (hh.push emptyDict).get? (hh.objs.size + 1) = none:=by rw [← sz]; exact size_none _
  have hi2 : ((hh.push emptyDict).push (instObj C hh.objs.size)).get? (hh.objs.size + 1) = some (instObj C hh.objs.size):=by rw [← sz]; exact Heap.get?_push_size _ rfl
  have R₂ : Rep g (upd (upd σ hh.objs.size (.idict [])) (hh.objs.size + 1) (.inst C hh.objs.size)) ⟨(hh.push emptyDict).push (instObj C hh.objs.size),gn,dr,tk,os⟩:=
    Rep.track (s:=⟨hh.push emptyDict,gn,dr,tk,os⟩) (t:=tk) (o:=.inst C hh.objs.size) R₁ k2 n2 hi2
  have S₂ : Step ⟨hh,gn,dr,tk,os⟩ σ ⟨(hh.push emptyDict).push (instObj C hh.objs.size),gn,dr,tk,os⟩ (upd (upd σ hh.objs.size (.idict [])) (hh.objs.size + 1) (.inst C hh.objs.size)):=
    (Step.track (s:=⟨hh,gn,dr,tk,os⟩) (t:=tk) k1 n1).trans (Step.track (s:=⟨hh.push emptyDict,gn,dr,tk,os⟩) (t:=tk) k2 n2)
  have n3 : hh.get? (hh.objs.size + 1) = none:=by
    cases q : hh.get? (hh.objs.size + 1) with
    | none=>rfl
    | some o=>have:=k1 _ _ q; rw [n2] at this; cases this
  have u:=(W (hh.objs.size + 1) hh.objs.size (fresh_none R n3) (fresh_none R n1) (by exact Nat.succ_ne_self _)).h (A.under (.builtin "type.__call__" ⟨.ref C :: vals,[]⟩)) ⟨(hh.push emptyDict).push (instObj C hh.objs.size),gn,dr,tk,os⟩
    (.ref (hh.objs.size + 1) :: vals) (under_ok O _) R₂ (.cons (.ref _) (hv.keeps (S₂.tup R)))
  refine codeAny_mono u fun r s' h=>?_
  obtain ⟨v,rfl,y,σ',hy,R',S',hn,hq⟩:=endC_is h
  cases y with
  | none=>
    cases hy.inv_none
    exact ⟨rfl,_,σ', .ref _,R',S₂.trans S',hq⟩
  | _=>cases hn
noncomputable def slotOf (sl : Sl) (x:Str):Option (Nat × Bool):=(List.range sl.length).findSome? fun i=>match sl[i]? with
  | some (y,b)=>if y == x then some (i,b) else none
  | none=>none
set_option tactic.hygienic true in
theorem slotOf_is {sl : Sl} {x:Str} {i:Nat} {b:Bool} (h : slotOf sl x = some (i,b)) : sl[i]? = some (x,b):=by
  obtain ⟨j,_,e⟩:=List.exists_of_findSome?_eq_some h
  split at e
  · rename_i y b' e1
    split at e
    · rename_i e2
      cases e
      rw [e1,beq_iff_eq.mp e2]
    · cases e
  · cases e
noncomputable def allMt:List Mt:=[.isdigit, .isalnum, .join, .index, .lstrip, .append, .get, .values]
noncomputable def mtOf (n:Str):Option Mt:=allMt.find? fun m=>m.name == n
theorem mtOf_is {n:Str} {m:Mt} (h : mtOf n = some m) : m.name = n:=by
  have:=List.find?_some h
  simpa using this
noncomputable def nmIx (x:Str):Option Nat:=(List.range nmTab.length).find? fun i=>nm i == x
theorem nmIx_is {x:Str} {i:Nat} (h : nmIx x = some i) : nm i = x:=by
  have:=List.find?_some h
  simpa using this
noncomputable def capsIx (sl : Sl):List Str→Option (List Nat)
  | []=>some []
  | x :: r=>(slotOf sl x).bind fun p=>if p.2 = true then (capsIx sl r).map (p.1 :: ·) else none
noncomputable def capsOf (scope : Scope):List Str:=(scope.names.filter (·.2 == .free)).map (·.1)
noncomputable def compOkB (scope : Scope) (tg:List Str):Bool:=
  scope.kind == .function && scope.names.all (fun x=>x.2 != .cell) && decide (scope.names.map (·.1)).Nodup && tg.all (fun t=>scope.names.lookup t == some .local) && decide ((compSl tg (capsOf scope)).map (·.1)).Nodup
theorem capsIx_is {sl : Sl} : ∀ {caps:List Str} {cap:List Nat},capsIx sl caps = some cap→cap.length = caps.length∧∀ (j:Nat) x (i:Nat),caps[j]? = some x→cap[j]? = some i→sl[i]? = some (x,true)
  | [],cap,h=>by cases h; exact ⟨rfl,fun j x i e=>by simp at e⟩
  | y :: r,cap,h=>by
    unfold capsIx at h
    obtain ⟨⟨k,b⟩,e1,h⟩:=Option.bind_eq_some_iff.mp h
    split at h
    · rename_i hb
      dsimp only at hb
      subst hb
      obtain ⟨l,e2,rfl⟩:=Option.map_eq_some_iff.mp h
      obtain ⟨h1,h2⟩:=capsIx_is e2
      refine ⟨by simp [h1],fun j x i a c=>?_⟩
      cases j with
      | zero=>
        simp only [List.getElem?_cons_zero,Option.some.injEq] at a c
        subst a c
        exact slotOf_is e1
      | succ j=>exact h2 j x i (by assumption) (by assumption)
    · cases h
theorem compOkB_is {C:Ctx} {scope : Scope} {tg:List Str} {cap:List Nat} (h : compOkB scope tg = true) (hc : capsIx C.sl (capsOf scope) = some cap) : CompOk C scope tg (capsOf scope) cap:=by
  unfold compOkB at h
  simp only [Bool.and_eq_true,beq_iff_eq,List.all_eq_true,decide_eq_true_eq,bne_iff_ne] at h
  obtain ⟨⟨⟨⟨h1,h2⟩,h3⟩,h4⟩,h5⟩:=h
  obtain ⟨c1,c2⟩:=capsIx_is hc
  refine ⟨h1,h2,h3,h4,fun x=>?_,c1,c2,h5⟩
  unfold capsOf
  constructor
  · intro hx
    exact List.mem_map.mpr ⟨(x, .free),List.mem_filter.mpr ⟨hx,rfl⟩,rfl⟩
  · intro hx
    obtain ⟨⟨y,k⟩,hm,rfl⟩:=List.mem_map.mp hx
    obtain ⟨a,b⟩:=List.mem_filter.mp hm
    have : k = .free:=by exact of_decide_eq_true b
    subst this; exact a
noncomputable def constV (c : Const):Option V:=match c with | .none=>some V.none | .bool b=>some (.bool b) | .int i=>some (.int i) | .str s=>some (.str s.cps.toList) | _=>none
noncomputable def Both (g:G) (C:Ctx) (e:Expr) (c:CE):Prop:=Snd g C e c∧SndT g C e c
theorem Both.of {g:G} {C:Ctx} {e:Expr} {c:CE} (h : TstF e) (s : Snd g C e c) : Both g C e c:=⟨s,sndT_of h s⟩
noncomputable def vOf:V→Option Value
  | .ref a=>some (.ref a)
  | .bi n=>some (.builtin n)
  | .ty n=>some (.type n)
  | _=>none
noncomputable def sameV (K:Frag) (v:Value):Option Value→Bool
  | some w=>v == w && callable K v
  | none=>true
noncomputable def lookG (K:Frag) (x:Str):Option V:=(globVal K x).bind fun v=>(valV K v).bind fun y=>bif sameV K v (vOf y) then some y else none
noncomputable def opsT:List (List Nat):=[[43],[45],[42],[47],[37],[42,42],[61,61],[33,61],[60],[62],[60,61],[62,61],[60,61,62],[61,61,61],[91,93],[91,93,61],[60,60],[62,62],[33],[126],[43,64],[45,64],[38],[124],[94],[61,126],[33,126]]
noncomputable def modT:List (List Nat):=[[75,101,114,110,101,108],[67,111,109,112,97,114,97,98,108,101],[69,110,117,109,101,114,97,98,108,101]]
noncomputable def unmT:List (List Nat):=[[78,105,108,67,108,97,115,115],[84,114,117,101,67,108,97,115,115],[70,97,108,115,101,67,108,97,115,115],[73,110,116,101,103,101,114],[78,117,109,101,114,105,99],[83,121,109,98,111,108]]
noncomputable def gtA:List (Str × V):=[("Thing", .ref 40),("Text", .ref 62),("ListThing", .ref 82),("TableThing", .ref 120),("RangeThing", .ref 140),("ProcThing", .ref 161),("ErrorThing", .ref 181),("FiberThing", .ref 201),("ModuleThing", .ref 228),("World", .ref 653),("code_of", .ref 250),("sort_of", .ref 237),("is_word", .ref 257),("show", .ref 331),("full_name", .ref 278),("show_letter", .ref 285),("is_plain_symbol", .ref 271),("show_text", .ref 290),("is_label", .ref 264),("show_range", .ref 311),("show_error", .ref 323),("show_pair", .ref 304),("show_thing", .ref 316),("show_symbol", .ref 297),("own_module", .ref 385),("same", .ref 244)]
noncomputable def gtB:List (Str × V):=[("_law_take", .ref 664),("_law_letters", .ref 669),("_law_symbol", .ref 676),("_law_plain", .ref 681),("_law_thing", .ref 686),("_law_at", .ref 693),("_law_quoted", .ref 698),("_law_run", .ref 705),("_law_one", .ref 726),("_law_read", .ref 719),("_law_pairs", .ref 733),("_law_name", .ref 712),("_law_alike", .ref 752),("_law_levels_right", .ref 740),("_law_named_right", .ref 747),("isinstance", .bi "isinstance"),("ord", .bi "ord"),("len", .bi "len"),("chr", .bi "chr"),("sum", .bi "sum"),("bool", .ty "bool"),("int", .ty "int"),("str", .ty "str"),("tuple", .ty "tuple"),("range", .ty "range"),("list", .ty "list"),("SIMPLE_ESCAPES", .base 22),("BUILTINS", .base 387),("MIXED", .base 390),("OPERATORS", .tup (opsT.map .str)),("MODULES", .tup (modT.map .str)),("UNMADE", .tup (unmT.map .str))]
noncomputable def gtab:List (Str × V):=gtA ++ gtB
noncomputable def gv (x:Str):Option Value:=(gtab.lookup x).bind vOf
noncomputable def clsOne (K:Frag):=(findCls K (.ref 40) (.type "type") "__init__",readsIn K 40 (.type "type") && specialIn K (.ref 40) "__getattribute__" == some (some (.builtin "type.__getattribute__")) && keepIn K (.ref 37))
structure Tabs (K:Frag):Prop where
  gl : (gtab.map fun p=>lookG K p.1) = gtab.map fun p=>some p.2
  cl : clsOne K = (some (.val (.ref 37)),true)
theorem tab_at {f:Str→Option V} : ∀ {l:List (Str × V)},(l.map fun p=>f p.1) = (l.map fun p=>some p.2)→∀ {x y},l.lookup x = some y→f x = some y
  | [],_,_,_,h=>nomatch h
  | (a,b) :: r,e,x,y,h=>by
    obtain ⟨e1,e2⟩:=List.cons.inj e
    rw [List.lookup_cons] at h
    cases q : x == a with
    | true=>rw [q] at h; cases h; rw [eq_of_beq q]; exact e1
    | false=>rw [q] at h; exact tab_at e2 h
inductive GlV (K:Frag) (x:Str) (y:V):Prop
  | mk (v:Value) (e1 : globVal K x = some v) (e2 : valV K v = some y) (e3 : ∀ w,vOf y = some w→v = w∧callable K v = true)
theorem Tabs.val {K:Frag} (O : Tabs K) {x:Str} {y:V} (h : gtab.lookup x = some y) : GlV K x y:=by
  have h:=tab_at O.gl h
  unfold lookG at h
  obtain ⟨v,e1,h⟩:=Option.bind_eq_some_iff.mp h
  obtain ⟨z,e2,h⟩:=Option.bind_eq_some_iff.mp h
  cases q : sameV K v (vOf z) with
  | false=>rw [q] at h; cases h
  | true=>
    rw [q] at h; cases h
    refine ⟨v,e1,e2,fun w e=>?_⟩
    rw [e] at q
    have q:=Bool.and_eq_true_iff.mp q
    exact ⟨eq_of_beq q.1,q.2⟩
theorem Tabs.gv {K:Frag} (O : Tabs K) {x:Str} {w:Value} (h : gv x = some w) : globVal K x = some w∧callable K w = true:=by
  obtain ⟨y,h,e⟩:=Option.bind_eq_some_iff.mp h
  obtain ⟨v,e1,e2,e3⟩:=O.val h
  obtain ⟨rfl,e4⟩:=e3 w e
  exact ⟨e1,e4⟩
section
variable {g:G}
structure AllF (e:Expr):Prop extends Fct e where
  (sup : SupF e) (cmp : CmpF e) (tup : TupF e)
structure AllT (e:Expr):Prop extends AllF e where
  (tst : TstF e)
structure CertE (g:G) (C:Ctx) (e:Expr) where
  (c:CE) (ok : Both g C e c) (f : Fct e) (sup:Bool) (hs : sup = true→SupF e) (cmp:Bool) (hc : cmp = true→CmpF e) (tup:Bool) (ht : tup = true→TupF e)
noncomputable def mkB {C:Ctx} {e:Expr} (F : AllF e) (c:CE) (ok : Both g C e c) : CertE g C e:=⟨c,ok,F.toFct,true,fun _=>F.sup,true,fun _=>F.cmp,true,fun _=>F.tup⟩
noncomputable def mkP {C:Ctx} {e:Expr} (F : AllT e) (c:CE) (s : Snd g C e c) : CertE g C e:=mkB F.toAllF c (.of F.tst s)
theorem fConst {c k p} : AllT (.Constant c k p):=⟨⟨⟨fun _ _=>rfl,fun _ _=>rfl,fun _ _ _ _ _=>rfl⟩,fun _ _ _=>rfl,fun _ _ _=>rfl,fun _ _ _ _=>rfl⟩,fun _ _=>rfl⟩
theorem fName {x p} : AllT (.Name x p):=⟨⟨⟨fun _ _=>rfl,fun _ _=>rfl,fun _ _ _ _ _=>rfl⟩,fun _ _ _=>rfl,fun _ _ _=>rfl,fun _ _ _ _=>rfl⟩,fun _ _=>rfl⟩
theorem fBin {a o b p} : AllT (.BinOp a o b p):=⟨⟨⟨fun _ _=>rfl,fun _ _=>rfl,fun _ _ _ _ _=>rfl⟩,fun _ _ _=>rfl,fun _ _ _=>rfl,fun _ _ _ _=>rfl⟩,fun _ _=>rfl⟩
theorem fCmp {a o b p} : AllF (.Compare a o b p):=⟨⟨fun _ _=>rfl,fun _ _=>rfl,fun _ _ _ _ _=>rfl⟩,fun _ _ _=>rfl,fun _ _ _=>rfl,fun _ _ _ _=>rfl⟩
theorem fUn {o a p} : AllF (.UnaryOp o a p):=⟨⟨fun _ _=>rfl,fun _ _=>rfl,fun _ _ _ _ _=>rfl⟩,fun _ _ _=>rfl,fun _ _ _=>rfl,fun _ _ _ _=>rfl⟩
theorem fNeg {a p} : AllT (.UnaryOp .USub a p):=⟨fUn,fun _ _=>rfl⟩
theorem fBool {o es p} : AllF (.BoolOp o es p):=⟨⟨fun _ _=>rfl,fun _ _=>rfl,fun _ _ _ _ _=>rfl⟩,fun _ _ _=>rfl,fun _ _ _=>rfl,fun _ _ _ _=>rfl⟩
theorem fIf {t a b p} : AllF (.IfExp t a b p):=⟨⟨fun _ _=>rfl,fun _ _=>rfl,fun _ _ _ _ _=>rfl⟩,fun _ _ _=>rfl,fun _ _ _=>rfl,fun _ _ _ _=>rfl⟩
theorem fAttr {a x p} : AllT (.Attribute a x p):=⟨⟨⟨fun _ _=>rfl,fun _ _=>rfl,fun _ _ _ _ _=>rfl⟩,fun _ _ _=>rfl,fun _ _ _=>rfl,fun _ _ _ _=>rfl⟩,fun _ _=>rfl⟩
theorem fSub {a i p} : AllT (.Subscript a i p):=⟨⟨⟨fun _ _=>rfl,fun _ _=>rfl,fun _ _ _ _ _=>rfl⟩,fun _ _ _=>rfl,fun _ _ _=>rfl,fun _ _ _ _=>rfl⟩,fun _ _=>rfl⟩
theorem fList {es p} : AllT (.List es p):=⟨⟨⟨fun _ _=>rfl,fun _ _=>rfl,fun _ _ _ _ _=>rfl⟩,fun _ _ _=>rfl,fun _ _ _=>rfl,fun _ _ _ _=>rfl⟩,fun _ _=>rfl⟩
theorem fDict {ks es p} : AllT (.Dict ks es p):=⟨⟨⟨fun _ _=>rfl,fun _ _=>rfl,fun _ _ _ _ _=>rfl⟩,fun _ _ _=>rfl,fun _ _ _=>rfl,fun _ _ _ _=>rfl⟩,fun _ _=>rfl⟩
theorem fMeth {o x q args p} : AllT (.Call (.Attribute o x q) args [] p):=⟨⟨⟨fun _ _=>rfl,fun _ _=>rfl,fun _ _ _ _ _=>rfl⟩,fun _ _ _=>rfl,fun _ _ _=>rfl,fun _ _ _ _=>rfl⟩,fun _ _=>rfl⟩
theorem fTup {es k p} : Fct (.Tuple es k p):=⟨fun _ _=>rfl,fun _ _=>rfl,fun _ _ _ _ _=>rfl⟩
theorem fComp {a b c p} : Fct (.ListComp a b c p):=⟨fun _ _=>rfl,fun _ _=>rfl,fun _ _ _ _ _=>rfl⟩
theorem fCall {f q args p} : Fct (.Call (.Name f q) args [] p):=⟨fun _ _=>rfl,fun _ _=>rfl,fun _ _ _ _ _=>rfl⟩
noncomputable def mkT {C:Ctx} {es k p} (c:CE) (s : Snd g C (.Tuple es k p) c) : CertE g C (.Tuple es k p):=⟨c, .of (fun _ _=>rfl) s,fTup,true,(fun _ _ _ _=>rfl),true,(fun _ _ _ _=>rfl),false,(fun h=>Bool.noConfusion h)⟩
noncomputable def mkL {C:Ctx} {a b d p} (c:CE) (s : Snd g C (.ListComp a b d p) c) : CertE g C (.ListComp a b d p):=⟨c, .of (fun _ _=>rfl) s,fComp,true,(fun _ _ _ _=>rfl),false,(fun h=>Bool.noConfusion h),true,(fun _ _ _ _ _=>rfl)⟩
noncomputable def mkC {C:Ctx} {f q args p} (c:CE) (s : Snd g C (.Call (.Name f q) args [] p) c) : CertE g C (.Call (.Name f q) args [] p):=
  ⟨c, .of (fun _ _=>rfl) s,fCall, !args.isEmpty,(fun h _ _ _=>match args,h with | _ :: _,_=>rfl),true,fun _ _ _ _=>rfl,true,fun _ _ _ _ _=>rfl⟩
abbrev CertL (g:G) (C:Ctx) (es:List Expr):={cs:CEs // SndL g C es cs∧SndB g C es cs∧SndV g C es cs}
noncomputable def certL {C:Ctx} (f : ∀ e,Option (CertE g C e)) : ∀ es,Option (CertL g C es)
  | []=>some ⟨.nil,sndL_nil, .nil, .nil⟩
  | e :: r=>(f e).bind fun c=>(certL f r).map fun l=>⟨.cons c.1 l.1,sndL_cons c.f.star c.2.1 l.2.1, .cons c.2.1 c.2.2 l.2.2.1, .cons c.2.1 l.2.2.2⟩
noncomputable def certO {C:Ctx} (f : ∀ e,Option (CertE g C e)) : ∀ e,Option {c:CE // SndO g C e c}
  | none=>some ⟨.k .none,rfl⟩
  | some e=>(f e).map fun c=>⟨c.1,c.2.1⟩
noncomputable def withEq {α β : Type} (o:Option α) (f : ∀ a,o = some a→Option β):Option β:=match o,f with
  | some a,f=>f a rfl
  | none,_=>none
noncomputable def slotC (C:Ctx) (x:Str):Option {p:Nat × Bool // C.sl[p.1]? = some (x,p.2)}:=withEq (slotOf C.sl x) fun p h=>some ⟨p,slotOf_is h⟩
theorem snd_globT (H : GOk g) {C:Ctx} {x:Str} {p:Pos} {y:V} (hd : (x == ("__debug__" : Str)) = false) (hk : C.sc.names.lookup x = some .globalImplicit) (h : GlV g.K x y) : Snd g C (.Name x p) (.k y):=by
  obtain ⟨v,e1,e2,_⟩:=h
  exact snd_glob H hd hk e1 e2
noncomputable def nameC (H : GOk g) (C:Ctx) (hK : Tabs g.K) (x:Str) (p:Pos):Option (CertE g C (.Name x p)):=
  if hd : (x == ("__debug__" : Str)) = false then
    if hk : C.sc.names.lookup x = some .globalImplicit then withEq (gtab.lookup x) fun y e1=>some (mkP fName (.k y) (snd_globT H hd hk (hK.val e1)))
    else (slotC C x).map fun s=>mkP fName (.var s.1.1) (snd_var hd s.2)
  else none
noncomputable def constC (C:Ctx) (k:Nat) (p:Pos) : ∀ c,Option (CertE g C (.Constant c k p))
  | .none=>some (mkP fConst (.k .none) (snd_const rfl))
  | .bool b=>some (mkP fConst (.k (.bool b)) (snd_const rfl))
  | .int i=>some (mkP fConst (.k (.int i)) (snd_const rfl))
  | .str s=>some (mkP fConst (.k (.str s.cps.toList)) (snd_const rfl))
  | _=>none
noncomputable def mtC (n:Str):Option {m:Mt // m.name = n}:=withEq (mtOf n) fun m h=>some ⟨m,mtOf_is h⟩
noncomputable def ixC (n:Str):Option {i:Nat // nm i = n}:=withEq (nmIx n) fun i h=>some ⟨i,nmIx_is h⟩
theorem snd_methN (H : GOk g) {C:Ctx} {o:Expr} {n:Str} {m:Mt} {apos pos:Pos} {es:List Expr} {ce:CE} {cs:CEs} (hm : m.name = n) (hs : SupF o) (hline : (apos.endLine == pos.line) = true) (hl : es.length < 29) (ho : Snd g C o ce) (h : SndL g C es cs) : Snd g C (.Call (.Attribute o n apos) es [] pos) (.meth m ce cs):=hm ▸ snd_meth H hs hline hl ho h
structure CompD (C:Ctx) (scope : Scope) (tgt:Expr) where
  (tg:List Str) (cap:List Nat)
  ht : TgtIs tgt tg
  ok : CompOk C scope tg (capsOf scope) cap
noncomputable def tgtC : ∀ tgt,Option {tg // TgtIs tgt tg}
  | .Name x _=>some ⟨[x], .one⟩
  | .Tuple [.Name a _, .Name b _] _ _=>if h : a = b then none else some ⟨[a,b], .two h⟩
  | _=>none
noncomputable def compD (C:Ctx) (scope : Scope) (tgt:Expr):Option (CompD C scope tgt):=
  (tgtC tgt).bind fun tg=>withEq (capsIx C.sl (capsOf scope)) fun cap h2=>if h : compOkB scope tg.1 = true then some ⟨tg.1,cap,tg.2,compOkB_is h h2⟩ else none
noncomputable abbrev inComp (C:Ctx) (scope : Scope) (tg:List Str):Ctx:=⟨C.K,scope,compSl tg (capsOf scope),C.cd⟩
noncomputable def callC (H : GOk g) (C:Ctx) (hK : Tabs g.K) (rec : ∀ e,Option (CertE g C e)) (f:Str) (p:Pos) (args:List Expr) (pos:Pos):Option (CertE g C (.Call (.Name f p) args [] pos)):=
  if hd : (f == ("__debug__" : Str)) = false then
    if hk : C.sc.names.lookup f = some .globalImplicit then withEq (gv f) fun v e1=>withEq (fnOf' v) fun fn e2=>(certL rec args).map fun l=>mkC (.call fn l.1) (snd_call H hd hk (hK.gv e1).1 e2 (hK.gv e1).2 l.2.1)
    else none
  else none
noncomputable def isinC (H : GOk g) (C:Ctx) (hK : Tabs g.K) (rec : ∀ e,Option (CertE g C e)) (p:Pos) (pos:Pos) (e:Expr) (c:Str) (pc:Pos):Option (CertE g C (.Call (.Name (Str.ofString "isinstance") p) [e, .Name c pc] [] pos)):=
  if h : (C.sc.names.lookup (Str.ofString "isinstance") = some .globalImplicit∧gv (Str.ofString "isinstance") = some (.builtin "isinstance"))∧(c == ("__debug__" : Str)) = false∧C.sc.names.lookup c = some .globalImplicit then
    withEq (gv c) fun w e1=>withEq (ityOf w) fun t e2=>(rec e).map fun a=>mkC (.isin a.1 t) (snd_isin H a.f.star h.1.1 (hK.gv h.1.2).1 h.2.1 h.2.2 (hK.gv e1).1 e2 a.2.1 rfl) else none
noncomputable def keyC : ∀ keys:List (Option Expr),Option {ks // KeyStrs keys ks}
  | []=>some ⟨[], .nil⟩
  | some (.Constant (.str x) _ _) :: r=>(keyC r).map fun l=>⟨_, .cons l.2⟩
  | _=>none
noncomputable def clsC (H : GOk g) (C:Ctx) (hK : Tabs g.K) (rec : ∀ e,Option (CertE g C e)) (c:Str) (pc ap pos:Pos) (x:Str) (args:List Expr) (hl : (ap.endLine == pos.line) = true∧args.length < 29):Option (CertE g C (.Call (.Attribute (.Name c pc) x ap) args [] pos)):=
  if h : ((c == ("__debug__" : Str)) = false∧C.sc.names.lookup c = some .globalImplicit)∧gv c = some (.ref 40)∧x = "__init__" then (certL rec args).map fun l=>mkP fMeth (.call (.u 37) l.1) (snd_clsm H h.1.1 h.1.2 (hK.gv h.2.1).1 (h.2.2 ▸ ⟨(Prod.mk.inj hK.cl).1,(Prod.mk.inj hK.cl).2⟩) hl.1 hl.2 l.2.1)
  else none
noncomputable def cert (H : GOk g):Nat→(C:Ctx)→Tabs g.K→(e:Expr)→Option (CertE g C e)
  | 0,_,_,_=>none
  | n + 1,C,hK,e=>match e with
    | .Constant c k p=>constC C k p c
    | .Name x p=>nameC H C hK x p
    | .BinOp l op r _=>(cert H n C hK l).bind fun a=>(cert H n C hK r).map fun b=>mkP fBin (.bin op a.1 b.1) (snd_bin a.2.1 b.2.1)
    | .Compare l [op] [r] _=>if hm : behindInMarks op r = false then (cert H n C hK l).bind fun a=>(cert H n C hK r).map fun b=>mkB fCmp (.cmp op a.1 b.1) ⟨snd_cmp H hm a.2.1 b.2.1,sndT_cmp H hm a.2.1 b.2.1⟩ else none
    | .Compare l [o1,o2] [m,r] _=>if hm : behindInMarks o2 r = false then (cert H n C hK l).bind fun a=>(cert H n C hK m).bind fun b=>(cert H n C hK r).map fun c=>mkB fCmp (.cmp2 o1 o2 a.1 b.1 c.1) ⟨snd_cmp2 H hm a.2.1 b.2.1 c.2.1,sndT_cmp2 H hm a.2.1 b.2.1 c.2.1⟩ else none
    | .UnaryOp .Not x _=>(cert H n C hK x).map fun a=>mkB fUn (.not a.1) ⟨snd_not a.2.1,sndT_not a.2.2⟩
    | .UnaryOp .USub (.Constant (.int i) _ _) _=>some (mkP fNeg (.k (.int (-i))) snd_neg)
    | .BoolOp .And (e :: es) _=>(certL (cert H n C hK) (e :: es)).map fun l=>mkB fBool (.and l.1) ⟨snd_BoolAnd (List.cons_ne_nil _ _) l.2.2.1,sndT_BoolAnd l.2.2.1⟩
    | .BoolOp .Or (e :: es) _=>(certL (cert H n C hK) (e :: es)).map fun l=>mkB fBool (.or l.1) ⟨snd_BoolOr (List.cons_ne_nil _ _) l.2.2.1,sndT_BoolOr l.2.2.1⟩
    | .IfExp t a b _=>(cert H n C hK t).bind fun x=>(cert H n C hK a).bind fun y=>(cert H n C hK b).map fun z=>mkB fIf (.ite x.1 y.1 z.1) ⟨snd_ite x.2.2 y.2.1 z.2.1,sndT_ite x.2.2 y.2.2 z.2.2⟩
    | .Attribute o x _=>(ixC x).bind fun i=>(cert H n C hK o).bind fun c=>if hs : c.sup = true then some (mkP fAttr (.attr c.1 i.1) (snd_attr H (c.hs hs) i.2 c.2.1)) else none
    | .Subscript o i _=>match i with
      | .Slice lo hi none _=>(cert H n C hK o).bind fun a=>(certO (cert H n C hK) lo).bind fun b=>(certO (cert H n C hK) hi).map fun c=>mkP fSub (.slice a.1 b.1 c.1) (snd_slice H a.2.1 b.2 c.2)
      | i=>(cert H n C hK o).bind fun a=>(cert H n C hK i).map fun b=>mkP fSub (.idx a.1 b.1) (snd_idx H a.2.1 b.2.1)
    | .Call (.Name f p) args [] pos=>match callC H C hK (cert H n C hK) f p args pos with
      | some r=>some r
      | none=>if hf : f = Str.ofString "isinstance" then (match args with
        | [e, .Name c pc]=>(isinC H C hK (cert H n C hK) p pos e c pc).map fun r=>mkC r.1 (by rw [hf]; exact r.2.1)
        | _=>none) else none
    | .Call (.Attribute o x ap) args [] pos=>
      if h : (ap.endLine == pos.line) = true∧args.length < 29 then
        (match mtC x with
        | some m=>(cert H n C hK o).bind fun a=>(certL (cert H n C hK) args).bind fun l=>if hs : a.sup = true then some (mkP fMeth (.meth m.1 a.1 l.1) (snd_methN H m.2 (a.hs hs) h.1 h.2 a.2.1 l.2.1)) else none
        | none=>match ixC x with
          | some i=>(cert H n C hK o).bind fun a=>(certL (cert H n C hK) args).bind fun l=>if hs : a.sup = true then some (mkP fMeth (.umeth i.1 a.1 l.1) (snd_umeth H (a.hs hs) i.2 h.1 h.2 a.2.1 l.2.1)) else none
          | none=>match o with
            | .Name c pc=>clsC H C hK (cert H n C hK) c pc ap pos x args h
            | _=>none)
      else none
    | .Tuple es _ _=>if hl : es.length ≤ 1000 then (certL (cert H n C hK) es).map fun l=>mkT (.tup l.1) (snd_tup hl l.2.1) else none
    | .List es _=>if hl : es.length ≤ 1000 then (certL (cert H n C hK) es).map fun l=>mkP fList (.lst l.1) (snd_lst hl l.2.1) else none
    | .Dict [] [] _=>some (mkP fDict (.emp C.cd) snd_emp)
    | .Dict (k :: keys) es _=>(keyC (k :: keys)).bind fun ks=>if h : ks.1.Nodup∧(k :: keys).length ≤ 15∧(k :: keys).length = es.length then (certL (cert H n C hK) es).map fun l=>mkP fDict (.dct ks.1 l.1) (snd_dct ks.2 h.1 (List.cons_ne_nil _ _) h.2.1 h.2.2 l.2.2.2) else none
    | .ListComp elt [⟨tgt,iter,[],0⟩] scope _=>(compD C scope tgt).bind fun d=>(cert H n C hK iter).bind fun ci=>(cert H n (inComp C scope d.tg) hK elt).map fun ce=>mkL (.comp ce.1 d.tg.length d.cap ci.1) (snd_comp H d.ok d.ht ci.f.set ci.2.1 ce.2.1)
    | .ListComp elt [⟨tgt,iter,[cn],0⟩] scope _=>(compD C scope tgt).bind fun d=>(cert H n C hK iter).bind fun ci=>(cert H n (inComp C scope d.tg) hK elt).bind fun ce=>(cert H n (inComp C scope d.tg) hK cn).map fun cc=>mkL (.compIf ce.1 d.tg.length d.cap ci.1 cc.1) (snd_compIf H d.ok d.ht ci.f.set ci.2.1 ce.2.1 cc.2.2)
    | _=>none
end
noncomputable def slotsC (C:Ctx) : ∀ es,Option {is:List Nat // SlotsAre C es is}
  | []=>some ⟨[], .nil⟩
  | .Name x _ :: r=>(slotC C x).bind fun p=>(slotsC C r).map fun is=>⟨p.1.1 :: is.1, .cons p.2 is.2⟩
  | _=>none
noncomputable def forC (C:Ctx) : ∀ e,Option {is:List Nat // ForT C e is}
  | .Name x _=>(slotC C x).map fun p=>⟨[p.1.1], .one p.2⟩
  | .Tuple (.Name a _ :: .Name b _ :: es) _ _=>(slotC C a).bind fun p=>(slotC C b).bind fun q=>(slotsC C es).map fun is=>⟨p.1.1 :: q.1.1 :: is.1, .many (.cons p.2 (.cons q.2 is.2))⟩
  | _=>none
section
variable {g:G}
abbrev CertS (g:G) (C:Ctx) (s : Stmt):={c:CS // SndS g C s c}
abbrev CertSs (g:G) (C:Ctx) (s:List Stmt):={c:CSs // SndSs g C s c}
noncomputable def certSL {C:Ctx} (f : ∀ e,Option (CertS g C e)) : ∀ es,Option (CertSs g C es)
  | []=>some ⟨.nil,sndSs_nil⟩
  | e :: r=>(f e).bind fun c=>(certSL f r).map fun l=>⟨.cons c.1 l.1,sndSs_cons c.2 l.2⟩
noncomputable def setC' (H : GOk g) (N:Nat) (C:Ctx) (hK : Tabs g.K) (x:Str) (px p:Pos) (e:Expr):Option (CertS g C (.Assign [.Name x px] e p)):=
  (slotC C x).bind fun s=>(cert H N C hK e).bind fun c=>if hn : c.cmp = true then some ⟨.set s.1.1 c.1,sndS_set s.2 (c.hc hn) c.2.1⟩ else none
noncomputable def setC (H : GOk g) (N:Nat) (C:Ctx) (hK : Tabs g.K) (x:Str) (px p:Pos) : ∀ e,Option (CertS g C (.Assign [.Name x px] e p))
  | .ListComp elt [⟨tgt,iter,[],0⟩] scope pos=>(slotC C x).bind fun s=>
      if hs : swaps s.1.2 x px pos scope = true then
        (compD C scope tgt).bind fun d=>(cert H N C hK iter).bind fun ci=>(cert H N (inComp C scope d.tg) hK elt).map fun ce=>⟨.set s.1.1 (.comp ce.1 d.tg.length d.cap ci.1),sndS_setu H s.2 hs d.ok d.ht ci.f.set ci.2.1 ce.2.1⟩
      else (cert H N C hK (.ListComp elt [⟨tgt,iter,[],0⟩] scope pos)).map fun c=>⟨.set s.1.1 c.1,sndS_setc s.2 (Bool.eq_false_iff.mpr hs) c.2.1⟩
  | e=>setC' H N C hK x px p e
noncomputable def swpC (H : GOk g) (N:Nat) (C:Ctx) (hK : Tabs g.K) (a b:Str) (pa pb p p' p'' : Pos) (k k' : Nat) (v1 v2:Expr):Option (CertS g C (.Assign [.Tuple [.Name a pa, .Name b pb] k p] (.Tuple [v1,v2] k' p') p'')):=
  withEq (slotOf C.sl a) fun i h1=>withEq (slotOf C.sl b) fun j h2=>match i,j,h1,h2 with
    | (i,false),(j,false),h1,h2=>if h : swp2 a b pa pb v1 v2 = true then (cert H N C hK (.Tuple [v1,v2] k' p')).map fun c=>⟨.unp [i,j] c.1,sndS_swp h (slotOf_is h1) (slotOf_is h2) c.2.1⟩ else none
    | _,_,_,_=>none
noncomputable def certS (H : GOk g) (N:Nat):Nat→(C:Ctx)→Tabs g.K→(s : Stmt)→Option (CertS g C s)
  | 0,_,_,_=>none
  | n + 1,C,hK,st=>match st with
    | .Return (some e) _=>(cert H N C hK e).map fun c=>⟨.ret c.1,sndS_ret c.2.1⟩
    | .Expr e _=>(cert H N C hK e).bind fun c=>if hn : c.cmp = true then some ⟨.ev c.1,sndS_ev (c.hc hn) c.2.1⟩ else none
    | .Assign [.Name x px] e p=>setC H N C hK x px p e
    | .Assign [.Subscript o i _] e _=>(cert H N C hK e).bind fun c=>(cert H N C hK o).bind fun a=>(cert H N C hK i).bind fun b=>if hn : c.cmp = true then some ⟨.setIt a.1 b.1 c.1,sndS_setIt H (c.hc hn) a.2.1 b.2.1 c.2.1⟩ else none
    | .Assign [.Attribute o x _] e _=>(ixC x).bind fun i=>(cert H N C hK e).bind fun c=>(cert H N C hK o).map fun a=>⟨.setAt a.1 i.1 c.1,sndS_setAt H i.2 (fun env _=>c.f.att _ _ _ _ env) a.2.1 c.2.1⟩
    | .Assign [.Tuple es k p] e p''=>match es,e with
      | [.Name a pa, .Name b pb], .Tuple [v1,v2] k' p'=>swpC H N C hK a b pa pb p p' p'' k k' v1 v2
      | es,e=>(slotsC C es).bind fun is=>(cert H N C hK e).bind fun c=>if hn : c.cmp = true∧c.tup = true then some ⟨.unp is.1 c.1,sndS_unp is.2 (c.hc hn.1) (c.ht hn.2) c.2.1⟩ else none
    | .AugAssign (.Attribute o x _) .Add e _=>(ixC x).bind fun i=>(cert H N C hK o).bind fun a=>(cert H N C hK e).map fun c=>⟨.augAt a.1 i.1 c.1,sndS_augAt H i.2 a.2.1 c.2.1⟩
    | .If t a b _=>(cert H N C hK t).bind fun ct=>(certSL (certS H N n C hK) a).bind fun ca=>(certSL (certS H N n C hK) b).map fun cb=>⟨.ite ct.1 ca.1 cb.1,sndS_ite ct.2.2 ca.2 cb.2⟩
    | .While t b [] _=>(cert H N C hK t).bind fun ct=>(certSL (certS H N n C hK) b).map fun cb=>⟨.whl ct.1 cb.1,sndS_whl ct.2.2 cb.2⟩
    | .For tgt it b [] _=>(forC C tgt).bind fun is=>(cert H N C hK it).bind fun ci=>(certSL (certS H N n C hK) b).map fun cb=>⟨.for is.1 ci.1 cb.1,sndS_for H is.2 ci.f.set ci.2.1 cb.2⟩
    | _=>none
end
noncomputable def slFrom (params:List Str) (names:List (Str × NameKind)) : Sl:=
  (params.map fun x=>(x,names.lookup x == some .cell)) ++ (names.filterMap fun p=>if params.contains p.1 then none else if p.2 == .local then some (p.1,false) else if p.2 == .cell then some (p.1,true) else none)
noncomputable def valsK (K:Frag):List Value→Option (List V)
  | []=>some []
  | v :: r=>(valV K v).bind fun x=>(valsK K r).map (x :: ·)
theorem valsK_is {K:Frag} {h:Heap} (X : K.In h) : ∀ {vs:List Value} {xs:List V},valsK K vs = some xs→VIss h vs xs
  | [],xs,e=>by cases e; exact .nil
  | v :: r,xs,e=>by
    simp only [valsK,Option.bind_eq_some_iff,Option.map_eq_some_iff] at e
    obtain ⟨x,e1,ys,e2,rfl⟩:=e
    exact .cons (valV_is X e1) (valsK_is X e2)
noncomputable def seqOf : Data→Option (Array Value)
  | .seq items _=>some items
  | _=>none
theorem seqOf_is {x : Data} {items : Array Value} (h : seqOf x = some items) : ∃ n,x = .seq items n:=by
  cases x with
  | seq a n=>cases h; exact ⟨n,rfl⟩
  | _=>cases h
noncomputable def dflOf (K:Frag):Value→Option (List V)
  | .none=>some []
  | .ref a=>(K.lookup a).bind fun o=>(seqOf o.data).bind fun items=>valsK K items.toList
  | _=>none
theorem dfl_is {g:G} {fd:FuncData} {dfl:List V} (e1 : dflOf g.K fd.defaults = some dfl) : DflIs g fd dfl:=by
  have key : ∀ v,dflOf g.K v = some dfl→fd.defaults = v→DflIs g fd dfl:=by
    intro v h e
    cases v with
    | none=>cases h; exact .none e rfl
    | ref a=>
      obtain ⟨o,q1,h1⟩:=Option.bind_eq_some_iff.mp h
      obtain ⟨items,q2,h2⟩:=Option.bind_eq_some_iff.mp h1
      obtain ⟨n,q3⟩:=seqOf_is q2
      exact .some a o items n e q1 q3 fun h X=>valsK_is X h2
    | _=>cases h
  exact key _ e1 rfl
structure FdOk (K:Frag) (fd:FuncData) (sl : Sl) (dfl:List V):Prop where
  h1 : codeIn K fd.code fd.qualname = true
  h2 : fd.closure.isEmpty = true
  h3 : (fd.globals == mainGlobals) = true
  h4 : (fd.builtins == builtinsNs) = true
  h5 : fd.scope.isCoroutine = false
  h6 : fd.scope.isGenerator = false
  h7 : (fd.scope.kind == .function) = true
  h8 : parsOk fd.params = true
  h9 : (sl.all fun p=>fd.scope.names.lookup p.1 == some (if p.2 = true then NameKind.cell else .local)) = true
  h10 : decide (sl.map (·.1)).Nodup = true
  hl : dfl.length ≤ (fd.params.args.map (·.arg)).length
noncomputable def FdK (K:Frag) (fd:FuncData):Bool:=codeIn K fd.code fd.qualname && (fd.closure.isEmpty && ((fd.globals == mainGlobals) && (fd.builtins == builtinsNs)))
noncomputable def FdR (p : Arguments) (sc : Scope) (sl : Sl) (dfl:List V):Bool:=
  !sc.isCoroutine && (!sc.isGenerator && ((sc.kind == .function) && (parsOk p && ((sl.all fun p=>sc.names.lookup p.1 == some (if p.2 = true then NameKind.cell else .local)) && (decide (sl.map (·.1)).Nodup && Nat.ble dfl.length (p.args.map (·.arg)).length)))))
theorem fdOk_is {K:Frag} {fd:FuncData} {sl : Sl} {dfl:List V} (h : FdK K fd = true) (h' : FdR fd.params fd.scope sl dfl = true) : FdOk K fd sl dfl:=by
  unfold FdK at h
  unfold FdR at h'
  simp only [Bool.and_eq_true,Bool.not_eq_true'] at h h'
  obtain ⟨h1,h2,h3,h4⟩:=h
  obtain ⟨h5,h6,h7,h8,h9,h10,h11⟩:=h'
  exact ⟨h1,h2,h3,h4,h5,h6,h7,h8,h9,h10,Nat.le_of_ble_eq_true h11⟩
theorem sl_names (ps:List Str) (names:List (Str × NameKind)) : ps = ((slFrom ps names).map (·.1)).take ps.length:=by
  unfold slFrom
  rw [List.map_append,List.map_map]
  have : ps.map ((fun p:Str × Bool=>p.1) ∘ fun x=>(x,names.lookup x == some .cell)) = ps:=by
    rw [show ((fun p:Str × Bool=>p.1) ∘ fun x=>(x,names.lookup x == some NameKind.cell)) = id from rfl,List.map_id]
  rw [this,List.take_left' (by rfl)]
theorem sl_len (ps:List Str) (names:List (Str × NameKind)) : ps.length ≤ (slFrom ps names).length:=by
  unfold slFrom
  rw [List.length_append,List.length_map]
  exact Nat.le_add_right _ _
theorem sl_kinds {sl : Sl} {names:List (Str × NameKind)} (h : (sl.all fun p=>names.lookup p.1 == some (if p.2 = true then NameKind.cell else .local)) = true) (i:Nat) (x:Str) (b:Bool) (e : sl[i]? = some (x,b)) : names.lookup x = some (if b = true then .cell else .local):=
  beq_iff_eq.mp (List.all_eq_true.mp h (x,b) (List.mem_of_getElem? e))
theorem fn_of {g:G} {f:Addr} {cd:Bool} {oc od fd osl body} {dfl:List V} {b:CSs} (ho : g.K.lookup f = some ⟨oc,od, .func fd,osl⟩) (hb : fd.body = .stmts body) (o : FdOk g.K fd (slFrom (fd.params.args.map (·.arg)) fd.scope.names) dfl)
    (e1 : dflOf g.K fd.defaults = some dfl) (s : SndSs g ⟨g.K,fd.scope,slFrom (fd.params.args.map (·.arg)) fd.scope.names,cd⟩ body b) : FnOk g f ⟨slFrom (fd.params.args.map (·.arg)) fd.scope.names,(fd.params.args.map (·.arg)).length,dfl,b⟩ cd:=
  ⟨oc,od,fd,osl,body,ho,hb,o.h1,List.isEmpty_iff.mp o.h2,beq_iff_eq.mp o.h3,beq_iff_eq.mp o.h4,o.h5,o.h6,beq_iff_eq.mp o.h7,o.h8,sl_names _ _,sl_len _ _,sl_kinds o.h9,of_decide_eq_true o.h10,dfl_is e1,o.hl,s⟩
noncomputable def stmtsOf : FuncBody→Option (List Stmt)
  | .stmts b=>some b
  | _=>none
theorem stmtsOf_is {x : FuncBody} {b:List Stmt} (h : stmtsOf x = some b) : x = .stmts b:=by
  cases x with
  | stmts=>cases h; rfl
  | expr=>cases h
noncomputable def funOf : Data→Option FuncData
  | .func fd=>some fd
  | _=>none
theorem funOf_is {x : Data} {fd:FuncData} (h : funOf x = some fd) : x = .func fd:=by
  cases x with
  | func=>cases h; rfl
  | _=>cases h
noncomputable abbrev Row:=Arguments × Scope × List Stmt
noncomputable abbrev Row.sl (r : Row) : Sl:=slFrom (r.1.args.map (·.arg)) r.2.1.names
noncomputable def fdRow (K:Frag) (a:Addr):Option (Row × List V):=(K.lookup a).bind fun o=>(funOf o.data).bind fun fd=>(stmtsOf fd.body).bind fun b=>(dflOf K fd.defaults).bind fun dfl=>bif FdK K fd then some ((fd.params,fd.scope,b),dfl) else none
noncomputable def rowFn (r : Row) (dfl:List V) (b:CSs) : FnD:=⟨r.sl,(r.1.args.map (·.arg)).length,dfl,b⟩
structure CertF (g:G) (cd:Bool) (r : Row) (dfl:List V) where
  (b:CSs) (s : SndSs g ⟨g.K,r.2.1,r.sl,cd⟩ r.2.2 b) (o : FdR r.1 r.2.1 r.sl dfl = true)
noncomputable def certB {g:G} (H : GOk g) (O : Tabs g.K) (cd:Bool) (r : Row) (dfl:List V):Option (CertF g cd r dfl):=if o : FdR r.1 r.2.1 r.sl dfl = true then (certSL (certS H 40 12 ⟨g.K,r.2.1,r.sl,cd⟩ O) r.2.2).map fun c=>⟨c.1,c.2,o⟩ else none
theorem fn_row {g:G} {a:Addr} {cd:Bool} {r : Row} {dfl:List V} (h : fdRow g.K a = some (r,dfl)) (c : CertF g cd r dfl) : FnOk g a (rowFn r dfl c.b) cd:=by
  obtain ⟨⟨oc,od,dt,osl⟩,ho,h1⟩:=Option.bind_eq_some_iff.mp h
  obtain ⟨fd,e0,h2⟩:=Option.bind_eq_some_iff.mp h1
  obtain ⟨b,e1,h3⟩:=Option.bind_eq_some_iff.mp h2
  obtain ⟨d,e2,h4⟩:=Option.bind_eq_some_iff.mp h3
  clear h h1 h2 h3
  cases funOf_is e0
  cases q : FdK g.K fd with
  | false=>rw [q] at h4; cases h4
  | true=>rw [q] at h4; cases h4; exact fn_of ho (stmtsOf_is e1) (fdOk_is q c.o) e2 c.s
noncomputable def ir_Thing_init : FnD:=⟨[(Str.ofString "self",false),(Str.ofString "number",false),(Str.ofString "owner",false)],3,[],(.cons (.setAt (.var 0) 0 (.var 1)) (.cons (.setAt (.var 0) 1 (.var 2)) (.cons (.setAt (.var 0) 2 (.emp false)) (.cons (.setAt (.var 0) 3 (.k .none)) (.cons (.setAt (.var 0) 4 (.k (.bool false))) (.cons (.setAt (.var 0) 5 (.k .none)) .nil))))))⟩
noncomputable def ir_Text_init : FnD:=⟨[(Str.ofString "self",false),(Str.ofString "number",false),(Str.ofString "owner",false),(Str.ofString "text",false)],4,[(.str [])],(.cons (.ev (.call (.u 37) (.cons (.var 0) (.cons (.var 1) (.cons (.var 2) .nil))))) (.cons (.setAt (.var 0) 6 (.var 3)) .nil))⟩
noncomputable def ir_ListThing_init : FnD:=⟨[(Str.ofString "self",false),(Str.ofString "number",false),(Str.ofString "owner",false),(Str.ofString "items",false)],4,[.none],(.cons (.ev (.call (.u 37) (.cons (.var 0) (.cons (.var 1) (.cons (.var 2) .nil))))) (.cons (.setAt (.var 0) 7 (.ite (.cmp .Is (.var 3) (.k .none)) (.lst .nil) (.var 3))) .nil))⟩
noncomputable def ir_TableThing_init : FnD:=⟨[(Str.ofString "self",false),(Str.ofString "number",false),(Str.ofString "owner",false)],3,[],(.cons (.ev (.call (.u 37) (.cons (.var 0) (.cons (.var 1) (.cons (.var 2) .nil))))) (.cons (.setAt (.var 0) 8 (.emp true)) (.cons (.setAt (.var 0) 9 (.k .none)) .nil)))⟩
noncomputable def ir_put : FnD:=⟨[(Str.ofString "self",false),(Str.ofString "key",false),(Str.ofString "value",false),(Str.ofString "code",false),(Str.ofString "row",false)],3,[],(.cons (.set 3 (.call (.u 250) (.cons (.var 1) .nil))) (.cons (.set 4 (.meth .get (.attr (.var 0) 8) (.cons (.var 3) .nil))) (.cons (.ite (.cmp .Is (.var 4) (.k .none)) (.cons (.setIt (.attr (.var 0) 8) (.var 3) (.lst (.cons (.var 1) (.cons (.var 2) .nil)))) .nil) (.cons (.setIt (.var 4) (.k (.int 1)) (.var 2)) .nil)) .nil)))⟩
noncomputable def ir_pairs : FnD:=⟨[(Str.ofString "self",false)],1,[],(.cons (.ret (.comp (.tup (.cons (.idx (.var 0) (.k (.int 0))) (.cons (.idx (.var 0) (.k (.int 1))) .nil))) 1 [] (.meth .values (.attr (.var 0) 8) .nil))) .nil)⟩
noncomputable def ir_RangeThing_init : FnD:=⟨[(Str.ofString "self",false),(Str.ofString "number",false),(Str.ofString "owner",false),(Str.ofString "first",false),(Str.ofString "last",false),(Str.ofString "is_open",false)],6,[.none, .none,(.bool false)],(.cons (.ev (.call (.u 37) (.cons (.var 0) (.cons (.var 1) (.cons (.var 2) .nil))))) (.cons (.setAt (.var 0) 10 (.var 3)) (.cons (.setAt (.var 0) 11 (.var 4)) (.cons (.setAt (.var 0) 12 (.var 5)) .nil))))⟩
noncomputable def ir_ProcThing_init : FnD:=⟨[(Str.ofString "self",false),(Str.ofString "number",false),(Str.ofString "owner",false),(Str.ofString "params",false),(Str.ofString "body",false),(Str.ofString "env",false),(Str.ofString "self_value",false),(Str.ofString "nesting",false),(Str.ofString "home",false),(Str.ofString "site",false),(Str.ofString "is_lambda",false),(Str.ofString "definer",false)],12,[.none, .none, .none, .none,(.tup []), .none, .none,(.bool false), .none],(.cons (.ev (.call (.u 37) (.cons (.var 0) (.cons (.var 1) (.cons (.var 2) .nil))))) (.cons (.setAt (.var 0) 13 (.var 3)) (.cons (.setAt (.var 0) 14 (.var 4)) (.cons (.setAt (.var 0) 15 (.var 5)) (.cons (.setAt (.var 0) 16 (.var 6)) (.cons (.setAt (.var 0) 17 (.var 7)) (.cons (.setAt (.var 0) 18 (.var 8)) (.cons (.setAt (.var 0) 19 (.var 9)) (.cons (.setAt (.var 0) 20 (.var 10)) (.cons (.setAt (.var 0) 21 (.var 11)) .nil))))))))))⟩
noncomputable def ir_ErrorThing_init : FnD:=⟨[(Str.ofString "self",false),(Str.ofString "number",false),(Str.ofString "owner",false),(Str.ofString "message",false)],4,[.none],(.cons (.ev (.call (.u 37) (.cons (.var 0) (.cons (.var 1) (.cons (.var 2) .nil))))) (.cons (.setAt (.var 0) 22 (.var 3)) (.cons (.setAt (.var 0) 23 (.k .none)) .nil)))⟩
noncomputable def ir_ModuleThing_init : FnD:=⟨[(Str.ofString "self",false),(Str.ofString "number",false),(Str.ofString "owner",false),(Str.ofString "name",false),(Str.ofString "is_class",false),(Str.ofString "parent",false),(Str.ofString "outer",false)],7,[.none,(.bool false), .none, .none],(.cons (.ev (.call (.u 37) (.cons (.var 0) (.cons (.var 1) (.cons (.var 2) .nil))))) (.cons (.setAt (.var 0) 24 (.var 3)) (.cons (.setAt (.var 0) 25 (.var 4)) (.cons (.setAt (.var 0) 26 (.var 5)) (.cons (.setAt (.var 0) 27 (.var 6)) (.cons (.setAt (.var 0) 28 (.emp false)) (.cons (.setAt (.var 0) 29 (.emp false)) (.cons (.setAt (.var 0) 30 (.lst .nil)) (.cons (.setAt (.var 0) 31 (.lst .nil)) (.cons (.setAt (.var 0) 32 (.k .none)) (.cons (.setAt (.var 0) 33 (.k .none)) (.cons (.setAt (.var 0) 34 (.k .none)) .nil))))))))))))⟩
noncomputable def ir_is_own : FnD:=⟨[(Str.ofString "self",false)],1,[],(.cons (.ret (.cmp .IsNot (.attr (.var 0) 32) (.k .none))) .nil)⟩
noncomputable def ir_sort_of : FnD:=⟨[(Str.ofString "value",false)],1,[],(.cons (.ite (.cmp .Is (.var 0) (.k .none)) (.cons (.ret (.k (.str [110,105,108]))) .nil) .nil) (.cons (.ite (.isin (.var 0) .bool) (.cons (.ret (.k (.str [98,111,111,108]))) .nil) .nil) (.cons (.ite (.isin (.var 0) .int) (.cons (.ret (.k (.str [105,110,116]))) .nil) .nil) (.cons (.ret (.ite (.isin (.var 0) .str) (.k (.str [115,121,109])) (.k (.str [116,104,105,110,103])))) .nil))))⟩
noncomputable def ir_same : FnD:=⟨[(Str.ofString "one",false),(Str.ofString "other",false),(Str.ofString "sort",false)],2,[],(.cons (.set 2 (.call (.u 237) (.cons (.var 0) .nil))) (.cons (.ite (.cmp .NotEq (.var 2) (.call (.u 237) (.cons (.var 1) .nil))) (.cons (.ret (.k (.bool false))) .nil) .nil) (.cons (.ret (.ite (.cmp .Eq (.var 2) (.k (.str [116,104,105,110,103]))) (.cmp .Eq (.attr (.var 0) 0) (.attr (.var 1) 0)) (.cmp .Eq (.var 0) (.var 1)))) .nil)))⟩
noncomputable def ir_code_of : FnD:=⟨[(Str.ofString "value",false),(Str.ofString "deep",true),(Str.ofString "sort",false)],2,[(.int 12)],(.cons (.set 2 (.call (.u 237) (.cons (.var 0) .nil))) (.cons (.ite (.cmp .NotEq (.var 2) (.k (.str [116,104,105,110,103]))) (.cons (.ret (.tup (.cons (.var 2) (.cons (.var 0) .nil)))) .nil) .nil) (.cons (.ite (.isin (.var 0) (.cls 62)) (.cons (.ret (.tup (.cons (.k (.str [116,101,120,116])) (.cons (.attr (.var 0) 6) .nil)))) .nil) .nil) (.cons (.ite (.and (.cons (.isin (.var 0) (.cls 82)) (.cons (.cmp .Gt (.var 1) (.k (.int 0))) .nil))) (.cons (.ret (.tup (.cons (.k (.str [108,105,115,116])) (.cons (.call .tuple (.cons (.comp (.call (.u 250) (.cons (.var 0) (.cons (.bin .Sub (.var 1) (.k (.int 1))) .nil))) 1 [1] (.attr (.var 0) 7)) .nil)) .nil)))) .nil) .nil) (.cons (.ite (.and (.cons (.isin (.var 0) (.cls 140)) (.cons (.cmp .Gt (.var 1) (.k (.int 0))) .nil))) (.cons (.ret (.tup (.cons (.k (.str [114,97,110,103,101])) (.cons (.call (.u 250) (.cons (.attr (.var 0) 10) (.cons (.bin .Sub (.var 1) (.k (.int 1))) .nil))) (.cons (.call (.u 250) (.cons (.attr (.var 0) 11) (.cons (.bin .Sub (.var 1) (.k (.int 1))) .nil))) (.cons (.attr (.var 0) 12) .nil)))))) .nil) .nil) (.cons (.ret (.tup (.cons (.k (.str [116,104,105,110,103])) (.cons (.attr (.var 0) 0) .nil)))) .nil))))))⟩
noncomputable def ir_is_word : FnD:=⟨[(Str.ofString "text",false),(Str.ofString "letter",false)],1,[],(.cons (.ite (.or (.cons (.cmp .Eq (.var 0) (.k (.str []))) (.cons (.meth .isdigit (.idx (.var 0) (.k (.int 0))) .nil) .nil))) (.cons (.ret (.k (.bool false))) .nil) .nil) (.cons (.for [1] (.var 0) (.cons (.ite (.not (.or (.cons (.meth .isalnum (.var 1) .nil) (.cons (.cmp .Eq (.var 1) (.k (.str [95]))) .nil)))) (.cons (.ret (.k (.bool false))) .nil) .nil) .nil)) (.cons (.ret (.k (.bool true))) .nil)))⟩
noncomputable def ir_is_label : FnD:=⟨[(Str.ofString "name",false)],1,[],(.cons (.ret (.call (.u 257) (.cons (.ite (.cmp .In (.slice (.var 0) (.k (.int (-1))) (.k .none)) (.tup (.cons (.k (.str [63])) (.cons (.k (.str [33])) .nil)))) (.slice (.var 0) (.k .none) (.k (.int (-1)))) (.var 0)) .nil))) .nil)⟩
noncomputable def ir_is_plain_symbol : FnD:=⟨[(Str.ofString "name",false)],1,[],(.cons (.ite (.cmp .In (.var 0) (.k (.tup [(.str [43]),(.str [45]),(.str [42]),(.str [47]),(.str [37]),(.str [42,42]),(.str [61,61]),(.str [33,61]),(.str [60]),(.str [62]),(.str [60,61]),(.str [62,61]),(.str [60,61,62]),(.str [61,61,61]),(.str [91,93]),(.str [91,93,61]),(.str [60,60]),(.str [62,62]),(.str [33]),(.str [126]),(.str [43,64]),(.str [45,64]),(.str [38]),(.str [124]),(.str [94]),(.str [61,126]),(.str [33,126])]))) (.cons (.ret (.k (.bool true))) .nil) .nil) (.cons (.ite (.cmp .Eq (.slice (.var 0) (.k .none) (.k (.int 2))) (.k (.str [64,64]))) (.cons (.ret (.call (.u 257) (.cons (.slice (.var 0) (.k (.int 2)) (.k .none)) .nil))) .nil) .nil) (.cons (.ite (.cmp .In (.slice (.var 0) (.k .none) (.k (.int 1))) (.tup (.cons (.k (.str [64])) (.cons (.k (.str [36])) .nil)))) (.cons (.ret (.call (.u 257) (.cons (.slice (.var 0) (.k (.int 1)) (.k .none)) .nil))) .nil) .nil) (.cons (.ret (.call (.u 257) (.cons (.ite (.cmp .In (.slice (.var 0) (.k (.int (-1))) (.k .none)) (.tup (.cons (.k (.str [63])) (.cons (.k (.str [33])) (.cons (.k (.str [61])) .nil))))) (.slice (.var 0) (.k .none) (.k (.int (-1)))) (.var 0)) .nil))) .nil))))⟩
noncomputable def ir_full_name : FnD:=⟨[(Str.ofString "module",false)],1,[],(.cons (.ite (.cmp .IsNot (.attr (.var 0) 32) (.k .none)) (.cons (.ret (.bin .Add (.bin .Add (.k (.str [35,60,67,108,97,115,115,58])) (.call (.u 331) (.cons (.attr (.var 0) 32) .nil))) (.k (.str [62])))) .nil) .nil) (.cons (.ite (.cmp .Is (.attr (.var 0) 24) (.k .none)) (.cons (.ret (.ite (.attr (.var 0) 25) (.k (.str [35,60,67,108,97,115,115,62])) (.k (.str [35,60,77,111,100,117,108,101,62])))) .nil) .nil) (.cons (.ite (.cmp .Is (.attr (.var 0) 27) (.k .none)) (.cons (.ret (.attr (.var 0) 24)) .nil) .nil) (.cons (.ret (.bin .Add (.bin .Add (.call (.u 278) (.cons (.attr (.var 0) 27) .nil)) (.k (.str [58,58]))) (.attr (.var 0) 24))) .nil))))⟩
noncomputable def ir_show_letter : FnD:=⟨[(Str.ofString "letter",false),(Str.ofString "follower",false),(Str.ofString "number",false),(Str.ofString "figures",false)],2,[],(.cons (.ite (.cmp .In (.var 0) (.k (.base 22))) (.cons (.ret (.idx (.k (.base 22)) (.var 0))) .nil) .nil) (.cons (.ite (.and (.cons (.cmp .Eq (.var 0) (.k (.str [35]))) (.cons (.cmp .In (.var 1) (.tup (.cons (.k (.str [123])) (.cons (.k (.str [36])) (.cons (.k (.str [64])) .nil))))) .nil))) (.cons (.ret (.k (.str [92,35]))) .nil) .nil) (.cons (.set 2 (.call .ord (.cons (.var 0) .nil))) (.cons (.ite (.or (.cons (.cmp .Lt (.var 2) (.k (.int 32))) (.cons (.cmp2 .Lt .Lt (.k (.int 127)) (.var 2) (.k (.int 160))) .nil))) (.cons (.set 3 (.k (.str [48,49,50,51,52,53,54,55,56,57,65,66,67,68,69,70]))) (.cons (.ret (.bin .Add (.bin .Add (.k (.str [92,117,48,48])) (.idx (.var 3) (.bin .FloorDiv (.var 2) (.k (.int 16))))) (.idx (.var 3) (.bin .Mod (.var 2) (.k (.int 16)))))) .nil)) .nil) (.cons (.ret (.var 0)) .nil)))))⟩
noncomputable def ir_show_text : FnD:=⟨[(Str.ofString "text",true),(Str.ofString "made",false)],1,[],(.cons (.set 1 (.comp (.call (.u 285) (.cons (.idx (.var 1) (.var 0)) (.cons (.slice (.var 1) (.bin .Add (.var 0) (.k (.int 1))) (.bin .Add (.var 0) (.k (.int 2)))) .nil))) 1 [0] (.call .range (.cons (.call .len (.cons (.var 0) .nil)) .nil)))) (.cons (.ret (.bin .Add (.bin .Add (.k (.str [34])) (.meth .join (.k (.str [])) (.cons (.var 1) .nil))) (.k (.str [34])))) .nil))⟩
noncomputable def ir_show_symbol : FnD:=⟨[(Str.ofString "name",false)],1,[],(.cons (.ret (.bin .Add (.k (.str [58])) (.ite (.call (.u 271) (.cons (.var 0) .nil)) (.var 0) (.call (.u 290) (.cons (.var 0) .nil))))) .nil)⟩
noncomputable def ir_show_pair : FnD:=⟨[(Str.ofString "key",false),(Str.ofString "value",false),(Str.ofString "deep",false)],3,[],(.cons (.ite (.cmp .Eq (.call (.u 237) (.cons (.var 0) .nil)) (.k (.str [115,121,109]))) (.cons (.ret (.bin .Add (.bin .Add (.ite (.call (.u 264) (.cons (.var 0) .nil)) (.var 0) (.call (.u 290) (.cons (.var 0) .nil))) (.k (.str [58,32]))) (.call (.u 331) (.cons (.var 1) (.cons (.var 2) .nil))))) .nil) .nil) (.cons (.ret (.bin .Add (.bin .Add (.call (.u 331) (.cons (.var 0) (.cons (.var 2) .nil))) (.k (.str [32,61,62,32]))) (.call (.u 331) (.cons (.var 1) (.cons (.var 2) .nil))))) .nil))⟩
noncomputable def ir_show_range : FnD:=⟨[(Str.ofString "value",false),(Str.ofString "deep",false),(Str.ofString "first",false),(Str.ofString "last",false)],2,[],(.cons (.set 2 (.ite (.and (.cons (.cmp .Is (.attr (.var 0) 10) (.k .none)) (.cons (.cmp .IsNot (.attr (.var 0) 11) (.k .none)) .nil))) (.k (.str [])) (.call (.u 331) (.cons (.attr (.var 0) 10) (.cons (.var 1) .nil))))) (.cons (.set 3 (.ite (.and (.cons (.cmp .Is (.attr (.var 0) 11) (.k .none)) (.cons (.cmp .IsNot (.attr (.var 0) 10) (.k .none)) .nil))) (.k (.str [])) (.call (.u 331) (.cons (.attr (.var 0) 11) (.cons (.var 1) .nil))))) (.cons (.ret (.bin .Add (.bin .Add (.var 2) (.ite (.attr (.var 0) 12) (.k (.str [46,46,46])) (.k (.str [46,46])))) (.var 3))) .nil)))⟩
noncomputable def ir_show_thing : FnD:=⟨[(Str.ofString "value",false),(Str.ofString "deep",true),(Str.ofString "name",false)],2,[],(.cons (.ite (.isin (.var 0) (.cls 62)) (.cons (.ret (.call (.u 290) (.cons (.attr (.var 0) 6) .nil))) .nil) .nil) (.cons (.ite (.isin (.var 0) (.cls 82)) (.cons (.ite (.and (.cons (.cmp .Lt (.var 1) (.k (.int 1))) (.cons (.cmp .Gt (.call .len (.cons (.attr (.var 0) 7) .nil)) (.k (.int 0))) .nil))) (.cons (.ret (.k (.str [91,46,46,46,93]))) .nil) .nil) (.cons (.ret (.bin .Add (.bin .Add (.k (.str [91])) (.meth .join (.k (.str [44,32])) (.cons (.comp (.call (.u 331) (.cons (.var 0) (.cons (.bin .Sub (.var 1) (.k (.int 1))) .nil))) 1 [1] (.attr (.var 0) 7)) .nil))) (.k (.str [93])))) .nil)) .nil) (.cons (.ite (.isin (.var 0) (.cls 120)) (.cons (.ite (.and (.cons (.cmp .Lt (.var 1) (.k (.int 1))) (.cons (.cmp .Gt (.call .len (.cons (.attr (.var 0) 8) .nil)) (.k (.int 0))) .nil))) (.cons (.ret (.k (.str [123,46,46,46,125]))) .nil) .nil) (.cons (.ret (.bin .Add (.bin .Add (.k (.str [123])) (.meth .join (.k (.str [44,32])) (.cons (.comp (.call (.u 304) (.cons (.var 0) (.cons (.var 1) (.cons (.bin .Sub (.var 2) (.k (.int 1))) .nil)))) 2 [1] (.umeth 52 (.var 0) .nil)) .nil))) (.k (.str [125])))) .nil)) .nil) (.cons (.ite (.isin (.var 0) (.cls 140)) (.cons (.ret (.ite (.cmp .Gt (.var 1) (.k (.int 0))) (.call (.u 311) (.cons (.var 0) (.cons (.bin .Sub (.var 1) (.k (.int 1))) .nil))) (.k (.str [40,46,46,46,41])))) .nil) .nil) (.cons (.ite (.isin (.var 0) (.cls 228)) (.cons (.ret (.call (.u 278) (.cons (.var 0) .nil))) .nil) .nil) (.cons (.set 2 (.call (.u 278) (.cons (.attr (.var 0) 1) .nil))) (.cons (.ite (.isin (.var 0) (.cls 181)) (.cons (.ret (.call (.u 323) (.cons (.var 0) (.cons (.var 2) (.cons (.var 1) .nil))))) .nil) .nil) (.cons (.ite (.isin (.var 0) (.cls 161)) (.cons (.ret (.ite (.attr (.var 0) 20) (.k (.str [35,60,80,114,111,99,32,40,108,97,109,98,100,97,41,62])) (.k (.str [35,60,80,114,111,99,62])))) .nil) .nil) (.cons (.ret (.bin .Add (.bin .Add (.k (.str [35,60])) (.var 2)) (.k (.str [62])))) .nil)))))))))⟩
noncomputable def ir_show_error : FnD:=⟨[(Str.ofString "value",false),(Str.ofString "name",false),(Str.ofString "deep",false),(Str.ofString "message",false),(Str.ofString "told",false)],3,[],(.cons (.set 3 (.attr (.var 0) 22)) (.cons (.ite (.cmp .Is (.var 3) (.k .none)) (.cons (.ret (.bin .Add (.bin .Add (.bin .Add (.bin .Add (.k (.str [35,60])) (.var 1)) (.k (.str [58,32]))) (.var 1)) (.k (.str [62])))) .nil) .nil) (.cons (.set 4 (.ite (.isin (.var 3) (.cls 62)) (.attr (.var 3) 6) (.call (.u 331) (.cons (.var 3) (.cons (.bin .Sub (.var 2) (.k (.int 1))) .nil))))) (.cons (.ret (.ite (.cmp .Eq (.var 4) (.k (.str []))) (.var 1) (.bin .Add (.bin .Add (.bin .Add (.bin .Add (.k (.str [35,60])) (.var 1)) (.k (.str [58,32]))) (.var 4)) (.k (.str [62]))))) .nil))))⟩
noncomputable def ir_show : FnD:=⟨[(Str.ofString "value",false),(Str.ofString "deep",false),(Str.ofString "sort",false)],2,[(.int 6)],(.cons (.set 2 (.call (.u 237) (.cons (.var 0) .nil))) (.cons (.ite (.cmp .Eq (.var 2) (.k (.str [116,104,105,110,103]))) (.cons (.ret (.call (.u 316) (.cons (.var 0) (.cons (.var 1) .nil)))) .nil) .nil) (.cons (.ite (.cmp .Eq (.var 2) (.k (.str [115,121,109]))) (.cons (.ret (.call (.u 297) (.cons (.var 0) .nil))) .nil) .nil) (.cons (.ite (.cmp .Eq (.var 2) (.k (.str [110,105,108]))) (.cons (.ret (.k (.str [110,105,108]))) .nil) .nil) (.cons (.ite (.cmp .Eq (.var 2) (.k (.str [98,111,111,108]))) (.cons (.ret (.ite (.var 0) (.k (.str [116,114,117,101])) (.k (.str [102,97,108,115,101])))) .nil) .nil) (.cons (.ret (.call .str (.cons (.var 0) .nil))) .nil))))))⟩
noncomputable def ir_World_init : FnD:=⟨[(Str.ofString "self",false),(Str.ofString "natives",false),(Str.ofString "prelude",false),(Str.ofString "read",false),(Str.ofString "most",false),(Str.ofString "name",false)],5,[.none, .none,(.int 20000)],(.cons (.setAt (.var 0) 35 (.var 1)) (.cons (.setAt (.var 0) 36 (.ite (.cmp .Is (.var 2) (.k .none)) (.emp false) (.var 2))) (.cons (.setAt (.var 0) 37 (.var 3)) (.cons (.setAt (.var 0) 38 (.var 4)) (.cons (.setAt (.var 0) 39 (.k (.int 0))) (.cons (.setAt (.var 0) 40 (.k (.int 0))) (.cons (.setAt (.var 0) 41 (.k (.int 8))) (.cons (.setAt (.var 0) 42 (.emp false)) (.cons (.setAt (.var 0) 43 (.emp false)) (.cons (.setAt (.var 0) 44 (.k (.int 0))) (.cons (.setAt (.var 0) 45 (.k (.int 0))) (.cons (.setAt (.var 0) 46 (.emp false)) (.cons (.setAt (.var 0) 47 (.lst .nil)) (.cons (.setAt (.var 0) 48 (.k (.bool false))) (.cons (.setAt (.var 0) 49 (.call (.u 40) (.cons (.umeth 0 (.var 0) .nil) (.cons (.umeth 54 (.var 0) (.cons (.k (.str [79,98,106,101,99,116])) .nil)) .nil)))) (.cons (.setAt (.var 0) 48 (.k (.bool true))) (.cons (.for [5] (.call .list (.cons (.attr (.var 0) 43) .nil)) (.cons (.ev (.umeth 56 (.var 0) (.cons (.var 5) .nil))) .nil)) .nil)))))))))))))))))⟩
noncomputable def ir_number : FnD:=⟨[(Str.ofString "self",false)],1,[],(.cons (.augAt (.var 0) 40 (.k (.int 1))) (.cons (.ret (.attr (.var 0) 40)) .nil))⟩
noncomputable def ir_builtin : FnD:=⟨[(Str.ofString "self",false),(Str.ofString "name",false),(Str.ofString "found",false)],2,[],(.cons (.set 2 (.meth .get (.attr (.var 0) 43) (.cons (.var 1) .nil))) (.cons (.ret (.ite (.cmp .Is (.var 2) (.k .none)) (.umeth 55 (.var 0) (.cons (.var 1) .nil)) (.var 2))) .nil))⟩
noncomputable def ir_make_builtin : FnD:=⟨[(Str.ofString "self",true),(Str.ofString "name",false),(Str.ofString "is_class",false),(Str.ofString "found",false),(Str.ofString "parent",false)],2,[],(.cons (.set 2 (.cmp .NotIn (.var 1) (.k (.tup [(.str [75,101,114,110,101,108]),(.str [67,111,109,112,97,114,97,98,108,101]),(.str [69,110,117,109,101,114,97,98,108,101])])))) (.cons (.set 3 (.call (.u 228) (.cons (.umeth 0 (.var 0) .nil) (.cons (.k .none) (.cons (.var 1) (.cons (.var 2) .nil)))))) (.cons (.setIt (.attr (.var 0) 43) (.var 1) (.var 3)) (.cons (.setAt (.var 3) 33 (.var 1)) (.cons (.set 4 (.idx (.k (.base 387)) (.var 1))) (.cons (.setAt (.var 3) 26 (.ite (.cmp .Is (.var 4) (.k .none)) (.k .none) (.umeth 54 (.var 0) (.cons (.var 4) .nil)))) (.cons (.setAt (.var 3) 1 (.umeth 54 (.var 0) (.cons (.ite (.var 2) (.k (.str [67,108,97,115,115])) (.k (.str [77,111,100,117,108,101]))) .nil))) (.cons (.setAt (.var 3) 30 (.comp (.umeth 54 (.var 1) (.cons (.var 0) .nil)) 1 [0] (.meth .get (.k (.base 390)) (.cons (.var 1) (.cons (.tup .nil) .nil))))) (.cons (.ite (.attr (.var 0) 48) (.cons (.ev (.umeth 56 (.var 0) (.cons (.var 1) .nil))) .nil) .nil) (.cons (.ret (.var 3)) .nil))))))))))⟩
noncomputable def ir_give_own : FnD:=⟨[(Str.ofString "self",false),(Str.ofString "name",false)],2,[],(.cons (.ite (.or (.cons (.cmp .In (.bin .Add (.var 1) (.k (.str [46]))) (.attr (.var 0) 35)) (.cons (.cmp .In (.bin .Add (.var 1) (.k (.str [46]))) (.attr (.var 0) 36)) .nil))) (.cons (.ev (.call (.u 385) (.cons (.var 0) (.cons (.idx (.attr (.var 0) 43) (.var 1)) .nil)))) .nil) .nil) .nil)⟩
noncomputable def ir_class_of : FnD:=⟨[(Str.ofString "self",false),(Str.ofString "value",false)],2,[],(.cons (.ite (.cmp .Is (.var 1) (.k .none)) (.cons (.ret (.umeth 54 (.var 0) (.cons (.k (.str [78,105,108,67,108,97,115,115])) .nil))) .nil) .nil) (.cons (.ite (.isin (.var 1) .bool) (.cons (.ret (.umeth 54 (.var 0) (.cons (.ite (.var 1) (.k (.str [84,114,117,101,67,108,97,115,115])) (.k (.str [70,97,108,115,101,67,108,97,115,115]))) .nil))) .nil) .nil) (.cons (.ite (.isin (.var 1) .int) (.cons (.ret (.umeth 54 (.var 0) (.cons (.k (.str [73,110,116,101,103,101,114])) .nil))) .nil) .nil) (.cons (.ret (.ite (.isin (.var 1) .str) (.umeth 54 (.var 0) (.cons (.k (.str [83,121,109,98,111,108])) .nil)) (.attr (.var 1) 1))) .nil))))⟩
noncomputable def ir_root_of : FnD:=⟨[(Str.ofString "self",false),(Str.ofString "module",false)],2,[],(.cons (.whl (.or (.cons (.cmp .Is (.attr (.var 1) 33) (.k .none)) (.cons (.umeth 53 (.var 1) .nil) .nil))) (.cons (.set 1 (.attr (.var 1) 26)) .nil)) (.cons (.ret (.attr (.var 1) 33)) .nil))⟩
noncomputable def ir_text : FnD:=⟨[(Str.ofString "self",false),(Str.ofString "text",false)],2,[],(.cons (.ret (.call (.u 62) (.cons (.umeth 0 (.var 0) .nil) (.cons (.umeth 54 (.var 0) (.cons (.k (.str [83,116,114,105,110,103])) .nil)) (.cons (.var 1) .nil))))) .nil)⟩
noncomputable def ir_list_of : FnD:=⟨[(Str.ofString "self",false),(Str.ofString "items",false)],2,[],(.cons (.ret (.call (.u 82) (.cons (.umeth 0 (.var 0) .nil) (.cons (.umeth 54 (.var 0) (.cons (.k (.str [65,114,114,97,121])) .nil)) (.cons (.call .list (.cons (.var 1) .nil)) .nil))))) .nil)⟩
noncomputable def ir_table_of : FnD:=⟨[(Str.ofString "self",false),(Str.ofString "pairs",false),(Str.ofString "found",false),(Str.ofString "key",false),(Str.ofString "value",false)],2,[],(.cons (.set 2 (.call (.u 120) (.cons (.umeth 0 (.var 0) .nil) (.cons (.umeth 54 (.var 0) (.cons (.k (.str [72,97,115,104])) .nil)) .nil)))) (.cons (.for [3,4] (.var 1) (.cons (.ev (.umeth 50 (.var 2) (.cons (.umeth 61 (.var 0) (.cons (.var 3) .nil)) (.cons (.var 4) .nil)))) .nil)) (.cons (.ret (.var 2)) .nil)))⟩
noncomputable def ir_key_of : FnD:=⟨[(Str.ofString "self",false),(Str.ofString "key",false),(Str.ofString "found",false)],2,[],(.cons (.ite (.or (.cons (.not (.isin (.var 1) (.cls 62))) (.cons (.attr (.var 1) 4) .nil))) (.cons (.ret (.var 1)) .nil) .nil) (.cons (.set 2 (.umeth 6 (.var 0) (.cons (.attr (.var 1) 6) .nil))) (.cons (.setAt (.var 2) 4 (.k (.bool true))) (.cons (.ret (.var 2)) .nil))))⟩
noncomputable def ir_range_of : FnD:=⟨[(Str.ofString "self",false),(Str.ofString "first",false),(Str.ofString "last",false),(Str.ofString "is_open",false),(Str.ofString "is_odd",false),(Str.ofString "found",false)],4,[],(.cons (.ite (.and (.cons (.cmp .IsNot (.var 1) (.k .none)) (.cons (.cmp .IsNot (.var 2) (.k .none)) .nil))) (.cons (.set 4 (.or (.cons (.cmp .Eq (.call (.u 237) (.cons (.var 1) .nil)) (.k (.str [98,111,111,108]))) (.cons (.cmp .Eq (.call (.u 237) (.cons (.var 2) .nil)) (.k (.str [98,111,111,108]))) .nil)))) (.cons (.ite (.or (.cons (.var 4) (.cons (.not (.call (.u 244) (.cons (.umeth 57 (.var 0) (.cons (.var 1) .nil)) (.cons (.umeth 57 (.var 0) (.cons (.var 2) .nil)) .nil)))) .nil))) (.cons (.ev (.umeth 67 (.var 0) (.cons (.k (.str [65,114,103,117,109,101,110,116,69,114,114,111,114])) (.cons (.k (.str [98,97,100,32,118,97,108,117,101,32,102,111,114,32,114,97,110,103,101])) .nil)))) .nil) .nil) .nil)) .nil) (.cons (.set 5 (.call (.u 140) (.cons (.umeth 0 (.var 0) .nil) (.cons (.umeth 54 (.var 0) (.cons (.k (.str [82,97,110,103,101])) .nil)) (.cons (.var 1) (.cons (.var 2) (.cons (.var 3) .nil))))))) (.cons (.setAt (.var 5) 4 (.k (.bool true))) (.cons (.ret (.var 5)) .nil))))⟩
noncomputable def ir_proc : FnD:=⟨[(Str.ofString "self",false),(Str.ofString "params",false),(Str.ofString "body",false),(Str.ofString "env",false),(Str.ofString "self_value",false),(Str.ofString "nesting",false),(Str.ofString "home",false),(Str.ofString "site",false),(Str.ofString "is_lambda",false),(Str.ofString "definer",false),(Str.ofString "owner",false)],10,[],(.cons (.set 10 (.umeth 54 (.var 0) (.cons (.k (.str [80,114,111,99])) .nil))) (.cons (.ret (.call (.u 161) (.cons (.umeth 0 (.var 0) .nil) (.cons (.var 10) (.cons (.var 1) (.cons (.var 2) (.cons (.var 3) (.cons (.var 4) (.cons (.var 5) (.cons (.var 6) (.cons (.var 7) (.cons (.var 8) (.cons (.var 9) .nil))))))))))))) .nil))⟩
noncomputable def ir_thing : FnD:=⟨[(Str.ofString "self",false),(Str.ofString "module",false),(Str.ofString "root",false),(Str.ofString "number",false)],2,[],(.cons (.ite (.umeth 53 (.var 1) .nil) (.cons (.ev (.umeth 67 (.var 0) (.cons (.k (.str [84,121,112,101,69,114,114,111,114])) (.cons (.k (.str [99,97,110,39,116,32,99,114,101,97,116,101,32,105,110,115,116,97,110,99,101,32,111,102,32,115,105,110,103,108,101,116,111,110,32,99,108,97,115,115])) .nil)))) .nil) .nil) (.cons (.unp [2,3] (.tup (.cons (.umeth 58 (.var 0) (.cons (.var 1) .nil)) (.cons (.umeth 0 (.var 0) .nil) .nil)))) (.cons (.ite (.cmp .In (.var 2) (.k (.tup [(.str [78,105,108,67,108,97,115,115]),(.str [84,114,117,101,67,108,97,115,115]),(.str [70,97,108,115,101,67,108,97,115,115]),(.str [73,110,116,101,103,101,114]),(.str [78,117,109,101,114,105,99]),(.str [83,121,109,98,111,108])]))) (.cons (.ev (.umeth 67 (.var 0) (.cons (.k (.str [78,111,77,101,116,104,111,100,69,114,114,111,114])) (.cons (.bin .Add (.k (.str [117,110,100,101,102,105,110,101,100,32,109,101,116,104,111,100,32,39,110,101,119,39,32,102,111,114,32,99,108,97,115,115,32])) (.call (.u 278) (.cons (.var 1) .nil))) .nil)))) .nil) .nil) (.cons (.ite (.cmp .Eq (.var 2) (.k (.str [83,116,114,105,110,103]))) (.cons (.ret (.call (.u 62) (.cons (.var 3) (.cons (.var 1) (.cons (.k (.str [])) .nil))))) .nil) .nil) (.cons (.ite (.cmp .Eq (.var 2) (.k (.str [65,114,114,97,121]))) (.cons (.ret (.call (.u 82) (.cons (.var 3) (.cons (.var 1) (.cons (.lst .nil) .nil))))) .nil) .nil) (.cons (.ite (.cmp .Eq (.var 2) (.k (.str [72,97,115,104]))) (.cons (.ret (.call (.u 120) (.cons (.var 3) (.cons (.var 1) .nil)))) .nil) .nil) (.cons (.ite (.cmp .Eq (.var 2) (.k (.str [82,97,110,103,101]))) (.cons (.ret (.call (.u 140) (.cons (.var 3) (.cons (.var 1) .nil)))) .nil) .nil) (.cons (.ite (.cmp .Eq (.var 2) (.k (.str [70,105,98,101,114]))) (.cons (.ret (.call (.u 201) (.cons (.var 3) (.cons (.var 1) .nil)))) .nil) .nil) (.cons (.ite (.cmp .Eq (.var 2) (.k (.str [80,114,111,99]))) (.cons (.ret (.call (.u 161) (.cons (.var 3) (.cons (.var 1) .nil)))) .nil) .nil) (.cons (.ite (.cmp .Eq (.var 2) (.k (.str [67,108,97,115,115]))) (.cons (.ret (.call (.u 228) (.cons (.var 3) (.cons (.var 1) (.cons (.k .none) (.cons (.k (.bool true)) (.cons (.umeth 54 (.var 0) (.cons (.k (.str [79,98,106,101,99,116])) .nil)) .nil))))))) .nil) .nil) (.cons (.ite (.cmp .Eq (.var 2) (.k (.str [77,111,100,117,108,101]))) (.cons (.ret (.call (.u 228) (.cons (.var 3) (.cons (.var 1) (.cons (.k .none) (.cons (.k (.bool false)) .nil)))))) .nil) .nil) (.cons (.ite (.umeth 65 (.var 0) (.cons (.var 1) .nil)) (.cons (.ret (.call (.u 181) (.cons (.var 3) (.cons (.var 1) .nil)))) .nil) .nil) (.cons (.ret (.call (.u 40) (.cons (.var 3) (.cons (.var 1) .nil)))) .nil)))))))))))))⟩
noncomputable def ir_is_error_class : FnD:=⟨[(Str.ofString "self",false),(Str.ofString "module",false)],2,[],(.cons (.whl (.cmp .IsNot (.var 1) (.k .none)) (.cons (.ite (.cmp .Eq (.attr (.var 1) 33) (.k (.str [69,120,99,101,112,116,105,111,110]))) (.cons (.ret (.k (.bool true))) .nil) .nil) (.cons (.set 1 (.attr (.var 1) 26)) .nil))) (.cons (.ret (.k (.bool false))) .nil))⟩
noncomputable def ir_error : FnD:=⟨[(Str.ofString "self",false),(Str.ofString "name",false),(Str.ofString "message",false)],3,[],(.cons (.ret (.call (.u 181) (.cons (.umeth 0 (.var 0) .nil) (.cons (.umeth 54 (.var 0) (.cons (.var 1) .nil)) (.cons (.umeth 6 (.var 0) (.cons (.var 2) .nil)) .nil))))) .nil)⟩
noncomputable def ir_law_take : FnD:=⟨[(Str.ofString "box",false),(Str.ofString "many",false)],2,[],(.cons (.setIt (.var 0) (.k (.int 1)) (.bin .Add (.idx (.var 0) (.k (.int 1))) (.k (.int 1)))) (.cons (.ite (.cmp .LtE (.idx (.var 0) (.k (.int 1))) (.call .len (.cons (.idx (.var 0) (.k (.int 0))) .nil))) (.cons (.ret (.bin .Mod (.idx (.idx (.var 0) (.k (.int 0))) (.bin .Sub (.idx (.var 0) (.k (.int 1))) (.k (.int 1)))) (.var 1))) .nil) .nil) (.cons (.setIt (.var 0) (.k (.int 2)) (.bin .Add (.idx (.var 0) (.k (.int 2))) (.k (.int 1)))) (.cons (.ret (.bin .Mod (.bin .Mod (.idx (.var 0) (.k (.int 2))) (.k (.int 3))) (.var 1))) .nil))))⟩
noncomputable def ir_law_letters : FnD:=⟨[(Str.ofString "box",true),(Str.ofString "signs",true)],1,[],(.cons (.set 1 (.lst (.cons (.k (.str [97])) (.cons (.k (.str [34])) (.cons (.k (.str [35])) (.cons (.k (.str [98])) (.cons (.k (.str [92])) (.cons (.k (.str [123])) (.cons (.k (.str [10])) (.cons (.k (.str [36])) (.cons (.k (.str [64])) (.cons (.k (.str [27])) (.cons (.k (.str [7])) (.cons (.k (.str [1])) (.cons (.k (.str [127])) (.cons (.k (.str [133])) (.cons (.k (.str [233])) (.cons (.k (.str [9])) (.cons (.k (.str [32])) (.cons (.k (.str [39])) .nil)))))))))))))))))))) (.cons (.set 1 (.bin .Add (.var 1) (.lst (.cons (.k (.str [31])) (.cons (.k (.str [126])) (.cons (.k (.str [128])) (.cons (.k (.str [159])) (.cons (.k (.str [160])) (.cons (.k (.str [11])) .nil))))))))) (.cons (.ret (.meth .join (.k (.str [])) (.cons (.comp (.idx (.var 2) (.call (.u 664) (.cons (.var 1) (.cons (.k (.int 24)) .nil)))) 1 [0,1] (.call .range (.cons (.idx (.lst (.cons (.k (.int 2)) (.cons (.k (.int 3)) (.cons (.k (.int 1)) (.cons (.k (.int 0)) (.cons (.k (.int 5)) .nil)))))) (.call (.u 664) (.cons (.var 0) (.cons (.k (.int 5)) .nil)))) .nil))) .nil))) .nil)))⟩
noncomputable def ir_law_symbol : FnD:=⟨[(Str.ofString "box",false),(Str.ofString "rows",false)],1,[],(.cons (.set 1 (.lst (.cons (.k (.str [97])) (.cons (.k (.str [98,49])) (.cons (.k (.str [110,111,63])) (.cons (.k (.str [91,93])) (.cons (.k (.str [117,112,33])) (.cons (.k (.str [97,32,98])) (.cons (.k (.str [43])) (.cons (.k (.str [91,93,61])) (.cons (.k (.str [120,61])) (.cons (.k (.str [64,102])) (.cons (.k (.str [36,103])) (.cons (.k (.str [97,61])) (.cons (.k (.str [60,61,62])) (.cons (.k (.str [49,97])) (.cons (.k (.str [])) (.cons (.k (.str [85,112])) (.cons (.k (.str [33])) (.cons (.k (.str [61,61])) (.cons (.k (.str [45,64])) (.cons (.k (.str [97,34,98])) .nil)))))))))))))))))))))) (.cons (.set 1 (.bin .Add (.var 1) (.lst (.cons (.k (.str [42])) (.cons (.k (.str [47])) (.cons (.k (.str [37])) (.cons (.k (.str [42,42])) (.cons (.k (.str [33,61])) (.cons (.k (.str [60])) (.cons (.k (.str [62])) (.cons (.k (.str [60,61])) (.cons (.k (.str [62,61])) (.cons (.k (.str [61,61,61])) (.cons (.k (.str [60,60])) (.cons (.k (.str [62,62])) (.cons (.k (.str [126])) (.cons (.k (.str [43,64])) (.cons (.k (.str [38])) (.cons (.k (.str [124])) (.cons (.k (.str [94])) (.cons (.k (.str [61,126])) (.cons (.k (.str [33,126])) .nil)))))))))))))))))))))) (.cons (.set 1 (.bin .Add (.var 1) (.lst (.cons (.k (.str [45])) (.cons (.k (.str [64,64,99])) (.cons (.k (.str [97,63,98])) (.cons (.k (.str [64])) (.cons (.k (.str [61])) (.cons (.k (.str [95,120])) (.cons (.k (.str [97,61,61])) .nil)))))))))) (.cons (.ret (.idx (.var 1) (.call (.u 664) (.cons (.var 0) (.cons (.k (.int 46)) .nil))))) .nil))))⟩
noncomputable def ir_law_plain : FnD:=⟨[(Str.ofString "box",true),(Str.ofString "deep",true),(Str.ofString "way",false),(Str.ofString "edges",false),(Str.ofString "k",false),(Str.ofString "pairs",false),(Str.ofString "head",false)],2,[],(.cons (.set 2 (.ite (.cmp .Gt (.var 1) (.k (.int 0))) (.idx (.lst (.cons (.k (.int 0)) (.cons (.k (.int 1)) (.cons (.k (.int 5)) (.cons (.k (.int 3)) (.cons (.k (.int 4)) (.cons (.k (.int 2)) (.cons (.k (.int 6)) (.cons (.k (.int 7)) .nil))))))))) (.call (.u 664) (.cons (.var 0) (.cons (.k (.int 8)) .nil)))) (.call (.u 664) (.cons (.var 0) (.cons (.k (.int 5)) .nil))))) (.cons (.ite (.cmp .Eq (.var 2) (.k (.int 0))) (.cons (.ret (.tup (.cons (.k (.str [105,110,116])) (.cons (.idx (.lst (.cons (.k (.int 7)) (.cons (.k (.int (-3))) (.cons (.k (.int 0)) (.cons (.bin .Pow (.k (.int 10)) (.k (.int 12))) .nil))))) (.call (.u 664) (.cons (.var 0) (.cons (.k (.int 4)) .nil)))) .nil)))) .nil) .nil) (.cons (.ite (.cmp .Eq (.var 2) (.k (.int 1))) (.cons (.ret (.tup (.cons (.k (.str [116,101,120,116])) (.cons (.call (.u 669) (.cons (.var 0) .nil)) .nil)))) .nil) .nil) (.cons (.ite (.cmp .Eq (.var 2) (.k (.int 2))) (.cons (.ret (.tup (.cons (.k (.str [115,121,109])) (.cons (.call (.u 676) (.cons (.var 0) .nil)) .nil)))) .nil) .nil) (.cons (.ite (.cmp .Eq (.var 2) (.k (.int 3))) (.cons (.ret (.tup (.cons (.k (.str [119,111,114,100])) (.cons (.idx (.lst (.cons (.k (.str [110,105,108])) (.cons (.k (.str [116,114,117,101])) (.cons (.k (.str [102,97,108,115,101])) .nil)))) (.call (.u 664) (.cons (.var 0) (.cons (.k (.int 3)) .nil)))) .nil)))) .nil) .nil) (.cons (.ite (.cmp .Eq (.var 2) (.k (.int 4))) (.cons (.set 3 (.lst (.cons (.tup (.cons (.k (.str [105,110,116])) (.cons (.call (.u 664) (.cons (.var 0) (.cons (.k (.int 9)) .nil))) .nil))) (.cons (.tup (.cons (.k (.str [105,110,116])) (.cons (.call (.u 664) (.cons (.var 0) (.cons (.k (.int 9)) .nil))) .nil))) .nil)))) (.cons (.ite (.cmp .Eq (.call (.u 664) (.cons (.var 0) (.cons (.k (.int 3)) .nil))) (.k (.int 0))) (.cons (.setIt (.var 3) (.call (.u 664) (.cons (.var 0) (.cons (.k (.int 2)) .nil))) (.tup (.cons (.k (.str [119,111,114,100])) (.cons (.k (.str [110,105,108])) .nil)))) .nil) (.cons (.ite (.cmp .Eq (.call (.u 664) (.cons (.var 0) (.cons (.k (.int 3)) .nil))) (.k (.int 0))) (.cons (.set 3 (.lst (.cons (.tup (.cons (.k (.str [116,101,120,116])) (.cons (.call (.u 669) (.cons (.var 0) .nil)) .nil))) (.cons (.tup (.cons (.k (.str [116,101,120,116])) (.cons (.call (.u 669) (.cons (.var 0) .nil)) .nil))) .nil)))) .nil) .nil) .nil)) (.cons (.ret (.tup (.cons (.k (.str [114,97,110,103,101])) (.cons (.bin .Add (.var 3) (.lst (.cons (.cmp .Eq (.call (.u 664) (.cons (.var 0) (.cons (.k (.int 2)) .nil))) (.k (.int 1))) .nil))) .nil)))) .nil))) .nil) (.cons (.ite (.cmp .Lt (.var 2) (.k (.int 7))) (.cons (.ret (.tup (.cons (.k (.str [108,105,115,116])) (.cons (.comp (.call (.u 681) (.cons (.var 1) (.cons (.bin .Sub (.var 2) (.k (.int 1))) .nil))) 1 [0,1] (.call .range (.cons (.idx (.lst (.cons (.k (.int 2)) (.cons (.k (.int 1)) (.cons (.k (.int 0)) (.cons (.k (.int 3)) .nil))))) (.call (.u 664) (.cons (.var 0) (.cons (.k (.int 4)) .nil)))) .nil))) .nil)))) .nil) .nil) (.cons (.set 5 (.lst .nil)) (.cons (.for [4] (.call .range (.cons (.idx (.lst (.cons (.k (.int 1)) (.cons (.k (.int 2)) (.cons (.k (.int 0)) (.cons (.k (.int 3)) .nil))))) (.call (.u 664) (.cons (.var 0) (.cons (.k (.int 4)) .nil)))) .nil)) (.cons (.set 6 (.call (.u 681) (.cons (.var 0) (.cons (.idx (.lst (.cons (.k (.int 0)) (.cons (.k (.int 0)) (.cons (.k (.int 1)) .nil)))) (.call (.u 664) (.cons (.var 0) (.cons (.k (.int 3)) .nil)))) .nil)))) (.cons (.ite (.and (.cons (.cmp .NotIn (.var 6) (.comp (.idx (.var 0) (.k (.int 0))) 1 [] (.var 5))) (.cons (.cmp .NotEq (.idx (.var 6) (.k (.int 0))) (.k (.str [116,97,98,108,101]))) .nil))) (.cons (.ev (.meth .append (.var 5) (.cons (.tup (.cons (.var 6) (.cons (.call (.u 681) (.cons (.var 0) (.cons (.bin .Sub (.var 1) (.k (.int 1))) .nil))) .nil))) .nil))) .nil) .nil) .nil))) (.cons (.ret (.tup (.cons (.k (.str [116,97,98,108,101])) (.cons (.var 5) .nil)))) .nil))))))))))⟩
noncomputable def ir_law_thing : FnD:=⟨[(Str.ofString "world",true),(Str.ofString "plain",false),(Str.ofString "kind",false),(Str.ofString "held",false)],2,[],(.cons (.unp [2,3] (.var 1)) (.cons (.ite (.cmp .Eq (.var 2) (.k (.str [119,111,114,100]))) (.cons (.ret (.idx (.dct [[110,105,108],[116,114,117,101],[102,97,108,115,101]] (.cons (.k .none) (.cons (.k (.bool true)) (.cons (.k (.bool false)) .nil)))) (.var 3))) .nil) .nil) (.cons (.ite (.cmp .Eq (.var 2) (.k (.str [116,101,120,116]))) (.cons (.ret (.umeth 6 (.var 0) (.cons (.var 3) .nil))) .nil) .nil) (.cons (.ite (.cmp .Eq (.var 2) (.k (.str [108,105,115,116]))) (.cons (.ret (.umeth 59 (.var 0) (.cons (.comp (.call (.u 686) (.cons (.var 1) (.cons (.var 0) .nil))) 1 [0] (.var 3)) .nil))) .nil) .nil) (.cons (.ite (.cmp .Eq (.var 2) (.k (.str [116,97,98,108,101]))) (.cons (.ret (.umeth 60 (.var 0) (.cons (.comp (.tup (.cons (.call (.u 686) (.cons (.var 1) (.cons (.idx (.var 0) (.k (.int 0))) .nil))) (.cons (.call (.u 686) (.cons (.var 1) (.cons (.idx (.var 0) (.k (.int 1))) .nil))) .nil))) 1 [0] (.var 3)) .nil))) .nil) .nil) (.cons (.ite (.cmp .Eq (.var 2) (.k (.str [114,97,110,103,101]))) (.cons (.ret (.umeth 62 (.var 0) (.cons (.call (.u 686) (.cons (.var 0) (.cons (.idx (.var 3) (.k (.int 0))) .nil))) (.cons (.call (.u 686) (.cons (.var 0) (.cons (.idx (.var 3) (.k (.int 1))) .nil))) (.cons (.idx (.var 3) (.k (.int 2))) .nil))))) .nil) .nil) (.cons (.ret (.var 3)) .nil)))))))⟩
noncomputable def ir_law_at : FnD:=⟨[(Str.ofString "state",false),(Str.ofString "sign",false)],2,[],(.cons (.ite (.cmp .Eq (.slice (.idx (.var 0) (.k (.int 0))) (.idx (.var 0) (.k (.int 1))) (.bin .Add (.idx (.var 0) (.k (.int 1))) (.call .len (.cons (.var 1) .nil)))) (.var 1)) (.cons (.setIt (.var 0) (.k (.int 1)) (.bin .Add (.idx (.var 0) (.k (.int 1))) (.call .len (.cons (.var 1) .nil)))) (.cons (.ret (.k (.bool true))) .nil)) .nil) (.cons (.ret (.k (.bool false))) .nil))⟩
noncomputable def ir_law_quoted : FnD:=⟨[(Str.ofString "state",false),(Str.ofString "singles",false),(Str.ofString "found",false),(Str.ofString "letter",false),(Str.ofString "many",true),(Str.ofString "hexes",true)],1,[],(.cons (.set 1 (.dct [[110],[116],[114],[101],[97],[98],[118],[102]] (.cons (.k (.str [10])) (.cons (.k (.str [9])) (.cons (.k (.str [13])) (.cons (.k (.str [27])) (.cons (.k (.str [7])) (.cons (.k (.str [8])) (.cons (.k (.str [11])) (.cons (.k (.str [12])) .nil)))))))))) (.cons (.set 2 (.k (.str []))) (.cons (.whl (.not (.call (.u 693) (.cons (.var 0) (.cons (.k (.str [34])) .nil)))) (.cons (.ite (.cmp .GtE (.idx (.var 0) (.k (.int 1))) (.call .len (.cons (.idx (.var 0) (.k (.int 0))) .nil))) (.cons (.ret (.bin .Add (.var 2) (.k (.str [63])))) .nil) .nil) (.cons (.ite (.call (.u 693) (.cons (.var 0) (.cons (.k (.str [92])) .nil))) (.cons (.set 3 (.idx (.idx (.var 0) (.k (.int 0))) (.idx (.var 0) (.k (.int 1))))) (.cons (.setIt (.var 0) (.k (.int 1)) (.bin .Add (.idx (.var 0) (.k (.int 1))) (.k (.int 1)))) (.cons (.set 4 (.meth .get (.dct [[117],[120]] (.cons (.k (.int 4)) (.cons (.k (.int 2)) .nil))) (.cons (.var 3) (.cons (.k (.int 0)) .nil)))) (.cons (.set 5 (.slice (.idx (.var 0) (.k (.int 0))) (.idx (.var 0) (.k (.int 1))) (.bin .Add (.idx (.var 0) (.k (.int 1))) (.var 4)))) (.cons (.setIt (.var 0) (.k (.int 1)) (.bin .Add (.idx (.var 0) (.k (.int 1))) (.var 4))) (.cons (.ite (.cmp .Gt (.var 4) (.k (.int 0))) (.cons (.set 2 (.bin .Add (.var 2) (.call .chr (.cons (.call .sum (.cons (.comp (.bin .Mult (.meth .index (.k (.str [48,49,50,51,52,53,54,55,56,57,65,66,67,68,69,70])) (.cons (.idx (.var 1) (.var 0)) .nil)) (.bin .Pow (.k (.int 16)) (.bin .Sub (.bin .Sub (.var 2) (.k (.int 1))) (.var 0)))) 1 [5,4] (.call .range (.cons (.var 4) .nil))) .nil)) .nil)))) .nil) (.cons (.set 2 (.bin .Add (.var 2) (.meth .get (.var 1) (.cons (.var 3) (.cons (.var 3) .nil))))) .nil)) .nil)))))) (.cons (.ite (.and (.cons (.cmp .Eq (.idx (.idx (.var 0) (.k (.int 0))) (.idx (.var 0) (.k (.int 1)))) (.k (.str [35]))) (.cons (.cmp .In (.idx (.idx (.var 0) (.k (.int 0))) (.bin .Add (.idx (.var 0) (.k (.int 1))) (.k (.int 1)))) (.k (.str [123,36,64]))) .nil))) (.cons (.ret (.bin .Add (.var 2) (.k (.str [63])))) .nil) .nil) (.cons (.set 2 (.bin .Add (.var 2) (.idx (.idx (.var 0) (.k (.int 0))) (.idx (.var 0) (.k (.int 1)))))) (.cons (.setIt (.var 0) (.k (.int 1)) (.bin .Add (.idx (.var 0) (.k (.int 1))) (.k (.int 1)))) .nil)))) .nil))) (.cons (.ret (.var 2)) .nil))))⟩
noncomputable def ir_law_run : FnD:=⟨[(Str.ofString "state",false),(Str.ofString "signs",false),(Str.ofString "origin",false)],2,[],(.cons (.set 2 (.idx (.var 0) (.k (.int 1)))) (.cons (.whl (.and (.cons (.cmp .Lt (.idx (.var 0) (.k (.int 1))) (.call .len (.cons (.idx (.var 0) (.k (.int 0))) .nil))) (.cons (.or (.cons (.meth .isalnum (.idx (.idx (.var 0) (.k (.int 0))) (.idx (.var 0) (.k (.int 1)))) .nil) (.cons (.cmp .In (.idx (.idx (.var 0) (.k (.int 0))) (.idx (.var 0) (.k (.int 1)))) (.var 1)) .nil))) .nil))) (.cons (.setIt (.var 0) (.k (.int 1)) (.bin .Add (.idx (.var 0) (.k (.int 1))) (.k (.int 1)))) .nil)) (.cons (.ret (.slice (.idx (.var 0) (.k (.int 0))) (.var 2) (.idx (.var 0) (.k (.int 1))))) .nil)))⟩
noncomputable def ir_law_name : FnD:=⟨[(Str.ofString "state",false),(Str.ofString "signs",false),(Str.ofString "sign",false)],1,[],(.cons (.ite (.call (.u 693) (.cons (.var 0) (.cons (.k (.str [34])) .nil))) (.cons (.ret (.call (.u 698) (.cons (.var 0) .nil))) .nil) .nil) (.cons (.set 1 (.lst (.cons (.k (.str [91,93,61])) (.cons (.k (.str [91,93])) (.cons (.k (.str [60,61,62])) (.cons (.k (.str [61,61,61])) (.cons (.k (.str [61,61])) (.cons (.k (.str [61,126])) (.cons (.k (.str [33,61])) (.cons (.k (.str [33,126])) (.cons (.k (.str [33])) (.cons (.k (.str [42,42])) (.cons (.k (.str [42])) (.cons (.k (.str [47])) (.cons (.k (.str [37])) (.cons (.k (.str [43,64])) (.cons (.k (.str [45,64])) (.cons (.k (.str [43])) (.cons (.k (.str [45])) (.cons (.k (.str [60,60])) (.cons (.k (.str [60,61])) .nil))))))))))))))))))))) (.cons (.for [2] (.bin .Add (.var 1) (.lst (.cons (.k (.str [60])) (.cons (.k (.str [62,62])) (.cons (.k (.str [62,61])) (.cons (.k (.str [62])) (.cons (.k (.str [126])) (.cons (.k (.str [38])) (.cons (.k (.str [124])) (.cons (.k (.str [94])) .nil)))))))))) (.cons (.ite (.call (.u 693) (.cons (.var 0) (.cons (.var 2) .nil))) (.cons (.ret (.var 2)) .nil) .nil) .nil)) (.cons (.ret (.bin .Add (.call (.u 705) (.cons (.var 0) (.cons (.k (.str [95,64,36])) .nil))) (.call (.u 705) (.cons (.var 0) (.cons (.k (.str [63,33,61])) .nil))))) .nil))))⟩
noncomputable def ir_law_read : FnD:=⟨[(Str.ofString "state",false),(Str.ofString "first",false),(Str.ofString "is_open",false),(Str.ofString "behind",false),(Str.ofString "last",false)],1,[],(.cons (.ite (.cmp .Eq (.slice (.idx (.var 0) (.k (.int 0))) (.idx (.var 0) (.k (.int 1))) (.bin .Add (.idx (.var 0) (.k (.int 1))) (.k (.int 2)))) (.k (.str [46,46]))) (.cons (.set 1 (.tup (.cons (.k (.str [119,111,114,100])) (.cons (.k (.str [110,105,108])) .nil)))) .nil) (.cons (.set 1 (.call (.u 726) (.cons (.var 0) .nil))) .nil)) (.cons (.ite (.not (.call (.u 693) (.cons (.var 0) (.cons (.k (.str [46,46])) .nil)))) (.cons (.ret (.var 1)) .nil) .nil) (.cons (.set 2 (.call (.u 693) (.cons (.var 0) (.cons (.k (.str [46])) .nil)))) (.cons (.set 3 (.slice (.idx (.var 0) (.k (.int 0))) (.idx (.var 0) (.k (.int 1))) (.bin .Add (.idx (.var 0) (.k (.int 1))) (.k (.int 1))))) (.cons (.set 4 (.ite (.cmp .In (.var 3) (.lst (.cons (.k (.str [])) (.cons (.k (.str [44])) (.cons (.k (.str [93])) (.cons (.k (.str [125])) (.cons (.k (.str [32])) .nil))))))) (.tup (.cons (.k (.str [119,111,114,100])) (.cons (.k (.str [110,105,108])) .nil))) (.call (.u 726) (.cons (.var 0) .nil)))) (.cons (.ret (.tup (.cons (.k (.str [114,97,110,103,101])) (.cons (.lst (.cons (.var 1) (.cons (.var 4) (.cons (.var 2) .nil)))) .nil)))) .nil))))))⟩
noncomputable def ir_law_one : FnD:=⟨[(Str.ofString "state",false),(Str.ofString "found",false),(Str.ofString "said",false)],1,[],(.cons (.ite (.call (.u 693) (.cons (.var 0) (.cons (.k (.str [91])) .nil))) (.cons (.set 1 (.lst .nil)) (.cons (.whl (.not (.call (.u 693) (.cons (.var 0) (.cons (.k (.str [93])) .nil)))) (.cons (.ev (.meth .append (.var 1) (.cons (.call (.u 719) (.cons (.var 0) .nil)) .nil))) (.cons (.ite (.and (.cons (.not (.call (.u 693) (.cons (.var 0) (.cons (.k (.str [44,32])) .nil)))) (.cons (.cmp .NotEq (.slice (.idx (.var 0) (.k (.int 0))) (.idx (.var 0) (.k (.int 1))) (.bin .Add (.idx (.var 0) (.k (.int 1))) (.k (.int 1)))) (.k (.str [93]))) .nil))) (.cons (.ret (.tup (.cons (.k (.str [111,100,100])) (.cons (.var 1) .nil)))) .nil) .nil) .nil))) (.cons (.ret (.tup (.cons (.k (.str [108,105,115,116])) (.cons (.var 1) .nil)))) .nil))) .nil) (.cons (.ite (.call (.u 693) (.cons (.var 0) (.cons (.k (.str [123])) .nil))) (.cons (.ret (.call (.u 733) (.cons (.var 0) .nil))) .nil) .nil) (.cons (.ite (.call (.u 693) (.cons (.var 0) (.cons (.k (.str [34])) .nil))) (.cons (.ret (.tup (.cons (.k (.str [116,101,120,116])) (.cons (.call (.u 698) (.cons (.var 0) .nil)) .nil)))) .nil) .nil) (.cons (.ite (.call (.u 693) (.cons (.var 0) (.cons (.k (.str [58])) .nil))) (.cons (.ret (.tup (.cons (.k (.str [115,121,109])) (.cons (.call (.u 712) (.cons (.var 0) .nil)) .nil)))) .nil) .nil) (.cons (.set 2 (.call (.u 705) (.cons (.var 0) (.cons (.k (.str [45])) .nil)))) (.cons (.ret (.ite (.cmp .In (.var 2) (.lst (.cons (.k (.str [110,105,108])) (.cons (.k (.str [116,114,117,101])) (.cons (.k (.str [102,97,108,115,101])) .nil))))) (.tup (.cons (.k (.str [119,111,114,100])) (.cons (.var 2) .nil))) (.tup (.cons (.k (.str [105,110,116])) (.cons (.ite (.meth .isdigit (.meth .lstrip (.var 2) (.cons (.k (.str [45])) .nil)) .nil) (.call .int (.cons (.var 2) .nil)) (.var 2)) .nil))))) .nil))))))⟩
noncomputable def ir_law_pairs : FnD:=⟨[(Str.ofString "state",false),(Str.ofString "found",false),(Str.ofString "origin",false),(Str.ofString "said",false),(Str.ofString "head",false)],1,[],(.cons (.set 1 (.lst .nil)) (.cons (.whl (.not (.call (.u 693) (.cons (.var 0) (.cons (.k (.str [125])) .nil)))) (.cons (.set 2 (.idx (.var 0) (.k (.int 1)))) (.cons (.set 3 (.bin .Add (.call (.u 705) (.cons (.var 0) (.cons (.k (.str [95])) .nil))) (.call (.u 705) (.cons (.var 0) (.cons (.k (.str [63,33])) .nil))))) (.cons (.ite (.and (.cons (.cmp .NotEq (.var 3) (.k (.str []))) (.cons (.call (.u 693) (.cons (.var 0) (.cons (.k (.str [58,32])) .nil))) .nil))) (.cons (.set 4 (.tup (.cons (.k (.str [115,121,109])) (.cons (.var 3) .nil)))) .nil) (.cons (.setIt (.var 0) (.k (.int 1)) (.var 2)) (.cons (.set 4 (.call (.u 719) (.cons (.var 0) .nil))) (.cons (.ite (.and (.cons (.cmp .Eq (.idx (.var 4) (.k (.int 0))) (.k (.str [116,101,120,116]))) (.cons (.call (.u 693) (.cons (.var 0) (.cons (.k (.str [58,32])) .nil))) .nil))) (.cons (.set 4 (.tup (.cons (.k (.str [115,121,109])) (.cons (.idx (.var 4) (.k (.int 1))) .nil)))) .nil) (.cons (.ite (.not (.call (.u 693) (.cons (.var 0) (.cons (.k (.str [32,61,62,32])) .nil)))) (.cons (.ret (.tup (.cons (.k (.str [111,100,100])) (.cons (.var 1) .nil)))) .nil) .nil) .nil)) .nil)))) (.cons (.ev (.meth .append (.var 1) (.cons (.tup (.cons (.var 4) (.cons (.call (.u 719) (.cons (.var 0) .nil)) .nil))) .nil))) (.cons (.ite (.and (.cons (.not (.call (.u 693) (.cons (.var 0) (.cons (.k (.str [44,32])) .nil)))) (.cons (.cmp .NotEq (.slice (.idx (.var 0) (.k (.int 0))) (.idx (.var 0) (.k (.int 1))) (.bin .Add (.idx (.var 0) (.k (.int 1))) (.k (.int 1)))) (.k (.str [125]))) .nil))) (.cons (.ret (.tup (.cons (.k (.str [111,100,100])) (.cons (.var 1) .nil)))) .nil) .nil) .nil)))))) (.cons (.ret (.tup (.cons (.k (.str [116,97,98,108,101])) (.cons (.var 1) .nil)))) .nil)))⟩
noncomputable def ir_law_levels_right : FnD:=⟨[(Str.ofString "world",false),(Str.ofString "box",false),(Str.ofString "rows",false),(Str.ofString "due",false),(Str.ofString "inner",false),(Str.ofString "levels",false),(Str.ofString "most",false),(Str.ofString "outer",false),(Str.ofString "k",false)],2,[],(.cons (.unp [2,3] (.tup (.cons (.idx (.lst (.cons (.k (.str [91,93])) (.cons (.k (.str [91,49,93])) (.cons (.k (.str [123,125])) (.cons (.k (.str [123,97,58,32,49,125])) .nil))))) (.call (.u 664) (.cons (.var 1) (.cons (.k (.int 4)) .nil)))) (.cons (.k (.str [])) .nil)))) (.cons (.set 4 (.idx (.dct [[91,93],[91,49,93],[123,125],[123,97,58,32,49,125]] (.cons (.umeth 59 (.var 0) (.cons (.lst .nil) .nil)) (.cons (.umeth 59 (.var 0) (.cons (.lst (.cons (.k (.int 1)) .nil)) .nil)) (.cons (.umeth 60 (.var 0) (.cons (.lst .nil) .nil)) (.cons (.umeth 60 (.var 0) (.cons (.lst (.cons (.tup (.cons (.k (.str [97])) (.cons (.k (.int 1)) .nil))) .nil)) .nil)) .nil))))) (.var 2))) (.cons (.unp [5,6] (.tup (.cons (.bin .Add (.k (.int 1)) (.call (.u 664) (.cons (.var 1) (.cons (.k (.int 4)) .nil)))) (.cons (.call (.u 664) (.cons (.var 1) (.cons (.k (.int 5)) .nil))) .nil)))) (.cons (.set 3 (.ite (.or (.cons (.cmp .Eq (.call .len (.cons (.var 2) .nil)) (.k (.int 2))) (.cons (.cmp .Lt (.var 5) (.var 6)) .nil))) (.var 2) (.idx (.dct [[91,49,93],[123,97,58,32,49,125]] (.cons (.k (.str [91,46,46,46,93])) (.cons (.k (.str [123,46,46,46,125])) .nil))) (.var 2)))) (.cons (.set 7 (.var 4)) (.cons (.for [8] (.call .range (.cons (.var 5) .nil)) (.cons (.set 7 (.umeth 59 (.var 0) (.cons (.lst (.cons (.var 7) .nil)) .nil))) (.cons (.set 3 (.bin .Add (.bin .Add (.k (.str [91])) (.var 3)) (.k (.str [93])))) .nil))) (.cons (.ite (.cmp .Lt (.var 6) (.var 5)) (.cons (.set 3 (.bin .Add (.bin .Add (.bin .Mult (.k (.str [91])) (.var 6)) (.k (.str [91,46,46,46,93]))) (.bin .Mult (.k (.str [93])) (.var 6)))) .nil) .nil) (.cons (.ret (.cmp .Eq (.call (.u 331) (.cons (.var 7) (.cons (.var 6) .nil))) (.var 3))) .nil))))))))⟩
noncomputable def ir_law_named_right : FnD:=⟨[(Str.ofString "world",false),(Str.ofString "one",false),(Str.ofString "second",false),(Str.ofString "bare",false),(Str.ofString "spoken",false),(Str.ofString "block",false),(Str.ofString "due",false)],1,[],(.cons (.unp [1,2] (.tup (.cons (.umeth 66 (.var 0) (.cons (.k (.str [75,101,121,69,114,114,111,114])) (.cons (.k (.str [109,10,34,113])) .nil))) (.cons (.umeth 66 (.var 0) (.cons (.k (.str [84,121,112,101,69,114,114,111,114])) (.cons (.k (.str [])) .nil))) .nil)))) (.cons (.set 3 (.umeth 64 (.var 0) (.cons (.umeth 54 (.var 0) (.cons (.k (.str [73,110,100,101,120,69,114,114,111,114])) .nil)) .nil))) (.cons (.set 4 (.lst (.cons (.call (.u 331) (.cons (.var 1) .nil)) (.cons (.call (.u 331) (.cons (.var 2) .nil)) (.cons (.call (.u 331) (.cons (.var 3) .nil)) (.cons (.call (.u 331) (.cons (.umeth 54 (.var 0) (.cons (.k (.str [65,114,114,97,121])) .nil)) .nil)) (.cons (.call (.u 331) (.cons (.umeth 64 (.var 0) (.cons (.umeth 54 (.var 0) (.cons (.k (.str [79,98,106,101,99,116])) .nil)) .nil)) .nil)) .nil))))))) (.cons (.set 5 (.umeth 63 (.var 0) (.cons (.k .none) (.cons (.k .none) (.cons (.k .none) (.cons (.k .none) (.cons (.tup .nil) (.cons (.k .none) (.cons (.k .none) (.cons (.k (.bool false)) (.cons (.k .none) .nil))))))))))) (.cons (.set 4 (.bin .Add (.var 4) (.lst (.cons (.call (.u 331) (.cons (.var 5) .nil)) (.cons (.call (.u 331) (.cons (.umeth 63 (.var 0) (.cons (.k .none) (.cons (.k .none) (.cons (.k .none) (.cons (.k .none) (.cons (.tup .nil) (.cons (.k .none) (.cons (.k .none) (.cons (.k (.bool true)) (.cons (.k .none) .nil)))))))))) .nil)) .nil))))) (.cons (.set 6 (.lst (.cons (.k (.str [35,60,75,101,121,69,114,114,111,114,58,32,109,10,34,113,62])) (.cons (.k (.str [84,121,112,101,69,114,114,111,114])) (.cons (.k (.str [35,60,73,110,100,101,120,69,114,114,111,114,58,32,73,110,100,101,120,69,114,114,111,114,62])) (.cons (.k (.str [65,114,114,97,121])) (.cons (.k (.str [35,60,79,98,106,101,99,116,62])) (.cons (.k (.str [35,60,80,114,111,99,62])) .nil)))))))) (.cons (.ret (.cmp .Eq (.var 4) (.bin .Add (.var 6) (.lst (.cons (.k (.str [35,60,80,114,111,99,32,40,108,97,109,98,100,97,41,62])) .nil))))) .nil)))))))⟩
noncomputable def ir_law_alike : FnD:=⟨[(Str.ofString "one",true),(Str.ofString "second",true)],2,[],(.cons (.ite (.or (.cons (.cmp .Eq (.idx (.var 0) (.k (.int 0))) (.k (.str [116,97,98,108,101]))) (.cons (.cmp .Eq (.idx (.var 1) (.k (.int 0))) (.k (.str [116,97,98,108,101]))) .nil))) (.cons (.ret (.k (.bool false))) .nil) .nil) (.cons (.ite (.and (.cons (.cmp .Eq (.idx (.var 0) (.k (.int 0))) (.k (.str [108,105,115,116]))) (.cons (.cmp .Eq (.idx (.var 1) (.k (.int 0))) (.k (.str [108,105,115,116]))) .nil))) (.cons (.ret (.and (.cons (.cmp .Eq (.call .len (.cons (.idx (.var 0) (.k (.int 1))) .nil)) (.call .len (.cons (.idx (.var 1) (.k (.int 1))) .nil))) (.cons (.cmp .Eq (.compIf (.var 0) 1 [0,1] (.call .range (.cons (.call .len (.cons (.idx (.var 0) (.k (.int 1))) .nil)) .nil)) (.not (.call (.u 752) (.cons (.idx (.idx (.var 1) (.k (.int 1))) (.var 0)) (.cons (.idx (.idx (.var 2) (.k (.int 1))) (.var 0)) .nil))))) (.lst .nil)) .nil)))) .nil) .nil) (.cons (.ret (.cmp .Eq (.var 0) (.var 1))) .nil)))⟩
noncomputable def ir_law : FnD:=⟨[(Str.ofString "script",false),(Str.ofString "box",false),(Str.ofString "world",false),(Str.ofString "plain",false),(Str.ofString "value",false),(Str.ofString "state",false),(Str.ofString "more",false),(Str.ofString "last",false)],1,[],(.cons (.unp [1,2] (.tup (.cons (.lst (.cons (.call .list (.cons (.slice (.var 0) (.k .none) (.k (.int 60))) .nil)) (.cons (.k (.int 0)) (.cons (.k (.int 0)) .nil)))) (.cons (.call (.u 653) (.cons (.emp false) .nil)) .nil)))) (.cons (.set 3 (.call (.u 681) (.cons (.var 1) (.cons (.idx (.lst (.cons (.k (.int 2)) (.cons (.k (.int 1)) (.cons (.k (.int 3)) .nil)))) (.call (.u 664) (.cons (.var 1) (.cons (.k (.int 3)) .nil)))) .nil)))) (.cons (.unp [4,5] (.tup (.cons (.call (.u 686) (.cons (.var 2) (.cons (.var 3) .nil))) (.cons (.lst (.cons (.call (.u 331) (.cons (.call (.u 686) (.cons (.var 2) (.cons (.var 3) .nil))) .nil)) (.cons (.k (.int 0)) .nil))) .nil)))) (.cons (.ite (.or (.cons (.cmp .NotEq (.call (.u 719) (.cons (.var 5) .nil)) (.var 3)) (.cons (.cmp .NotEq (.idx (.var 5) (.k (.int 1))) (.call .len (.cons (.idx (.var 5) (.k (.int 0))) .nil))) .nil))) (.cons (.ret (.k (.bool false))) .nil) .nil) (.cons (.set 6 (.call (.u 681) (.cons (.var 1) (.cons (.k (.int 1)) .nil)))) (.cons (.set 7 (.call (.u 686) (.cons (.var 2) (.cons (.var 6) .nil)))) (.cons (.ite (.or (.cons (.cmp .NotEq (.cmp .Eq (.call (.u 250) (.cons (.var 4) .nil)) (.call (.u 250) (.cons (.var 7) .nil))) (.call (.u 752) (.cons (.var 3) (.cons (.var 6) .nil)))) (.cons (.cmp .NotEq (.call (.u 250) (.cons (.var 4) .nil)) (.call (.u 250) (.cons (.var 4) .nil))) .nil))) (.cons (.ret (.k (.bool false))) .nil) .nil) (.cons (.ite (.or (.cons (.not (.call (.u 244) (.cons (.var 4) (.cons (.var 4) .nil)))) (.cons (.cmp .NotEq (.call (.u 244) (.cons (.var 4) (.cons (.call (.u 686) (.cons (.var 2) (.cons (.var 3) .nil))) .nil))) (.cmp .In (.idx (.var 3) (.k (.int 0))) (.lst (.cons (.k (.str [105,110,116])) (.cons (.k (.str [115,121,109])) (.cons (.k (.str [119,111,114,100])) .nil)))))) .nil))) (.cons (.ret (.k (.bool false))) .nil) .nil) (.cons (.ite (.or (.cons (.call (.u 244) (.cons (.k (.int 1)) (.cons (.k (.bool true)) .nil))) (.cons (.call (.u 244) (.cons (.k (.int 0)) (.cons (.k (.bool false)) .nil))) (.cons (.call (.u 244) (.cons (.k .none) (.cons (.k (.bool false)) .nil))) (.cons (.cmp .Eq (.call (.u 250) (.cons (.k (.int 1)) .nil)) (.call (.u 250) (.cons (.k (.bool true)) .nil))) (.cons (.cmp .Eq (.call (.u 250) (.cons (.k (.str [97])) .nil)) (.call (.u 250) (.cons (.umeth 6 (.var 2) (.cons (.k (.str [97])) .nil)) .nil))) .nil)))))) (.cons (.ret (.k (.bool false))) .nil) .nil) (.cons (.ret (.and (.cons (.call (.u 740) (.cons (.var 2) (.cons (.var 1) .nil))) (.cons (.call (.u 747) (.cons (.var 2) .nil)) .nil)))) .nil))))))))))⟩
noncomputable def irT:Nat→Option (Bool × FnD)
  | 37=>some (false,ir_Thing_init)
  | 59=>some (false,ir_Text_init)
  | 79=>some (false,ir_ListThing_init)
  | 98=>some (true,ir_TableThing_init)
  | 105=>some (false,ir_put)
  | 117=>some (false,ir_pairs)
  | 137=>some (false,ir_RangeThing_init)
  | 158=>some (false,ir_ProcThing_init)
  | 178=>some (false,ir_ErrorThing_init)
  | 218=>some (false,ir_ModuleThing_init)
  | 225=>some (false,ir_is_own)
  | 237=>some (false,ir_sort_of)
  | 244=>some (false,ir_same)
  | 250=>some (false,ir_code_of)
  | 257=>some (false,ir_is_word)
  | 264=>some (false,ir_is_label)
  | 271=>some (false,ir_is_plain_symbol)
  | 278=>some (false,ir_full_name)
  | 285=>some (false,ir_show_letter)
  | 290=>some (false,ir_show_text)
  | 297=>some (false,ir_show_symbol)
  | 304=>some (false,ir_show_pair)
  | 311=>some (false,ir_show_range)
  | 316=>some (false,ir_show_thing)
  | 323=>some (false,ir_show_error)
  | 331=>some (false,ir_show)
  | 413=>some (false,ir_World_init)
  | 434=>some (false,ir_number)
  | 455=>some (false,ir_builtin)
  | 460=>some (false,ir_make_builtin)
  | 467=>some (false,ir_give_own)
  | 482=>some (false,ir_class_of)
  | 503=>some (false,ir_root_of)
  | 517=>some (false,ir_text)
  | 524=>some (false,ir_list_of)
  | 531=>some (false,ir_table_of)
  | 538=>some (false,ir_key_of)
  | 545=>some (false,ir_range_of)
  | 552=>some (false,ir_proc)
  | 559=>some (false,ir_thing)
  | 566=>some (false,ir_is_error_class)
  | 580=>some (false,ir_error)
  | 664=>some (false,ir_law_take)
  | 669=>some (false,ir_law_letters)
  | 676=>some (false,ir_law_symbol)
  | 681=>some (false,ir_law_plain)
  | 686=>some (false,ir_law_thing)
  | 693=>some (false,ir_law_at)
  | 698=>some (false,ir_law_quoted)
  | 705=>some (false,ir_law_run)
  | 712=>some (false,ir_law_name)
  | 719=>some (false,ir_law_read)
  | 726=>some (false,ir_law_one)
  | 733=>some (false,ir_law_pairs)
  | 740=>some (false,ir_law_levels_right)
  | 747=>some (false,ir_law_named_right)
  | 752=>some (false,ir_law_alike)
  | 759=>some (false,ir_law)
  | _=>none
noncomputable def ptab:List (List Nat × Option (List Nat)):=[([66,97,115,105,99,79,98,106,101,99,116],none),([79,98,106,101,99,116],some [66,97,115,105,99,79,98,106,101,99,116]),([77,111,100,117,108,101],some [79,98,106,101,99,116]),([67,108,97,115,115],some [77,111,100,117,108,101]),([75,101,114,110,101,108],none),([67,111,109,112,97,114,97,98,108,101],none),([69,110,117,109,101,114,97,98,108,101],none),([78,105,108,67,108,97,115,115],some [79,98,106,101,99,116]),([84,114,117,101,67,108,97,115,115],some [79,98,106,101,99,116]),([70,97,108,115,101,67,108,97,115,115],some [79,98,106,101,99,116]),([78,117,109,101,114,105,99],some [79,98,106,101,99,116]),([73,110,116,101,103,101,114],some [78,117,109,101,114,105,99]),([83,116,114,105,110,103],some [79,98,106,101,99,116]),([83,121,109,98,111,108],some [79,98,106,101,99,116]),([65,114,114,97,121],some [79,98,106,101,99,116]),([72,97,115,104],some [79,98,106,101,99,116]),([82,97,110,103,101],some [79,98,106,101,99,116]),([80,114,111,99],some [79,98,106,101,99,116]),([70,105,98,101,114],some [79,98,106,101,99,116]),([69,120,99,101,112,116,105,111,110],some [79,98,106,101,99,116]),([83,99,114,105,112,116,69,114,114,111,114],some [69,120,99,101,112,116,105,111,110]),([78,111,116,73,109,112,108,101,109,101,110,116,101,100,69,114,114,111,114],some [83,99,114,105,112,116,69,114,114,111,114]),([83,121,115,116,101,109,83,116,97,99,107,69,114,114,111,114],some [69,120,99,101,112,116,105,111,110]),([83,116,97,110,100,97,114,100,69,114,114,111,114],some [69,120,99,101,112,116,105,111,110]),([65,114,103,117,109,101,110,116,69,114,114,111,114],some [83,116,97,110,100,97,114,100,69,114,114,111,114]),([85,110,99,97,117,103,104,116,84,104,114,111,119,69,114,114,111,114],some [65,114,103,117,109,101,110,116,69,114,114,111,114]),([70,105,98,101,114,69,114,114,111,114],some [83,116,97,110,100,97,114,100,69,114,114,111,114]),([73,110,100,101,120,69,114,114,111,114],some [83,116,97,110,100,97,114,100,69,114,114,111,114]),([75,101,121,69,114,114,111,114],some [73,110,100,101,120,69,114,114,111,114]),([83,116,111,112,73,116,101,114,97,116,105,111,110],some [73,110,100,101,120,69,114,114,111,114]),([76,111,99,97,108,74,117,109,112,69,114,114,111,114],some [83,116,97,110,100,97,114,100,69,114,114,111,114]),([78,97,109,101,69,114,114,111,114],some [83,116,97,110,100,97,114,100,69,114,114,111,114]),([78,111,77,101,116,104,111,100,69,114,114,111,114],some [78,97,109,101,69,114,114,111,114]),([78,111,77,97,116,99,104,105,110,103,80,97,116,116,101,114,110,69,114,114,111,114],some [83,116,97,110,100,97,114,100,69,114,114,111,114]),([78,111,77,97,116,99,104,105,110,103,80,97,116,116,101,114,110,75,101,121,69,114,114,111,114],some [78,111,77,97,116,99,104,105,110,103,80,97,116,116,101,114,110,69,114,114,111,114]),([82,97,110,103,101,69,114,114,111,114],some [83,116,97,110,100,97,114,100,69,114,114,111,114]),([82,117,110,116,105,109,101,69,114,114,111,114],some [83,116,97,110,100,97,114,100,69,114,114,111,114]),([70,114,111,122,101,110,69,114,114,111,114],some [82,117,110,116,105,109,101,69,114,114,111,114]),([84,121,112,101,69,114,114,111,114],some [83,116,97,110,100,97,114,100,69,114,114,111,114]),([90,101,114,111,68,105,118,105,115,105,111,110,69,114,114,111,114],some [83,116,97,110,100,97,114,100,69,114,114,111,114])]
noncomputable def mtab:List (List Nat × List (List Nat)):=[([79,98,106,101,99,116],[[75,101,114,110,101,108]]),([78,117,109,101,114,105,99],[[67,111,109,112,97,114,97,98,108,101]]),([83,116,114,105,110,103],[[67,111,109,112,97,114,97,98,108,101]]),([83,121,109,98,111,108],[[67,111,109,112,97,114,97,98,108,101]]),([65,114,114,97,121],[[69,110,117,109,101,114,97,98,108,101]]),([72,97,115,104],[[69,110,117,109,101,114,97,98,108,101]]),([82,97,110,103,101],[[69,110,117,109,101,114,97,98,108,101]])]
noncomputable def optV:Option (List Nat)→V
  | none=>.none
  | some s=>.str s
noncomputable def btT:List (List Nat × V):=ptab.map fun p=>(p.1,optV p.2)
noncomputable def mtT:List (List Nat × V):=mtab.map fun p=>(p.1, .tup (p.2.map .str))
noncomputable def names:List (List Nat):=ptab.map (·.1)
noncomputable def irOf (a:Nat):Option (Bool × FnD):=bif Nat.blt a 760 then irT a else none
open BinW CmpW IdxW SliceW BiW RecvW MtW AttrW SetAttrW SetItW IsinW UmW SrcW
noncomputable def escT:List (List Nat × V):=[([92], .str [92,92]),([34], .str [92,34]),([10], .str [92,110]),([9], .str [92,116]),([13], .str [92,114]),([27], .str [92,101]),([7], .str [92,97]),([8], .str [92,98]),([11], .str [92,118]),([12], .str [92,102]),([127], .str [92,120,55,70])]
structure GK (g:G):Prop where
  H : GOk g
  esc : g.base 22 = some (.sdict escT)
  bt : g.base 387 = some (.sdict btT)
  mt : g.base 390 = some (.sdict mtT)
  fn : ∀ a cd F,irOf a = some (cd,F)→FnOk g a F cd
  mkd : ∀ C i,initOf C = some i→makesIn g.K C = true∧findIn g.K (.ref C) "__init__" = some (some (.ref i))∧typeIn g.K (.ref i) = some (.type "function")
def Ex (S:List Addr) (σ σ' : Sg):Prop:=∀ a o,σ a = some o→a ∉ S→σ' a = some o
theorem Ex.refl (S:List Addr) (σ:Sg) : Ex S σ σ:=fun _ _ h _=>h
theorem Ex.trans {S:List Addr} {σ σ₁ σ₂:Sg} (x : Ex S σ σ₁) (y : Ex S σ₁ σ₂) : Ex S σ σ₂:=fun a o h n=>y a o (x a o h n) n
theorem Ex.new {S:List Addr} {σ:Sg} {r:Addr} {o:AObj} (h : σ r = none) : Ex S σ (upd σ r o):=fun a o' e _=>by
  rw [upd_ne (fun z=>by subst z; rw [h] at e; cases e)]; exact e
theorem Ex.set {S:List Addr} {σ:Sg} {r:Addr} {o:AObj} (h : r ∈ S) : Ex S σ (upd σ r o):=fun a o' e n=>by
  rw [upd_ne (fun z=>by subst z; exact n h)]; exact e
theorem Ex.weak {S T:List Addr} {σ σ' : Sg} (x : Ex S σ σ') (h : ∀ a ∈ S,a ∈ T) : Ex T σ σ':=fun a o e n=>x a o e fun q=>n (h a q)
theorem Ex.nil {S:List Addr} {σ σ' : Sg} (x : Ex [] σ σ') : Ex S σ σ':=x.weak fun _ h=>nomatch h
theorem Ex.get {σ σ' : Sg} {a:Addr} {o:AObj} (x : Ex [] σ σ') (h : σ a = some o) : σ' a = some o:=x a o h fun q=>nomatch q
theorem Ex.drop {S:List Addr} {σ σ' : Sg} {r:Addr} (x : Ex (r :: S) σ σ') (h : σ r = none) : Ex S σ σ':=fun a o e n=>x a o e fun q=>by
  rcases List.mem_cons.mp q with z | z
  · subst z; rw [h] at e; cases e
  · exact n z
theorem Ex.fresh {S:List Addr} {σ σ' : Sg} {r:Addr} (x : Ex S σ σ') (h : σ' r = none) (n : r ∉ S) : σ r = none:=by
  cases q : σ r with
  | none=>rfl
  | some o=>rw [x r o q n] at h; cases h
theorem upd_old {σ:Sg} {r a:Addr} {o o' : AObj} (hr : σ r = none) (h : σ a = some o) : upd σ r o' a = some o:=by
  rw [upd_ne (fun z=>by subst z; rw [hr] at h; cases h)]; exact h
theorem upd_at {σ:Sg} {b a:Addr} {o o' : AObj} (hne : a ≠ b) (h : σ a = some o) : upd σ b o' a = some o:=by rw [upd_ne hne]; exact h
theorem ne_some {σ:Sg} {a r:Addr} {o:AObj} (h : σ a = some o) (hr : σ r = none) : a ≠ r:=fun z=>by subst z; rw [hr] at h; cases h
theorem Ex.t0 {S:List Addr} {σ σ' : Sg} {r:Addr} {o:AObj} (h : Ex (r :: S) σ σ') : Ex (r :: S) σ (upd σ' r o):=h.trans (Ex.set (.head _))
theorem Ex.t1 {S:List Addr} {σ σ' : Sg} {r s:Addr} {o:AObj} (h : Ex (s :: r :: S) σ σ') : Ex (s :: r :: S) σ (upd σ' r o):=h.trans (Ex.set (.tail _ (.head _)))
theorem Ex.tn {S:List Addr} {σ σ' : Sg} {r:Addr} {o:AObj} (h : Ex S σ σ') (n : σ' r = none) : Ex S σ (upd σ' r o):=h.trans (Ex.new n)
theorem ne_obj {σ:Sg} {a b:Addr} {o o' : AObj} (h : σ a = some o) (h' : σ b = some o') (n : o ≠ o') : a ≠ b:=fun z=>by subst z; rw [h] at h'; cases h'; exact n rfl
theorem none_upd {σ:Sg} {a b:Addr} {o:AObj} (h : upd σ b o a = none) : a ≠ b∧σ a = none:=by
  by_cases q : a = b
  · subst q; rw [upd_same] at h; cases h
  · rw [upd_ne q] at h; exact ⟨q,h⟩
section
variable {g:G} {d:Nat} {ρ:Env'} {σ:Sg} {Q:V→Sg→Prop} {Qn:Env'→Sg→Prop} {Qr:V→Sg→Prop}
theorem e_k {v:V} : Q v σ→wpE g d (.k v) ρ Q σ:=id
theorem e_var {i:Nat} {v:V} (h : ρ.getD i none = some v) (q : Q v σ) : wpE g d (.var i) ρ Q σ:=by show atV _ _; rw [h]; exact q
theorem e_bin {op a b} : wpE g d a ρ (fun x σ₁=>wpE g d b ρ (fun y σ₂=>binW op x y Q σ₂) σ₁) σ→wpE g d (.bin op a b) ρ Q σ:=id
theorem e_cmp {op a b} : wpE g d a ρ (fun x σ₁=>wpE g d b ρ (fun y σ₂=>cmpW g op x y Q σ₂) σ₁) σ→wpE g d (.cmp op a b) ρ Q σ:=id
theorem e_cmp2 {o1 o2 a b c} : wpE g d a ρ (fun x σ₁=>wpE g d b ρ (fun y σ₂=>cmpW g o1 x y (fun r σ₃=>truthW r (fun t σ₄=>if t = true then wpE g d c ρ (fun z σ₅=>cmpW g o2 y z Q σ₅) σ₄ else Q (.bool false) σ₄) σ₃) σ₂) σ₁) σ→wpE g d (.cmp2 o1 o2 a b c) ρ Q σ:=id
theorem e_not {t} : wpE g d t ρ (fun x σ₁=>truthW x (fun b σ₂=>Q (.bool (!b)) σ₂) σ₁) σ→wpE g d (.not t) ρ Q σ:=id
theorem e_and1 {t} : wpE g d t ρ (fun x σ₁=>truthW x (fun b σ₂=>Q (.bool b) σ₂) σ₁) σ→wpAnd g d (.cons t .nil) ρ Q σ:=id
theorem e_and2 {t u r} : wpE g d t ρ (fun x σ₁=>truthW x (fun b σ₂=>if b = true then wpAnd g d (.cons u r) ρ Q σ₂ else Q (.bool false) σ₂) σ₁) σ→wpAnd g d (.cons t (.cons u r)) ρ Q σ:=id
theorem e_or1 {t} : wpE g d t ρ (fun x σ₁=>truthW x (fun b σ₂=>Q (.bool b) σ₂) σ₁) σ→wpOr g d (.cons t .nil) ρ Q σ:=id
theorem e_or2 {t u r} : wpE g d t ρ (fun x σ₁=>truthW x (fun b σ₂=>if b = true then Q (.bool true) σ₂ else wpOr g d (.cons u r) ρ Q σ₂) σ₁) σ→wpOr g d (.cons t (.cons u r)) ρ Q σ:=id
theorem e_and {ts} : wpAnd g d ts ρ Q σ→wpE g d (.and ts) ρ Q σ:=id
theorem e_or {ts} : wpOr g d ts ρ Q σ→wpE g d (.or ts) ρ Q σ:=id
theorem e_ite {t a b} : wpE g d t ρ (fun x σ₁=>truthW x (fun c σ₂=>if c = true then wpE g d a ρ Q σ₂ else wpE g d b ρ Q σ₂) σ₁) σ→wpE g d (.ite t a b) ρ Q σ:=id
theorem e_attr {e i} : wpE g d e ρ (fun x σ₁=>attrW g x i Q σ₁) σ→wpE g d (.attr e i) ρ Q σ:=id
theorem e_idx {a b} : wpE g d a ρ (fun x σ₁=>wpE g d b ρ (fun y σ₂=>idxW g x y Q σ₂) σ₁) σ→wpE g d (.idx a b) ρ Q σ:=id
theorem e_slice {a lo hi} : wpE g d a ρ (fun x σ₁=>wpE g d lo ρ (fun y σ₂=>wpE g d hi ρ (fun z σ₃=>sliceW g x y z Q σ₃) σ₂) σ₁) σ→wpE g d (.slice a lo hi) ρ Q σ:=id
theorem e_isin {e c} : wpE g d e ρ (fun x σ₁=>isinW g x c Q σ₁) σ→wpE g d (.isin e c) ρ Q σ:=id
theorem e_callu {a args} : wpEs g d args ρ (fun vs σ₁=>UCall g d (.ref a) vs Q σ₁) σ→wpE g d (.call (.u a) args) ρ Q σ:=id
theorem e_callb {f args} (h : ∀ vs σ',callW g d f vs Q σ' = biW g f vs Q σ') : wpEs g d args ρ (fun vs σ₁=>biW g f vs Q σ₁) σ→wpE g d (.call f args) ρ Q σ:=fun x=>by
  show wpEs g _ args ρ (fun vs σ₁=>callW g d f vs Q σ₁) σ
  rw [show (fun vs σ₁=>callW g d f vs Q σ₁) = fun vs σ₁=>biW g f vs Q σ₁ from funext fun vs=>funext fun σ'=>h vs σ']; exact x
theorem e_meth {m e args} : wpE g d e ρ (fun x σ₁=>recvW g m x (wpEs g d args ρ (fun vs σ₂=>mtW g m x vs Q σ₂) σ₁) σ₁) σ→wpE g d (.meth m e args) ρ Q σ:=id
theorem e_umeth {i e args} : wpE g d e ρ (fun x σ₁=>umW g x i (fun f=>wpEs g d args ρ (fun vs σ₂=>UCall g d (.ref f) (x :: vs) Q σ₂) σ₁) σ₁) σ→wpE g d (.umeth i e args) ρ Q σ:=id
theorem e_tup {es} : wpEs g d es ρ (fun vs σ₁=>Q (.tup vs) σ₁) σ→wpE g d (.tup es) ρ Q σ:=id
theorem e_lst {es} : wpEs g d es ρ (fun vs σ₁=>∀ r,σ₁ r = none→Q (.ref r) (upd σ₁ r (.list vs))) σ→wpE g d (.lst es) ρ Q σ:=id
theorem e_dct {ks es} : wpEs g d es ρ (fun vs σ₁=>∀ r,σ₁ r = none→Q (.ref r) (upd σ₁ r (.sdict (ks.zip vs)))) σ→wpE g d (.dct ks es) ρ Q σ:=id
theorem e_emps : (∀ r,σ r = none→Q (.ref r) (upd σ r (.sdict [])))→wpE g d (.emp false) ρ Q σ:=id
theorem e_empc : (∀ r ep,σ r = none→Q (.ref r) (upd σ r (.cdict [] ep)))→wpE g d (.emp true) ρ Q σ:=id
theorem es_nil {Q:List V→Sg→Prop} : Q [] σ→wpEs g d .nil ρ Q σ:=id
theorem es_cons {Q:List V→Sg→Prop} {e r} : wpE g d e ρ (fun v σ₁=>wpEs g d r ρ (fun vs σ₂=>Q (v :: vs) σ₂) σ₁) σ→wpEs g d (.cons e r) ρ Q σ:=id
theorem s_nil : Qn ρ σ→wpSs g d .nil ρ Qn Qr σ:=id
theorem s_set {i e r} : wpE g d e ρ (fun v σ₁=>wpSs g d r (rset ρ i v) Qn Qr σ₁) σ→wpSs g d (.cons (.set i e) r) ρ Qn Qr σ:=id
theorem s_setIt {o i e r} : wpE g d e ρ (fun v σ₁=>wpE g d o ρ (fun x σ₂=>wpE g d i ρ (fun y σ₃=>setItW x y v (fun σ₄=>wpSs g d r ρ Qn Qr σ₄) σ₃) σ₂) σ₁) σ→wpSs g d (.cons (.setIt o i e) r) ρ Qn Qr σ:=id
theorem s_setAt {o n e r} : wpE g d e ρ (fun v σ₁=>wpE g d o ρ (fun x σ₂=>setAttrW g x n v (fun σ₃=>wpSs g d r ρ Qn Qr σ₃) σ₂) σ₁) σ→wpSs g d (.cons (.setAt o n e) r) ρ Qn Qr σ:=id
theorem s_unp {is es r} : wpEs g d es ρ (fun ys σ₁=>is.length = ys.length∧wpSs g d r (rsets is ys ρ) Qn Qr σ₁) σ→wpSs g d (.cons (.unp is (.tup es)) r) ρ Qn Qr σ:=id
theorem s_unpv {is i r ys} (h : ρ.getD i none = some (.tup ys)) (q : is.length = ys.length∧wpSs g d r (rsets is ys ρ) Qn Qr σ) : wpSs g d (.cons (.unp is (.var i)) r) ρ Qn Qr σ:=by
  show atV _ _; rw [h]; exact q
theorem s_ev {e r} : wpE g d e ρ (fun v σ₁=>isNone v = true∧wpSs g d r ρ Qn Qr σ₁) σ→wpSs g d (.cons (.ev e) r) ρ Qn Qr σ:=id
theorem s_ite {t a b r} : wpE g d t ρ (fun x σ₁=>truthW x (fun c σ₂=>if c = true then wpSs g d a ρ (fun ρ' σ'=>wpSs g d r ρ' Qn Qr σ') Qr σ₂ else wpSs g d b ρ (fun ρ' σ'=>wpSs g d r ρ' Qn Qr σ') Qr σ₂) σ₁) σ→wpSs g d (.cons (.ite t a b) r) ρ Qn Qr σ:=id
theorem s_ret {e r} : wpE g d e ρ Qr σ→wpSs g d (.cons (.ret e) r) ρ Qn Qr σ:=id
theorem t_bool {b:Bool} {P:Bool→Sg→Prop}:P b σ→truthW (.bool b) P σ:=id
theorem if_t {P R:Prop}:P→if true = true then P else R:=fun h=>by rw [if_pos rfl]; exact h
theorem if_f {P R:Prop} : R→if false = true then P else R:=fun h=>by rw [if_neg (by simp)]; exact h
theorem if_d {p:Prop} [Decidable p] {P R:Prop} (h1 : p→P) (h2 : ¬ p→R) : if decide p = true then P else R:=by
  by_cases h : p
  · rw [if_pos (by simpa using h)]; exact h1 h
  · rw [if_neg (by simpa using h)]; exact h2 h
theorem if_b {b:Bool} {P R:Prop} (h1 : b = true→P) (h2 : b = false→R) : if b = true then P else R:=by
  cases b
  · exact if_f (h2 rfl)
  · exact if_t (h1 rfl)
theorem setAttr_new {a C dd:Addr} {fs:List (Nat × V)} {i:Nat} {x:V} {Q:Sg→Prop} (h1 : σ a = some (.inst C dd)) (h2 : σ dd = some (.idict fs)) (h3 : flk fs i = none) (h4 : attOk C i = true) (h5 : shortL 40 fs = true)
    (q : Q (upd σ dd (.idict ((i,x) :: fs)))) : setAttrW g (.ref a) i x Q σ:=by
  refine .setAttr_ok h1 h2 h4 h5 ?_
  rw [flk_eq] at h3
  have : aset fs i x = (i,x) :: fs:=by unfold aset; rw [h3]
  rw [this]; exact q
theorem flk_aset (fs:List (Nat × V)) (i:Nat) (x:V) (j:Nat) : flk (aset fs i x) j = if j = i then some x else flk fs j:=by rw [flk_eq,flk_eq,aset_lookup]
theorem s_aug1 {i n:Nat} {r:CSs} {a C dd:Addr} {fs:List (Nat × V)} {k:Int} (hv : ρ.getD i none = some (.ref a)) (h1 : σ a = some (.inst C dd)) (h2 : σ dd = some (.idict fs)) (h3 : flk fs n = some (.int k)) (h4 : attOk C n = true)
    (q : setAttrW g (.ref a) n (.int (k + 1)) (fun σ'=>wpSs g d r ρ Qn Qr σ') σ) : wpSs g d (.cons (.augAt (.var i) n (.k (.int 1))) r) ρ Qn Qr σ:=by
  have e:=AttrW.attr_ok (g:=g) (Q:=fun old σ₂=>(match old,V.int 1 with
      | .int a', .int b=>setAttrW g (.ref a) n (.int (a' + b)) (fun σ₄=>wpSs g d r ρ Qn Qr σ₄) σ₂
      | _,_=>False)) h1 h2 h3 h4 rfl q
  show atV (ρ.getD i none) _
  rw [hv]; exact e
theorem fnc (K : GK g) (hd : 1 ≤ d) {f:Addr} {cd:Bool} {F : FnD} (h : irOf f = some (cd,F)) {vs:List V} (ρ:Env') (h1 : F.env vs = ρ) (h2 : (decide (vs.length ≤ F.np) && decide (F.np ≤ vs.length + F.dfl.length)) = true)
    (W : wpSs g (d - 1) F.body ρ (fun _ σ'=>Q .none σ') Q σ) : UCall g d (.ref f) vs Q σ:=by
  subst h1
  simp only [Bool.and_eq_true,decide_eq_true_eq] at h2
  have:=fn_sound K.H (K.fn _ _ _ h) h2.1 h2.2 W
  rwa [Nat.sub_add_cancel hd] at this
theorem cls_new (K : GK g) (hd : 1 ≤ d) {C i:Addr} (h : initOf C = some i) {vs:List V}
    (W : ∀ a dd,σ a = none→σ dd = none→a ≠ dd→UCall g (d - 1) (.ref i) (.ref a :: vs) (fun v σ'=>isNone v = true∧Q (.ref a) σ') (upd (upd σ dd (.idict [])) a (.inst C dd))) : UCall g d (.ref C) vs Q σ:=by
  obtain ⟨a,b,c⟩:=K.mkd C i h
  have:=cls_sound K.H a b c W
  rwa [Nat.sub_add_cancel hd] at this
end
section
variable {g:G} {d:Nat} {ρ:Env'} {σ:Sg} {Q:V→Sg→Prop} {Qn:Env'→Sg→Prop} {Qr:V→Sg→Prop}
theorem if_tt {b:Bool} {P R:Prop} (h : b = true) (p:P) : if b = true then P else R:=by rw [if_pos h]; exact p
theorem if_ff {b:Bool} {P R:Prop} (h : b = false) (p : R) : if b = true then P else R:=by rw [if_neg (by rw [h]; simp)]; exact p
noncomputable def isinP:V→ITy→Option Bool
  | .none, .cls D=>if clsL.contains D then some false else none
  | .bool _, .cls D=>if clsL.contains D then some false else none
  | .int _, .cls D=>if clsL.contains D then some false else none
  | .str _, .cls D=>if clsL.contains D then some false else none
  | .bool _, .bool=>some true | .bool _, .int=>some true | .int _, .int=>some true | .str _, .str=>some true
  | .none, .bool=>some false | .none, .int=>some false | .none, .str=>some false
  | .bool _, .str=>some false | .int _, .bool=>some false | .int _, .str=>some false | .str _, .bool=>some false | .str _, .int=>some false
  | _,_=>none
theorem isin_p {v:V} {c : ITy} {b:Bool} (h : isinP v c = some b) (q : Q (.bool b) σ) : isinW g v c Q σ:=by
  cases c with
  | cls D=>
    have key : (if clsL.contains D = true then some false else none) = some b→clsL.contains D = true∧false = b:=fun e=>by
      by_cases hc : clsL.contains D = true
      · rw [if_pos hc] at e; exact ⟨hc,Option.some.inj e⟩
      · rw [if_neg hc] at e; cases e
    cases v <;> first | (cases h; done) | (obtain ⟨k1,rfl⟩:=key h; exact .isin_n rfl k1 q)
  | _=>cases v <;> first | (cases h; done) | (cases h; exact .isin_t rfl rfl rfl q)
theorem s_for {is it b r} (h : wpE g d it ρ (fun x σ₁=>srcW g σ₁ x fun p=>p.1.length ≤ big∧
      forW (fun y ρ' K σ₂=>bound (bindN is y ρ') fun ρ''=>wpSs g d b ρ'' K Qr σ₂) (fun σ₂=>srcOf g σ₂ x = some p) (fun ρ' σ'=>wpSs g d r ρ' Qn Qr σ') p.1 ρ σ₁) σ) : wpSs g d (.cons (.for is it b) r) ρ Qn Qr σ:=h
theorem s_whl {t b r} (I:Nat→Env'→Sg→Prop) (n:Nat) (h0 : I n ρ σ) (h : ∀ n ρ' σ',I n ρ' σ'→wpE g d t ρ' (fun x σ₁=>truthW x (fun c σ₂=>if c = true then wpSs g d b ρ' (fun ρ₂ σ₃=>∃ m,m < n∧I m ρ₂ σ₃) Qr σ₂ else wpSs g d r ρ' Qn Qr σ₂) σ₁) σ') :
    wpSs g d (.cons (.whl t b) r) ρ Qn Qr σ:=⟨I,⟨n,h0⟩,h⟩
theorem s_whlK {t b r} (I:Nat→Env'→Sg→Prop) (n:Nat) (h0 : I n ρ σ) (h : ∀ n ρ' σ' (K:Env'→Sg→Prop),I n ρ' σ'→(∀ m ρ₂ σ₃,m < n→I m ρ₂ σ₃→K ρ₂ σ₃)→wpE g d t ρ' (fun x σ₁=>truthW x (fun c σ₂=>if c = true then wpSs g d b ρ' K Qr σ₂ else wpSs g d r ρ' Qn Qr σ₂) σ₁) σ') :
    wpSs g d (.cons (.whl t b) r) ρ Qn Qr σ:=s_whl I n h0 fun n ρ' σ' hI=>h n ρ' σ' _ hI fun m _ _ hm hi=>⟨m,hm,hi⟩
theorem e_comp {elt nt cap iter} (h : wpE g d iter ρ (fun x σ₁=>srcW g σ₁ x fun p=>p.1.length ≤ big∧
      compW (fun y P σ₂=>bound (bindT nt y (cap.map fun i=>ρ.getD i none)) fun _=>P true σ₂) (fun y K σ₂=>bound (bindT nt y (cap.map fun i=>ρ.getD i none)) fun ρ'=>wpE g d elt ρ' K σ₂) (fun σ₂=>srcOf g σ₂ x = some p) p.1 []
        (fun vs σ₂=>∀ r,σ₂ r = none→Q (.ref r) (upd σ₂ r (.list vs))) σ₁) σ) : wpE g d (.comp elt nt cap iter) ρ Q σ:=h
theorem e_compIf {elt nt cap iter cond} (h : wpE g d iter ρ (fun x σ₁=>srcW g σ₁ x fun p=>p.1.length ≤ big∧
      compW (fun y P σ₂=>bound (bindT nt y (cap.map fun i=>ρ.getD i none)) fun ρ'=>wpE g d cond ρ' (fun r σ₃=>truthW r P σ₃) σ₂)
        (fun y K σ₂=>bound (bindT nt y (cap.map fun i=>ρ.getD i none)) fun ρ'=>wpE g d elt ρ' K σ₂) (fun σ₂=>srcOf g σ₂ x = some p) p.1 []
        (fun vs σ₂=>∀ r,σ₂ r = none→Q (.ref r) (upd σ₂ r (.list vs))) σ₁) σ) : wpE g d (.compIf elt nt cap iter cond) ρ Q σ:=h
theorem forW_rule {body:V→Env'→(Env'→Sg→Prop)→Sg→Prop} {stay:Sg→Prop} (I:List V→Env'→Sg→Prop)
    (hs : ∀ ys ρ σ,I ys ρ σ→stay σ) (hb : ∀ y ys ρ σ (K:Env'→Sg→Prop),I (y :: ys) ρ σ→(∀ ρ' σ',I ys ρ' σ'→K ρ' σ')→body y ρ K σ) (he : ∀ ρ σ,I [] ρ σ→Qn ρ σ) :
    ∀ {ys:List V} {ρ:Env'} {σ:Sg},I ys ρ σ→forW body stay Qn ys ρ σ
  | [],_,_,h=>⟨hs _ _ _ h,he _ _ h⟩
  | _ :: _,_,_,h=>⟨hs _ _ _ h,hb _ _ _ _ _ h fun _ _ h'=>forW_rule I hs hb he h'⟩
theorem compW_rule {t:V→(Bool→Sg→Prop)→Sg→Prop} {f:V→(V→Sg→Prop)→Sg→Prop} {stay:Sg→Prop} {Kf:List V→Sg→Prop} (I:List V→List V→Sg→Prop)
    (hs : ∀ ys acc σ,I ys acc σ→stay σ)
    (hb : ∀ y ys acc σ (Kt:Sg→Prop) (Kn:Sg→Prop),I (y :: ys) acc σ→(∀ σ',(f y (fun v σ''=>I ys (acc ++ [v]) σ'') σ'→Kt σ'))→(∀ σ',I ys acc σ'→Kn σ')→t y (fun b σ'=>if b = true then Kt σ' else Kn σ') σ)
    (mono : ∀ y (P P' : V→Sg→Prop) σ,(∀ v σ',P v σ'→P' v σ')→f y P σ→f y P' σ)
    (he : ∀ acc σ,I [] acc σ→Kf acc σ) :
    ∀ {ys acc:List V} {σ:Sg},I ys acc σ→compW t f stay ys acc Kf σ
  | [],_,_,h=>⟨hs _ _ _ h,he _ _ h⟩
  | y :: ys,acc,σ,h=>⟨hs _ _ _ h,hb _ _ _ _ _ _ h (fun σ' hf=>mono _ _ _ _ (fun v σ'' hi=>compW_rule I hs hb mono he hi) hf) fun σ' hi=>compW_rule I hs hb mono he hi⟩
theorem comp1_rule {nt:Nat} {cap:Env'} {f:V→(V→Sg→Prop)→Sg→Prop} {stay:Sg→Prop} {Kf:List V→Sg→Prop} (I:List V→List V→Sg→Prop)
    (hs : ∀ ys acc σ,I ys acc σ→stay σ)
    (hn : ∀ y ys acc σ,I (y :: ys) acc σ→(bindT nt y cap).isSome = true)
    (hb : ∀ y ys acc σ (K:V→Sg→Prop),I (y :: ys) acc σ→(∀ v σ',I ys (acc ++ [v]) σ'→K v σ')→f y K σ)
    (he : ∀ acc σ,I [] acc σ→Kf acc σ) :
    ∀ {ys acc:List V} {σ:Sg},I ys acc σ→compW (fun y P σ₂=>bound (bindT nt y cap) fun _=>P true σ₂) f stay ys acc Kf σ
  | [],_,_,h=>⟨hs _ _ _ h,he _ _ h⟩
  | y :: ys,acc,σ,h=>⟨hs _ _ _ h,by
      have h1:=hn _ _ _ _ h
      obtain ⟨c,hc⟩:=Option.isSome_iff_exists.mp h1
      show bound (bindT nt y cap) _
      rw [hc]
      have key : ∀ {P R:Prop},P→bound (some c) (fun _=>if true = true then P else R):=fun {P R} p=>if_tt (b:=true) (P:=P) (R:=R) rfl p
      refine key ?_
      exact hb _ _ _ _ _ h fun v σ'' hi=>comp1_rule I hs hn hb he hi⟩
end
local macro_rules | `(tactic| walk_at "lk")=>`(tactic| first
  | assumption
  | apply upd_same
  | (apply upd_old; assumption; walk_at "lk")
  | (apply upd_at; walk_at "sy"; walk_at "lk"))
local macro_rules | `(tactic| walk_at "ad")=>`(tactic| first | assumption | decide)
local macro_rules | `(tactic| walk_at "sy")=>`(tactic| first | assumption | (apply Ne.symm; assumption))
local macro_rules | `(tactic| walk_at "nn")=>`(tactic| first | assumption | (apply none_at; walk_at "nn"; walk_at "sy"))
local macro_rules | `(tactic| walk_at "fd")=>`(tactic| first | assumption | rfl)
local macro_rules | `(tactic| walk_at "ex")=>`(tactic| first
  | assumption
  | apply Ex.refl
  | (apply Ex.t0; walk_at "ex")
  | (apply Ex.t1; walk_at "ex")
  | (apply Ex.tn; walk_at "ex"; walk_at "nn"))
local macro_rules | `(tactic| walk_at "w1")=>`(tactic| (
  fail_if_success (change UCall _ _ _ _ _ _)
  first
  | apply c_eqs | apply c_eqi | apply c_nes | apply c_lt | apply c_ge | apply c_le | apply c_gt | apply c_nei | apply c_eqb | apply c_neb | apply c_inc
  | (apply c_is; rfl) | (apply c_isn; rfl) | (apply c_in; rfl) | (apply c_nin; rfl)
  | (apply c_inl; walk_at "lk"; rfl) | (apply c_ind; walk_at "lk")
  | (apply ix_l; walk_at "lk"; rfl; walk_at "ad")
  | (apply ix_t; rfl; walk_at "ad")
  | (apply ix_d; walk_at "lk"; rfl)
  | (apply attr_ok; walk_at "lk"; walk_at "lk"; walk_at "fd"; walk_at "fd"; walk_at "fd")
  | apply b_addi | apply b_subi | (apply b_addl; walk_at "lk"; walk_at "lk"; walk_at "ad")
  | (apply setAttr_new; walk_at "lk"; walk_at "lk"; walk_at "fd"; walk_at "fd"; walk_at "fd")
  | (apply setAttr_ok; walk_at "lk"; walk_at "lk"; walk_at "fd"; walk_at "fd")
  | (apply isin_p; rfl) | (apply isin_i; walk_at "lk"; walk_at "lk"; rfl) | (apply isin_b; walk_at "lk"; walk_at "lk"; walk_at "fd"; rfl)
  | (apply r_str; rfl) | (apply r_append; walk_at "lk") | (apply r_getd; walk_at "lk") | (apply r_getc; walk_at "lk") | (apply r_values; walk_at "lk")
  | (apply m_getd; walk_at "lk") | (apply mt_values; walk_at "lk") | apply mt_isdigit | apply mt_isalnum
  | (apply um_ok; walk_at "lk"; walk_at "lk"; walk_at "fd"; walk_at "fd"; walk_at "fd"; walk_at "fd")
  | apply f_ord))
local macro_rules | `(tactic| walk_at "w")=>`(tactic| repeat walk_at "w1")
theorem none_at {σ:Sg} {a b:Addr} {o:AObj} (h : σ a = none) (n : a ≠ b) : upd σ b o a = none:=by rw [upd_ne n]; exact h
theorem Ex.made {σ σ₂:Sg} {a dd:Addr} {o o' : AObj} (ha : σ a = none) (hd : σ dd = none) (x : Ex [dd] (upd (upd σ dd o) a o') σ₂) : Ex [] σ σ₂:=fun b ob e _=>by
  refine x b ob ?_ fun q=>?_
  · rw [upd_ne (ne_some e ha),upd_ne (ne_some e hd)]; exact e
  · simp only [List.mem_singleton] at q; subst q; rw [hd] at e; cases e
section
variable {g:G} {d:Nat} {σ:Sg} {Q:V→Sg→Prop}
noncomputable def sortS:V→List Nat
  | .none=>sNil | .bool _=>sBool | .int _=>sI | .str _=>sSym | _=>sThing
noncomputable def flat:V→Bool
  | .none=>true | .bool _=>true | .int _=>true | .str _=>true | _=>false
theorem sort_plain (K : GK g) (hd : 1 ≤ d) {v:V} (hv : flat v = true) (q : Q (.str (sortS v)) σ) : UCall g d (.ref 237) [v] Q σ:=by
  refine fnc K (by assumption) rfl [some v] rfl rfl ?_
  cases v <;> first | (cases hv; done) | (walk_at "w"; exact q)
theorem sort_thing (K : GK g) (hd : 1 ≤ d) {a C dd:Addr} {fs:List (Nat × V)} (h1 : σ a = some (.inst C dd)) (h2 : σ dd = some (.idict fs)) (h3 : clsL.contains C = true) (q : Q (.str sThing) σ) : UCall g d (.ref 237) [.ref a] Q σ:=by
  refine fnc K (by assumption) rfl [some (.ref a)] rfl rfl ?_
  walk_at "w"
  exact q
noncomputable def thf (num own:V) (r:Addr):List (Nat × V):=[(5, .none),(4, .bool false),(3, .none),(2, .ref r),(1,own),(0,num)]
theorem thing_init (K : GK g) (hd : 1 ≤ d) {a C dd:Addr} {num own:V} (h1 : σ a = some (.inst C dd)) (h2 : σ dd = some (.idict [])) (hC : (List.range 6).all (attOk C) = true)
    (q : ∀ σ' r,Ex [dd] σ σ'→σ' dd = some (.idict (thf num own r))→Q .none σ') : UCall g d (.ref 37) [.ref a,num,own] Q σ:=by
  refine fnc K (by assumption) rfl [some (.ref a),some num,some own] rfl rfl ?_
  have hne : a ≠ dd:=ne_obj h1 h2 (by simp)
  simp only [List.all_eq_true,List.mem_range] at hC
  have c0:=hC 0 (by decide); have c1:=hC 1 (by decide); have c2:=hC 2 (by decide); have c3:=hC 3 (by decide); have c4:=hC 4 (by decide); have c5:=hC 5 (by decide)
  walk_at "w"
  intro r hr
  have n1 : a ≠ r:=fun z=>by subst z; rw [upd_ne hne,upd_ne hne,h1] at hr; cases hr
  have n2 : dd ≠ r:=fun z=>by subst z; rw [upd_same] at hr; cases hr
  walk_at "w"
  refine q _ r (by walk_at "ex") (upd_same _ _ _)
end
section
variable {g:G} {d:Nat} {σ:Sg} {Q:V→Sg→Prop}
theorem new_core (K : GK g) {C i:Addr} (hi : initOf C = some i) (hC : (List.range 6).all (attOk C) = true) (hd : 3 ≤ d) {num own:V} {vs:List V}
    (q : ∀ d' σ₁ a dd,2 ≤ d'→σ a = none→σ dd = none→a ≠ dd→σ₁ a = some (.inst C dd)→σ₁ dd = some (.idict [])→(∀ σ₂,Ex [dd] σ₁ σ₂→Ex [] σ σ₂)→
      UCall g d' (.ref i) (.ref a :: vs) (fun v σ'=>isNone v = true∧Q (.ref a) σ') σ₁) : UCall g d (.ref C) vs Q σ:=by
  refine cls_new K (by exact le_lit ‹_› (by rfl)) hi fun a dd ha hdd hne=>?_
  exact q (d - 1) _ a dd (by exact Nat.le_sub_of_add_le ‹_›) ha hdd hne (upd_same _ _ _) (upd_at hne.symm (upd_same _ _ _)) fun σ₂ x=>Ex.made ha hdd x
theorem new_thing (K : GK g) (hd : 3 ≤ d) {num own:V}
    (q : ∀ σ' a dd r,Ex [] σ σ'→σ a = none→σ dd = none→σ' a = some (.inst 40 dd)→σ' dd = some (.idict (thf num own r))→Q (.ref a) σ') : UCall g d (.ref 40) [num,own] Q σ:=by
  refine new_core K (i:=37) rfl rfl hd (num:=num) (own:=own) fun d σ₁ a dd hd' ha hdd hne e1 e2 mk=>?_
  refine thing_init K (by exact Nat.le_of_lt ‹_›) e1 e2 rfl fun σ₂ r x e3=>⟨rfl,?_⟩
  exact q _ a dd r (mk _ x) ha hdd (x _ _ e1 (by exact nin1 (hne))) e3
theorem new_text (K : GK g) (hd : 3 ≤ d) {num own s:V}
    (q : ∀ σ' a dd r,Ex [] σ σ'→σ a = none→σ dd = none→σ' a = some (.inst 62 dd)→σ' dd = some (.idict ((6,s) :: thf num own r))→Q (.ref a) σ') : UCall g d (.ref 62) [num,own,s] Q σ:=by
  refine new_core K (i:=59) rfl rfl hd (num:=num) (own:=own) fun d σ₁ a dd hd' ha hdd hne e1 e2 mk=>?_
  refine fnc K (by exact Nat.le_of_lt ‹_›) rfl [some (.ref a),some num,some own,some s] rfl rfl ?_
  walk_at "w"
  refine thing_init K (by exact Nat.le_sub_of_add_le ‹_›) e1 e2 rfl fun σ₂ r x e3=>⟨rfl,?_⟩
  have e4:=x _ _ e1 (by exact nin1 (hne))
  walk_at "w"
  exact ⟨rfl,q _ a dd r (mk _ (by walk_at "ex")) ha hdd (by walk_at "lk") (upd_same _ _ _)⟩
theorem new_list (K : GK g) (hd : 3 ≤ d) {num own:V} {l:Addr}
    (q : ∀ σ' a dd r,Ex [] σ σ'→σ a = none→σ dd = none→σ' a = some (.inst 82 dd)→σ' dd = some (.idict ((7, .ref l) :: thf num own r))→Q (.ref a) σ') : UCall g d (.ref 82) [num,own, .ref l] Q σ:=by
  refine new_core K (i:=79) rfl rfl hd (num:=num) (own:=own) fun d σ₁ a dd hd' ha hdd hne e1 e2 mk=>?_
  refine fnc K (by exact Nat.le_of_lt ‹_›) rfl [some (.ref a),some num,some own,some (.ref l)] rfl rfl ?_
  walk_at "w"
  refine thing_init K (by exact Nat.le_sub_of_add_le ‹_›) e1 e2 rfl fun σ₂ r x e3=>⟨rfl,?_⟩
  have e4:=x _ _ e1 (by exact nin1 (hne))
  walk_at "w"
  exact ⟨rfl,q _ a dd r (mk _ (by walk_at "ex")) ha hdd (by walk_at "lk") (upd_same _ _ _)⟩
theorem new_table (K : GK g) (hd : 3 ≤ d) {num own:V}
    (q : ∀ σ' a dd r rd ep,Ex [] σ σ'→σ a = none→σ dd = none→σ rd = none→σ' a = some (.inst 120 dd)→σ' dd = some (.idict ((9, .none) :: (8, .ref rd) :: thf num own r))→σ' rd = some (.cdict [] ep)→Q (.ref a) σ') : UCall g d (.ref 120) [num,own] Q σ:=by
  refine new_core K (i:=98) rfl rfl hd (num:=num) (own:=own) fun d σ₁ a dd hd' ha hdd hne e1 e2 mk=>?_
  refine fnc K (by exact Nat.le_of_lt ‹_›) rfl [some (.ref a),some num,some own] rfl rfl ?_
  walk_at "w"
  refine thing_init K (by exact Nat.le_sub_of_add_le ‹_›) e1 e2 rfl fun σ₂ r x e3=>⟨rfl,?_⟩
  have e4:=x _ _ e1 (by exact nin1 (hne))
  walk_at "w"
  intro rd ep hr
  have n1 : a ≠ rd:=ne_some e4 hr
  have n2 : dd ≠ rd:=ne_some e3 hr
  walk_at "w"
  have h0 : σ rd = none:=(mk _ x).fresh hr (by exact List.not_mem_nil)
  exact ⟨rfl,q _ a dd r rd ep (mk _ (by walk_at "ex")) ha hdd h0 (by walk_at "lk") (upd_same _ _ _) (by walk_at "lk")⟩
theorem new_range (K : GK g) (hd : 3 ≤ d) {num own x y z:V}
    (q : ∀ σ' a dd r,Ex [] σ σ'→σ a = none→σ dd = none→σ' a = some (.inst 140 dd)→σ' dd = some (.idict ((12,z) :: (11,y) :: (10,x) :: thf num own r))→Q (.ref a) σ') : UCall g d (.ref 140) [num,own,x,y,z] Q σ:=by
  refine new_core K (i:=137) rfl rfl hd (num:=num) (own:=own) fun d σ₁ a dd hd' ha hdd hne e1 e2 mk=>?_
  refine fnc K (by exact Nat.le_of_lt ‹_›) rfl [some (.ref a),some num,some own,some x,some y,some z] rfl rfl ?_
  walk_at "w"
  refine thing_init K (by exact Nat.le_sub_of_add_le ‹_›) e1 e2 rfl fun σ₂ r x e3=>⟨rfl,?_⟩
  have e4:=x _ _ e1 (by exact nin1 (hne))
  walk_at "w"
  exact ⟨rfl,q _ a dd r (mk _ (by walk_at "ex")) ha hdd (by walk_at "lk") (upd_same _ _ _)⟩
theorem new_error (K : GK g) (hd : 3 ≤ d) {num own x:V} {vs:List V} (hv : vs = [num,own,x]∨(vs = [num,own]∧x = .none))
    (q : ∀ σ' a dd r,Ex [] σ σ'→σ a = none→σ dd = none→σ' a = some (.inst 181 dd)→σ' dd = some (.idict ((23, .none) :: (22,x) :: thf num own r))→Q (.ref a) σ') : UCall g d (.ref 181) vs Q σ:=by
  refine new_core K (i:=178) rfl rfl hd (num:=num) (own:=own) fun d σ₁ a dd hd' ha hdd hne e1 e2 mk=>?_
  refine fnc K (by exact Nat.le_of_lt ‹_›) rfl [some (.ref a),some num,some own,some x] ?_ ?_ ?_
  · rcases hv with rfl | ⟨rfl,rfl⟩ <;> rfl
  · rcases hv with rfl | ⟨rfl,rfl⟩ <;> rfl
  walk_at "w"
  refine thing_init K (by exact Nat.le_sub_of_add_le ‹_›) e1 e2 rfl fun σ₂ r x e3=>⟨rfl,?_⟩
  have e4:=x _ _ e1 (by exact nin1 (hne))
  walk_at "w"
  exact ⟨rfl,q _ a dd r (mk _ (by walk_at "ex")) ha hdd (by walk_at "lk") (upd_same _ _ _)⟩
theorem new_proc (K : GK g) (hd : 3 ≤ d) {num own x1 x2 x3 x4 x5 x6 x7 x8 x9:V}
    (q : ∀ σ' a dd fs,Ex [] σ σ'→σ a = none→σ dd = none→σ' a = some (.inst 161 dd)→σ' dd = some (.idict fs)→flk fs 1 = some own→flk fs 20 = some x8→Q (.ref a) σ') : UCall g d (.ref 161) [num,own,x1,x2,x3,x4,x5,x6,x7,x8,x9] Q σ:=by
  refine new_core K (i:=158) rfl rfl hd (num:=num) (own:=own) fun d σ₁ a dd hd' ha hdd hne e1 e2 mk=>?_
  refine fnc K (by exact Nat.le_of_lt ‹_›) rfl [some (.ref a),some num,some own,some x1,some x2,some x3,some x4,some x5,some x6,some x7,some x8,some x9] rfl rfl ?_
  walk_at "w"
  refine thing_init K (by exact Nat.le_sub_of_add_le ‹_›) e1 e2 rfl fun σ₂ r x e3=>⟨rfl,?_⟩
  have e4:=x _ _ e1 (by exact nin1 (hne))
  walk_at "w"
  exact ⟨rfl,q _ a dd _ (mk _ (by walk_at "ex")) ha hdd (by walk_at "lk") (upd_same _ _ _) rfl rfl⟩
theorem new_module (K : GK g) (hd : 3 ≤ d) {num own nm ic:V}
    (q : ∀ σ' a dd fs,Ex [] σ σ'→σ a = none→σ dd = none→σ' a = some (.inst 228 dd)→σ' dd = some (.idict fs)→shortL 20 fs = true→flk fs 0 = some num→flk fs 24 = some nm→flk fs 26 = some .none→flk fs 27 = some .none→flk fs 32 = some .none→flk fs 53 = none→Q (.ref a) σ') : UCall g d (.ref 228) [num,own,nm,ic] Q σ:=by
  refine new_core K (i:=218) rfl rfl hd (num:=num) (own:=own) fun d σ₁ a dd hd' ha hdd hne e1 e2 mk=>?_
  refine fnc K (by exact Nat.le_of_lt ‹_›) rfl [some (.ref a),some num,some own,some nm,some ic,some .none,some .none] rfl rfl ?_
  walk_at "w"
  refine thing_init K (by exact Nat.le_sub_of_add_le ‹_›) e1 e2 rfl fun σ₂ r x e3=>⟨rfl,?_⟩
  have e4:=x _ _ e1 (by exact nin1 (hne))
  walk_at "w"
  intro r1 h1
  have n1:=ne_some (by walk_at "lk") h1 (a:=a) (o:=.inst 228 dd)
  have n2:=ne_some (upd_same _ _ _) h1
  walk_at "w"
  intro r2 h2
  have n3:=ne_some (by walk_at "lk") h2 (a:=a) (o:=.inst 228 dd)
  have n4:=ne_some (upd_same _ _ _) h2
  walk_at "w"
  intro r3 h3
  have n5:=ne_some (by walk_at "lk") h3 (a:=a) (o:=.inst 228 dd)
  have n6:=ne_some (upd_same _ _ _) h3
  walk_at "w"
  intro r4 h4
  have n7:=ne_some (by walk_at "lk") h4 (a:=a) (o:=.inst 228 dd)
  have n8:=ne_some (upd_same _ _ _) h4
  walk_at "w"
  exact ⟨rfl,q _ a dd _ (mk _ (by walk_at "ex")) ha hdd (by walk_at "lk") (upd_same _ _ _) rfl rfl rfl rfl rfl rfl rfl⟩
end
noncomputable def parentOf (nm:List Nat):Option (List Nat):=((ptab.find? fun p=>decide (p.1 = nm)).map (·.2)).getD none
noncomputable def mixedOf (nm:List Nat):List (List Nat):=((mtab.find? fun p=>decide (p.1 = nm)).map (·.2)).getD []
theorem tab_ok : (ptab.all fun p=>(match p.2 with | none=>true | some s=>names.contains s) && (mixedOf p.1).all fun s=>names.contains s) = true:=by decide +kernel
theorem names_len : names.length = 40∧names.Nodup:=by decide +kernel
theorem find_map {α β : Type} (f : α→β) (k:List Nat) : ∀ l:List (List Nat × α),((l.map fun p=>(p.1,f p.2)).find? fun p=>decide (p.1 = k)) = (l.find? fun p=>decide (p.1 = k)).map fun p=>(p.1,f p.2)
  | []=>rfl
  | p :: r=>by
    simp only [List.map_cons,List.find?_cons]
    cases decide (p.1 = k)
    · exact find_map f k r
    · rfl
theorem find_bt {nm:List Nat} (h : nm ∈ names) : (btT.find? fun p=>decide (p.1 = nm)) = some (nm,optV (parentOf nm))∧(∀ p,parentOf nm = some p→p ∈ names)∧∀ p ∈ mixedOf nm,p ∈ names:=by
  obtain ⟨q,hq,rfl⟩:=List.mem_map.mp h
  have hs : (ptab.find? fun p=>decide (p.1 = q.1)).isSome = true:=List.find?_isSome.mpr ⟨q,hq,by simp⟩
  obtain ⟨p,hp⟩:=Option.isSome_iff_exists.mp hs
  have h1 : p.1 = q.1:=by simpa using List.find?_some hp
  have hm:=List.mem_of_find?_eq_some hp
  have ok:=List.all_eq_true.mp tab_ok p hm
  simp only [Bool.and_eq_true,List.all_eq_true] at ok
  refine ⟨?_,fun s hs=>?_,fun s hs=>?_⟩
  · unfold btT parentOf; rw [find_map,hp]; simp [h1]
  · unfold parentOf at hs; rw [hp] at hs
    have : p.2 = some s:=hs
    have o1:=ok.1
    rw [this] at o1
    simpa using o1
  · rw [← h1] at hs; simpa using ok.2 s hs
theorem get_mt (nm:List Nat) : (((mtT.find? fun p=>decide (p.1 = nm)).map (·.2)).getD (.tup [])) = .tup ((mixedOf nm).map .str):=by
  unfold mtT mixedOf; rw [find_map fun l:List (List Nat)=>V.tup (l.map .str)]
  cases mtab.find? fun p=>decide (p.1 = nm) <;> rfl
theorem nodup_len {α : Type} [DecidableEq α] : ∀ {l m:List α},l.Nodup→(∀ x ∈ l,x ∈ m)→l.length ≤ m.length
  | [],_,_,_=>Nat.zero_le _
  | a :: r,m,hn,hs=>by
    rw [List.nodup_cons] at hn
    have hm:=hs a (List.mem_cons_self ..)
    have:=nodup_len (l:=r) (m:=m.erase a) hn.2 fun x hx=>(List.mem_erase_of_ne fun e=>by subst e; exact hn.1 hx).mpr (hs x (List.mem_cons_of_mem _ hx))
    rw [List.length_erase_of_mem hm] at this
    have:=List.length_pos_of_mem hm
    simp only [List.length_cons]; lia
structure Wd where (w wd md na pr:Addr)
structure WF (fs:List (Nat × V)) (x : Wd) (n:Int) (rd:Bool):Prop where
  len : fs.length ≤ 14 + (bif rd then 2 else 0)
  lo : ∀ i,(i < 35∨50 ≤ i)→flk fs i = none
  f35 : flk fs 35 = some (.ref x.na)
  f36 : flk fs 36 = some (.ref x.pr)
  f40 : flk fs 40 = some (.int n)
  f43 : flk fs 43 = some (.ref x.md)
  f48 : flk fs 48 = some (.bool rd)
abbrev Mk:=List (List Nat × Addr)
noncomputable def mkV (mk : Mk):List (List Nat × V):=mk.map fun p=>(p.1,V.ref p.2)
structure MF (fs:List (Nat × V)) (nm:List Nat):Prop where
  len : shortL 30 fs = true
  f0 : ∃ k,flk fs 0 = some (.int k)
  f24 : flk fs 24 = some (.str nm)
  f27 : flk fs 27 = some .none
  f32 : flk fs 32 = some .none
  f33 : flk fs 33 = some (.str nm)
  f53 : flk fs 53 = none
noncomputable def PF (fs:List (Nat × V)) (mk : Mk) (nm:List Nat):Prop:=match parentOf nm with
  | none=>flk fs 26 = some .none
  | some p=>∃ b,flk fs 26 = some (.ref b)∧(p,b) ∈ mk
structure MdI (σ:Sg) (mk : Mk) (ip:List (List Nat)) (nm:List Nat) (a:Addr):Prop where
  ex : ∃ dd fs,σ a = some (.inst 228 dd)∧σ dd = some (.idict fs)∧MF fs nm∧(nm ∈ ip∨PF fs mk nm)
structure WI (σ:Sg) (x : Wd) (n:Int) (mk : Mk) (rd:Bool) (ip:List (List Nat)):Prop where
  w : σ x.w = some (.inst 653 x.wd)
  d : ∃ fs,σ x.wd = some (.idict fs)∧WF fs x n rd
  m : σ x.md = some (.sdict (mkV mk))
  na : σ x.na = some (.sdict [])
  pr : σ x.pr = some (.sdict [])
  nd : (mk.map (·.1)).Nodup
  nm : ∀ p ∈ mk,p.1 ∈ names
  md : ∀ p ∈ mk,MdI σ mk ip p.1 p.2
  na' : x.na ≠ x.md
  pr' : x.pr ≠ x.md
set_option tactic.hygienic true in
theorem PF.sub {fs mk mk' nm} (h : PF fs mk nm) (s : ∀ p ∈ mk,p ∈ mk') : PF fs mk' nm:=by
  unfold PF at *
  split
  · rename_i e; rw [e] at h; exact h
  · rename_i p e; rw [e] at h; obtain ⟨b,h1,h2⟩:=h; exact ⟨b,h1,s _ h2⟩
theorem MdI.sub {σ:Sg} {mk mk' : Mk} {ip nm a} (h : MdI σ mk ip nm a) (s : ∀ p ∈ mk,p ∈ mk') : MdI σ mk' ip nm a:=by
  obtain ⟨dd,fs,h1,h2,h3,h4⟩:=h.ex
  exact ⟨dd,fs,h1,h2,h3,h4.imp id fun q=>q.sub s⟩
theorem WF.len' {fs x n rd} (F : WF fs x n rd) : fs.length ≤ 16:=by have:=F.len; cases rd <;> simp at this <;> exact le_lit2 ‹_› (by rfl)
theorem WF.lo' {fs x n rd} (F : WF fs x n rd) {i:Nat} (h : (decide (i < 35) || decide (50 ≤ i)) = true) : flk fs i = none:=F.lo i (by simpa using h)
theorem WI.apart {σ:Sg} {x n mk rd ip} (W : WI σ x n mk rd ip) {a:Addr} {C dd:Addr} {fs:List (Nat × V)} {v:V} {i:Nat} (hi : i < 35) (h1 : σ a = some (.inst C dd)) (h2 : σ dd = some (.idict fs)) (h3 : flk fs i = some v) : a ≠ x.wd∧a ≠ x.md∧dd ≠ x.wd∧dd ≠ x.md:=by
  obtain ⟨fw,e1,F⟩:=W.d
  refine ⟨ne_obj h1 e1 (by simp),ne_obj h1 W.m (by simp),fun z=>?_,ne_obj h2 W.m (by simp)⟩
  rw [z,e1] at h2; cases h2
  rw [F.lo i (.inl hi)] at h3; cases h3
theorem MdI.keep {σ σ' : Sg} {x n mk rd ip} (W : WI σ x n mk rd ip) (E : Ex [x.wd,x.md] σ σ') {mk' : Mk} {ip' nm a} (h : MdI σ mk' ip' nm a) : MdI σ' mk' ip' nm a:=by
  obtain ⟨dd,fs,h1,h2,h3,h4⟩:=h.ex
  obtain ⟨n1,n2,n3,n4⟩:=W.apart (by decide) h1 h2 h3.f24
  exact ⟨dd,fs,E _ _ h1 (by simp [n1,n2]),E _ _ h2 (by simp [n3,n4]),h3,h4⟩
theorem WI.w_ne {σ:Sg} {x n mk rd ip} (W : WI σ x n mk rd ip) : x.w ≠ x.wd∧x.w ≠ x.md∧x.wd ≠ x.md∧x.na ≠ x.wd∧x.pr ≠ x.wd:=by
  obtain ⟨fw,e1,F⟩:=W.d
  exact ⟨ne_obj W.w e1 (by simp),ne_obj W.w W.m (by simp),ne_obj e1 W.m (by simp),ne_obj W.na e1 (by simp),ne_obj W.pr e1 (by simp)⟩
theorem WI.step {σ σ' : Sg} {x n mk rd ip n' rd'} (W : WI σ x n mk rd ip) (E : Ex [x.wd,x.md] σ σ') (hd : ∃ fs,σ' x.wd = some (.idict fs)∧WF fs x n' rd') (hm : σ' x.md = some (.sdict (mkV mk))) : WI σ' x n' mk rd' ip:=by
  obtain ⟨n1,n2,n3,n4,n5⟩:=W.w_ne
  exact ⟨E _ _ W.w (by simp [n1,n2]),hd,hm,E _ _ W.na (by simp [W.na',n4]),E _ _ W.pr (by simp [W.pr',n5]),W.nd,W.nm,fun p hp=>(W.md p hp).keep W E,W.na',W.pr'⟩
theorem WI.mono {σ σ' : Sg} {x n mk rd ip} (W : WI σ x n mk rd ip) (E : Ex [] σ σ') : WI σ' x n mk rd ip:=by
  obtain ⟨fw,e1,F⟩:=W.d
  exact W.step E.nil ⟨fw,E.get e1,F⟩ (E.get W.m)
theorem Ex.ne {S:List Addr} {σ σ' : Sg} (E : Ex S σ σ') {a:Addr} {o:AObj} (h : σ a = some o) (n : a ∉ S) : σ' a = some o:=E a o h n
section
variable {g:G} {d:Nat} {σ:Sg} {Q:V→Sg→Prop} {x : Wd} {n:Int} {mk : Mk} {rd:Bool} {ip:List (List Nat)}
theorem number_ok (K : GK g) (hd : 1 ≤ d) (W : WI σ x n mk rd ip) (q : ∀ σ',WI σ' x (n + 1) mk rd ip→Ex [x.wd] σ σ'→Q (.int (n + 1)) σ') : UCall g d (.ref 434) [.ref x.w] Q σ:=by
  refine fnc K (by assumption) rfl [some (.ref x.w)] rfl rfl ?_
  obtain ⟨fw,e1,F⟩:=W.d
  have e0:=W.w
  have f40:=F.f40
  have hl:=shortL_iff.mpr (Nat.le_trans F.len' (by decide : 16 ≤ 40))
  have n1:=W.w_ne.1
  refine s_aug1 rfl e0 e1 f40 rfl (setAttr_ok e0 e1 rfl hl ?_)
  have f40' : flk (aset fw 40 (.int (n + 1))) 40 = some (.int (n + 1)):=by rw [flk_aset,if_pos rfl]
  walk_at "w"
  refine q _ (W.step (Ex.set (by exact List.mem_cons_self ..)) ⟨_,upd_same _ _ _,?_⟩ (upd_at W.w_ne.2.2.1.symm W.m)) (Ex.set (by exact List.mem_cons_self ..))
  refine ⟨?_,fun i hi=>?_,?_,?_,f40',?_,?_⟩
  · rw [aset_length, ← flk_eq,f40,if_neg (by simp)]; exact F.len
  · rw [flk_aset,if_neg (by lia)]; exact F.lo i hi
  · rw [flk_aset,if_neg (by decide)]; exact F.f35
  · rw [flk_aset,if_neg (by decide)]; exact F.f36
  · rw [flk_aset,if_neg (by decide)]; exact F.f43
  · rw [flk_aset,if_neg (by decide)]; exact F.f48
theorem give_own_ok (K : GK g) (hd : 1 ≤ d) (W : WI σ x n mk rd ip) {nm:List Nat} (hn : nm.length ≤ 100) (q : Q .none σ) : UCall g d (.ref 467) [.ref x.w, .str nm] Q σ:=by
  refine fnc K (by assumption) rfl [some (.ref x.w),some (.str nm)] rfl rfl ?_
  obtain ⟨fw,e1,F⟩:=W.d
  have e0:=W.w; have f35:=F.f35; have f36:=F.f36; have e2:=W.na; have e3:=W.pr
  walk_at "w"
  refine b_adds (by simp [big]; exact le_lit2 ‹_› (by rfl)) ?_
  walk_at "w"
  refine b_adds (by simp [big]; exact le_lit2 ‹_› (by rfl)) ?_
  walk_at "w"
  exact q
end
theorem MF.aset {fs:List (Nat × V)} {nm:List Nat} (F : MF fs nm) {i:Nat} {v:V} (hi : i = 1∨i = 26∨i = 30) (hl : fs.length < 30) : MF (aset fs i v) nm:=by
  refine ⟨shortL_iff.mpr (Nat.le_trans (aset_le ..) hl),?_,?_,?_,?_,?_,?_⟩ <;> rw [flk_aset,if_neg (by lia)]
  · exact F.f0
  · exact F.f24
  · exact F.f27
  · exact F.f32
  · exact F.f33
  · exact F.f53
theorem mkV_app (mk : Mk) (nm:List Nat) (a:Addr) : mkV (mk ++ [(nm,a)]) = mkV mk ++ [(nm, .ref a)]:=by simp [mkV]
theorem mkV_fst (mk : Mk) : (mkV mk).map (·.1) = mk.map (·.1):=by simp [mkV]
section
variable {σ:Sg} {x : Wd} {n:Int} {mk : Mk} {rd:Bool} {ip:List (List Nat)}
theorem WI.add (W : WI σ x n mk rd ip) {nm:List Nat} {a dd:Addr} {fs fs' : List (Nat × V)} (hn : nm ∉ mk.map (·.1)) (hm : nm ∈ names) (h1 : σ a = some (.inst 228 dd)) (h2 : σ dd = some (.idict fs)) (h3 : flk fs 24 = some (.str nm)) (F : MF fs' nm) :
    WI (upd (upd σ x.md (.sdict (mkV mk ++ [(nm, .ref a)]))) dd (.idict fs')) x n (mk ++ [(nm,a)]) rd (nm :: ip):=by
  obtain ⟨n1,n2,n3,n4⟩:=W.apart (by decide) h1 h2 h3
  obtain ⟨m1,m2,m3,m4,m5⟩:=W.w_ne
  have hw : x.w ≠ dd:=ne_obj W.w h2 (by simp)
  have hna : x.na ≠ dd:=ne_obj W.na h2 (by simp)
  have hpr : x.pr ≠ dd:=ne_obj W.pr h2 (by simp)
  have had : a ≠ dd:=ne_obj h1 h2 (by simp)
  obtain ⟨fw,e1,Fw⟩:=W.d
  refine ⟨upd_at hw (upd_at m2 W.w),⟨fw,upd_at n3.symm (upd_at m3 e1),Fw⟩,upd_at n4.symm (by rw [mkV_app]; exact upd_same _ _ _),upd_at hna (upd_at W.na' W.na),upd_at hpr (upd_at W.pr' W.pr),?_,?_,?_,W.na',W.pr'⟩
  · rw [List.map_append,List.nodup_append]
    refine ⟨W.nd,by simp,fun y hy z hz e=>?_⟩
    simp only [List.map_cons,List.map_nil,List.mem_singleton] at hz
    subst e; subst hz; exact hn hy
  · intro p hp
    rcases List.mem_append.mp hp with hp | hp
    · exact W.nm p hp
    · simp only [List.mem_singleton] at hp; subst hp; exact hm
  · intro p hp
    rcases List.mem_append.mp hp with hp1 | hp
    · obtain ⟨dp,fp,q1,q2,q3,q4⟩:=(W.md p hp1).ex
      obtain ⟨r1,r2,r3,r4⟩:=W.apart (by decide) q1 q2 q3.f24
      have hdd : dp ≠ dd:=fun z=>by
        subst z; rw [h2] at q2; cases q2
        have:=q3.f24; rw [h3] at this; cases this
        exact hn (List.mem_map_of_mem hp1)
      refine ⟨dp,fp,upd_at (ne_obj q1 h2 (by simp)) (upd_at r2 q1),upd_at hdd (upd_at r4 q2),q3,?_⟩
      exact q4.imp (List.mem_cons_of_mem _) fun q=>q.sub fun z hz=>List.mem_append_left _ hz
    · simp only [List.mem_singleton] at hp; subst hp
      exact ⟨dd,fs',upd_at had (upd_at n2 h1),upd_same _ _ _,F, .inl (List.mem_cons_self ..)⟩
theorem WI.turn (W : WI σ x n mk rd ip) {nm:List Nat} {a dd:Addr} {fs fs' : List (Nat × V)} {ip' : List (List Nat)} (hm : (nm,a) ∈ mk) (h1 : σ a = some (.inst 228 dd)) (h2 : σ dd = some (.idict fs)) (h3 : flk fs 24 = some (.str nm)) (F : MF fs' nm)
    (hp : nm ∈ ip'∨PF fs' mk nm) (hip : ∀ z ∈ ip,z ≠ nm→z ∈ ip') : WI (upd σ dd (.idict fs')) x n mk rd ip':=by
  obtain ⟨n1,n2,n3,n4⟩:=W.apart (by decide) h1 h2 h3
  have hw : x.w ≠ dd:=ne_obj W.w h2 (by simp)
  have hna : x.na ≠ dd:=ne_obj W.na h2 (by simp)
  have hpr : x.pr ≠ dd:=ne_obj W.pr h2 (by simp)
  have had : a ≠ dd:=ne_obj h1 h2 (by simp)
  obtain ⟨fw,e1,Fw⟩:=W.d
  refine ⟨upd_at hw W.w,⟨fw,upd_at n3.symm e1,Fw⟩,upd_at n4.symm W.m,upd_at hna W.na,upd_at hpr W.pr,W.nd,W.nm,fun p hpm=>?_,W.na',W.pr'⟩
  obtain ⟨dp,fp,q1,q2,q3,q4⟩:=(W.md p hpm).ex
  by_cases hdd : dp = dd
  · subst hdd; rw [h2] at q2; cases q2
    have e:=q3.f24; rw [h3] at e; cases e
    refine ⟨dp,fs',upd_at (ne_obj q1 h2 (by simp)) q1,upd_same _ _ _,F,hp⟩
  · have hne : p.1 ≠ nm:=fun e=>by
      have key : ∀ {l : Mk},(l.map (·.1)).Nodup→p ∈ l→(nm,a) ∈ l→p.1 = nm→p = (nm,a):=by
        intro l
        induction l with
        | nil=>intro _ h; cases h
        | cons z r ih=>
          intro hn h h' e
          rw [List.map_cons,List.nodup_cons] at hn
          rcases List.mem_cons.mp h with rfl | h
          · rcases List.mem_cons.mp h' with e' | h'
            · exact e'.symm
            · exact absurd (by rw [e]; exact List.mem_map_of_mem (f:=(·.1)) h') hn.1
          · rcases List.mem_cons.mp h' with e' | h'
            · exact absurd (by rw [← e', ← e]; exact List.mem_map_of_mem (f:=(·.1)) h) hn.1
            · exact ih hn.2 h h' e
      have:=key W.nd hpm hm e
      subst this
      rw [h1] at q1; cases q1; exact hdd rfl
    exact ⟨dp,fp,upd_at (ne_obj q1 h2 (by simp)) q1,upd_at hdd q2,q3,q4.imp (fun z=>hip _ z hne) id⟩
theorem find_mk (mk : Mk) (nm:List Nat) : (∃ a,(nm,a) ∈ mk∧((((mkV mk).find? fun p=>decide (p.1 = nm)).map (·.2)).getD .none) = .ref a)∨(nm ∉ mk.map (·.1)∧((((mkV mk).find? fun p=>decide (p.1 = nm)).map (·.2)).getD .none) = .none):=by
  unfold mkV; rw [find_map fun a:Addr=>V.ref a]
  cases e : mk.find? fun p=>decide (p.1 = nm) with
  | none=>
    right
    refine ⟨fun h=>?_,rfl⟩
    obtain ⟨p,hp,e'⟩:=List.mem_map.mp h
    have:=List.find?_eq_none.mp e p hp
    simp [e'] at this
  | some p=>
    left
    have h1 : p.1 = nm:=by simpa using List.find?_some e
    exact ⟨p.2,by rw [← h1]; exact List.mem_of_find?_eq_some e,rfl⟩
theorem WI.len (W : WI σ x n mk rd ip) : mk.length ≤ 40:=by
  have:=nodup_len W.nd fun y hy=>by obtain ⟨p,hp,rfl⟩:=List.mem_map.mp hy; exact W.nm p hp
  rw [List.length_map,names_len.1] at this; exact this
theorem WI.room (W : WI σ x n mk rd ip) {nm} (h : nm ∉ mk.map (·.1)) (hm : nm ∈ names) : mk.length < 40:=by
  have:=nodup_len (List.nodup_cons.mpr ⟨h,W.nd⟩) (m:=names) fun y hy=>by
    rcases List.mem_cons.mp hy with rfl | hy
    · exact hm
    · obtain ⟨p,hp,rfl⟩:=List.mem_map.mp hy; exact W.nm p hp
  rw [List.length_cons,List.length_map,names_len.1] at this; exact this
theorem nodup_of_map {α β : Type} (f : α→β) : ∀ {l:List α},(l.map f).Nodup→l.Nodup
  | [],_=>List.nodup_nil
  | a :: r,h=>by
    rw [List.map_cons,List.nodup_cons] at h
    exact List.nodup_cons.mpr ⟨fun q=>h.1 (List.mem_map_of_mem q),nodup_of_map f h.2⟩
theorem WI.grow (W : WI σ x n mk rd ip) {mk' : Mk} (h : ∀ p ∈ mk,p ∈ mk') : mk.length ≤ mk'.length:=
  nodup_len (nodup_of_map _ W.nd) h
end
section
variable {g:G} {x : Wd} {rd:Bool}
theorem if_ks {d:Nat} {ρ:Env'} {σ:Sg} {Q:V→Sg→Prop} {b:Bool} {s t:List Nat} (P:List Nat→Prop) (hs:P s) (ht:P t) (q : ∀ u,P u→Q (.str u) σ) : if b = true then wpE g d (.k (.str s)) ρ Q σ else wpE g d (.k (.str t)) ρ Q σ:=
  if_b (fun _=>q s hs) fun _=>q t ht
noncomputable def BIH (g:G) (x : Wd) (rd:Bool) (d k:Nat):Prop:=∀ {σ:Sg} {Q:V→Sg→Prop} {n:Int} {mk : Mk} {ip:List (List Nat)} {nm:List Nat},40 ≤ mk.length + k→nm ∈ names→WI σ x n mk rd ip→
    (∀ σ' n' mk' a,WI σ' x n' mk' rd ip→n ≤ n'→(∀ p ∈ mk,p ∈ mk')→(nm,a) ∈ mk'→Ex [x.wd,x.md] σ σ'→Q (.ref a) σ')→UCall g d (.ref 455) [.ref x.w, .str nm] Q σ
noncomputable def ParV (mk : Mk) (nm:List Nat) (v:V):Prop:=match parentOf nm with
  | none=>v = .none
  | some p=>∃ b,v = .ref b∧(p,b) ∈ mk
set_option tactic.hygienic true in
theorem ParV.pf {mk nm v} (h : ParV mk nm v) {fs:List (Nat × V)} : PF (aset fs 26 v) mk nm:=by
  unfold PF ParV at *
  rw [flk_aset,if_pos rfl]
  split
  · rename_i e; rw [e] at h; rw [h]
  · rename_i p e; rw [e] at h; obtain ⟨b,h1,h2⟩:=h; exact ⟨b,by rw [h1],h2⟩
theorem um_b (K : GK g) {d:Nat} {ρ:Env'} {σ:Sg} {Q:V→Sg→Prop} {n mk ip} {i:Nat} {args:CEs} (W : WI σ x n mk rd ip) {j:Nat} (hj : ρ.getD j none = some (.ref x.w)) {f:Addr} (hf : methTab 653 i = some f) (hi : ((decide (i < 35) || decide (50 ≤ i)) && decide (i < 68)) = true)
    (q : wpEs g d args ρ (fun vs σ₂=>UCall g d (.ref f) (.ref x.w :: vs) Q σ₂) σ) : wpE g d (.umeth i (.var j) args) ρ Q σ:=by
  obtain ⟨fw,e1,F⟩:=W.d
  simp only [Bool.and_eq_true] at hi
  exact e_umeth (e_var hj (um_ok W.w e1 (F.lo' hi.1) hf hi.2 rfl q))
theorem par_ok (K : GK g) {d k:Nat} (ih : BIH g x rd d k) {ρ:Env'} {σ:Sg} {Q:V→Sg→Prop} {n mk ip nm} (hm : nm ∈ names) (hk : 40 ≤ mk.length + k) (W : WI σ x n mk rd ip) (h0 : ρ.getD 0 none = some (.ref x.w)) (h4 : ρ.getD 4 none = some (optV (parentOf nm)))
    (q : ∀ σ' n' mk' v,WI σ' x n' mk' rd ip→n ≤ n'→(∀ p ∈ mk,p ∈ mk')→ParV mk' nm v→Ex [x.wd,x.md] σ σ'→Q v σ') :
    wpE g d (.ite (.cmp .Is (.var 4) (.k .none)) (.k .none) (.umeth 54 (.var 0) (.cons (.var 4) .nil))) ρ Q σ:=by
  have pn:=(find_bt hm).2.1
  refine e_ite (e_cmp (e_var h4 (e_k ?_)))
  unfold ParV at q
  cases e : parentOf nm with
  | none=>
    rw [e] at q
    refine c_is rfl (t_bool (if_t (e_k ?_)))
    exact q σ n mk .none W (Int.le_refl _) (fun _ h=>h) rfl (Ex.refl _ _)
  | some p=>
    rw [e] at q h4
    refine c_is rfl (t_bool (if_f (um_b K W h0 rfl rfl (es_cons (e_var h4 (es_nil ?_))))))
    exact ih hk (pn p e) W fun σ' n' mk' a W' hn' hs ha E=>q σ' n' mk' (.ref a) W' hn' hs ⟨a,rfl,ha⟩ E
theorem mf_new {fs:List (Nat × V)} {nm:List Nat} {n:Int} (h20 : shortL 20 fs = true) (f0 : flk fs 0 = some (.int n)) (f24 : flk fs 24 = some (.str nm)) (f27 : flk fs 27 = some .none) (f32 : flk fs 32 = some .none) (f53 : flk fs 53 = none) : (aset fs 33 (.str nm)).length ≤ 21∧MF (aset fs 33 (.str nm)) nm:=by
  have h:=Nat.le_trans (aset_le fs 33 (.str nm)) (Nat.succ_le_succ (shortL_iff.mp h20))
  refine ⟨h,shortL_iff.mpr (Nat.le_trans h (by decide)),⟨n,?_⟩,?_,?_,?_,?_,?_⟩ <;> rw [flk_aset]
  · exact f0
  · exact f24
  · exact f27
  · exact f32
  · rfl
  · exact f53
theorem PF.put {fs:List (Nat × V)} {i:Nat} {v:V} {mk : Mk} {nm:List Nat} (hi : i ≠ 26) (h : PF fs mk nm) : PF (aset fs i v) mk nm:=by
  unfold PF at *; rw [flk_aset,if_neg hi.symm]; exact h
theorem pf_next {σ:Sg} {mk : Mk} {ip:List (List Nat)} {nm:List Nat} {a C dd:Addr} {fs:List (Nat × V)} {i:Nat} {v:V} (hi : i ≠ 26) (M : MdI σ mk ip nm a) (h1 : σ a = some (.inst C dd)) (h2 : σ dd = some (.idict fs)) : PF (aset fs i v) mk nm∨nm ∈ ip:=by
  obtain ⟨dq,fq,q1,q2,_,q4⟩:=M.ex
  rw [h1] at q1; cases q1; rw [h2] at q2; cases q2
  exact q4.symm.imp (PF.put hi) id
theorem ex_new3 {σ σ₁ σ₂:Sg} {wd md dd:Addr} {o o' : AObj} (E₁ : Ex [wd] σ σ₁) (E₂ : Ex [] σ₁ σ₂) (hdd : σ₁ dd = none) : Ex [wd,md] σ (upd (upd σ₂ md o) dd o'):=by
  intro b q hb hnb
  have : b ≠ dd:=fun z=>by rw [z] at hb hnb; rw [E₁ _ _ hb (nin1 (nin2l hnb))] at hdd; cases hdd
  rw [upd_ne this,upd_ne (nin2r hnb)]
  exact E₂.get (E₁ _ _ hb (nin1 (nin2l hnb)))
theorem mixed_len (nm:List Nat) : (mixedOf nm).length ≤ 1000:=by
  unfold mixedOf
  cases e : mtab.find? fun p=>decide (p.1 = nm) with
  | none=>simp
  | some p=>
    have h1:=List.mem_of_find?_eq_some e
    have h2 : (mtab.all fun p=>decide (p.2.length ≤ 1000)) = true:=by decide +kernel
    simpa using List.all_eq_true.mp h2 p h1
theorem name_len {nm:List Nat} (hm : nm ∈ names) : nm.length ≤ 100:=by
  have h2 : (names.all fun p=>decide (p.length ≤ 100)) = true:=by decide +kernel
  simpa using List.all_eq_true.mp h2 nm hm
theorem ip_rest {nm:List Nat} {ip:List (List Nat)} : ∀ z ∈ nm :: ip,z ≠ nm→z ∈ ip:=fun z hz hne=>by
  rcases List.mem_cons.mp hz with e | h
  · exact absurd e hne
  · exact h
theorem left_k {a b c k:Nat} (h : 40 ≤ a + (k + 1)) (e : a + 1 ≤ b) : 40 ≤ b + k:=Nat.le_trans h (by rw [Nat.add_comm k 1, ← Nat.add_assoc]; exact Nat.add_le_add_right e k)
inductive BltI (x : Wd) (rd:Bool) (ip:List (List Nat)) (n₇:Int) (mk₇ : Mk) (σ₈:Sg) (rest acc:List V) (σ' : Sg):Prop
  | mk (h : ∀ y ∈ rest, ∃ s ∈ names,y = V.str s) (n' : Int) (mk' : Mk) (W : WI σ' x n' mk' rd ip) (hn : n₇ ≤ n') (hs : ∀ p ∈ mk₇,p ∈ mk') (E : Ex [x.wd,x.md] σ₈ σ')
theorem builtin_found (K : GK g) {d:Nat} {σ:Sg} {Q:V→Sg→Prop} {n:Int} {mk : Mk} {ip:List (List Nat)} {nm:List Nat} {a:Addr} (hd : 6 ≤ d) (W : WI σ x n mk rd ip) (ha : (nm,a) ∈ mk) (e : ((((mkV mk).find? fun p=>decide (p.1 = nm)).map (·.2)).getD .none) = .ref a) (q : Q (.ref a) σ) : UCall g d (.ref 455) [.ref x.w, .str nm] Q σ:=by
  obtain ⟨fw,e1,F⟩:=W.d
  have e0:=W.w; have f43:=F.f43; have e2:=W.m
  refine fnc K (by exact le_lit ‹_› (by rfl)) rfl [some (.ref x.w),some (.str nm),none] rfl rfl ?_
  walk_at "w"
  rw [e]
  walk_at "w"
  exact q
theorem builtin_aux (K : GK g) : ∀ (k:Nat) {d:Nat} {σ:Sg} {Q:V→Sg→Prop} {n:Int} {mk : Mk} {ip:List (List Nat)} {nm:List Nat},2 * k + 6 ≤ d→40 ≤ mk.length + k→nm ∈ names→WI σ x n mk rd ip→
    (∀ σ' n' mk' a,WI σ' x n' mk' rd ip→n ≤ n'→(∀ p ∈ mk,p ∈ mk')→(nm,a) ∈ mk'→Ex [x.wd,x.md] σ σ'→Q (.ref a) σ')→UCall g d (.ref 455) [.ref x.w, .str nm] Q σ:=by
  intro k
  induction k with
  | zero=>
    intro d σ Q n mk ip nm hd hk hm W q
    rcases find_mk mk nm with ⟨a,ha,e⟩ | ⟨hn,e⟩
    · exact builtin_found K (Nat.le_trans (Nat.le_add_left _ _) hd) W ha e (q σ n mk a W (Int.le_refl _) (fun _ h=>h) ha (Ex.refl _ _))
    · have:=W.room hn hm; lia
  | succ k ih=>
    intro d σ Q n mk ip nm hd hk hm W q
    rcases find_mk mk nm with ⟨a,ha,e⟩ | ⟨hn,e⟩
    · exact builtin_found K (Nat.le_trans (Nat.le_add_left _ _) hd) W ha e (q σ n mk a W (Int.le_refl _) (fun _ h=>h) ha (Ex.refl _ _))
    have hroom:=W.room hn hm
    have hdd2 : 2 * k + 6 ≤ d - 1 - 1:=Nat.le_sub_of_add_le (Nat.le_sub_of_add_le (by rw [Nat.mul_succ,Nat.add_right_comm] at hd; exact hd))
    obtain ⟨fw,e1,F⟩:=W.d
    have e0:=W.w; have f43:=F.f43; have e2:=W.m
    have lo55:=F.lo' (i:=55) rfl; have lo0:=F.lo' (i:=0) rfl
    refine fnc K (by exact le_lit ‹_› (by rfl)) rfl [some (.ref x.w),some (.str nm),none] rfl rfl ?_
    walk_at "w"
    rw [e]
    walk_at "w"
    refine fnc K (by exact le_litp ‹_› (by rfl)) rfl [some (.ref x.w),some (.str nm),none,none,none] rfl rfl ?_
    walk_at "w"
    refine number_ok K (by exact le_litq ‹_› (by rfl)) W fun σ₁ W₁ E₁=>?_
    walk_at "w"
    refine new_module K (by exact le_litq ‹_› (by rfl)) fun σ₂ a dd fs E₂ ha hdd e3 e4 h20 f0 f24 f26 f27 f32 f53=>?_
    have W₂:=W₁.mono E₂
    have hl40:=shortL_iff.mpr (Nat.le_trans (shortL_iff.mp h20) (by decide : 20 ≤ 40))
    obtain ⟨fw2,e1',F2⟩:=W₂.d
    have e0':=W₂.w; have f43':=F2.f43; have e2':=W₂.m
    obtain ⟨n1,n2,n3,n4⟩:=W₂.apart (by decide) e3 e4 f24
    walk_at "w"
    obtain ⟨l1,F'⟩:=mf_new h20 f0 f24 f27 f32 f53
    have W₃:=W₂.add hn hm e3 e4 f24 F'
    have hbt:=(find_bt hm).1
    have had : a ≠ dd:=ne_obj e3 e4 (by simp)
    refine set_d e2' ⟨by rw [mkV_fst]; exact hn,by simp [mkV]; lia⟩ ?_
    walk_at "w"
    refine ix_b K.bt hbt ?_
    have e3' : (upd (upd σ₂ x.md (.sdict (mkV mk ++ [(nm, .ref a)]))) dd (.idict (aset fs 33 (.str nm)))) a = some (.inst 228 dd):=upd_at had (upd_at n2 e3)
    have e4' : (upd (upd σ₂ x.md (.sdict (mkV mk ++ [(nm, .ref a)]))) dd (.idict (aset fs 33 (.str nm)))) dd = some (.idict (aset fs 33 (.str nm))):=upd_same _ _ _
    have E₃:=ex_new3 (md:=x.md) (o:=.sdict (mkV mk ++ [(nm, .ref a)])) (o':=.idict (aset fs 33 (.str nm))) E₁ E₂ hdd
    generalize (upd (upd σ₂ x.md (.sdict (mkV mk ++ [(nm, .ref a)]))) dd (.idict (aset fs 33 (.str nm)))) = σ₃ at *
    have hlk : 40 ≤ (mk ++ [(nm,a)]).length + k:=left_k (c:=0) hk (by rw [List.length_append]; exact Nat.le_refl _)
    have ihd : BIH g x rd (d - 1 - 1) k:=fun {_ _ _ _ _ _} h1 h2 h3 h4=>ih hdd2 h1 h2 h3 h4
    refine s_setAt (par_ok K ihd hm hlk W₃ rfl rfl fun σ₅ n₅ mk₅ v W₅ hn5 hs5 hv E₅=>?_)
    have e35:=E₅ _ _ e3' (by simp [n1,n2])
    have e45:=E₅ _ _ e4' (by simp [n3,n4])
    have ha5:=hs5 (nm,a) (by simp)
    have l2:=aset_le (aset fs 33 (.str nm)) 26 v
    have F5:=F'.aset (i:=26) (v:=v) (by decide) (by exact lt_lit2 ‹_› (by rfl))
    have W₆:=W₅.turn (ip':=ip) ha5 e35 e45 F'.f24 F5 (.inr hv.pf) ip_rest
    refine setAttr_ok e35 e45 rfl (shortL_iff.mpr (by exact le_lit2 ‹_› (by rfl))) ?_
    have e36 : (upd σ₅ dd (.idict (aset (aset fs 33 (.str nm)) 26 v))) a = some (.inst 228 dd):=upd_at had e35
    have e46 : (upd σ₅ dd (.idict (aset (aset fs 33 (.str nm)) 26 v))) dd = some (.idict (aset (aset fs 33 (.str nm)) 26 v)):=upd_same _ _ _
    have hd0 : σ dd = none:=E₁.fresh hdd (by exact nin1 (n3))
    have E₆ : Ex [x.wd,x.md] σ (upd σ₅ dd (.idict (aset (aset fs 33 (.str nm)) 26 v))):=Ex.drop (r:=dd) (((E₃.trans E₅).weak (by simp)).trans (Ex.set (by exact List.mem_cons_self ..))) hd0
    generalize (upd σ₅ dd (.idict (aset (aset fs 33 (.str nm)) 26 v))) = σ₆ at *
    generalize aset (aset fs 33 (.str nm)) 26 v = fs6 at *
    refine s_setAt (um_b K W₆ rfl rfl rfl (es_cons (e_ite (e_var rfl (t_bool (if_ks (· ∈ names) (by decide +kernel) (by decide +kernel) fun u hu=>es_nil ?_))))))
    have hl5:=hs5
    refine ihd (left_k (c:=0) hk (Nat.le_trans (by rw [List.length_append]; exact Nat.le_refl _) (nodup_len (nodup_of_map _ W₃.nd) hs5))) hu W₆ fun σ₇ n₇ mk₇ o W₇ hn7 hs7 ho E₇=>?_
    have e37:=E₇ _ _ e36 (by simp [n1,n2])
    have e47:=E₇ _ _ e46 (by simp [n3,n4])
    have l3:=aset_le fs6 1 (.ref o)
    have F7:=F5.aset (i:=1) (v:=.ref o) (by decide) (by lia)
    have ha7:=hs7 _ ha5
    have P7:=pf_next (i:=1) (v:=.ref o) (by decide) (W₇.md _ ha7) e37 e47
    have W₈:=W₇.turn (ip':=ip) ha7 e37 e47 F5.f24 F7 P7.symm (fun z hz _=>hz)
    refine setAttr_ok e37 e47 rfl (shortL_iff.mpr (by lia)) ?_
    have e38 : (upd σ₇ dd (.idict (aset fs6 1 (.ref o)))) a = some (.inst 228 dd):=upd_at had e37
    have e48 : (upd σ₇ dd (.idict (aset fs6 1 (.ref o)))) dd = some (.idict (aset fs6 1 (.ref o))):=upd_same _ _ _
    have E₈ : Ex [x.wd,x.md] σ (upd σ₇ dd (.idict (aset fs6 1 (.ref o)))):=Ex.drop (r:=dd) (((E₆.trans E₇).weak (by simp)).trans (Ex.set (by exact List.mem_cons_self ..))) hd0
    generalize (upd σ₇ dd (.idict (aset fs6 1 (.ref o)))) = σ₈ at *
    generalize aset fs6 1 (.ref o) = fs8 at *
    refine s_setAt (e_comp (e_meth (e_k (r_getb K.mt (es_cons (e_var rfl (es_cons (e_tup (es_nil (es_nil (m_getb K.mt ?_)))))))))))
    rw [get_mt]
    have hmx:=(find_bt hm).2.2
    have hml:=mixed_len nm
    refine src_t ⟨by simp [big]; exact le_lit2 ‹_› (by rfl),?_⟩
    refine comp1_rule (BltI x rd ip n₇ mk₇ σ₈) (fun _ _ _ _=>rfl) (fun _ _ _ _ _=>rfl) (fun y ys acc σ' Kc h hK=>?_) (fun acc σ₉ h r hr=>?_) ⟨fun y hy=>?_,n₇,mk₇,W₈,Int.le_refl _,fun _ h=>h,Ex.refl _ _⟩
    · obtain ⟨hy,n',mk',W',hn',hs',E'⟩:=h
      obtain ⟨s,hs,rfl⟩:=hy y (List.mem_cons_self ..)
      refine um_b K W' rfl rfl rfl (es_cons (e_var rfl (es_nil ?_)))
      refine ihd (left_k (c:=0) hk (Nat.le_trans (by rw [List.length_append]; exact Nat.le_refl _) (nodup_len (nodup_of_map _ W₃.nd) (m:=mk') (fun p hp=>hs' _ (hs7 _ (hs5 p hp)))))) hs W' fun σ'' n'' mk'' a'' W'' hn'' hs'' _ E''=>?_
      exact hK _ _ ⟨fun z hz=>hy z (List.mem_cons_of_mem _ hz),n'',mk'',W'',by exact Int.le_trans ‹_› ‹_›,fun p hp=>hs'' _ (hs' p hp),E'.trans E''⟩
    · obtain ⟨_,n₉,mk₉,W₉,hn9,hs9,E₉⟩:=h
      have W₉':=W₉.mono (Ex.new (o:=.list acc) hr)
      have e39:=upd_old (o':=.list acc) hr (E₉ _ _ e38 (by simp [n1,n2]))
      have e49:=upd_old (o':=.list acc) hr (E₉ _ _ e48 (by simp [n3,n4]))
      have l4:=aset_le fs8 30 (.ref r)
      have F9:=F7.aset (i:=30) (v:=.ref r) (by decide) (by lia)
      have ha9:=hs9 _ ha7
      have P9 : PF (aset fs8 30 (.ref r)) mk₉ nm∨nm ∈ ip:=P7.imp (fun q=>PF.put (by decide) (q.sub hs9)) id
      have W₁₀:=W₉'.turn (ip':=ip) ha9 e39 e49 F7.f24 F9 P9.symm (fun z hz _=>hz)
      refine setAttr_ok e39 e49 rfl (shortL_iff.mpr (by lia)) ?_
      have E₁₀ : Ex [x.wd,x.md] σ (upd (upd σ₉ r (.list acc)) dd (.idict (aset fs8 30 (.ref r)))):=Ex.drop (r:=dd) ((((E₈.trans E₉).trans (Ex.new hr)).weak (by simp)).trans (Ex.set (by exact List.mem_cons_self ..))) hd0
      generalize (upd (upd σ₉ r (.list acc)) dd (.idict (aset fs8 30 (.ref r)))) = σ₁₀ at *
      obtain ⟨fw,e1,F⟩:=W₁₀.d
      have e0:=W₁₀.w; have f48:=F.f48; have lo56:=F.lo' (i:=56) rfl
      have fin : ∀ {v},v = V.ref a→Q v σ₁₀:=fun {v} e=>by
        subst e
        exact q σ₁₀ n₉ mk₉ a W₁₀ (by lia) (fun p hp=>hs9 _ (hs7 _ (hs5 _ (List.mem_append_left _ hp)))) ha9 E₁₀
      walk_at "w"
      refine if_b (fun _=>?_) fun _=>?_
      · walk_at "w"
        have hnl:=name_len hm
        refine give_own_ok K (by exact le_litq ‹_› (by rfl)) W₁₀ hnl ⟨rfl,?_⟩
        walk_at "w"
        exact fin rfl
      · walk_at "w"
        exact fin rfl
    · obtain ⟨s,hs,rfl⟩:=List.mem_map.mp hy
      exact ⟨s,hmx s hs,rfl⟩
theorem builtin_ok (K : GK g) {d:Nat} {σ:Sg} {Q:V→Sg→Prop} {n:Int} {mk : Mk} {ip:List (List Nat)} {nm:List Nat} (hd : 90 ≤ d) (hm : nm ∈ names) (W : WI σ x n mk rd ip)
    (q : ∀ σ' n' mk' a,WI σ' x n' mk' rd ip→n ≤ n'→(∀ p ∈ mk,p ∈ mk')→(nm,a) ∈ mk'→Ex [x.wd,x.md] σ σ'→Q (.ref a) σ') : UCall g d (.ref 455) [.ref x.w, .str nm] Q σ:=
  builtin_aux K 40 (by exact le_lit ‹_› (by rfl)) (by exact Nat.le_add_left _ _) hm W q
end
abbrev nmString:List Nat:=[83,116,114,105,110,103]
abbrev nmArray:List Nat:=[65,114,114,97,121]
abbrev nmHash:List Nat:=[72,97,115,104]
abbrev nmRange:List Nat:=[82,97,110,103,101]
abbrev nmProc:List Nat:=[80,114,111,99]
abbrev nmInteger:List Nat:=[73,110,116,101,103,101,114]
section
variable {g:G} {x : Wd} {rd:Bool} {d:Nat} {σ:Sg} {Q:V→Sg→Prop} {n:Int} {mk : Mk} {ip:List (List Nat)}
theorem nb (K : GK g) (hd : 90 ≤ d) {ρ:Env'} {Qs:List V→Sg→Prop} {nm:List Nat} {rest:CEs} (hm : nm ∈ names) (W : WI σ x n mk rd ip) (h0 : ρ.getD 0 none = some (.ref x.w))
    (q : ∀ σ' n' mk' m,WI σ' x n' mk' rd ip→n + 1 ≤ n'→(∀ p ∈ mk,p ∈ mk')→(nm,m) ∈ mk'→Ex [x.wd,x.md] σ σ'→wpEs g d rest ρ (fun vs σ''=>Qs (.int (n + 1) :: .ref m :: vs) σ'') σ') :
    wpEs g d (.cons (.umeth 0 (.var 0) .nil) (.cons (.umeth 54 (.var 0) (.cons (.k (.str nm)) .nil)) rest)) ρ Qs σ:=by
  refine es_cons (um_b K W h0 rfl rfl (es_nil ?_))
  refine number_ok K (by exact le_lit ‹_› (by rfl)) W fun σ₁ W₁ E₁=>?_
  refine es_cons (um_b K W₁ h0 rfl rfl (es_cons (e_k (es_nil ?_))))
  refine builtin_ok K hd hm W₁ fun σ' n' mk' m W' hn hs hm E=>?_
  exact q σ' n' mk' m W' hn hs hm ((E₁.weak (by exact sub1 (.head _))).trans E)
theorem WI.none_of {σ σ' : Sg} (W : WI σ x n mk rd ip) (E : Ex [x.wd,x.md] σ σ') {a:Addr} (h : σ' a = none) (W' : ∃ n' mk',WI σ' x n' mk' rd ip) : σ a = none:=by
  obtain ⟨n',mk',W'⟩:=W'
  obtain ⟨fw,e1,F⟩:=W'.d
  refine E.fresh h ?_
  intro hm
  simp only [List.mem_cons,List.not_mem_nil,or_false] at hm
  rcases hm with z | z
  · rw [z,e1] at h; cases h
  · rw [z,W'.m] at h; cases h
theorem WI.upd (W : WI σ x n mk rd ip) {b:Addr} {o:AObj} (h1 : b ≠ x.w∧b ≠ x.wd∧b ≠ x.md∧b ≠ x.na∧b ≠ x.pr) (h2 : ∀ p ∈ mk, ∀ dd fs,σ p.2 = some (.inst 228 dd)→σ dd = some (.idict fs)→flk fs 24 = some (.str p.1)→b ≠ p.2∧b ≠ dd) : WI (upd σ b o) x n mk rd ip:=by
  obtain ⟨a1,a2,a3,a4,a5⟩:=h1
  obtain ⟨fw,e1,F⟩:=W.d
  refine ⟨upd_at a1.symm W.w,⟨fw,upd_at a2.symm e1,F⟩,upd_at a3.symm W.m,upd_at a4.symm W.na,upd_at a5.symm W.pr,W.nd,W.nm,fun p hp=>?_,W.na',W.pr'⟩
  obtain ⟨dd,fs,q1,q2,q3,q4⟩:=(W.md p hp).ex
  obtain ⟨b1,b2⟩:=h2 p hp dd fs q1 q2 q3.f24
  exact ⟨dd,fs,upd_at b1.symm q1,upd_at b2.symm q2,q3,q4⟩
theorem WI.turnT (W : WI σ x n mk rd ip) {b:Addr} {o:AObj} {fs:List (Nat × V)} {v:V} (h : σ b = some (.idict fs)) (h24 : flk fs 24 = none) (h0 : flk fs 0 = some v) : WI (Mine.upd σ b o) x n mk rd ip:=by
  obtain ⟨fw,e1,F⟩:=W.d
  refine W.upd ⟨ne_obj h W.w (by simp),fun z=>?_,ne_obj h W.m (by simp),ne_obj h W.na (by simp),ne_obj h W.pr (by simp)⟩ fun p hp dd fs' q1 q2 q3=>⟨ne_obj h q1 (by simp),fun z=>?_⟩
  · rw [z,e1] at h; cases h; rw [F.lo 0 (.inl (by decide))] at h0; cases h0
  · rw [z,q2] at h; cases h; rw [q3] at h24; cases h24
theorem WI.turnL (W : WI σ x n mk rd ip) {b:Addr} {o:AObj} {xs:List V} (h : σ b = some (.list xs)) : WI (Mine.upd σ b o) x n mk rd ip:=by
  obtain ⟨fw,e1,F⟩:=W.d
  exact W.upd ⟨ne_obj h W.w (by simp),ne_obj h e1 (by simp),ne_obj h W.m (by simp),ne_obj h W.na (by simp),ne_obj h W.pr (by simp)⟩ fun p hp dd fs' q1 q2 q3=>⟨ne_obj h q1 (by simp),ne_obj h q2 (by simp)⟩
theorem text_ok (K : GK g) (hd : 92 ≤ d) {s:List Nat} (W : WI σ x n mk rd ip)
    (q : ∀ σ' n' mk' a dd m r,WI σ' x n' mk' rd ip→n + 1 ≤ n'→(∀ p ∈ mk,p ∈ mk')→Ex [x.wd,x.md] σ σ'→(nmString,m) ∈ mk'→σ a = none→σ dd = none→σ' a = some (.inst 62 dd)→σ' dd = some (.idict ((6, .str s) :: thf (.int (n + 1)) (.ref m) r))→Q (.ref a) σ') :
    UCall g d (.ref 517) [.ref x.w, .str s] Q σ:=by
  refine fnc K (by exact le_lit ‹_› (by rfl)) rfl [some (.ref x.w),some (.str s)] rfl rfl ?_
  refine s_ret (e_callu (nb K (by exact le_litp ‹_› (by rfl)) (by decide +kernel) W rfl fun σ' n' mk' m W' hn hs hm E=>?_))
  walk_at "w"
  refine new_text K (by exact le_litp ‹_› (by rfl)) fun σ₂ a dd r E₂ ha hdd h1 h2=>?_
  exact q σ₂ n' mk' a dd m r (W'.mono E₂) hn hs (E.trans E₂.nil) hm (W.none_of E ha ⟨_,_,W'⟩) (W.none_of E hdd ⟨_,_,W'⟩) h1 h2
theorem list_of_ok (K : GK g) (hd : 92 ≤ d) {il:Addr} {vs:List V} (W : WI σ x n mk rd ip) (hl : σ il = some (.list vs)) (hv : vs.length ≤ 1000000)
    (q : ∀ σ' n' mk' a dd m r l,WI σ' x n' mk' rd ip→n + 1 ≤ n'→(∀ p ∈ mk,p ∈ mk')→Ex [x.wd,x.md] σ σ'→σ a = none→σ dd = none→σ l = none→σ' a = some (.inst 82 dd)→σ' dd = some (.idict ((7, .ref l) :: thf (.int (n + 1)) (.ref m) r))→σ' l = some (.list vs)→Q (.ref a) σ') :
    UCall g d (.ref 524) [.ref x.w, .ref il] Q σ:=by
  refine fnc K (by exact le_lit ‹_› (by rfl)) rfl [some (.ref x.w),some (.ref il)] rfl rfl ?_
  refine s_ret (e_callu (nb K (by exact le_litp ‹_› (by rfl)) (by decide +kernel) W rfl fun σ' n' mk' m W' hn hs hm E=>?_))
  obtain ⟨fw,e1,F⟩:=W.d
  have hl':=E _ _ hl (by simp only [List.mem_cons,List.not_mem_nil,or_false,not_or]; exact ⟨ne_obj hl e1 (by simp),ne_obj hl W.m (by simp)⟩)
  walk_at "w"
  refine f_list hl' (by simp [big]; exact le_lit2 ‹_› (by rfl)) fun l hr=>?_
  walk_at "w"
  refine new_list K (by exact le_litp ‹_› (by rfl)) fun σ₂ a dd r E₂ ha hdd h1 h2=>?_
  have W₁:=W'.mono (Ex.new (o:=.list vs) hr)
  exact q σ₂ n' mk' a dd m r l (W₁.mono E₂) hn hs ((E.trans (Ex.new hr)).trans E₂.nil) (W.none_of (E.trans (Ex.new hr)) ha ⟨_,_,W₁⟩) (W.none_of (E.trans (Ex.new hr)) hdd ⟨_,_,W₁⟩) (W.none_of E hr ⟨_,_,W'⟩) h1 h2 (E₂.get (upd_same _ _ _))
theorem error_ok (K : GK g) (hd : 94 ≤ d) {nm s:List Nat} (hm : nm ∈ names) (W : WI σ x n mk rd ip)
    (q : ∀ σ' n' mk' a dd m r b bd m' r',WI σ' x n' mk' rd ip→(∀ p ∈ mk,p ∈ mk')→Ex [x.wd,x.md] σ σ'→(nm,m) ∈ mk'→σ' a = some (.inst 181 dd)→σ' dd = some (.idict ((23, .none) :: (22, .ref b) :: thf (.int (n + 1)) (.ref m) r))→
      σ' b = some (.inst 62 bd)→σ' bd = some (.idict ((6, .str s) :: m' ++ r'))→Q (.ref a) σ') :
    UCall g d (.ref 580) [.ref x.w, .str nm, .str s] Q σ:=by
  refine fnc K (by exact le_lit ‹_› (by rfl)) rfl [some (.ref x.w),some (.str nm),some (.str s)] rfl rfl ?_
  refine s_ret (e_callu (es_cons (um_b K W rfl rfl rfl (es_nil ?_))))
  refine number_ok K (by exact le_litp ‹_› (by rfl)) W fun σ₁ W₁ E₁=>?_
  refine es_cons (um_b K W₁ rfl rfl rfl (es_cons (e_var rfl (es_nil ?_))))
  refine builtin_ok K (by exact le_litp ‹_› (by rfl)) hm W₁ fun σ₂ n₂ mk₂ m W₂ hn2 hs2 hm2 E₂=>?_
  refine es_cons (um_b K W₂ rfl rfl rfl (es_cons (e_var rfl (es_nil ?_))))
  refine text_ok K (by exact le_litp ‹_› (by rfl)) W₂ fun σ₃ n₃ mk₃ b bd mm rr W₃ hn3 hs3 E₃ hm3 hb hbd b1 b2=>?_
  walk_at "w"
  refine new_error K (by exact le_litp ‹_› (by rfl)) (.inl rfl) fun σ₄ a dd r E₄ ha hdd h1 h2=>?_
  exact q σ₄ n₃ mk₃ a dd m r b bd [] (thf (.int (n₂ + 1)) (.ref mm) rr) (W₃.mono E₄) (fun p hp=>hs3 _ (hs2 _ hp)) ((((E₁.weak (by exact sub1 (.head _))).trans E₂).trans E₃).trans E₄.nil) (hs3 _ hm2) h1 h2 (E₄.get b1) (E₄.get b2)
theorem proc_ok (K : GK g) (hd : 94 ≤ d) {b:Bool} (W : WI σ x n mk rd ip)
    (q : ∀ σ' n' mk' a dd m fs,WI σ' x n' mk' rd ip→(∀ p ∈ mk,p ∈ mk')→Ex [x.wd,x.md] σ σ'→(nmProc,m) ∈ mk'→σ' a = some (.inst 161 dd)→σ' dd = some (.idict fs)→flk fs 1 = some (.ref m)→flk fs 20 = some (.bool b)→Q (.ref a) σ') :
    UCall g d (.ref 552) [.ref x.w, .none, .none, .none, .none, .tup [], .none, .none, .bool b, .none] Q σ:=by
  refine fnc K (by exact le_lit ‹_› (by rfl)) rfl [some (.ref x.w),some .none,some .none,some .none,some .none,some (.tup []),some .none,some .none,some (.bool b),some .none,none] rfl rfl ?_
  refine s_set (um_b K W rfl rfl rfl (es_cons (e_k (es_nil ?_))))
  refine builtin_ok K (by exact le_litp ‹_› (by rfl)) (by decide +kernel) W fun σ₂ n₂ mk₂ m W₂ hn2 hs2 hm2 E₂=>?_
  refine s_ret (e_callu (es_cons (um_b K W₂ rfl rfl rfl (es_nil ?_))))
  refine number_ok K (by exact le_litp ‹_› (by rfl)) W₂ fun σ₁ W₁ E₁=>?_
  walk_at "w"
  refine new_proc K (by exact le_litp ‹_› (by rfl)) fun σ₄ a dd fs E₄ ha hdd h1 h2 h3 h4=>?_
  exact q σ₄ _ mk₂ a dd m fs (W₁.mono E₄) hs2 ((E₂.trans (E₁.weak (by exact sub1 (.head _)))).trans E₄.nil) hm2 h1 h2 h3 h4
theorem key_of_ok (K : GK g) (hd : 94 ≤ d) {v:V} (W : WI σ x n mk rd ip) (hv : flat v = true∨∃ a C dd fs,v = .ref a∧σ a = some (.inst C dd)∧σ dd = some (.idict fs)∧clsL.contains C = true∧C ≠ 62)
    (q : Q v σ) : UCall g d (.ref 538) [.ref x.w,v] Q σ:=by
  refine fnc K (by exact le_lit ‹_› (by rfl)) rfl [some (.ref x.w),some v,none] rfl rfl ?_
  rcases hv with hv | ⟨a,C,dd,fs,rfl,h1,h2,h3,h4⟩
  · cases v <;> first | (cases hv; done) | (walk_at "w"; exact q)
  · walk_at "w"
    refine isin_i h1 h2 (by rw [h3]; rfl) ?_
    have : subB C 62 = false:=by
      unfold subB
      have h5 : (C == 62) = false:=beq_eq_false_iff_ne.mpr h4
      rw [h5,Bool.false_or]
      revert h3
      unfold clsL
      intro h3
      simp only [List.contains_iff_mem,List.mem_cons,List.not_mem_nil,or_false] at h3
      rcases h3 with rfl | rfl | rfl | rfl | rfl | rfl | rfl | rfl | rfl <;> first | rfl | (exact absurd rfl h4)
    rw [this]
    walk_at "w"
    exact q
theorem key_of_text (K : GK g) (hd : 94 ≤ d) {a dd m r:Addr} {s:List Nat} {k:Int} (W : WI σ x n mk rd ip) (h1 : σ a = some (.inst 62 dd)) (h2 : σ dd = some (.idict ((6, .str s) :: thf (.int k) (.ref m) r)))
    (q : ∀ σ' n' mk' a dd m r fs,WI σ' x n' mk' rd ip→n + 1 ≤ n'→(∀ p ∈ mk,p ∈ mk')→Ex [x.wd,x.md] σ σ'→(nmString,m) ∈ mk'→σ' a = some (.inst 62 dd)→σ' dd = some (.idict fs)→fs = aset ((6, .str s) :: thf (.int (n + 1)) (.ref m) r) 4 (.bool true)→Q (.ref a) σ') : UCall g d (.ref 538) [.ref x.w, .ref a] Q σ:=by
  refine fnc K (by exact le_lit ‹_› (by rfl)) rfl [some (.ref x.w),some (.ref a),none] rfl rfl ?_
  obtain ⟨fw,e1,F⟩:=W.d
  have e0:=W.w
  have lo6:=F.lo' (i:=6) rfl
  walk_at "w"
  refine text_ok K (by exact le_litp ‹_› (by rfl)) W fun σ₃ n₃ mk₃ b bd mm rr W₃ hn3 hs3 E₃ hm3 hb hbd b1 b2=>?_
  walk_at "w"
  have hne : b ≠ bd:=ne_obj b1 b2 (by simp)
  refine q _ n₃ mk₃ b bd mm rr _ ?_ hn3 hs3 (Ex.drop (r:=bd) ((E₃.weak (by simp)).trans (Ex.set (by exact List.mem_cons_self ..))) hbd) hm3 (upd_at hne b1) (upd_same _ _ _) rfl
  exact W₃.turnT b2 rfl rfl
end
abbrev nmIndexError:List Nat:=[73,110,100,101,120,69,114,114,111,114]
abbrev nmObject:List Nat:=[79,98,106,101,99,116]
abbrev nmException:List Nat:=[69,120,99,101,112,116,105,111,110]
noncomputable def chainK:Nat→List Nat→Option Bool
  | 0,_=>none
  | k + 1,nm=>if nm = nmException then some true else match parentOf nm with
    | none=>some false
    | some p=>chainK k p
noncomputable def flatEq:V→V→Bool
  | .none, .none=>true | .bool a, .bool b=>decide (a = b) | .int a, .int b=>decide (a = b) | .str a, .str b=>decide (a = b) | _,_=>false
section
variable {g:G} {x : Wd} {σ:Sg} {n:Int} {mk : Mk} {rd:Bool} {ip:List (List Nat)}
theorem um_w (K : GK g) (W : WI σ x n mk rd ip) {i:Nat} {k:Addr→Prop} {f:Addr} (hf : methTab 653 i = some f) (hi : ((decide (i < 35) || decide (50 ≤ i)) && decide (i < 68)) = true) (q : k f) : umW g (.ref x.w) i k σ:=by
  obtain ⟨fw,e1,F⟩:=W.d
  simp only [Bool.and_eq_true] at hi
  exact um_ok W.w e1 (F.lo' hi.1) hf hi.2 rfl q
end
section
variable {g:G} {x : Wd} {rd:Bool} {d:Nat} {σ:Sg} {Q:V→Sg→Prop} {n:Int} {mk : Mk} {ip:List (List Nat)}
theorem is_own_ok (K : GK g) (hd : 1 ≤ d) {a dd:Addr} {fs:List (Nat × V)} (h1 : σ a = some (.inst 228 dd)) (h2 : σ dd = some (.idict fs)) (h3 : flk fs 32 = some .none) (q : Q (.bool false) σ) : UCall g d (.ref 225) [.ref a] Q σ:=by
  refine fnc K (by assumption) rfl [some (.ref a)] rfl rfl ?_
  walk_at "w"
  exact q
theorem full_name_ok (K : GK g) (hd : 1 ≤ d) {a dd:Addr} {fs:List (Nat × V)} {nm:List Nat} (h1 : σ a = some (.inst 228 dd)) (h2 : σ dd = some (.idict fs)) (F : MF fs nm) (q : Q (.str nm) σ) : UCall g d (.ref 278) [.ref a] Q σ:=by
  refine fnc K (by assumption) rfl [some (.ref a)] rfl rfl ?_
  have f32:=F.f32; have f24:=F.f24; have f27:=F.f27
  walk_at "w"
  exact q
theorem root_of_ok (K : GK g) (hd : 2 ≤ d) {w a dd:Addr} {fs:List (Nat × V)} {nm:List Nat} (h1 : σ a = some (.inst 228 dd)) (h2 : σ dd = some (.idict fs)) (F : MF fs nm) (q : Q (.str nm) σ) : UCall g d (.ref 503) [.ref w, .ref a] Q σ:=by
  refine fnc K (by exact Nat.le_of_lt ‹_›) rfl [some (.ref w),some (.ref a)] rfl rfl ?_
  have f33:=F.f33; have f32:=F.f32; have f53:=F.f53
  refine s_whl (fun _ ρ' σ'=>ρ' = [some (.ref w),some (.ref a)]∧σ' = σ) 0 ⟨rfl,rfl⟩ ?_
  rintro k ρ' σ' ⟨rfl,rfl⟩
  walk_at "w"
  refine is_own_ok K (by exact Nat.le_sub_of_add_le ‹_›) h1 h2 f32 ?_
  walk_at "w"
  exact q
theorem err_ok (K : GK g) (hd : 1 ≤ d) {w a:Addr} {nm:List Nat} {k:Nat} {b:Bool} (W : WI σ x n mk rd []) (ha : (nm,a) ∈ mk) (hk : chainK k nm = some b) (q : Q (.bool b) σ) : UCall g d (.ref 566) [.ref w, .ref a] Q σ:=by
  refine fnc K (by assumption) rfl [some (.ref w),some (.ref a)] rfl rfl ?_
  refine s_whl (fun k ρ' σ'=>σ' = σ∧∃ v,ρ' = [some (.ref w),some v]∧((v = .none∧b = false)∨∃ nm a,v = .ref a∧(nm,a) ∈ mk∧chainK k nm = some b)) k ⟨rfl,_,rfl, .inr ⟨nm,a,rfl,ha,hk⟩⟩ ?_
  rintro k ρ' σ' ⟨rfl,v,rfl,h⟩
  rcases h with ⟨rfl,rfl⟩ | ⟨nm,a,rfl,ha,hk⟩
  · walk_at "w"
    exact q
  · obtain ⟨dd,fs,e1,e2,F,hp⟩:=(W.md _ ha).ex
    have f33:=F.f33
    have hp : PF fs mk nm:=by
      rcases hp with h | h
      · cases h
      · exact h
    walk_at "w"
    cases k with
    | zero=>cases hk
    | succ k=>
      unfold chainK at hk
      refine if_d (fun e=>?_) fun e=>?_
      · rw [if_pos e] at hk; cases hk
        walk_at "w"
        exact q
      · rw [if_neg e] at hk
        unfold PF at hp
        cases hpar : parentOf nm with
        | none=>
          rw [hpar] at hp hk; cases hk
          walk_at "w"
          exact ⟨0,by exact Nat.succ_pos _,rfl,_,rfl, .inl ⟨rfl,rfl⟩⟩
        | some p=>
          rw [hpar] at hp hk
          obtain ⟨c,f26,hc⟩:=hp
          walk_at "w"
          exact ⟨k,by exact Nat.lt_succ_self _,rfl,_,rfl, .inr ⟨p,c,rfl,hc,hk⟩⟩
theorem class_int (K : GK g) (hd : 91 ≤ d) {i:Int} (W : WI σ x n mk rd ip)
    (q : ∀ σ' n' mk' a,WI σ' x n' mk' rd ip→n ≤ n'→(∀ p ∈ mk,p ∈ mk')→(nmInteger,a) ∈ mk'→Ex [x.wd,x.md] σ σ'→Q (.ref a) σ') : UCall g d (.ref 482) [.ref x.w, .int i] Q σ:=by
  refine fnc K (by exact le_lit ‹_› (by rfl)) rfl [some (.ref x.w),some (.int i)] rfl rfl ?_
  obtain ⟨fw,e1,F⟩:=W.d
  have e0:=W.w
  have lo:=F.lo' (i:=54) rfl
  walk_at "w"
  exact builtin_ok K (by exact Nat.le_sub_of_add_le ‹_›) (by decide +kernel) W q
theorem class_ref (K : GK g) (hd : 1 ≤ d) {w a C dd:Addr} {v:V} {fs:List (Nat × V)} (h1 : σ a = some (.inst C dd)) (h2 : σ dd = some (.idict fs)) (h3 : clsL.contains C = true) (h4 : attOk C 1 = true) (h5 : flk fs 1 = some v) (hv : handed v = true) (q : Q v σ) : UCall g d (.ref 482) [.ref w, .ref a] Q σ:=by
  refine fnc K (by assumption) rfl [some (.ref w),some (.ref a)] rfl rfl ?_
  walk_at "w"
  exact q
theorem c_eqn (q : Q (.bool true) σ) : cmpW g .Eq .none .none Q σ:=.c_eqd .none .none rfl rfl q
theorem same_flat (K : GK g) (hd : 2 ≤ d) {v u:V} (hv : flat v = true) (hu : flat u = true) (q : Q (.bool (flatEq v u)) σ) : UCall g d (.ref 244) [v,u] Q σ:=by
  refine fnc K (by exact Nat.le_of_lt ‹_›) rfl [some v,some u,none] rfl rfl ?_
  walk_at "w"
  refine sort_plain K (by exact Nat.le_sub_of_add_le ‹_›) hv ?_
  walk_at "w"
  refine sort_plain K (by exact Nat.le_sub_of_add_le ‹_›) hu ?_
  cases v <;> first | (cases hv; done) | skip
  all_goals (cases u <;> first | (cases hu; done) | (walk_at "w"; exact q) | (walk_at "w"; exact c_eqn q))
theorem same_things (K : GK g) (hd : 2 ≤ d) {a b C C' dd dd' : Addr} {fs fs' : List (Nat × V)} {i j:Int} (h1 : σ a = some (.inst C dd)) (h2 : σ dd = some (.idict fs)) (h3 : clsL.contains C = true) (h4 : attOk C 0 = true) (h5 : flk fs 0 = some (.int i))
    (k1 : σ b = some (.inst C' dd')) (k2 : σ dd' = some (.idict fs')) (k3 : clsL.contains C' = true) (k4 : attOk C' 0 = true) (k5 : flk fs' 0 = some (.int j)) (q : Q (.bool (decide (i = j))) σ) : UCall g d (.ref 244) [.ref a, .ref b] Q σ:=by
  refine fnc K (by exact Nat.le_of_lt ‹_›) rfl [some (.ref a),some (.ref b),none] rfl rfl ?_
  walk_at "w"
  refine sort_thing K (by exact Nat.le_sub_of_add_le ‹_›) h1 h2 h3 ?_
  walk_at "w"
  refine sort_thing K (by exact Nat.le_sub_of_add_le ‹_›) k1 k2 k3 ?_
  walk_at "w"
  exact q
theorem thing_index (K : GK g) (hd : 94 ≤ d) {a:Addr} (W : WI σ x n mk rd []) (ha : (nmIndexError,a) ∈ mk)
    (q : ∀ σ' b dd r,WI σ' x (n + 1) mk rd []→Ex [x.wd,x.md] σ σ'→σ' b = some (.inst 181 dd)→σ' dd = some (.idict ((23, .none) :: (22, .none) :: thf (.int (n + 1)) (.ref a) r))→Q (.ref b) σ') : UCall g d (.ref 559) [.ref x.w, .ref a] Q σ:=by
  refine fnc K (by exact le_lit ‹_› (by rfl)) rfl [some (.ref x.w),some (.ref a),none,none] rfl rfl ?_
  obtain ⟨dd,fs,e1,e2,F,hp⟩:=(W.md _ ha).ex
  have f53:=F.f53
  walk_at "w"
  refine is_own_ok K (by exact le_litp ‹_› (by rfl)) e1 e2 F.f32 ?_
  walk_at "w"
  refine um_w K W rfl rfl ?_
  walk_at "w"
  refine root_of_ok K (by exact le_litp ‹_› (by rfl)) e1 e2 F ?_
  refine es_cons (um_b K W rfl rfl rfl (es_nil ?_))
  refine number_ok K (by exact le_litp ‹_› (by rfl)) W fun σ₁ W₁ E₁=>?_
  walk_at "w"
  refine ⟨rfl,?_⟩
  walk_at "w"
  refine um_w K W₁ rfl rfl ?_
  walk_at "w"
  refine err_ok K (k:=10) (b:=true) (by exact le_litp ‹_› (by rfl)) W₁ ha (by decide +kernel) ?_
  walk_at "w"
  refine new_error K (by exact le_litp ‹_› (by rfl)) (.inr ⟨rfl,rfl⟩) fun σ₄ b bd r E₄ hb hbd h1 h2=>?_
  exact q σ₄ b bd r (W₁.mono E₄) ((E₁.weak (by exact sub1 (.head _))).trans E₄.nil) h1 h2
theorem thing_object (K : GK g) (hd : 94 ≤ d) {a:Addr} (W : WI σ x n mk rd []) (ha : (nmObject,a) ∈ mk)
    (q : ∀ σ' b dd r,WI σ' x (n + 1) mk rd []→Ex [x.wd,x.md] σ σ'→σ' b = some (.inst 40 dd)→σ' dd = some (.idict (thf (.int (n + 1)) (.ref a) r))→Q (.ref b) σ') : UCall g d (.ref 559) [.ref x.w, .ref a] Q σ:=by
  refine fnc K (by exact le_lit ‹_› (by rfl)) rfl [some (.ref x.w),some (.ref a),none,none] rfl rfl ?_
  obtain ⟨dd,fs,e1,e2,F,hp⟩:=(W.md _ ha).ex
  have f53:=F.f53
  walk_at "w"
  refine is_own_ok K (by exact le_litp ‹_› (by rfl)) e1 e2 F.f32 ?_
  walk_at "w"
  refine um_w K W rfl rfl ?_
  walk_at "w"
  refine root_of_ok K (by exact le_litp ‹_› (by rfl)) e1 e2 F ?_
  refine es_cons (um_b K W rfl rfl rfl (es_nil ?_))
  refine number_ok K (by exact le_litp ‹_› (by rfl)) W fun σ₁ W₁ E₁=>?_
  walk_at "w"
  refine ⟨rfl,?_⟩
  walk_at "w"
  refine um_w K W₁ rfl rfl ?_
  walk_at "w"
  refine err_ok K (k:=10) (b:=false) (by exact le_litp ‹_› (by rfl)) W₁ ha (by decide +kernel) ?_
  walk_at "w"
  refine new_thing K (by exact le_litp ‹_› (by rfl)) fun σ₄ b bd r E₄ hb hbd h1 h2=>?_
  exact q σ₄ b bd r (W₁.mono E₄) ((E₁.weak (by exact sub1 (.head _))).trans E₄.nil) h1 h2
end
theorem flk_none : ∀ {fs:List (Nat × V)} {i:Nat},(∀ p ∈ fs,p.1 ≠ i)→flk fs i = none
  | [],_,_=>rfl
  | (j,y) :: r,i,h=>by
    have h1:=h (j,y) (List.mem_cons_self ..)
    show (match Nat.beq i j with | true=>some y | false=>flk r i) = none
    cases e:Nat.beq i j with
    | true=>exact absurd (Nat.eq_of_beq_eq_true e).symm h1
    | false=>exact flk_none fun p hp=>h p (List.mem_cons_of_mem _ hp)
theorem lo_of {fs:List (Nat × V)} (h : (fs.all fun p=>Nat.ble 35 p.1 && Nat.ble p.1 49) = true) : ∀ i,(i < 35∨50 ≤ i)→flk fs i = none:=fun i hi=>flk_none fun p hp=>by
  have:=List.all_eq_true.mp h p hp
  simp only [Bool.and_eq_true,Nat.ble_eq] at this
  lia
section
variable {g:G} {x : Wd} {d:Nat} {σ:Sg} {Q:V→Sg→Prop} {n:Int} {mk : Mk} {ip:List (List Nat)}
theorem flk_cons_ne {fs:List (Nat × V)} {i j:Nat} {v:V} (h:Nat.beq j i = false) : flk ((i,v) :: fs) j = flk fs j:=by
  show (match Nat.beq j i with | true=>some v | false=>flk fs j) = _
  rw [h]
theorem WF.ready {fs} {v:V} (F : WF fs x n false) : WF (aset (aset fs 49 v) 48 (.bool true)) x n true:=by
  refine ⟨?_,fun j hj=>?_,?_,?_,?_,?_,?_⟩
  · have h1:=aset_le (aset fs 49 v) 48 (.bool true)
    have h2:=aset_le fs 49 v
    have:=F.len
    simp at this ⊢; lia
  · rw [flk_aset,flk_aset,if_neg (by lia),if_neg (by lia)]; exact F.lo j hj
  · rw [flk_aset,flk_aset]; exact F.f35
  · rw [flk_aset,flk_aset]; exact F.f36
  · rw [flk_aset,flk_aset]; exact F.f40
  · rw [flk_aset,flk_aset]; exact F.f43
  · rw [flk_aset]; rfl
theorem um_w' (K : GK g) {σ₁:Sg} {rd:Bool} (W : WI σ x n mk rd ip) (E : Ex [x.wd] σ₁ σ) {i:Nat} {k:Addr→Prop} {f:Addr} (hf : methTab 653 i = some f) (hi : ((decide (i < 35) || decide (50 ≤ i)) && decide (i < 68)) = true) (q : WI σ x n mk rd ip→Ex [x.wd] σ₁ σ→k f) : umW g (.ref x.w) i k σ:=
  um_w K W hf hi (q W E)
theorem world_ok (K : GK g) (hd : 100 ≤ d) {na:Addr} (hna : σ na = some (.sdict [])) (q : ∀ σ' x n mk,WI σ' x n mk true []→0 ≤ n→Ex [] σ σ'→Q (.ref x.w) σ') : UCall g d (.ref 653) [.ref na] Q σ:=by
  refine cls_new K (by exact le_lit ‹_› (by rfl)) (i:=413) rfl fun w wd hw hwd hne=>?_
  refine fnc K (by exact le_litp ‹_› (by rfl)) rfl [some (.ref w),some (.ref na),some .none,some .none,some (.int 20000),none] rfl rfl ?_
  have e0 : (upd (upd σ wd (.idict [])) w (.inst 653 wd)) w = some (.inst 653 wd):=upd_same _ _ _
  have e1 : (upd (upd σ wd (.idict [])) w (.inst 653 wd)) wd = some (.idict []):=upd_at hne.symm (upd_same _ _ _)
  have e2 : (upd (upd σ wd (.idict [])) w (.inst 653 wd)) na = some (.sdict []):=upd_at (ne_some hna hw) (upd_at (ne_some hna hwd) hna)
  have E0 : ∀ σ₂,Ex [wd] (upd (upd σ wd (.idict [])) w (.inst 653 wd)) σ₂→Ex [] σ σ₂:=fun σ₂ x=>Ex.made hw hwd x
  generalize (upd (upd σ wd (.idict [])) w (.inst 653 wd)) = σ₁ at *
  have k1 : na ≠ wd:=ne_obj e2 e1 (by simp)
  walk_at "w"
  intro pr hpr
  have p0:=ne_some (by walk_at "lk") hpr (a:=w) (o:=.inst 653 wd)
  have p1:=ne_some (upd_same _ _ _) hpr (a:=wd)
  walk_at "w"
  intro si hsi
  have s0:=ne_some (by walk_at "lk") hsi (a:=w) (o:=.inst 653 wd)
  have s1:=ne_some (upd_same _ _ _) hsi (a:=wd)
  walk_at "w"
  intro md hmd
  have m0:=ne_some (by walk_at "lk") hmd (a:=w) (o:=.inst 653 wd)
  have m1:=ne_some (upd_same _ _ _) hmd (a:=wd)
  have m2:=ne_some (by walk_at "lk") hmd (a:=na) (o:=.sdict [])
  have m3:=ne_some (by walk_at "lk") hmd (a:=pr) (o:=.sdict [])
  have m4 : σ₁ md = none:=Ex.fresh (S:=[wd]) (by walk_at "ex") hmd (by exact nin1 m1.symm)
  walk_at "w"
  intro gl hgl
  have g0:=ne_some (by walk_at "lk") hgl (a:=w) (o:=.inst 653 wd)
  have g1:=ne_some (upd_same _ _ _) hgl (a:=wd)
  walk_at "w"
  intro ou hou
  have o0:=ne_some (by walk_at "lk") hou (a:=w) (o:=.inst 653 wd)
  have o1:=ne_some (upd_same _ _ _) hou (a:=wd)
  walk_at "w"
  have key : ∀ (σ' : Sg) (k:V→Sg→Prop),σ' w = some (.inst 653 wd)→(∃ fs,σ' wd = some (.idict fs)∧WF fs ⟨w,wd,md,na,pr⟩ 0 false)→σ' md = some (.sdict [])→σ' na = some (.sdict [])→σ' pr = some (.sdict [])→Ex [wd] σ₁ σ'→
      (WI σ' ⟨w,wd,md,na,pr⟩ 0 [] false []→Ex [wd] σ₁ σ'→UCall g (d - 1 - 1) (.ref 434) [.ref w] k σ')→UCall g (d - 1 - 1) (.ref 434) [.ref w] k σ':=fun σ' k a1 a2 a3 a4 a5 a6 q=>by
    have W : WI σ' ⟨w,wd,md,na,pr⟩ 0 [] false []:=⟨a1,a2,a3,a4,a5,by simp,by decide,by simp,m2,m3⟩
    exact q W a6
  refine key _ _ (by walk_at "lk") ⟨_,upd_same _ _ _,⟨shortL_iff.mp rfl,lo_of rfl,rfl,rfl,rfl,rfl,rfl⟩⟩ (by walk_at "lk") (by walk_at "lk") (by walk_at "lk") (by walk_at "ex") ?_
  clear key
  generalize (upd _ _ _:Sg) = σc
  intro W₀ E₁
  clear hou hgl hmd hsi hpr e0 e1 e2
  refine number_ok K (by exact le_litq ‹_› (by rfl)) W₀ fun σ₂ W₂ E₂=>?_
  walk_at "w"
  refine um_w K W₂ rfl rfl ?_
  walk_at "w"
  refine builtin_ok K (by exact le_litq ‹_› (by rfl)) (by decide +kernel) W₂ fun σ₃ n₃ mk₃ m W₃ hn3 hs3 hm3 E₃=>?_
  walk_at "w"
  refine new_thing K (by exact le_litq ‹_› (by rfl)) fun σ₄ a dd r E₄ ha hdd h1 h2=>?_
  have W₄:=W₃.mono E₄
  have E40 : Ex [wd,md] σ₁ σ₄:=(((E₁.weak (by exact sub1 (.head _))).trans (E₂.weak (by exact sub1 (.head _)))).trans E₃).trans E₄.nil
  obtain ⟨fs4,b1,F4⟩:=W₄.d
  have b0:=W₄.w
  dsimp only at b0 b1
  refine setAttr_ok b0 b1 rfl (shortL_iff.mpr (Nat.le_trans F4.len' (by decide))) ?_
  refine s_setAt (e_k (e_var rfl ?_))
  refine setAttr_ok (upd_at hne b0) (upd_same _ _ _) rfl (shortL_iff.mpr (by have:=aset_le fs4 49 (.ref a); have:=F4.len'; lia)) ?_
  have W₅:=W₄.step (rd':=true) (n':=n₃) (σ':=upd (upd σ₄ wd (.idict (aset fs4 49 (.ref a)))) wd (.idict (aset (aset fs4 49 (.ref a)) 48 (.bool true)))) (by walk_at "ex") ⟨_,upd_same _ _ _,F4.ready⟩ (upd_at m1.symm (upd_at m1.symm W₄.m))
  have E₅ : Ex [wd,md] σ₁ (upd (upd σ₄ wd (.idict (aset fs4 49 (.ref a)))) wd (.idict (aset (aset fs4 49 (.ref a)) 48 (.bool true)))):=E40.trans (by walk_at "ex")
  generalize (upd (upd σ₄ wd (.idict (aset fs4 49 (.ref a)))) wd (.idict (aset (aset fs4 49 (.ref a)) 48 (.bool true)))) = σ₅ at *
  obtain ⟨fs5,c1,F5⟩:=W₅.d
  have c0:=W₅.w; have c43:=F5.f43; have c2:=W₅.m
  dsimp only at c0 c1 c2 c43
  walk_at "w"
  refine f_listd c2 (by simp [mkV]; have:=W₅.len; simp [big]; exact le_lit2 ‹_› (by rfl)) fun l hl=>?_
  have W₆:=W₅.mono (Ex.new (o:=.list ((mkV mk₃).map fun p=>.str p.1)) hl)
  refine src_l (upd_same _ _ _) ⟨by simp [mkV]; have:=W₅.len; simp [big]; exact le_lit2 ‹_› (by rfl),?_⟩
  dsimp only
  have E₆ : Ex [] σ (upd σ₅ l (.list ((mkV mk₃).map fun p=>.str p.1))):=by
    exact E0 _ ((Ex.drop (r:=md) (S:=[wd]) (E₅.weak (by simp)) m4).trans (Ex.new hl))
  have c6 : (upd σ₅ l (.list ((mkV mk₃).map fun p=>.str p.1))) l = some (.list ((mkV mk₃).map fun p=>.str p.1)):=upd_same _ _ _
  generalize (upd σ₅ l (.list ((mkV mk₃).map fun p=>.str p.1))) = σ₆ at *
  refine forW_rule (fun ys ρ' σ'=>σ' = σ₆∧(∃ v,ρ' = [some (.ref w),some (.ref na),some .none,some .none,some (.int 20000),v])∧∀ y ∈ ys, ∃ s ∈ names,y = V.str s) (fun ys ρ' σ' h=>?_) (fun y ys ρ' σ' Kc h hK=>?_) (fun ρ' σ' h=>?_) ⟨rfl,⟨_,rfl⟩,fun y hy=>?_⟩
  · rw [h.1]; exact src_l' c6
  · obtain ⟨rfl,⟨v,rfl⟩,hy⟩:=h
    obtain ⟨s,hs,rfl⟩:=hy y (List.mem_cons_self ..)
    show wpSs g _ _ [some (.ref w),some (.ref na),some .none,some .none,some (.int 20000),some (.str s)] _ _ _
    have hnl : s.length ≤ 100:=by
      have h2 : (names.all fun p=>decide (p.length ≤ 100)) = true:=by decide +kernel
      simpa using List.all_eq_true.mp h2 s hs
    obtain ⟨fs6,u1,F6⟩:=W₆.d
    have u0:=W₆.w; have u56:=F6.lo' (i:=56) rfl
    dsimp only at u0 u1
    walk_at "w"
    refine give_own_ok K (by exact le_litq ‹_› (by rfl)) W₆ hnl ⟨rfl,?_⟩
    walk_at "w"
    exact hK _ _ ⟨rfl,⟨_,rfl⟩,fun z hz=>hy z (List.mem_cons_of_mem _ hz)⟩
  · obtain ⟨rfl,_,_⟩:=h
    walk_at "w"
    exact ⟨rfl,q σ' _ n₃ mk₃ W₆ (by exact Int.le_of_lt ‹_›) E₆⟩
  · obtain ⟨p,hp,rfl⟩:=List.mem_map.mp hy
    obtain ⟨z,hz,rfl⟩:=List.mem_map.mp hp
    exact ⟨_,W₅.nm z hz,rfl⟩
end
noncomputable def okC (c:Nat):Bool:=Unicode.isAlnum c || c == 95
noncomputable def isWord:List Nat→Bool
  | []=>false
  | c :: r=>!Unicode.isDigit c && (c :: r).all okC
noncomputable def isLabel (s:List Nat):Bool:=isWord (if sliceL (some (-1)) none s ∈ ([[63],[33]] : List (List Nat)) then sliceL none (some (-1)) s else s)
noncomputable def opsL:List (List Nat):=[[43],[45],[42],[47],[37],[42,42],[61,61],[33,61],[60],[62],[60,61],[62,61],[60,61,62],[61,61,61],[91,93],[91,93,61],[60,60],[62,62],[33],[126],[43,64],[45,64],[38],[124],[94],[61,126],[33,126]]
noncomputable def plainSym (s:List Nat):Bool:=if s ∈ opsL then true else if sliceL none (some 2) s = [64,64] then isWord (sliceL (some 2) none s) else if sliceL none (some 1) s ∈ ([[64],[36]] : List (List Nat)) then isWord (sliceL (some 1) none s)
  else isWord (if sliceL (some (-1)) none s ∈ ([[63],[33],[61]] : List (List Nat)) then sliceL none (some (-1)) s else s)
noncomputable def escTab:List (Nat × List Nat):=[(92,[92,92]),(34,[92,34]),(10,[92,110]),(9,[92,116]),(13,[92,114]),(27,[92,101]),(7,[92,97]),(8,[92,98]),(11,[92,118]),(12,[92,102]),(127,[92,120,55,70])]
noncomputable def showL (c:Nat) (f:List Nat):List Nat:=match escTab.find? fun p=>p.1 == c with
  | some p=>p.2
  | none=>if c = 35∧f ∈ ([[123],[36],[64]] : List (List Nat)) then [92,35] else if c < 32∨(127 < c∧c < 160) then [92,117,48,48] ++ [hexS.getD (c / 16) 0] ++ [hexS.getD (c % 16) 0] else [c]
noncomputable def showB:List Nat→List Nat
  | []=>[]
  | c :: r=>showL c (r.take 1) ++ showB r
noncomputable def showT (s:List Nat):List Nat:=[34] ++ showB s ++ [34]
noncomputable def symS (s:List Nat):List Nat:=[58] ++ (if plainSym s = true then s else showT s)
set_option tactic.hygienic true in
theorem showL_len (c:Nat) (f:List Nat) : (showL c f).length ≤ 6∧1 ≤ (showL c f).length:=by
  unfold showL
  split
  · rename_i p e
    have h:=List.mem_of_find?_eq_some e
    have : (escTab.all fun p=>decide (p.2.length ≤ 6) && decide (1 ≤ p.2.length)) = true:=by decide
    have:=List.all_eq_true.mp this p h
    simpa using this
  · split
    · simp
    · split <;> simp
theorem showB_len : ∀ s:List Nat,(showB s).length ≤ 6 * s.length
  | []=>by simp [showB]
  | c :: r=>by
    have:=showB_len r
    have:=(showL_len c (r.take 1)).1
    simp only [showB,List.length_append,List.length_cons]; lia
theorem showT_len (s:List Nat) : (showT s).length ≤ 6 * s.length + 2:=by
  have:=showB_len s
  unfold showT; simp; assumption
theorem find_esc (c:Nat) : (escT.find? fun p=>decide (p.1 = [c])) = (escTab.find? fun p=>p.1 == c).map fun p=>([p.1], .str p.2):=by
  have : escT = escTab.map fun p=>([p.1],V.str p.2):=rfl
  rw [this]
  generalize escTab = l
  induction l with
  | nil=>rfl
  | cons p r ih=>
    simp only [List.map_cons,List.find?_cons]
    have : decide ([p.1] = [c]) = (p.1 == c):=by
      by_cases h : p.1 = c
      · simp [h]
      · simp [h]
    rw [this]
    cases p.1 == c
    · exact ih
    · rfl
theorem mem_esc (c:Nat) : decide ([c] ∈ escT.map (·.1)) = (escTab.find? fun p=>p.1 == c).isSome:=by
  have:=find_esc c
  cases e : escTab.find? fun p=>p.1 == c with
  | none=>
    rw [e] at this
    simp only [Option.map_none] at this
    rw [List.find?_eq_none] at this
    refine decide_eq_false fun h=>?_
    obtain ⟨p,hp,e'⟩:=List.mem_map.mp h
    exact this p hp (by simpa using e')
  | some p=>
    rw [e] at this
    simp only [Option.map_some] at this
    have h1:=List.mem_of_find?_eq_some this
    have h2:=List.find?_some this
    exact decide_eq_true (List.mem_map.mpr ⟨_,h1,by exact of_decide_eq_true h2⟩)
section
variable {g:G} {d:Nat} {σ:Sg} {Q:V→Sg→Prop}
theorem is_word_ok (K : GK g) (hd : 1 ≤ d) {s:List Nat} (hs : s.length ≤ 1000) (q : Q (.bool (isWord s)) σ) : UCall g d (.ref 257) [.str s] Q σ:=by
  refine fnc K (by assumption) rfl [some (.str s),none] rfl rfl ?_
  walk_at "w"
  cases s with
  | nil=>walk_at "w"; exact q
  | cons c r=>
    walk_at "w"
    refine ix_s (c:=c) rfl ⟨by decide,by decide⟩ ?_
    walk_at "w"
    have q1 : ∀ b,b = (!Unicode.isDigit c && (c :: r).all okC)→Q (.bool b) σ:=fun b e=>by rw [e]; exact q
    simp only [List.length_cons,List.length_nil,List.all_cons,List.all_nil,Bool.and_true,Nat.zero_add,Nat.lt_add_one,decide_true,Bool.true_and]
    refine if_b (fun h=>?_) fun h=>?_
    · walk_at "w"
      exact q1 _ (by rw [h]; rfl)
    · rw [h] at q1
      walk_at "w"
      walk_at "w"
      refine src_s ⟨by simp [big] at hs ⊢; exact le_lit2 ‹_› (by rfl),?_⟩
      refine forW_rule (fun ys ρ' σ'=>σ' = σ∧(∃ v,ρ' = [some (.str (c :: r)),v])∧∃ t:List Nat,ys = t.map (fun c=>V.str [c])∧(c :: r).all okC = t.all okC) (fun ys ρ' σ' h=>rfl) (fun y ys ρ' σ' Kc h hK=>?_) (fun ρ' σ' h=>?_) ⟨rfl,⟨_,rfl⟩,_,rfl,rfl⟩
      · obtain ⟨rfl,⟨v,rfl⟩,t,e,ht⟩:=h
        cases t with
        | nil=>cases e
        | cons z t=>
          cases e
          show wpSs g _ _ [some (.str (c :: r)),some (.str [z])] _ _ _
          walk_at "w"
          simp only [List.length_cons,List.length_nil,List.all_cons,List.all_nil,Bool.and_true,Nat.zero_add,Nat.lt_add_one,decide_true,Bool.true_and]
          have ho : okC z = (Unicode.isAlnum z || decide ([z] = [95])):=by
            unfold okC
            by_cases h : z = 95 <;> simp [h]
          have ht : (c :: r).all okC = (okC z && t.all okC):=ht
          rw [ho] at ht
          refine if_b (fun h1=>?_) fun h1=>?_
          · walk_at "w"
            exact hK _ _ ⟨rfl,⟨_,rfl⟩,t,rfl,by rw [ht,h1]; rfl⟩
          · walk_at "w"
            refine if_b (fun h2=>?_) fun h2=>?_
            · walk_at "w"
              refine q1 _ ?_
              rw [ht,h1]
              simp only [Bool.not_eq_true'] at h2
              rw [h2]; rfl
            · walk_at "w"
              refine hK _ _ ⟨rfl,⟨_,rfl⟩,t,rfl,?_⟩
              rw [ht]
              simp only [Bool.not_eq_false'] at h2
              rw [h2,Bool.or_true,Bool.true_and]
      · obtain ⟨rfl,⟨v,rfl⟩,t,e,ht⟩:=h
        cases t with
        | cons z t=>cases e
        | nil=>
          walk_at "w"
          exact q1 _ (by rw [ht]; rfl)
theorem sliceL_le {α : Type} (lo hi:Option Int) (l:List α) : (sliceL lo hi l).length ≤ l.length:=sliceL_length lo hi l
theorem is_label_ok (K : GK g) (hd : 2 ≤ d) {s:List Nat} (hs : s.length ≤ 1000) (q : Q (.bool (isLabel s)) σ) : UCall g d (.ref 264) [.str s] Q σ:=by
  refine fnc K (by exact Nat.le_of_lt ‹_›) rfl [some (.str s)] rfl rfl ?_
  have hb : s.length ≤ big:=by simp [big]; exact le_lit2 ‹_› (by rfl)
  walk_at "w"
  refine sl_s rfl rfl hb ?_
  walk_at "w"
  unfold isLabel at q
  refine if_d (fun h=>?_) fun h=>?_
  · rw [if_pos h] at q
    walk_at "w"
    refine sl_s rfl rfl hb ?_
    walk_at "w"
    exact is_word_ok K (by exact Nat.le_sub_of_add_le ‹_›) (by have:=sliceL_le none (some (-1)) s; exact Nat.le_trans ‹_› ‹_›) q
  · rw [if_neg h] at q
    walk_at "w"
    exact is_word_ok K (by exact Nat.le_sub_of_add_le ‹_›) hs q
theorem plain_sym_ok (K : GK g) (hd : 2 ≤ d) {s:List Nat} (hs : s.length ≤ 1000) (q : Q (.bool (plainSym s)) σ) : UCall g d (.ref 271) [.str s] Q σ:=by
  refine fnc K (by exact Nat.le_of_lt ‹_›) rfl [some (.str s)] rfl rfl ?_
  have hb : s.length ≤ big:=by simp [big]; exact le_lit2 ‹_› (by rfl)
  unfold plainSym at q
  walk_at "w"
  refine if_d (fun h=>?_) fun h=>?_
  · rw [if_pos (show s ∈ opsL from h)] at q
    walk_at "w"; exact q
  rw [if_neg (show ¬ s ∈ opsL from h)] at q
  walk_at "w"
  refine sl_s rfl rfl hb ?_
  walk_at "w"
  refine if_d (fun h=>?_) fun h=>?_
  · rw [if_pos h] at q
    walk_at "w"
    refine sl_s rfl rfl hb ?_
    walk_at "w"
    exact is_word_ok K (by exact Nat.le_sub_of_add_le ‹_›) (by have:=sliceL_le (some 2) none s; exact Nat.le_trans ‹_› ‹_›) q
  rw [if_neg h] at q
  walk_at "w"
  refine sl_s rfl rfl hb ?_
  walk_at "w"
  refine if_d (fun h=>?_) fun h=>?_
  · rw [if_pos h] at q
    walk_at "w"
    refine sl_s rfl rfl hb ?_
    walk_at "w"
    exact is_word_ok K (by exact Nat.le_sub_of_add_le ‹_›) (by have:=sliceL_le (some 1) none s; exact Nat.le_trans ‹_› ‹_›) q
  rw [if_neg h] at q
  walk_at "w"
  refine sl_s rfl rfl hb ?_
  walk_at "w"
  refine if_d (fun h=>?_) fun h=>?_
  · rw [if_pos h] at q
    walk_at "w"
    refine sl_s rfl rfl hb ?_
    walk_at "w"
    exact is_word_ok K (by exact Nat.le_sub_of_add_le ‹_›) (by have:=sliceL_le none (some (-1)) s; exact Nat.le_trans ‹_› ‹_›) q
  · rw [if_neg h] at q
    walk_at "w"
    exact is_word_ok K (by exact Nat.le_sub_of_add_le ‹_›) hs q
end
section
variable {g:G} {d:Nat} {σ:Sg} {Q:V→Sg→Prop}
theorem hex_at {n:Nat} (h : n < 16) : ([48,49,50,51,52,53,54,55,56,57,65,66,67,68,69,70] : List Nat)[((n:Int)).toNat]? = some (hexS.getD n 0):=by
  have : ∀ n : Fin 16,([48,49,50,51,52,53,54,55,56,57,65,66,67,68,69,70] : List Nat)[((n.val:Int)).toNat]? = some (hexS.getD n.val 0):=by decide
  exact this ⟨n,h⟩
theorem show_letter_ok (K : GK g) (hd : 1 ≤ d) {c:Nat} {f:List Nat} (hc : c < 1114112) (q : Q (.str (showL c f)) σ) : UCall g d (.ref 285) [.str [c], .str f] Q σ:=by
  refine fnc K (by assumption) rfl [some (.str [c]),some (.str f),none,none] rfl rfl ?_
  walk_at "w"
  refine c_inb K.esc ?_
  rw [mem_esc]
  unfold showL at q
  walk_at "w"
  cases e : escTab.find? fun p=>p.1 == c with
  | some p=>
    rw [e] at q
    walk_at "w"
    refine ix_b K.esc ((find_esc c).trans (by rw [e]; rfl)) ?_
    exact q
  | none=>
    rw [e] at q
    dsimp only at q
    walk_at "w"
    have h1 : decide ([c] = [35]) = decide (c = 35):=by by_cases h : c = 35 <;> simp [h]
    rw [h1]
    refine if_d (fun h=>?_) fun h=>?_
    · walk_at "w"
      refine if_d (fun h2=>?_) fun h2=>?_
      · rw [if_pos ⟨h,h2⟩] at q
        walk_at "w"; exact q
      · rw [if_neg (fun z=>h2 z.2)] at q
        subst h
        rw [if_neg (by decide)] at q
        walk_at "w"; exact q
    · rw [if_neg (fun z=>h z.1)] at q
      walk_at "w"
      have fin : (¬ (c < 32∨127 < c∧c < 160))→Q (.str [c]) σ:=fun hn=>by rw [if_neg hn] at q; exact q
      have hex : (c < 32∨127 < c∧c < 160)→wpSs g d (CSs.cons (.set 3 (.k (.str [48,49,50,51,52,53,54,55,56,57,65,66,67,68,69,70]))) (.cons (.ret (.bin .Add (.bin .Add (.k (.str [92,117,48,48])) (.idx (.var 3) (.bin .FloorDiv (.var 2) (.k (.int 16))))) (.idx (.var 3) (.bin .Mod (.var 2) (.k (.int 16)))))) .nil))
          (rset [some (.str [c]),some (.str f),none,none] 2 (.int c)) (fun ρ' σ'=>wpSs g d (.cons (.ret (.var 0)) .nil) ρ' (fun x σ'=>Q V.none σ') Q σ') Q σ:=fun hp=>by
        rw [if_pos hp] at q
        have hlt : c < 160:=by lia
        have e1 : (c:Int) / 16 = ((c / 16:Nat):Int):=by rfl
        have e2 : (c:Int) % 16 = ((c % 16:Nat):Int):=by rfl
        walk_at "w"
        refine b_div ⟨by decide,by decide,by exact Int.ofNat_nonneg _,by lia⟩ ?_
        rw [e1]
        refine ix_s (hex_at (by lia)) ⟨by exact Int.ofNat_nonneg _,by lia⟩ ?_
        refine b_adds (by simp [big]) ?_
        walk_at "w"
        refine b_mod (by decide) ?_
        rw [e2]
        refine ix_s (hex_at (by lia)) ⟨by exact Int.ofNat_nonneg _,by lia⟩ ?_
        refine b_adds (by simp [big]) ?_
        exact q
      refine if_d (fun h2=>?_) fun h2=>?_
      · walk_at "w"
        exact hex (.inl (by lia))
      · walk_at "w"
        walk_at "w"
        refine if_d (fun h3=>?_) fun h3=>?_
        · walk_at "w"
          refine if_d (fun h4=>?_) fun h4=>?_
          · exact hex (.inr ⟨by lia,by lia⟩)
          · walk_at "w"
            exact fin (by omega)
        · walk_at "w"
          exact fin (by omega)
theorem strsOf_map (ts:List (List Nat)) : strsOf (ts.map .str) = some ts:=by
  induction ts with
  | nil=>rfl
  | cons a r ih=>show (strsOf (r.map .str)).map (a :: ·) = _; rw [ih]; rfl
theorem joinL_nil : ∀ ts:List (List Nat),joinL [] ts = ts.flatten
  | []=>rfl
  | [x]=>by simp [joinL]
  | x :: y :: r=>by have:=joinL_nil (y :: r); simp [joinL,this]
noncomputable def lets (s:List Nat) (k:Nat):List Nat:=showL (s.getD k 0) ((s.drop (k + 1)).take 1)
theorem lets_flat (s:List Nat) : ((List.range s.length).map (lets s)).flatten = showB s:=by
  induction s with
  | nil=>rfl
  | cons c r ih=>
    rw [List.length_cons,List.range_succ_eq_map,List.map_cons,List.flatten_cons,List.map_map]
    have : (List.range r.length).map (lets (c :: r) ∘ Nat.succ) = (List.range r.length).map (lets r):=List.map_congr_left fun k _=>rfl
    rw [this,ih]
    rfl
theorem slice_one (s:List Nat) (k:Nat) (h : k < s.length) : sliceL (some ((k:Int) + 1)) (some ((k:Int) + 2)) s = (s.drop (k + 1)).take 1:=by
  unfold sliceL clip
  have h1 : ¬ (k:Int) + 1 < 0:=by lia
  have h2 : ¬ (k:Int) + 2 < 0:=by lia
  simp only [if_neg h1,if_neg h2]
  have e1 : ((k:Int) + 1).toNat = k + 1:=by rfl
  have e2 : ((k:Int) + 2).toNat = k + 2:=by rfl
  rw [e1,e2,Nat.min_eq_left (by assumption : k + 1 ≤ s.length)]
  by_cases h3 : k + 2 ≤ s.length
  · rw [Nat.min_eq_left h3]; congr 1; simp +arith [*]
  · have : k + 1 = s.length:=by lia
    rw [this,List.drop_length]; simp
theorem show_text_ok (K : GK g) (hd : 2 ≤ d) {s:List Nat} (hs : s.length ≤ 1000) (hc : ∀ c ∈ s,c < 1114112) (q : ∀ σ',Ex [] σ σ'→Q (.str (showT s)) σ') : UCall g d (.ref 290) [.str s] Q σ:=by
  refine fnc K (by exact Nat.le_of_lt ‹_›) rfl [some (.str s),none] rfl rfl ?_
  have hb : s.length ≤ big:=by simp [big]; exact le_lit2 ‹_› (by rfl)
  refine s_set (e_comp ?_)
  walk_at "w"
  refine f_lens hb ?_
  walk_at "w"
  refine f_range ⟨by exact Int.ofNat_nonneg _,by simp [big] at hb ⊢; lia⟩ ?_
  refine src_r ⟨by simp [big] at hb ⊢; assumption,?_⟩
  have en : ((s.length:Int)).toNat = s.length:=by rfl
  rw [en]
  refine comp1_rule (fun ys acc σ'=>σ' = σ∧∃ i,i ≤ s.length∧ys = ((List.range s.length).map fun i:Nat=>V.int (i:Int)).drop i∧acc = ((List.range i).map (lets s)).map .str) (fun _ _ _ _=>rfl) (fun _ _ _ _ _=>rfl) ?_ ?_ ⟨rfl,0,Nat.zero_le _,rfl,rfl⟩
  · rintro y ys acc σ' Kc ⟨rfl,i,hi,e1,rfl⟩ hK
    have hil : i < s.length:=by
      rcases Nat.lt_or_ge i s.length with h | h
      · exact h
      · rw [List.drop_eq_nil_of_le (by simpa using h)] at e1; cases e1
    have e2 : y = .int (i:Int)∧ys = ((List.range s.length).map fun i:Nat=>V.int (i:Int)).drop (i + 1):=by
      rw [List.drop_eq_getElem_cons (by simpa using hil)] at e1
      simp at e1
      exact ⟨e1.1,by rw [e1.2, ← List.map_drop]⟩
    obtain ⟨rfl,rfl⟩:=e2
    show wpE g _ _ [some (.int (i:Int)),some (.str s)] _ _
    walk_at "w"
    refine ix_s (c:=s.getD i 0) (by
      have : ((i:Int)).toNat = i:=by rfl
      rw [this,List.getD_eq_getElem?_getD,List.getElem?_eq_getElem hil]; rfl) ⟨by exact Int.ofNat_nonneg _,by simp [big] at hb; lia⟩ ?_
    walk_at "w"
    refine sl_s rfl rfl hb ?_
    rw [slice_one s i hil]
    walk_at "w"
    refine show_letter_ok K (by exact Nat.le_sub_of_add_le ‹_›) (hc _ (by rw [List.getD_eq_getElem?_getD,List.getElem?_eq_getElem hil]; exact List.getElem_mem hil)) ?_
    refine hK _ _ ⟨rfl,i + 1,hil,rfl,?_⟩
    rw [List.range_succ,List.map_append,List.map_append]; rfl
  · rintro acc σ' ⟨rfl,i,hi,e1,rfl⟩
    have : i = s.length:=by
      have:=congrArg List.length e1
      simp at this; lia
    subst this
    intro r hr
    walk_at "w"
    refine m_join (upd_same _ _ _) (strsOf_map _) ?_ ?_
    · have hl:=showB_len s
      rw [← List.length_flatten,lets_flat]; simp [big]; lia
    rw [joinL_nil,lets_flat]
    have hl:=showB_len s
    refine b_adds (by simp [big]; lia) ?_
    walk_at "w"
    refine b_adds (by simp [big]; lia) ?_
    exact q _ (Ex.new hr)
theorem show_symbol_ok (K : GK g) (hd : 3 ≤ d) {s:List Nat} (hs : s.length ≤ 1000) (hc : ∀ c ∈ s,c < 1114112) (q : ∀ σ',Ex [] σ σ'→Q (.str (symS s)) σ') : UCall g d (.ref 297) [.str s] Q σ:=by
  refine fnc K (by exact le_lit ‹_› (by rfl)) rfl [some (.str s)] rfl rfl ?_
  walk_at "w"
  refine plain_sym_ok K (by exact Nat.le_sub_of_add_le ‹_›) hs ?_
  walk_at "w"
  unfold symS at q
  have hl:=showT_len s
  refine if_b (fun h=>?_) fun h=>?_
  · rw [h,if_pos rfl] at q
    walk_at "w"
    refine b_adds (by simp [big]; lia) ?_
    exact q σ (Ex.refl _ _)
  · rw [h,if_neg (by simp)] at q
    walk_at "w"
    refine show_text_ok K (by exact Nat.le_sub_of_add_le ‹_›) hs hc fun σ' E=>?_
    refine b_adds (by simp [big]; lia) ?_
    exact q σ' E
end
set_option genInjectivity true in
inductive P where
  | int (n:Int) | text (s:List Nat) | sym (s:List Nat) | nul | bool (b:Bool) | range (a b:P) (o:Bool) | list (l:P) | table (l:P)
  | nil | cons (h t:P) | row (k v t:P)
noncomputable def signsL:List Nat:=[97,34,35,98,92,123,10,36,64,27,7,1,127,133,233,9,32,39,31,126,128,159,160,11]
noncomputable def symsL:List (List Nat):=[[97],[98,49],[110,111,63],[91,93],[117,112,33],[97,32,98],[43],[91,93,61],[120,61],[64,102],[36,103],[97,61],[60,61,62],[49,97],[],[85,112],[33],[61,61],[45,64],[97,34,98],
  [42],[47],[37],[42,42],[33,61],[60],[62],[60,61],[62,61],[61,61,61],[60,60],[62,62],[126],[43,64],[38],[124],[94],[61,126],[33,126],[45],[64,64,99],[97,63,98],[64],[61],[95,120],[97,61,61]]
noncomputable def dep:P→Nat
  | .range a b _=>max (dep a) (dep b) + 1
  | .list l=>dep l + 1
  | .table l=>dep l + 1
  | .cons h t=>max (dep h) (dep t)
  | .row k v t=>max (dep k) (max (dep v) (dep t))
  | _=>0
noncomputable def wt:P→Nat
  | .int _=>50 | .text s=>10 * s.length + 10 | .sym s=>10 * s.length + 10 | .nul=>10 | .bool _=>10
  | .range a b _=>wt a + wt b + 10 | .list l=>wt l + 10 | .table l=>wt l + 10
  | .nil=>0 | .cons h t=>wt h + wt t + 10 | .row k v t=>wt k + wt v + wt t + 20
inductive Md where
  | it | ls | rs
noncomputable def textOk (s:List Nat):Prop:=s.length ≤ 10∧∀ c ∈ s,c ∈ signsL
noncomputable def intOk (n:Int):Prop:=n = -3∨(0 ≤ n∧n ≤ 8)∨n = 1000000000000
inductive rangeOk:P→P→Prop
  | ii {i j:Int} (h : (0 ≤ i∧i ≤ 8)∧(0 ≤ j∧j ≤ 8)) : rangeOk (.int i) (.int j)
  | ni {j:Int} (h : 0 ≤ j∧j ≤ 8) : rangeOk .nul (.int j)
  | im {i:Int} (h : 0 ≤ i∧i ≤ 8) : rangeOk (.int i) .nul
  | tt {s u:List Nat} (h : textOk s∧textOk u) : rangeOk (.text s) (.text u)
noncomputable def noTab:P→Bool
  | .table _=>false | .range a b _=>noTab a && noTab b | .list l=>noTab l | .cons h t=>noTab h && noTab t | .row ..=>false | _=>true
noncomputable def keysOf:P→List P
  | .row k _ t=>k :: keysOf t
  | _=>[]
noncomputable def wf:P→Md→Prop
  | .int n,m=>m = .it∧intOk n
  | .text s,m=>m = .it∧textOk s
  | .sym s,m=>m = .it∧s ∈ symsL
  | .nul,m=>m = .it
  | .bool _,m=>m = .it
  | .range a b _,m=>m = .it∧rangeOk a b
  | .list l,m=>m = .it∧wf l .ls
  | .table l,m=>m = .it∧wf l .rs
  | .nil,m=>m ≠ .it
  | .cons h t,m=>m = .ls∧wf h .it∧wf t .ls
  | .row k v t,m=>m = .rs∧wf k .it∧wf v .it∧wf t .rs∧noTab k = true∧dep k ≤ 2∧k ∉ keysOf t
@[simp] theorem dG (a b:P) (o:Bool) : dep (.range a b o) = max (dep a) (dep b) + 1:=rfl
@[simp] theorem dL (l:P) : dep (.list l) = dep l + 1:=rfl
@[simp] theorem dT (l:P) : dep (.table l) = dep l + 1:=rfl
@[simp] theorem dC (h t:P) : dep (.cons h t) = max (dep h) (dep t):=rfl
@[simp] theorem dW (k v t:P) : dep (.row k v t) = max (dep k) (max (dep v) (dep t)):=rfl
@[simp] theorem dN : dep .nil = 0:=rfl
@[simp] theorem wI (n:Int) : wt (.int n) = 50:=rfl
@[simp] theorem wX (s:List Nat) : wt (.text s) = 10 * s.length + 10:=rfl
@[simp] theorem wY (s:List Nat) : wt (.sym s) = 10 * s.length + 10:=rfl
@[simp] theorem wU : wt .nul = 10:=rfl
@[simp] theorem wB (b:Bool) : wt (.bool b) = 10:=rfl
@[simp] theorem wG (a b:P) (o:Bool) : wt (.range a b o) = wt a + wt b + 10:=rfl
@[simp] theorem wL (l:P) : wt (.list l) = wt l + 10:=rfl
@[simp] theorem wT (l:P) : wt (.table l) = wt l + 10:=rfl
@[simp] theorem wC (h t:P) : wt (.cons h t) = wt h + wt t + 10:=rfl
@[simp] theorem wW (k v t:P) : wt (.row k v t) = wt k + wt v + wt t + 20:=rfl
@[simp] theorem wN : wt .nil = 0:=rfl
theorem nG (a b:P) (o:Bool) : noTab (.range a b o) = (noTab a && noTab b):=rfl
theorem nL (l:P) : noTab (.list l) = noTab l:=rfl
theorem nC (h t:P) : noTab (.cons h t) = (noTab h && noTab t):=rfl
@[elab_as_elim] theorem P.it_ {p:P} {motive:P→Prop} (hw : wf p .it) (int : ∀ n,intOk n→motive (.int n)) (text : ∀ s,textOk s→motive (.text s)) (sym : ∀ s,s ∈ symsL→motive (.sym s)) (nul : motive .nul) (bool : ∀ b,motive (.bool b))
    (range : ∀ a b o,rangeOk a b→motive (.range a b o)) (list : ∀ l,wf l .ls→motive (.list l)) (table : ∀ l,wf l .rs→motive (.table l)) : motive p:=by
  cases p with
  | int n=>exact int n hw.2
  | text s=>exact text s hw.2
  | sym s=>exact sym s hw.2
  | nul=>exact nul
  | bool b=>exact bool b
  | range a b o=>exact range a b o hw.2
  | list l=>exact list l hw.2
  | table l=>exact table l hw.2
  | nil=>exact absurd rfl hw
  | cons _ _=>exact nomatch hw.1
  | row _ _ _=>exact nomatch hw.1
@[elab_as_elim] theorem P.ls_ {p:P} {motive:P→Prop} (hw : wf p .ls) (nil : motive .nil) (cons : ∀ h t,wf h .it→wf t .ls→motive (.cons h t)) : motive p:=by
  cases p with
  | nil=>exact nil
  | cons h t=>exact cons h t hw.2.1 hw.2.2
  | nul=>exact nomatch hw
  | bool _=>exact nomatch hw
  | _=>exact nomatch hw.1
@[elab_as_elim] theorem P.rs_ {p:P} {motive:P→Prop} (hw : wf p .rs) (nil : motive .nil) (row : ∀ k v t,wf (.row k v t) .rs→motive (.row k v t)) : motive p:=by
  cases p with
  | nil=>exact nil
  | row k v t=>exact row k v t hw
  | nul=>exact nomatch hw
  | bool _=>exact nomatch hw
  | _=>exact nomatch hw.1
inductive ObjI (σ:Sg) (C a:Addr) (fs:List (Nat × V)):Prop
  | mk (dd:Addr) (h1 : σ a = some (.inst C dd)) (h2 : σ dd = some (.idict fs))
structure TE where (ms : Mk) (bx:Addr) (lo hi:Int)
noncomputable def NumI (fs:List (Nat × V)) (T : TE) (k:Int):Prop:=flk fs 0 = some (.int k)∧T.lo < k∧k ≤ T.hi
inductive TextT (σ:Sg) (T : TE) (s:List Nat) (v:V) (c : Code):Prop
  | mk (hc : c = .text s) (a:Addr) (fs:List (Nat × V)) (k:Int) (m:Addr) (fr:Bool) (hv : v = .ref a) (o : ObjI σ 62 a fs) (n : NumI fs T k) (f6 : flk fs 6 = some (.str s)) (f1 : flk fs 1 = some (.ref m)) (f4 : flk fs 4 = some (.bool fr)) (hm : (nmString,m) ∈ T.ms)
inductive RangeT (σ:Sg) (T : TE) (A B:V→Code→Prop) (o:Bool) (v:V) (c : Code):Prop
  | mk (x:Addr) (fs:List (Nat × V)) (k:Int) (va vb:V) (ca cb : Code) (hv : v = .ref x) (hc : c = .range ca cb o) (ob : ObjI σ 140 x fs) (n : NumI fs T k) (f10 : flk fs 10 = some va) (f11 : flk fs 11 = some vb) (f12 : flk fs 12 = some (.bool o)) (ha : A va ca) (hb : B vb cb)
inductive ListT (σ:Sg) (T : TE) (L:V→Code→Prop) (v:V) (c : Code):Prop
  | mk (x:Addr) (fs:List (Nat × V)) (k:Int) (il:Addr) (vs:List V) (cs:List Code) (hv : v = .ref x) (hc : c = .list cs) (ob : ObjI σ 82 x fs) (n : NumI fs T k) (f7 : flk fs 7 = some (.ref il)) (hl : σ il = some (.list vs)) (ne : il ≠ T.bx) (h : L (.tup vs) (.list cs))
inductive TableT (σ:Sg) (T : TE) (L:V→Code→Prop) (v:V) (c : Code):Prop
  | mk (x:Addr) (fs:List (Nat × V)) (k:Int) (rd:Addr) (kvs:List (Code × V)) (ep:Nat) (hv : v = .ref x) (hc : c = .thing k) (ob : ObjI σ 120 x fs) (n : NumI fs T k) (f52 : flk fs 52 = none) (f8 : flk fs 8 = some (.ref rd)) (hd : σ rd = some (.cdict kvs ep)) (h : L (.tup (kvs.map (·.2))) (.list []))
inductive ConsT (H T:V→Code→Prop) (v:V) (c : Code):Prop
  | mk (y:V) (ys:List V) (d : Code) (ds:List Code) (hv : v = .tup (y :: ys)) (hc : c = .list (d :: ds)) (h1 : H y d) (h2 : T (.tup ys) (.list ds))
inductive RowT (σ:Sg) (T : TE) (A B R:V→Code→Prop) (v:V) (c : Code):Prop
  | mk (r:Addr) (rs:List V) (kv vv:V) (kc vc : Code) (hv : v = .tup (.ref r :: rs)) (hc : c = .list []) (hr : σ r = some (.list [kv,vv])) (ne : r ≠ T.bx) (ha : A kv kc) (hb : B vv vc) (h : R (.tup rs) (.list []))
noncomputable def ThgIs (σ:Sg) (T : TE):P→V→Code→Prop
  | .int n,v,c=>v = .int n∧c = .int n
  | .sym s,v,c=>v = .str s∧c = .sym s
  | .nul,v,c=>v = .none∧c = .nil
  | .bool b,v,c=>v = .bool b∧c = .bool b
  | .text s,v,c=>TextT σ T s v c
  | .range a b o,v,c=>RangeT σ T (ThgIs σ T a) (ThgIs σ T b) o v c
  | .list l,v,c=>ListT σ T (ThgIs σ T l) v c
  | .table l,v,c=>TableT σ T (ThgIs σ T l) v c
  | .nil,v,c=>v = .tup []∧c = .list []
  | .cons h t,v,c=>ConsT (ThgIs σ T h) (ThgIs σ T t) v c
  | .row kp vp t,v,c=>RowT σ T (ThgIs σ T kp) (ThgIs σ T vp) (ThgIs σ T t) v c
structure Kp (σ σ' : Sg) (T T' : TE):Prop where
  obj : ∀ C a fs v,ObjI σ C a fs→flk fs 0 = some v→ObjI σ' C a fs
  lst : ∀ a xs,σ a = some (.list xs)→a ≠ T.bx→σ' a = some (.list xs)
  cdc : ∀ a kvs ep,σ a = some (.cdict kvs ep)→σ' a = some (.cdict kvs ep)
  ms : ∀ p ∈ T.ms,p ∈ T'.ms
  bx : T'.bx = T.bx
  lo : T'.lo ≤ T.lo
  hi : T.hi ≤ T'.hi
theorem NumI.keep {fs T T' k} (h : NumI fs T k) (h1 : T'.lo ≤ T.lo) (h2 : T.hi ≤ T'.hi) : NumI fs T' k:=⟨h.1,by have:=h.2.1; exact Int.lt_of_le_of_lt ‹_› ‹_›,by have:=h.2.2; exact Int.le_trans ‹_› ‹_›⟩
theorem ThgIs.keep {σ σ' : Sg} {T T' : TE} (K : Kp σ σ' T T') : ∀ {p:P} {v:V} {c : Code},ThgIs σ T p v c→ThgIs σ' T' p v c:=by
  intro p
  induction p with
  | int n=>exact fun h=>h
  | sym s=>exact fun h=>h
  | nul=>exact fun h=>h
  | bool b=>exact fun h=>h
  | nil=>exact fun h=>h
  | text s=>
    rintro v c ⟨rfl,a,fs,k,m,fr,rfl,h1,h2,h3,h4,h5,h6⟩
    exact ⟨rfl,a,fs,k,m,fr,rfl,K.obj _ _ _ _ h1 h2.1,h2.keep K.lo K.hi,h3,h4,h5,K.ms _ h6⟩
  | range a b o iha ihb=>
    rintro v c ⟨x,fs,k,va,vb,ca,cb,rfl,rfl,h1,h2,h3,h4,h5,h6,h7⟩
    exact ⟨x,fs,k,va,vb,ca,cb,rfl,rfl,K.obj _ _ _ _ h1 h2.1,h2.keep K.lo K.hi,h3,h4,h5,iha h6,ihb h7⟩
  | list l ih=>
    rintro v c ⟨x,fs,k,il,vs,cs,rfl,rfl,h1,h2,h3,h4,h5,h6⟩
    exact ⟨x,fs,k,il,vs,cs,rfl,rfl,K.obj _ _ _ _ h1 h2.1,h2.keep K.lo K.hi,h3,K.lst _ _ h4 h5,by rw [K.bx]; exact h5,ih h6⟩
  | table l ih=>
    rintro v c ⟨x,fs,k,rd,kvs,ep,rfl,rfl,h1,h2,h3,h4,h5,h6⟩
    exact ⟨x,fs,k,rd,kvs,ep,rfl,rfl,K.obj _ _ _ _ h1 h2.1,h2.keep K.lo K.hi,h3,h4,K.cdc _ _ _ h5,ih h6⟩
  | cons h t ih1 ih2=>
    rintro v c ⟨y,ys,d,ds,rfl,rfl,h1,h2⟩
    exact ⟨y,ys,d,ds,rfl,rfl,ih1 h1,ih2 h2⟩
  | row kp vp t ih1 ih2 ih3=>
    rintro v c ⟨r,rs,kv,vv,kc,vc,rfl,rfl,h1,h2,h3,h4,h5⟩
    exact ⟨r,rs,kv,vv,kc,vc,rfl,rfl,K.lst _ _ h1 h2,by rw [K.bx]; exact h2,ih1 h3,ih2 h4,ih3 h5⟩
theorem Kp.pure {σ σ' : Sg} (E : Ex [] σ σ') (T : TE) : Kp σ σ' T T:=
  ⟨fun C a fs v ⟨dd,h1,h2⟩ _=>⟨dd,E.get h1,E.get h2⟩,fun a xs h _=>E.get h,fun a kvs ep h=>E.get h,fun _ h=>h,rfl,Int.le_refl _,Int.le_refl _⟩
theorem Kp.world {σ σ' : Sg} {x n mk rd ip} (W : WI σ x n mk rd ip) {T T' : TE} (E : Ex [x.wd,x.md] σ σ') (hm : ∀ p ∈ T.ms,p ∈ T'.ms) (hb : T'.bx = T.bx) (hl : T'.lo ≤ T.lo) (hh : T.hi ≤ T'.hi) : Kp σ σ' T T':=by
  obtain ⟨fw,e1,F⟩:=W.d
  refine ⟨fun C a fs v ⟨dd,h1,h2⟩ h3=>?_,fun a xs h _=>?_,fun a kvs ep h=>?_,hm,hb,hl,hh⟩
  · obtain ⟨n1,n2,n3,n4⟩:=W.apart (by decide) h1 h2 h3
    exact ⟨dd,E _ _ h1 (by simp [n1,n2]),E _ _ h2 (by simp [n3,n4])⟩
  · exact E _ _ h (by simp only [List.mem_cons,List.not_mem_nil,or_false,not_or]; exact ⟨ne_obj h e1 (by simp),ne_obj h W.m (by simp)⟩)
  · exact E _ _ h (by simp only [List.mem_cons,List.not_mem_nil,or_false,not_or]; exact ⟨ne_obj h e1 (by simp),ne_obj h W.m (by simp)⟩)
theorem Kp.box {σ σ' : Sg} {T : TE} {xs:List V} (hb : σ T.bx = some (.list xs)) (E : Ex [T.bx] σ σ') : Kp σ σ' T T:=by
  refine ⟨fun C a fs v ⟨dd,h1,h2⟩ _=>⟨dd,E _ _ h1 ?_,E _ _ h2 ?_⟩,fun a xs h n=>E _ _ h (by exact nin1 ‹_›),fun a kvs ep h=>E _ _ h ?_,fun _ h=>h,rfl,Int.le_refl _,Int.le_refl _⟩
  · simpa using ne_obj h1 hb (by simp)
  · simpa using ne_obj h2 hb (by simp)
  · simpa using ne_obj h hb (by simp)
section
variable {g:G} {d:Nat} {σ:Sg} {Q:V→Sg→Prop}
noncomputable def CArgs (vs:List V) (v:V) (deep:Int):Prop:=vs = [v, .int deep]∨(vs = [v]∧deep = 12)
theorem CArgs.env {vs v deep} (h : CArgs vs v deep) : ir_code_of.env vs = [some v,some (.int deep),none]∧(decide (vs.length ≤ ir_code_of.np) && decide (ir_code_of.np ≤ vs.length + ir_code_of.dfl.length)) = true:=by
  rcases h with rfl | ⟨rfl,rfl⟩ <;> exact ⟨rfl,rfl⟩
theorem code_flat (K : GK g) (hd : 3 ≤ d) {v:V} {c : Code} {deep:Int} {vs:List V} (hvs : CArgs vs v deep) (hv : flat v = true) (hc : c.toV = .tup [.str (sortS v),v]) (q : Q c.toV σ) : UCall g d (.ref 250) vs Q σ:=by
  refine fnc K (by exact le_lit ‹_› (by rfl)) rfl [some v,some (.int deep),none] hvs.env.1 hvs.env.2 ?_
  walk_at "w"
  refine sort_plain K (by exact le_litp ‹_› (by rfl)) hv ?_
  rw [hc] at q
  cases v <;> first | (cases hv; done) | (walk_at "w"; exact q)
theorem code_text (K : GK g) (hd : 3 ≤ d) {T : TE} {s:List Nat} {v:V} {c : Code} {deep:Int} {vs:List V} (hvs : CArgs vs v deep) (h : ThgIs σ T (.text s) v c) (q : Q c.toV σ) : UCall g d (.ref 250) vs Q σ:=by
  obtain ⟨rfl,a,fs,k,m,fr,rfl,⟨dd,h1,h2⟩,h3,h4,h5,h6,h7⟩:=h
  refine fnc K (by exact le_lit ‹_› (by rfl)) rfl [some (.ref a),some (.int deep),none] hvs.env.1 hvs.env.2 ?_
  walk_at "w"
  refine sort_thing K (by exact le_litp ‹_› (by rfl)) h1 h2 rfl ?_
  walk_at "w"
  exact q
theorem code_table (K : GK g) (hd : 3 ≤ d) {T : TE} {l:P} {v:V} {c : Code} {deep:Int} {vs:List V} (hvs : CArgs vs v deep) (h : ThgIs σ T (.table l) v c) (q : Q c.toV σ) : UCall g d (.ref 250) vs Q σ:=by
  obtain ⟨a,fs,k,rd,kvs,ep,rfl,rfl,⟨dd,h1,h2⟩,h3,h4,h5,h6,h7⟩:=h
  refine fnc K (by exact le_lit ‹_› (by rfl)) rfl [some (.ref a),some (.int deep),none] hvs.env.1 hvs.env.2 ?_
  have h0:=h3.1
  walk_at "w"
  refine sort_thing K (by exact le_litp ‹_› (by rfl)) h1 h2 rfl ?_
  walk_at "w"
  exact q
inductive ChainInv (σ:Sg) (T : TE):P→List V→Code→Prop
  | nil : ChainInv σ T .nil [] (.list [])
  | cons {hh t' : P} {y:V} {ys' : List V} {e : Code} {ds:List Code} (h1 : ThgIs σ T hh y e) (h2 : ThgIs σ T t' (.tup ys') (.list ds)) (hw : wf hh .it∧wf t' .ls) : ChainInv σ T (.cons hh t') (y :: ys') (.list (e :: ds))
theorem chain_inv {T : TE} {t:P} {ys:List V} {c : Code} (hw : wf t .ls) : ThgIs σ T t (.tup ys) c→ChainInv σ T t ys c:=
  P.ls_ (motive:=fun t=>ThgIs σ T t (.tup ys) c→ChainInv σ T t ys c) hw (fun h=>by obtain ⟨h1,rfl⟩:=h; cases h1; exact .nil) fun hh t w1 w2 h=>by
    obtain ⟨y,ys,e,ds,h1,rfl,h3,h4⟩:=h
    cases h1; exact .cons h3 h4 ⟨w1,w2⟩
theorem chain_len {T : TE} {l:P} : ∀ {vs:List V} {cs:List Code},wf l .ls→ThgIs σ T l (.tup vs) (.list cs)→vs.length = cs.length∧10 * vs.length ≤ wt l:=by
  induction l with
  | nil=>intro vs cs hw h; cases chain_inv hw h; exact ⟨rfl,Nat.le_refl _⟩
  | cons hh t _ ih=>
    intro vs cs hw h
    cases chain_inv hw h with
    | cons h1 h2 w=>
      have:=ih w.2 h2
      exact ⟨congrArg (· + 1) this.1,by simp only [List.length_cons,wC]; lia⟩
  | nul=>intro _ _ hw; exact nomatch hw
  | bool _=>intro _ _ hw; exact nomatch hw
  | _=>intro _ _ hw; exact nomatch hw.1
inductive CodeInv (σ:Sg) (T : TE) (k:Nat) (cs:List Code) (ys acc:List V) (σ' : Sg):Prop
  | mk (E : Ex [] σ σ') (t:P) (done ds:List Code) (h : ThgIs σ T t (.tup ys) (.list ds)) (hw : wf t .ls) (hd : dep t ≤ k) (hwt : wt t ≤ 1000000) (ha : acc = done.map Code.toV) (he : done ++ ds = cs)
theorem rangeOk_wf {a b:P} (h : rangeOk a b) : wf a .it∧wf b .it:=by
  induction h with
  | ii h=>exact ⟨⟨rfl, .inr (.inl h.1)⟩,⟨rfl, .inr (.inl h.2)⟩⟩
  | ni h=>exact ⟨rfl,⟨rfl, .inr (.inl h)⟩⟩
  | im h=>exact ⟨⟨rfl, .inr (.inl h)⟩,rfl⟩
  | tt h=>exact ⟨⟨rfl,h.1⟩,⟨rfl,h.2⟩⟩
theorem range_noTab {a b:P} {o:Bool} (h : rangeOk a b) : noTab (.range a b o) = true:=by induction h <;> rfl
theorem range_dep {a b:P} (h : rangeOk a b) : dep a = 0∧dep b = 0:=by induction h <;> exact ⟨rfl,rfl⟩
theorem ThgIs.handed {T : TE} {p:P} {v:V} {c : Code} (hw : wf p .it) : ThgIs σ T p v c→handed v = true:=
  P.it_ (motive:=fun p=>ThgIs σ T p v c→Mine.handed v = true) hw (fun n _ h=>by rw [h.1]; rfl) (fun s _ h=>by obtain ⟨_,a,_,_,_,_,rfl,_⟩:=h; rfl) (fun s _ h=>by rw [h.1]; rfl) (fun h=>by rw [h.1]; rfl) (fun b h=>by rw [h.1]; rfl)
    (fun a b o _ h=>by obtain ⟨x,_,_,_,_,_,_,rfl,_⟩:=h; rfl) (fun l _ h=>by obtain ⟨x,_,_,_,_,_,rfl,_⟩:=h; rfl) (fun l _ h=>by obtain ⟨x,_,_,_,_,_,rfl,_⟩:=h; rfl)
theorem toVs_map (cs:List Code) : Code.toVs cs = cs.map Code.toV:=by
  induction cs with
  | nil=>rfl
  | cons c r ih=>exact congrArg (c.toV :: ·) ih
noncomputable def CodeIH (g:G) (T : TE) (k:Nat):Prop:=∀ {d:Nat} {σ:Sg} {Q:V→Sg→Prop} {p:P} {v:V} {c : Code} {deep:Int} {vs:List V},CArgs vs v deep→dep p ≤ k→2 * k + 4 ≤ d→(k:Int) ≤ deep→wf p .it→wt p ≤ 1000000→ThgIs σ T p v c→(∀ σ',Ex [] σ σ'→Q c.toV σ')→UCall g d (.ref 250) vs Q σ
theorem code_range (K : GK g) {T : TE} {k:Nat} (ih : CodeIH g T k) {a b:P} {o:Bool} {v:V} {c : Code} {deep:Int} {vs:List V} (hvs : CArgs vs v deep) (hk : dep (.range a b o) ≤ k + 1) (hd : 2 * (k + 1) + 4 ≤ d) (hdp : ((k + 1:Nat):Int) ≤ deep) (hab : rangeOk a b) (hwt : wt (.range a b o) ≤ 1000000) (h : ThgIs σ T (.range a b o) v c) (q : ∀ σ',Ex [] σ σ'→Q c.toV σ') : UCall g d (.ref 250) vs Q σ:=by
  obtain ⟨x,fs,n,va,vb,ca,cb,rfl,rfl,⟨dd,h1,h2⟩,h3,h4,h5,h6,h7,h8⟩:=h
  refine fnc K (by exact le_lit ‹_› (by rfl)) rfl [some (.ref x),some (.int deep),none] hvs.env.1 hvs.env.2 ?_
  have hab:=rangeOk_wf hab
  have hva:=h7.handed hab.1
  have hvb:=h8.handed hab.2
  simp only [dG] at hk
  simp only [wG] at hwt
  walk_at "w"
  refine sort_thing K (by exact le_litp ‹_› (by rfl)) h1 h2 rfl ?_
  walk_at "w"
  refine if_d (fun e=>?_) fun e=>by lia
  walk_at "w"
  refine ih (.inl rfl) (by exact max1_l ‹_›) (by lia) (by lia) hab.1 (by lia) h7 fun σ₁ E₁=>?_
  have h1':=E₁.get h1; have h2':=E₁.get h2
  walk_at "w"
  refine ih (.inl rfl) (by exact max1_r ‹_›) (by lia) (by lia) hab.2 (by lia) (h8.keep (Kp.pure E₁ T)) fun σ₂ E₂=>?_
  have h1'':=E₂.get h1'; have h2'':=E₂.get h2'
  walk_at "w"
  exact q σ₂ (E₁.trans E₂)
theorem code_list (K : GK g) {T : TE} {k:Nat} (ih : CodeIH g T k) {l:P} {v:V} {c : Code} {deep:Int} {vs:List V} (hvs : CArgs vs v deep) (hk : dep (.list l) ≤ k + 1) (hd : 2 * (k + 1) + 4 ≤ d) (hdp : ((k + 1:Nat):Int) ≤ deep) (hw : wf l .ls) (hwt : wt (.list l) ≤ 1000000) (h : ThgIs σ T (.list l) v c) (q : ∀ σ',Ex [] σ σ'→Q c.toV σ') : UCall g d (.ref 250) vs Q σ:=by
  obtain ⟨x,fs,n,il,ws,cs,rfl,rfl,⟨dd,h1,h2⟩,h3,h4,h5,h6,h7⟩:=h
  refine fnc K (by exact le_lit ‹_› (by rfl)) rfl [some (.ref x),some (.int deep),none] hvs.env.1 hvs.env.2 ?_
  walk_at "w"
  refine sort_thing K (by exact le_litp ‹_› (by rfl)) h1 h2 rfl ?_
  walk_at "w"
  refine if_d (fun e=>?_) fun e=>by lia
  simp only [dL] at hk
  simp only [wL] at hwt
  have hl:=chain_len hw h7
  walk_at "w"
  refine src_l h5 ⟨Nat.le_trans (Nat.le_trans (Nat.le_mul_of_pos_left _ (by decide)) hl.2) (by simp [big]; lia),?_⟩
  refine comp1_rule (CodeInv σ T k cs) (fun _ _ _ I=>I.rec fun E _ _ _ _ _ _ _ _ _=>src_l' (E.get h5)) (fun _ _ _ _ _=>rfl) ?_ ?_ ⟨Ex.refl _ _,l,[],cs,h7,hw,by exact Nat.le_of_succ_le_succ ‹_›,by lia,rfl,rfl⟩
  · intro y ys acc σ' Kc I hK
    obtain ⟨E,t,done,ds,h8,hw8,hd8,hwt8,rfl,rfl⟩:=I
    cases chain_inv hw8 h8 with
    | @cons hh t' _ _ e' ds' h9 h10 w=>
      simp only [dC] at hd8
      simp only [wC] at hwt8
      show wpE g _ _ [some y,some (.int deep)] _ _
      walk_at "w"
      refine ih (.inl rfl) (by exact max_l ‹_›) (by lia) (by lia) w.1 (by lia) (h9.keep (Kp.pure E T)) fun σ₂ E₂=>?_
      exact hK _ _ ⟨E.trans E₂,t',done ++ [e'],ds',h10,w.2,by exact max_r ‹_›,by lia,by rw [List.map_append]; rfl,by exact List.append_assoc ..⟩
  · intro acc σ' I r hr
    obtain ⟨E,t,done,ds,h8,hw8,hd8,hwt8,rfl,rfl⟩:=I
    cases chain_inv hw8 h8 with
    | nil=>
      walk_at "w"
      refine f_tuple (upd_same _ _ _) (by simp [big] at hl ⊢; lia) ?_
      walk_at "w"
      have:=q _ (E.trans (Ex.new (o:=.list (done.map Code.toV)) hr))
      rw [List.append_nil] at this
      have e : (Code.list done).toV = .tup [.str sList, .tup (done.map Code.toV)]:=by rw [← toVs_map]; rfl
      rw [e] at this
      exact this
theorem code_aux (K : GK g) {T : TE} : ∀ (k:Nat),CodeIH g T k:=by
  intro k
  induction k using Nat.strongRecOn with
  | ind k ih=>
    intro d σ Q p v c deep vs hvs hk hd hdp hw hwt h q
    have hd4 : 4 ≤ d:=Nat.le_trans (Nat.le_add_left 4 _) hd
    revert hk hwt h
    refine P.it_ hw (fun n _ _ _ h=>?_) (fun s _ _ _ h=>?_) (fun s _ _ _ h=>?_) (fun _ _ h=>?_) (fun b _ _ h=>?_) (fun a b o hab hk hwt h=>?_) (fun l hl hk hwt h=>?_) (fun l _ _ _ h=>?_)
    · obtain ⟨rfl,rfl⟩:=h; exact code_flat K (by exact Nat.le_of_lt ‹_›) hvs rfl rfl (q σ (Ex.refl _ _))
    · exact code_text K (by exact Nat.le_of_lt ‹_›) hvs h (q σ (Ex.refl _ _))
    · obtain ⟨rfl,rfl⟩:=h; exact code_flat K (by exact Nat.le_of_lt ‹_›) hvs rfl rfl (q σ (Ex.refl _ _))
    · obtain ⟨rfl,rfl⟩:=h; exact code_flat K (by exact Nat.le_of_lt ‹_›) hvs rfl rfl (q σ (Ex.refl _ _))
    · obtain ⟨rfl,rfl⟩:=h; exact code_flat K (by exact Nat.le_of_lt ‹_›) hvs rfl rfl (q σ (Ex.refl _ _))
    · cases k with
      | zero=>exact absurd hk (Nat.not_succ_le_zero _)
      | succ k=>exact code_range K (ih k (Nat.lt_succ_self k)) hvs hk hd hdp hab hwt h q
    · cases k with
      | zero=>exact absurd hk (Nat.not_succ_le_zero _)
      | succ k=>exact code_list K (ih k (Nat.lt_succ_self k)) hvs hk hd hdp hl hwt h q
    · exact code_table K (by exact Nat.le_of_lt ‹_›) hvs h (q σ (Ex.refl _ _))
end
noncomputable def isNul:P→Bool
  | .nul=>true
  | _=>false
noncomputable def isNilP:P→Bool
  | .nil=>true
  | _=>false
noncomputable def keyS (k:P) (ks:List Nat):List Nat:=match k with
  | .sym s=>(if isLabel s = true then s else showT s) ++ [58,32]
  | _=>ks ++ [32,61,62,32]
noncomputable def sepS:List Nat:=[44,32]
noncomputable def shf:P→Int→List Nat × List (List Nat)
  | .int n,_=>(strI n,[])
  | .text s,_=>(showT s,[])
  | .sym s,_=>(symS s,[])
  | .nul,_=>([110,105,108],[])
  | .bool b,_=>(bif b then [116,114,117,101] else [102,97,108,115,101],[])
  | .range a b o,k=>(if 0 < k then (bif isNul a && !isNul b then [] else (shf a (k - 1)).1) ++ (bif o then [46,46,46] else [46,46]) ++ (bif isNul b && !isNul a then [] else (shf b (k - 1)).1) else [40,46,46,46,41],[])
  | .list l,k=>(if k < 1∧isNilP l = false then [91,46,46,46,93] else [91] ++ joinL [44,32] (shf l (k - 1)).2 ++ [93],[])
  | .table l,k=>(if k < 1∧isNilP l = false then [123,46,46,46,125] else [123] ++ joinL [44,32] (shf l (k - 1)).2 ++ [125],[])
  | .nil,_=>([],[])
  | .cons h t,k=>([],(shf h k).1 :: (shf t k).2)
  | .row kp v t,k=>([],(keyS kp (shf kp k).1 ++ (shf v k).1) :: (shf t k).2)
theorem shfG (a b:P) (o:Bool) (k:Int) : shf (.range a b o) k = (if 0 < k then (bif isNul a && !isNul b then [] else (shf a (k - 1)).1) ++ (bif o then [46,46,46] else [46,46]) ++ (bif isNul b && !isNul a then [] else (shf b (k - 1)).1) else [40,46,46,46,41],[]):=rfl
theorem shfL (l:P) (k:Int) : shf (.list l) k = (if k < 1∧isNilP l = false then [91,46,46,46,93] else [91] ++ joinL [44,32] (shf l (k - 1)).2 ++ [93],[]):=rfl
theorem shfT (l:P) (k:Int) : shf (.table l) k = (if k < 1∧isNilP l = false then [123,46,46,46,125] else [123] ++ joinL [44,32] (shf l (k - 1)).2 ++ [125],[]):=rfl
theorem shfC (h t:P) (k:Int) : shf (.cons h t) k = ([],(shf h k).1 :: (shf t k).2):=rfl
theorem shfW (kp v t:P) (k:Int) : shf (.row kp v t) k = ([],(keyS kp (shf kp k).1 ++ (shf v k).1) :: (shf t k).2):=rfl
theorem shfN (k:Int) : shf .nil k = ([],[]):=rfl
noncomputable def shw (p:P) (k:Int):List Nat:=(shf p k).1
noncomputable def shwL (p:P) (k:Int):List (List Nat):=(shf p k).2
theorem joinL_len (sep:List Nat) : ∀ ts:List (List Nat),(joinL sep ts).length ≤ (ts.map (·.length)).sum + ts.length * sep.length
  | []=>by simp [joinL]
  | [x]=>by simp [joinL]
  | x :: y :: r=>by
    have:=joinL_len sep (y :: r)
    simp only [joinL,List.length_append,List.map_cons,List.sum_cons,List.length_cons,Nat.add_mul] at *
    lia
theorem intOk_all {p:Int→Bool} (h : (p (-3) && (p 1000000000000 && (List.range 9).all fun k:Nat=>p (k:Int))) = true) {n:Int} (hn : intOk n) : p n = true:=by
  rw [Bool.and_eq_true,Bool.and_eq_true] at h
  rcases hn with rfl | ⟨h0,h8⟩ | rfl
  · exact h.1
  · obtain ⟨k,rfl⟩:=Int.eq_ofNat_of_zero_le h0
    exact List.all_eq_true.mp h.2.2 k (List.mem_range.mpr (Nat.lt_succ_of_le (Int.ofNat_le.mp h8)))
  · exact h.2.1
theorem int_mem {n:Int} (h : intOk n) : n ∈ ([-3,1000000000000,0,1,2,3,4,5,6,7,8] : List Int):=of_decide_eq_true (intOk_all (p:=fun n=>decide (n ∈ ([-3,1000000000000,0,1,2,3,4,5,6,7,8] : List Int))) (by decide +kernel) h)
theorem intOk_len {n:Int} (h : intOk n) : (strI n).length ≤ 14∧n.natAbs.log2 < 1920:=
  of_decide_eq_true (intOk_all (p:=fun n=>decide ((strI n).length ≤ 14∧n.natAbs.log2 < 1920)) (by decide +kernel) h)
theorem symS_len (s:List Nat) : (symS s).length ≤ 6 * s.length + 3:=by
  have:=showT_len s
  unfold symS; split <;> simp <;> omega
inductive KeyC (k:P) (ks:List Nat):Prop
  | sym (s:List Nat) (e : k = .sym s) (h : keyS k ks = (if isLabel s = true then s else showT s) ++ [58,32])
  | oth (n : ∀ s,k ≠ .sym s) (h : keyS k ks = ks ++ [32,61,62,32])
theorem key_c (k:P) (ks:List Nat) : KeyC k ks:=by
  cases k with
  | sym s=>exact .sym s rfl rfl
  | _=>exact .oth (fun _ e=>nomatch e) rfl
theorem keyS_oth {k:P} {ks:List Nat} (n : ∀ s,k ≠ .sym s) : keyS k ks = ks ++ [32,61,62,32]:=by
  cases key_c k ks with
  | sym s e=>exact absurd e (n s)
  | oth _ h=>exact h
theorem bif_len {c:Bool} {l:List Nat} {n:Nat} (h : l.length ≤ n) : (bif c then [] else l).length ≤ n:=by
  cases c with
  | true=>exact Nat.zero_le n
  | false=>exact h
theorem wrap_len {c:Prop} [Decidable c] {x y:Nat} {ts:List (List Nat)} {n:Nat} (h : (ts.map (·.length)).sum + 2 * ts.length ≤ n) : (if c then [x,46,46,46,y] else [x] ++ joinL [44,32] ts ++ [y]).length ≤ n + 10:=by
  by_cases hc : c
  · rw [if_pos hc]; exact Nat.le_trans (by decide : 5 ≤ 10) (Nat.le_add_left 10 n)
  · rw [if_neg hc,List.length_append,List.length_append]
    have h2:=joinL_len [44,32] ts
    rw [Nat.mul_comm ts.length] at h2
    exact Nat.le_trans (Nat.add_le_add_right (Nat.add_le_add_left (Nat.le_trans h2 h) 1) 1) (by simp +arith)
inductive ShfLen (p:P) (k:Int):Prop
  | mk (h1 : (shf p k).1.length ≤ wt p) (h2 : ((shf p k).2.map (·.length)).sum + 2 * (shf p k).2.length ≤ wt p)
theorem shf_lens (p:P) : ∀ (m : Md) (k:Int),wf p m→ShfLen p k:=by
  induction p with
  | int n=>intro m k h; exact ⟨Nat.le_trans (intOk_len h.2).1 (by show 14 ≤ 50; decide),Nat.zero_le _⟩
  | text s=>intro m k h; exact ⟨Nat.le_trans (showT_len s) (by rw [wX]; simp +arith),Nat.zero_le _⟩
  | sym s=>intro m k h; exact ⟨Nat.le_trans (symS_len s) (by rw [wY]; simp +arith),Nat.zero_le _⟩
  | nul=>intro m k h; exact ⟨(by decide : 3 ≤ 10),Nat.zero_le _⟩
  | bool b=>intro m k h; exact ⟨by cases b <;> exact Nat.le_of_ble_eq_true rfl,Nat.zero_le _⟩
  | nil=>intro m k h; exact ⟨Nat.zero_le _,Nat.zero_le _⟩
  | range a b o iha ihb=>
    intro m k h
    have hab:=rangeOk_wf h.2
    obtain ⟨h1,_⟩:=iha .it (k - 1) hab.1
    obtain ⟨h2,_⟩:=ihb .it (k - 1) hab.2
    refine ⟨?_,Nat.zero_le _⟩
    rw [shfG,wG]
    dsimp only
    by_cases hk : 0 < k
    · rw [if_pos hk,List.length_append,List.length_append]
      have e3 : (bif o then [46,46,46] else [46,46] : List Nat).length ≤ 3:=by cases o <;> decide
      exact Nat.le_trans (Nat.add_le_add (Nat.add_le_add (bif_len h1) e3) (bif_len h2)) (by simp +arith)
    · rw [if_neg hk]; exact Nat.le_trans (by decide : 5 ≤ 10) (Nat.le_add_left 10 _)
  | list l ih=>intro m k h; obtain ⟨_,h1⟩:=ih .ls (k - 1) h.2; exact ⟨wrap_len h1,Nat.zero_le _⟩
  | table l ih=>intro m k h; obtain ⟨_,h1⟩:=ih .rs (k - 1) h.2; exact ⟨wrap_len h1,Nat.zero_le _⟩
  | cons hh t ih1 ih2=>
    intro m k h
    obtain ⟨h1,_⟩:=ih1 .it k h.2.1
    obtain ⟨_,h2⟩:=ih2 .ls k h.2.2
    refine ⟨Nat.zero_le _,?_⟩
    rw [shfC,wC,List.map_cons,List.sum_cons,List.length_cons]
    lia
  | row kp v t ih1 ih2 ih3=>
    intro m k h
    obtain ⟨h1,_⟩:=ih1 .it k h.2.1
    obtain ⟨h2,_⟩:=ih2 .it k h.2.2.1
    obtain ⟨_,h3⟩:=ih3 .rs k h.2.2.2.1
    have h4 : (keyS kp (shf kp k).1).length ≤ wt kp + 4:=by
      cases key_c kp (shf kp k).1 with
      | sym s e h=>
        subst e
        have:=showT_len s
        rw [h,List.length_append,wY]
        split <;> (simp only [List.length_cons,List.length_nil]; lia)
      | oth n h=>rw [h,List.length_append]; exact Nat.add_le_add_right h1 4
    refine ⟨Nat.zero_le _,?_⟩
    rw [shfW,wW,List.map_cons,List.sum_cons,List.length_cons,List.length_append]
    lia
theorem shf_len (p:P) (m : Md) (k:Int) (h : wf p m) : (shf p k).1.length ≤ wt p∧((shf p k).2.map (·.length)).sum + 2 * (shf p k).2.length ≤ wt p:=by
  obtain ⟨h1,h2⟩:=shf_lens p m k h
  exact ⟨h1,h2⟩
inductive RowL (A B:V→Code→Prop) (R:List V→Prop) (ps:List V):Prop
  | mk (kv vv:V) (kc vc : Code) (ps' : List V) (e : ps = .tup [kv,vv] :: ps') (h1 : A kv kc) (h2 : B vv vc) (h3 : R ps')
noncomputable def PairL (σ:Sg) (T : TE):P→List V→Prop
  | .nil,ps=>ps = []
  | .row kp vp t,ps=>RowL (ThgIs σ T kp) (ThgIs σ T vp) (PairL σ T t) ps
  | _,_=>False
theorem PairL.keep {σ σ' : Sg} {T T' : TE} (K : Kp σ σ' T T') : ∀ {p:P} {ps:List V},PairL σ T p ps→PairL σ' T' p ps
  | .nil,_,h=>h
  | .row kp vp t,_,⟨kv,vv,kc,vc,ps',e,h1,h2,h3⟩=>⟨kv,vv,kc,vc,ps',e,h1.keep K,h2.keep K,PairL.keep K h3⟩
inductive RowsInv (σ:Sg) (T : TE):P→List V→Prop
  | nil : RowsInv σ T .nil []
  | row {kp vp t' : P} {r:Addr} {ys' : List V} {kv vv:V} {kc vc : Code} (h1 : σ r = some (.list [kv,vv])) (ne : r ≠ T.bx) (h2 : ThgIs σ T kp kv kc) (h3 : ThgIs σ T vp vv vc) (h4 : ThgIs σ T t' (.tup ys') (.list [])) : RowsInv σ T (.row kp vp t') (.ref r :: ys')
theorem rows_inv {σ:Sg} {T : TE} {t:P} {ys:List V} {c : Code} (hw : wf t .rs) : ThgIs σ T t (.tup ys) c→RowsInv σ T t ys:=
  P.rs_ (motive:=fun t=>ThgIs σ T t (.tup ys) c→RowsInv σ T t ys) hw (fun h=>by obtain ⟨h1,h2⟩:=h; cases h1; exact .nil) fun kp vp t _ h=>by
    obtain ⟨r,rs,kv,vv,kc,vc,h1,h2,h3,h4,h5,h6,h7⟩:=h
    cases h1; exact .row h3 h4 h5 h6 h7
theorem rows_len {σ:Sg} {T : TE} {l:P} : ∀ {vs:List V} {c : Code},wf l .rs→ThgIs σ T l (.tup vs) c→20 * vs.length ≤ wt l∧(isNilP l = vs.isEmpty):=by
  induction l with
  | nil=>intro vs c hw h; cases rows_inv hw h; exact ⟨Nat.le_refl _,rfl⟩
  | row kp vp t _ _ ih3=>
    intro vs c hw h
    cases rows_inv hw h with
    | row _ _ _ _ h7=>
      have:=ih3 hw.2.2.2.1 h7
      exact ⟨by simp only [List.length_cons,wW]; lia,rfl⟩
  | nul=>intro _ _ hw; exact nomatch hw
  | bool _=>intro _ _ hw; exact nomatch hw
  | _=>intro _ _ hw; exact nomatch hw.1
theorem chain_nil {σ:Sg} {T : TE} {l:P} {vs:List V} {c : Code} (hw : wf l .ls) (h : ThgIs σ T l (.tup vs) c) : isNilP l = vs.isEmpty:=by
  cases chain_inv hw h <;> rfl
theorem PairL.len {σ:Sg} {T : TE} : ∀ {l:P} {ps:List V},PairL σ T l ps→20 * ps.length ≤ wt l
  | .nil,_,h=>by cases h; simp
  | .row kp vp t,_,⟨kv,vv,kc,vc,ps',e,h1,h2,h3⟩=>by have:=h3.len; subst e; simp only [List.length_cons,wG,wL,wT,wC,wW]; lia
section
variable {g:G} {d:Nat} {σ:Sg} {Q:V→Sg→Prop} {T : TE}
inductive ShowLInv (σ:Sg) (T : TE) (k:Nat) (deep:Int) (l:P) (ys acc:List V) (σ' : Sg):Prop
  | mk (E : Ex [] σ σ') (t:P) (cs:List Code) (done:List (List Nat)) (h : ThgIs σ T t (.tup ys) (.list cs)) (hw : wf t .ls) (hd : dep t ≤ k) (hwt : wt t ≤ 1000000) (ha : acc = done.map .str) (he : done ++ shwL t (deep - 1) = shwL l (deep - 1))
inductive PairInv (σ:Sg) (T : TE) (l:P) (ys acc:List V) (σ' : Sg):Prop
  | mk (e : σ' = σ) (t:P) (h : ThgIs σ T t (.tup ys) (.list [])) (hw : wf t .rs) (k : ∀ ps,PairL σ T t ps→PairL σ T l (acc ++ ps))
theorem pairs_ok (K : GK g) (hd : 1 ≤ d) {a dd rd:Addr} {fs:List (Nat × V)} {kvs:List (Code × V)} {ep:Nat} {l:P} (h1 : σ a = some (.inst 120 dd)) (h2 : σ dd = some (.idict fs)) (h3 : flk fs 8 = some (.ref rd)) (h4 : σ rd = some (.cdict kvs ep)) (hw : wf l .rs) (hwt : wt l ≤ 1000000)
    (h5 : ThgIs σ T l (.tup (kvs.map (·.2))) (.list [])) (q : ∀ σ' r ps,Ex [] σ σ'→σ' r = some (.list ps)→PairL σ' T l ps→Q (.ref r) σ') : UCall g d (.ref 117) [.ref a] Q σ:=by
  refine fnc K (by assumption) rfl [some (.ref a)] rfl rfl ?_
  have hl:=rows_len hw h5
  simp only [List.length_map] at hl
  refine s_ret (e_comp ?_)
  walk_at "w"
  refine src_v h4 ⟨by simp [big]; lia,?_⟩
  refine comp1_rule (PairInv σ T l) (fun _ _ _ I=>I.rec fun e _ _ _ _=>by rw [e]; exact src_v' h4) (fun _ _ _ _ _=>rfl) ?_ ?_ ⟨rfl,l,h5,hw,fun ps h=>h⟩
  · intro y ys acc σ' Kc I hK
    obtain ⟨rfl,t,h6,hw6,h7⟩:=I
    cases rows_inv hw6 h6 with
    | @row kp vp t' r _ kv vv kc vc h8 h9 h10 h11 h12=>
      show wpE g _ _ [some (.ref r)] _ _
      walk_at "w"
      exact hK _ _ ⟨rfl,t',h12,hw6.2.2.2.1,fun ps h=>by rw [List.append_assoc]; exact h7 _ ⟨kv,vv,kc,vc,ps,rfl,h10,h11,h⟩⟩
  · intro acc σ' I r hr
    obtain ⟨rfl,t,h6,hw6,h7⟩:=I
    cases rows_inv hw6 h6 with
    | nil=>
      have:=h7 [] rfl
      rw [List.append_nil] at this
      exact q _ r acc (Ex.new hr) (upd_same _ _ _) (this.keep (Kp.pure (Ex.new hr) T))
theorem deep_list (l:P) (vs:List V) (k:Int) (h : isNilP l = vs.isEmpty) : (k < 1∧isNilP l = false) ↔ (k < 1∧(0:Int) < (vs.length:Int)):=by
  rw [h]; cases vs <;> simp <;> omega
noncomputable def SArgs (vs:List V) (v:V) (deep:Int):Prop:=vs = [v, .int deep]∨(vs = [v]∧deep = 6)
theorem SArgs.env {vs v deep} (h : SArgs vs v deep) : ir_show.env vs = [some v,some (.int deep),none]∧(decide (vs.length ≤ ir_show.np) && decide (ir_show.np ≤ vs.length + ir_show.dfl.length)) = true:=by
  rcases h with rfl | ⟨rfl,rfl⟩ <;> exact ⟨rfl,rfl⟩
noncomputable def ShowIH (g:G) (T : TE) (k:Nat):Prop:=∀ {d:Nat} {σ:Sg} {Q:V→Sg→Prop} {p:P} {v:V} {c : Code} {deep:Int} {vs:List V},SArgs vs v deep→dep p ≤ k→4 * k + 8 ≤ d→wf p .it→wt p ≤ 1000000→ThgIs σ T p v c→(∀ σ',Ex [] σ σ'→Q (.str (shw p deep)) σ')→UCall g d (.ref 331) vs Q σ
theorem sym_small {s:List Nat} (h : s ∈ symsL) : s.length ≤ 1000∧∀ c ∈ s,c < 1114112:=by
  have : (symsL.all fun s=>decide (s.length ≤ 1000) && s.all fun c=>decide (c < 1114112)) = true:=by decide +kernel
  have:=List.all_eq_true.mp this s h
  simpa using this
theorem text_small {s:List Nat} (h : textOk s) : s.length ≤ 1000∧∀ c ∈ s,c < 1114112:=by
  have : (signsL.all fun c=>decide (c < 1114112)) = true:=by decide +kernel
  exact ⟨by have:=h.1; exact le_lit2 ‹_› (by rfl),fun c hc=>by simpa using List.all_eq_true.mp this c (h.2 c hc)⟩
theorem show_flat (K : GK g) (hd : 5 ≤ d) {p:P} {v:V} {c : Code} {deep:Int} {vs:List V} (hvs : SArgs vs v deep) (hv : flat v = true) (hw : wf p .it) : ThgIs σ T p v c→(∀ σ',Ex [] σ σ'→Q (.str (shw p deep)) σ')→UCall g d (.ref 331) vs Q σ:=by
  intro h q
  refine fnc K (by exact le_lit ‹_› (by rfl)) rfl [some v,some (.int deep),none] hvs.env.1 hvs.env.2 ?_
  walk_at "w"
  refine sort_plain K (by exact le_litp ‹_› (by rfl)) hv ?_
  revert h q
  refine P.it_ hw (fun n hn h q=>?_) (fun s _ h _=>?_) (fun s hs h q=>?_) (fun h q=>?_) (fun b h q=>?_) (fun _ _ _ _ h _=>?_) (fun _ _ h _=>?_) (fun _ _ h _=>?_)
  · obtain ⟨rfl,rfl⟩:=h; walk_at "w"; exact f_str (intOk_len hn).2 (q σ (Ex.refl _ _))
  · obtain ⟨_,a,_,_,_,_,rfl,_⟩:=h; exact nomatch hv
  · obtain ⟨rfl,rfl⟩:=h; walk_at "w"
    exact show_symbol_ok K (by exact le_litp ‹_› (by rfl)) (sym_small hs).1 (sym_small hs).2 q
  · obtain ⟨rfl,rfl⟩:=h; walk_at "w"; exact q σ (Ex.refl _ _)
  · obtain ⟨rfl,rfl⟩:=h; cases b <;> (walk_at "w"; exact q σ (Ex.refl _ _))
  · obtain ⟨x,_,_,_,_,_,_,rfl,_⟩:=h; exact nomatch hv
  · obtain ⟨x,_,_,_,_,_,rfl,_⟩:=h; exact nomatch hv
  · obtain ⟨x,_,_,_,_,_,rfl,_⟩:=h; exact nomatch hv
theorem show_th (K : GK g) (hd : 2 ≤ d) {a C dd:Addr} {fs:List (Nat × V)} {deep:Int} {vs:List V} (hvs : SArgs vs (.ref a) deep) (h1 : σ a = some (.inst C dd)) (h2 : σ dd = some (.idict fs)) (h3 : clsL.contains C = true) (q : ∀ d',d' + 1 = d→UCall g d' (.ref 316) [.ref a, .int deep] Q σ) : UCall g d (.ref 331) vs Q σ:=by
  refine fnc K (by exact Nat.le_of_lt ‹_›) rfl [some (.ref a),some (.int deep),none] hvs.env.1 hvs.env.2 ?_
  walk_at "w"
  refine sort_thing K (by exact Nat.le_sub_of_add_le ‹_›) h1 h2 h3 ?_
  walk_at "w"
  exact q (d - 1) (by lia)
theorem show_txt (K : GK g) (hd : 5 ≤ d) {s:List Nat} {v:V} {c : Code} {deep:Int} {vs:List V} (hvs : SArgs vs v deep) (hw : wf (.text s) .it) (h : ThgIs σ T (.text s) v c) (q : ∀ σ',Ex [] σ σ'→Q (.str (shw (.text s) deep)) σ') : UCall g d (.ref 331) vs Q σ:=by
  obtain ⟨rfl,a,fs,k,m,fr,rfl,⟨dd,h1,h2⟩,h3,h4,h5,h6,h7⟩:=h
  refine show_th K (by exact le_lit ‹_› (by rfl)) hvs h1 h2 rfl fun d' e=>?_
  obtain ⟨d',rfl⟩ : ∃ e,d' = e + 1:=⟨d' - 1,by lia⟩
  refine fnc K (by exact Nat.succ_pos _) rfl [some (.ref a),some (.int deep),none] rfl rfl ?_
  walk_at "w"
  exact show_text_ok K (by lia) (text_small hw.2).1 (text_small hw.2).2 q
theorem ThgIs.isNone {p:P} {v:V} {c : Code} (hw : wf p .it) : ThgIs σ T p v c→isNone v = isNul p∧known v = true:=
  P.it_ (motive:=fun p=>ThgIs σ T p v c→Mine.isNone v = isNul p∧known v = true) hw (fun _ _ h=>by rw [h.1]; exact ⟨rfl,rfl⟩) (fun _ _ h=>by obtain ⟨_,a,_,_,_,_,rfl,_⟩:=h; exact ⟨rfl,rfl⟩) (fun _ _ h=>by rw [h.1]; exact ⟨rfl,rfl⟩) (fun h=>by rw [h.1]; exact ⟨rfl,rfl⟩) (fun _ h=>by rw [h.1]; exact ⟨rfl,rfl⟩)
    (fun _ _ _ _ h=>by obtain ⟨x,_,_,_,_,_,_,rfl,_⟩:=h; exact ⟨rfl,rfl⟩) (fun _ _ h=>by obtain ⟨x,_,_,_,_,_,rfl,_⟩:=h; exact ⟨rfl,rfl⟩) (fun _ _ h=>by obtain ⟨x,_,_,_,_,_,rfl,_⟩:=h; exact ⟨rfl,rfl⟩)
theorem rng_half (K : GK g) {k:Nat} (ih : ShowIH g T k) (hd : 4 * k + 8 ≤ d) {ρ:Env'} {x dd:Addr} {fs:List (Nat × V)} {i j:Nat} {a b:P} {va vb:V} {ca cb : Code} {deep:Int} (h0 : ρ.getD 0 none = some (.ref x)) (h1 : ρ.getD 1 none = some (.int deep))
    (e1 : σ x = some (.inst 140 dd)) (e2 : σ dd = some (.idict fs)) (ei : flk fs i = some va) (ej : flk fs j = some vb) (ai : attOk 140 i = true) (aj : attOk 140 j = true) (hka : dep a ≤ k) (wa : wf a .it) (wb : wf b .it) (hwt : wt a ≤ 1000000) (ha : ThgIs σ T a va ca) (hb : ThgIs σ T b vb cb)
    (q : ∀ σ',Ex [] σ σ'→Q (.str (bif isNul a && !isNul b then [] else shw a deep)) σ') :
    wpE g d (.ite (.and (.cons (.cmp .Is (.attr (.var 0) i) (.k .none)) (.cons (.cmp .IsNot (.attr (.var 0) j) (.k .none)) .nil))) (.k (.str [])) (.call (.u 331) (.cons (.attr (.var 0) i) (.cons (.var 1) .nil)))) ρ Q σ:=by
  have na:=ha.isNone wa
  have nb:=hb.isNone wb
  have call : (isNul a && !isNul b) = false→wpE g d (.call (.u 331) (.cons (.attr (.var 0) i) (.cons (.var 1) .nil))) ρ Q σ:=fun e=>by
    refine e_callu (es_cons (e_attr (e_var h0 (attr_ok e1 e2 ei ai (ha.handed wa) (es_cons (e_var h1 (es_nil ?_)))))))
    exact ih (.inl rfl) hka hd wa hwt ha fun σ' E=>by have:=q σ' E; rw [e] at this; exact this
  refine e_ite (e_and (e_and2 (e_cmp (e_attr (e_var h0 (attr_ok e1 e2 ei ai (ha.handed wa) (e_k (c_is na.2 (t_bool ?_)))))))))
  rw [na.1]
  refine if_b (fun h=>?_) fun h=>?_
  · refine e_and1 (e_cmp (e_attr (e_var h0 (attr_ok e1 e2 ej aj (hb.handed wb) (e_k (c_isn nb.2 (t_bool (t_bool ?_))))))))
    rw [nb.1]
    refine if_b (fun h'=>?_) fun h'=>?_
    · refine e_k ?_
      have:=q σ (Ex.refl _ _)
      rw [h,h'] at this; exact this
    · exact call (by rw [h,h']; rfl)
  · refine t_bool (if_f (call (by rw [h]; rfl)))
theorem show_rng (K : GK g) {k:Nat} (ih : ShowIH g T k) (hd : 4 * (k + 1) + 8 ≤ d) {a b:P} {o:Bool} {v:V} {c : Code} {deep:Int} {vs:List V} (hvs : SArgs vs v deep) (hk : dep (.range a b o) ≤ k + 1) (hw : wf (.range a b o) .it) (hwt : wt (.range a b o) ≤ 1000000) (h : ThgIs σ T (.range a b o) v c)
    (q : ∀ σ',Ex [] σ σ'→Q (.str (shw (.range a b o) deep)) σ') : UCall g d (.ref 331) vs Q σ:=by
  have hln:=(shf_len _ _ deep hw).1
  obtain ⟨x,fs,n,va,vb,ca,cb,rfl,rfl,⟨dd,h1,h2⟩,h3,h4,h5,h6,h7,h8⟩:=h
  have hab:=rangeOk_wf hw.2
  have hva:=h7.handed hab.1
  have hvb:=h8.handed hab.2
  simp only [dG,dL,dT,dC,dW] at hk
  simp only [wG,wL,wT,wC,wW] at hwt hln
  refine show_th K (by exact lt_lit ‹_› (by rfl)) hvs h1 h2 rfl fun d' e=>?_
  obtain ⟨d',rfl⟩ : ∃ e,d' = e + 1:=⟨d' - 1,by lia⟩
  refine fnc K (by exact Nat.succ_pos _) rfl [some (.ref x),some (.int deep),none] rfl rfl ?_
  walk_at "w"
  simp only [shw,shfG,shfL,shfT] at q
  refine if_d (fun hp=>?_) fun hp=>?_
  · rw [if_pos hp] at q
    walk_at "w"
    obtain ⟨d',rfl⟩ : ∃ e,d' = e + 1:=⟨d' - 1,by lia⟩
    refine fnc K (by exact Nat.succ_pos _) rfl [some (.ref x),some (.int (deep - 1)),none,none] rfl rfl ?_
    refine s_set (rng_half K ih (by lia) (i:=10) (j:=11) rfl rfl h1 h2 h4 h5 rfl rfl (by exact max1_l ‹_›) hab.1 hab.2 (by lia) h7 h8 fun σ₁ E₁=>?_)
    have h7':=h7.keep (Kp.pure E₁ T); have h8':=h8.keep (Kp.pure E₁ T)
    refine s_set (rng_half K ih (by lia) (i:=11) (j:=10) rfl rfl (E₁.get h1) (E₁.get h2) h5 h4 rfl rfl (by exact max1_r ‹_›) hab.2 hab.1 (by lia) h8' h7' fun σ₂ E₂=>?_)
    have h1':=E₂.get (E₁.get h1); have h2':=E₂.get (E₁.get h2)
    have la:=(shf_len a .it (deep - 1) hab.1).1
    have lb:=(shf_len b .it (deep - 1) hab.2).1
    have e1 : (bif isNul a && !isNul b then [] else (shf a (deep - 1)).1).length ≤ wt a:=by cases (isNul a && !isNul b) <;> simp [la]
    have e2 : (bif isNul b && !isNul a then [] else (shf b (deep - 1)).1).length ≤ wt b:=by cases (isNul b && !isNul a) <;> simp [lb]
    have hq:=q σ₂ (E₁.trans E₂)
    have hb : big = 16777216:=rfl
    unfold shw
    generalize (bif isNul a && !isNul b then [] else (shf a (deep - 1)).1) = s1 at *
    generalize (bif isNul b && !isNul a then [] else (shf b (deep - 1)).1) = s2 at *
    walk_at "w"
    cases o with
    | true=>
      walk_at "w"
      refine b_adds (by simp only [List.length_cons,List.length_nil]; lia) ?_
      walk_at "w"
      refine b_adds (by simp only [List.length_append,List.length_cons,List.length_nil]; lia) ?_
      exact hq
    | false=>
      walk_at "w"
      refine b_adds (by simp only [List.length_cons,List.length_nil]; lia) ?_
      walk_at "w"
      refine b_adds (by simp only [List.length_append,List.length_cons,List.length_nil]; lia) ?_
      exact hq
  · rw [if_neg hp] at q
    walk_at "w"
    exact q σ (Ex.refl _ _)
theorem show_lst (K : GK g) {k:Nat} (ih : ShowIH g T k) (hd : 4 * (k + 1) + 8 ≤ d) {l:P} {v:V} {c : Code} {deep:Int} {vs:List V} (hvs : SArgs vs v deep) (hk : dep (.list l) ≤ k + 1) (hw : wf (.list l) .it) (hwt : wt (.list l) ≤ 1000000) (h : ThgIs σ T (.list l) v c)
    (q : ∀ σ',Ex [] σ σ'→Q (.str (shw (.list l) deep)) σ') : UCall g d (.ref 331) vs Q σ:=by
  obtain ⟨x,fs,n,il,ws,cs,rfl,rfl,⟨dd,h1,h2⟩,h3,h4,h5,h6,h7⟩:=h
  simp only [dG,dL,dT,dC,dW] at hk
  simp only [wG,wL,wT,wC,wW] at hwt
  have hl:=chain_len hw.2 h7
  have hnl:=chain_nil hw.2 h7
  have hb : big = 16777216:=rfl
  refine show_th K (by exact lt_lit ‹_› (by rfl)) hvs h1 h2 rfl fun d' e=>?_
  obtain ⟨d',rfl⟩ : ∃ e,d' = e + 1:=⟨d' - 1,by lia⟩
  refine fnc K (by exact Nat.succ_pos _) rfl [some (.ref x),some (.int deep),none] rfl rfl ?_
  simp only [shw,shfG,shfL,shfT] at q
  have more : ¬ (deep < 1∧isNilP l = false)→wpSs g d' (.cons (.ret (.bin .Add (.bin .Add (.k (.str [91])) (.meth .join (.k (.str [44,32])) (.cons (.comp (.call (.u 331) (.cons (.var 0) (.cons (.bin .Sub (.var 1) (.k (.int 1))) .nil))) 1 [1] (.attr (.var 0) 7)) .nil))) (.k (.str [93])))) .nil) [some (.ref x),some (.int deep),none] (fun _ σ'=>Q .none σ') Q σ:=fun hn=>by
    rw [if_neg hn] at q
    refine s_ret (e_bin (e_bin (e_k (e_meth (e_k (r_str rfl (es_cons (e_comp ?_))))))))
    walk_at "w"
    refine src_l h5 ⟨by show ws.length ≤ big; lia,?_⟩
    refine comp1_rule (ShowLInv σ T k deep l) (fun _ _ _ ⟨E,_,_,_,_,_,_,_,_,_⟩=>src_l' (E.get h5)) (fun _ _ _ _ _=>rfl) ?_ ?_ ⟨Ex.refl _ _,l,cs,[],h7,hw.2,by exact Nat.le_of_succ_le_succ ‹_›,by lia,rfl,rfl⟩
    · rintro y ys acc σ' Kc ⟨E,t,ds,done,h8,hw8,hd8,hwt8,rfl,he⟩ hK
      cases chain_inv hw8 h8 with
      | @cons hh t' _ _ e' ds' h9 h10=>
        simp only [dG,dL,dT,dC,dW] at hd8
        simp only [wG,wL,wT,wC,wW] at hwt8
        show wpE g d' _ [some y,some (.int deep)] _ _
        walk_at "w"
        refine ih (.inl rfl) (by exact max_l ‹_›) (by lia) hw8.2.1 (by lia) (h9.keep (Kp.pure E T)) fun σ₂ E₂=>?_
        exact hK _ _ ⟨E.trans E₂,t',ds',done ++ [shw hh (deep - 1)],h10,hw8.2.2,by exact max_r ‹_›,by lia,by simp,by rw [← he]; simp [shwL,shfC,shfW,shfN,shw]⟩
    · rintro acc σ' ⟨E,t,ds,done,h8,hw8,hd8,hwt8,rfl,he⟩ r hr
      cases chain_inv hw8 h8 with
      | nil=>
        have ed : done = shwL l (deep - 1):=by rw [← he]; simp [shwL,shfC,shfW,shfN]
        have hlen:=(shf_len l .ls (deep - 1) hw.2).2
        have hjl:=joinL_len [44,32] (shf l (deep - 1)).2
        simp only [List.length_cons,List.length_nil] at hjl
        unfold shwL at ed
        subst ed
        walk_at "w"
        refine m_join (upd_same _ _ _) (strsOf_map _) (by simp only [List.length_cons,List.length_nil]; lia) ?_
        refine b_adds (by simp only [List.length_cons,List.length_nil]; lia) ?_
        walk_at "w"
        refine b_adds (by simp only [List.length_append,List.length_cons,List.length_nil]; lia) ?_
        exact q _ (E.trans (Ex.new hr))
  walk_at "w"
  refine if_d (fun hp=>?_) fun hp=>?_
  · walk_at "w"
    refine f_lenl h5 (by lia) ?_
    walk_at "w"
    refine if_d (fun hp2=>?_) fun hp2=>?_
    · rw [if_pos ((deep_list l ws deep hnl).mpr ⟨hp,hp2⟩)] at q
      walk_at "w"
      exact q σ (Ex.refl _ _)
    · refine s_nil ?_
      exact more fun z=>hp2 ((deep_list l ws deep hnl).mp z).2
  · refine t_bool (if_f (s_nil ?_))
    exact more fun z=>hp z.1
theorem pair_ok (K : GK g) {k:Nat} (ih : ShowIH g T k) (hd : 4 * k + 9 ≤ d) {kp vp:P} {kv vv:V} {kc vc : Code} {deep:Int} (hk : dep kp ≤ k∧dep vp ≤ k) (wk : wf kp .it) (wv : wf vp .it) (hwt : wt kp ≤ 1000000∧wt vp ≤ 1000000) (h1 : ThgIs σ T kp kv kc) (h2 : ThgIs σ T vp vv vc)
    (q : ∀ σ',Ex [] σ σ'→Q (.str (keyS kp (shw kp deep) ++ shw vp deep)) σ') : UCall g d (.ref 304) [kv,vv, .int deep] Q σ:=by
  refine fnc K (by exact le_lit ‹_› (by rfl)) rfl [some kv,some vv,some (.int deep)] rfl rfl ?_
  have lk : (shw kp deep).length ≤ wt kp:=(shf_len kp .it deep wk).1
  have lv : (shw vp deep).length ≤ wt vp:=(shf_len vp .it deep wv).1
  have hb : big = 16777216:=rfl
  have other : (∀ s,kp ≠ .sym s)→wpSs g (d - 1) (.cons (.ret (.bin .Add (.bin .Add (.call (.u 331) (.cons (.var 0) (.cons (.var 2) .nil))) (.k (.str [32,61,62,32]))) (.call (.u 331) (.cons (.var 1) (.cons (.var 2) .nil))))) .nil) [some kv,some vv,some (.int deep)] (fun _ σ'=>Q .none σ') Q σ:=fun hn=>by
    rw [keyS_oth hn] at q
    walk_at "w"
    refine ih (.inl rfl) hk.1 (by exact Nat.le_sub_of_add_le ‹_›) wk hwt.1 h1 fun σ₁ E₁=>?_
    walk_at "w"
    refine b_adds (by simp only [List.length_cons,List.length_nil]; lia) ?_
    walk_at "w"
    refine ih (.inl rfl) hk.2 (by exact Nat.le_sub_of_add_le ‹_›) wv hwt.2 (h2.keep (Kp.pure E₁ T)) fun σ₂ E₂=>?_
    refine b_adds (by simp only [List.length_append,List.length_cons,List.length_nil]; lia) ?_
    exact q σ₂ (E₁.trans E₂)
  have oflat : flat kv = true→sortS kv ≠ sSym→(∀ s,kp ≠ .sym s)→wpSs g (d - 1) ir_show_pair.body [some kv,some vv,some (.int deep)] (fun _ σ'=>Q .none σ') Q σ:=fun hf hs hn=>by
    walk_at "w"
    refine sort_plain K (by exact le_litp ‹_› (by rfl)) hf ?_
    walk_at "w"
    refine if_d (fun e=>absurd e hs) fun _=>other hn
  have othg : ∀ {a C dd:Addr} {fs:List (Nat × V)},kv = .ref a→σ a = some (.inst C dd)→σ dd = some (.idict fs)→clsL.contains C = true→(∀ s,kp ≠ .sym s)→wpSs g (d - 1) ir_show_pair.body [some kv,some vv,some (.int deep)] (fun _ σ'=>Q .none σ') Q σ:=fun e e1 e2 e3 hn=>by
    subst e
    walk_at "w"
    refine sort_thing K (by exact le_litp ‹_› (by rfl)) e1 e2 e3 ?_
    walk_at "w"
    exact other hn
  cases kp with
  | sym s=>
    obtain ⟨rfl,rfl⟩:=h1
    have ss:=sym_small wk.2
    unfold keyS at q
    dsimp only at q
    walk_at "w"
    refine sort_plain K (by exact le_litp ‹_› (by rfl)) rfl ?_
    walk_at "w"
    refine is_label_ok K (by exact le_litp ‹_› (by rfl)) ss.1 ?_
    walk_at "w"
    have lt:=showT_len s
    refine if_b (fun hl=>?_) fun hl=>?_
    · rw [hl,if_pos rfl] at q
      walk_at "w"
      refine b_adds (by simp only [List.length_cons,List.length_nil]; lia) ?_
      walk_at "w"
      refine ih (.inl rfl) hk.2 (by exact Nat.le_sub_of_add_le ‹_›) wv hwt.2 h2 fun σ₂ E₂=>?_
      refine b_adds (by simp only [List.length_append,List.length_cons,List.length_nil]; lia) ?_
      exact q σ₂ E₂
    · rw [hl,if_neg (by simp)] at q
      walk_at "w"
      refine show_text_ok K (by exact le_litp ‹_› (by rfl)) ss.1 ss.2 fun σ₁ E₁=>?_
      walk_at "w"
      refine b_adds (by simp only [List.length_cons,List.length_nil]; lia) ?_
      walk_at "w"
      refine ih (.inl rfl) hk.2 (by exact Nat.le_sub_of_add_le ‹_›) wv hwt.2 (h2.keep (Kp.pure E₁ T)) fun σ₂ E₂=>?_
      refine b_adds (by simp only [List.length_append,List.length_cons,List.length_nil]; lia) ?_
      exact q σ₂ (E₁.trans E₂)
  | int n=>exact oflat (by rw [h1.1]; rfl) (by rw [h1.1]; exact fun e=>by cases e) (fun _ e=>nomatch e)
  | nul=>exact oflat (by rw [h1.1]; rfl) (by rw [h1.1]; exact fun e=>by cases e) (fun _ e=>nomatch e)
  | bool b=>exact oflat (by rw [h1.1]; rfl) (by rw [h1.1]; exact fun e=>by cases e) (fun _ e=>nomatch e)
  | text s=>obtain ⟨_,a,fs,_,_,_,e,⟨dd,e1,e2⟩,_⟩:=id h1; exact othg e e1 e2 rfl (fun _ e=>nomatch e)
  | range _ _ _=>obtain ⟨a,fs,_,_,_,_,_,e,_,⟨dd,e1,e2⟩,_⟩:=id h1; exact othg e e1 e2 rfl (fun _ e=>nomatch e)
  | list _=>obtain ⟨a,fs,_,_,_,_,e,_,⟨dd,e1,e2⟩,_⟩:=id h1; exact othg e e1 e2 rfl (fun _ e=>nomatch e)
  | table _=>obtain ⟨a,fs,_,_,_,_,e,_,⟨dd,e1,e2⟩,_⟩:=id h1; exact othg e e1 e2 rfl (fun _ e=>nomatch e)
  | nil=>exact absurd rfl wk
  | cons _ _=>cases wk.1
  | row _ _ _=>cases wk.1
theorem show_tab (K : GK g) {k:Nat} (ih : ShowIH g T k) (hd : 4 * (k + 1) + 8 ≤ d) {l:P} {v:V} {c : Code} {deep:Int} {vs:List V} (hvs : SArgs vs v deep) (hk : dep (.table l) ≤ k + 1) (hw : wf (.table l) .it) (hwt : wt (.table l) ≤ 1000000) (h : ThgIs σ T (.table l) v c)
    (q : ∀ σ',Ex [] σ σ'→Q (.str (shw (.table l) deep)) σ') : UCall g d (.ref 331) vs Q σ:=by
  obtain ⟨x,fs,n,rd,kvs,ep,rfl,rfl,⟨dd,h1,h2⟩,h3,h4,h5,h6,h7⟩:=h
  simp only [dG,dL,dT,dC,dW] at hk
  simp only [wG,wL,wT,wC,wW] at hwt
  have hl:=rows_len hw.2 h7
  have hkl : (kvs.map (·.2)).isEmpty = kvs.isEmpty:=by cases kvs <;> rfl
  rw [List.length_map,hkl] at hl
  have hb : big = 16777216:=rfl
  refine show_th K (by exact lt_lit ‹_› (by rfl)) hvs h1 h2 rfl fun d' e=>?_
  obtain ⟨d',rfl⟩ : ∃ e,d' = e + 1:=⟨d' - 1,by lia⟩
  refine fnc K (by exact Nat.succ_pos _) rfl [some (.ref x),some (.int deep),none] rfl rfl ?_
  simp only [shw,shfG,shfL,shfT] at q
  have more : ¬ (deep < 1∧isNilP l = false)→wpSs g d' (.cons (.ret (.bin .Add (.bin .Add (.k (.str [123])) (.meth .join (.k (.str [44,32])) (.cons (.comp (.call (.u 304) (.cons (.var 0) (.cons (.var 1) (.cons (.bin .Sub (.var 2) (.k (.int 1))) .nil)))) 2 [1] (.umeth 52 (.var 0) .nil)) .nil))) (.k (.str [125])))) .nil) [some (.ref x),some (.int deep),none] (fun _ σ'=>Q .none σ') Q σ:=fun hn=>by
    rw [if_neg hn] at q
    refine s_ret (e_bin (e_bin (e_k (e_meth (e_k (r_str rfl (es_cons (e_comp ?_))))))))
    walk_at "w"
    refine pairs_ok K (by lia) h1 h2 h5 h6 hw.2 (by lia) h7 fun σ₁ r0 ps0 E₁ hr0 hp0=>?_
    refine src_l hr0 ⟨by show ps0.length ≤ big; have:=hp0.len; lia,?_⟩
    refine comp1_rule (fun ys acc σ'=>Ex [] σ₁ σ'∧∃ t done,PairL σ₁ T t ys∧wf t .rs∧dep t ≤ k∧wt t ≤ 1000000∧acc = done.map .str∧done ++ shwL t (deep - 1) = shwL l (deep - 1)) (fun _ _ _ h=>src_l' (h.1.get hr0)) (fun y ys acc σ' h=>?_) ?_ ?_ ⟨Ex.refl _ _,l,[],hp0,hw.2,by exact Nat.le_of_succ_le_succ ‹_›,by lia,rfl,rfl⟩
    · obtain ⟨E,t,done,h8,hw8,hd8,hwt8,rfl,he⟩:=h
      cases t with
      | row kp vp t=>obtain ⟨kv,vv,kc,vc,ps',e1,_⟩:=h8; cases e1; rfl
      | nil=>cases h8
      | _=>exact h8.elim
    · rintro y ys acc σ' Kc ⟨E,t,done,h8,hw8,hd8,hwt8,rfl,he⟩ hK
      cases t with
      | nil=>cases h8
      | row kp vp t=>
        obtain ⟨kv,vv,kc,vc,ps',e1,h9,h10,h11⟩:=h8
        cases e1
        simp only [dG,dL,dT,dC,dW] at hd8
        simp only [wG,wL,wT,wC,wW] at hwt8
        show wpE g d' _ [some kv,some vv,some (.int deep)] _ _
        walk_at "w"
        refine pair_ok K ih (by lia) (by lia) hw8.2.1 hw8.2.2.1 (by lia) (h9.keep (Kp.pure E T)) (h10.keep (Kp.pure E T)) fun σ₂ E₂=>?_
        exact hK _ _ ⟨E.trans E₂,t,done ++ [keyS kp (shw kp (deep - 1)) ++ shw vp (deep - 1)],h11,hw8.2.2.2.1,by exact max_e ‹_›,by lia,by simp,by rw [← he]; simp [shwL,shfC,shfW,shfN,shw]⟩
      | _=>exact h8.elim
    · rintro acc σ' ⟨E,t,done,h8,hw8,hd8,hwt8,rfl,he⟩ r hr
      cases t with
      | row kp vp t=>obtain ⟨kv,vv,kc,vc,ps',e1,h9,h10,h11⟩:=h8; cases e1
      | nil=>
        have ed : done = shwL l (deep - 1):=by rw [← he]; simp [shwL,shfC,shfW,shfN]
        have hlen:=(shf_len l .rs (deep - 1) hw.2).2
        have hjl:=joinL_len [44,32] (shf l (deep - 1)).2
        simp only [List.length_cons,List.length_nil] at hjl
        unfold shwL at ed
        subst ed
        walk_at "w"
        refine m_join (upd_same _ _ _) (strsOf_map _) (by simp only [List.length_cons,List.length_nil]; lia) ?_
        refine b_adds (by simp only [List.length_cons,List.length_nil]; lia) ?_
        walk_at "w"
        refine b_adds (by simp only [List.length_append,List.length_cons,List.length_nil]; lia) ?_
        exact q _ ((E₁.trans E).trans (Ex.new hr))
      | _=>exact h8.elim
  have dl : (deep < 1∧isNilP l = false) ↔ (deep < 1∧(0:Int) < (kvs.length:Int)):=by
    rw [hl.2]; cases kvs <;> simp <;> omega
  walk_at "w"
  refine if_d (fun hp=>?_) fun hp=>?_
  · walk_at "w"
    refine f_lenc h6 (by lia) ?_
    walk_at "w"
    refine if_d (fun hp2=>?_) fun hp2=>?_
    · rw [if_pos (dl.mpr ⟨hp,hp2⟩)] at q
      walk_at "w"
      exact q σ (Ex.refl _ _)
    · refine s_nil ?_
      exact more fun z=>hp2 (dl.mp z).2
  · refine t_bool (if_f (s_nil ?_))
    exact more fun z=>hp z.1
theorem show_aux (K : GK g) : ∀ k,ShowIH g T k:=by
  intro k
  induction k with
  | zero=>
    intro d σ Q p v c deep vs hvs hk hd hw hwt h q
    cases p with
    | int n=>exact show_flat K (by exact le_lit ‹_› (by rfl)) hvs (by rw [h.1]; rfl) hw h q
    | sym n=>exact show_flat K (by exact le_lit ‹_› (by rfl)) hvs (by rw [h.1]; rfl) hw h q
    | nul=>exact show_flat K (by exact le_lit ‹_› (by rfl)) hvs (by rw [h.1]; rfl) hw h q
    | bool b=>exact show_flat K (by exact le_lit ‹_› (by rfl)) hvs (by rw [h.1]; rfl) hw h q
    | text s=>exact show_txt K (by exact le_lit ‹_› (by rfl)) hvs hw h q
    | nil=>exact absurd rfl hw
    | cons _ _=>cases hw.1
    | row _ _ _=>cases hw.1
    | _=>simp only [dG,dL,dT,dC,dW] at hk; lia
  | succ k ih=>
    intro d σ Q p v c deep vs hvs hk hd hw hwt h q
    cases p with
    | int n=>exact show_flat K (by exact lt_lit ‹_› (by rfl)) hvs (by rw [h.1]; rfl) hw h q
    | sym n=>exact show_flat K (by exact lt_lit ‹_› (by rfl)) hvs (by rw [h.1]; rfl) hw h q
    | nul=>exact show_flat K (by exact lt_lit ‹_› (by rfl)) hvs (by rw [h.1]; rfl) hw h q
    | bool b=>exact show_flat K (by exact lt_lit ‹_› (by rfl)) hvs (by rw [h.1]; rfl) hw h q
    | text s=>exact show_txt K (by exact lt_lit ‹_› (by rfl)) hvs hw h q
    | nil=>exact absurd rfl hw
    | cons _ _=>cases hw.1
    | row _ _ _=>cases hw.1
    | range a b o=>exact show_rng K ih hd hvs hk hw hwt h q
    | list l=>exact show_lst K ih hd hvs hk hw hwt h q
    | table l=>exact show_tab K ih hd hvs hk hw hwt h q
end
structure StI (σ:Sg) (st:Addr) (Tx R:List Nat):Prop where
  ex : ∃ A,Tx = A ++ R∧σ st = some (.list [.str Tx, .int A.length])
  sz : Tx.length ≤ 2000000
theorem StI.keep {σ σ' : Sg} {st Tx R} (h : StI σ st Tx R) (E : Ex [] σ σ') : StI σ' st Tx R:=⟨let ⟨A,e,h⟩:=h.ex; ⟨A,e,E.get h⟩,h.sz⟩
theorem set_st {σ:Sg} {st:Addr} {a:V} {b c:V} {Q:Sg→Prop} (h : σ st = some (.list [a,b])) (q : Q (upd σ st (.list [a,c]))) : setItW (.ref st) (.int 1) c Q σ:=
  set_l h ⟨by decide,by simp,by simp [big]⟩ q
theorem take_app {A R:List Nat} (s:Nat) : sliceL (some (A.length:Int)) (some ((A.length:Int) + (s:Int))) (A ++ R) = R.take s:=by
  unfold sliceL clip
  have h1 : ¬ (A.length:Int) < 0:=by simp
  have h2 : ¬ (A.length:Int) + (s:Int) < 0:=by lia
  simp only [if_neg h1,if_neg h2]
  have e1 : (A.length:Int).toNat = A.length:=by rfl
  have e2 : ((A.length:Int) + (s:Int)).toNat = A.length + s:=by rfl
  have e3 : min A.length (A ++ R).length = A.length:=Nat.min_eq_left (by simp)
  rw [e1,e2,e3,List.drop_left,List.length_append]
  by_cases h : s ≤ R.length
  · rw [Nat.min_eq_left (by simp +arith [*])]; congr 1; simp
  · rw [Nat.min_eq_right (by lia),Nat.add_sub_cancel_left,List.take_length,List.take_of_length_le (by lia)]
section
variable {g:G} {d:Nat} {σ:Sg} {Q:V→Sg→Prop} {st:Addr} {Tx R:List Nat}
theorem at_yes (K : GK g) (hd : 1 ≤ d) {s R' : List Nat} (hs : s.length ≤ 1000) (S : StI σ st Tx R) (h : R = s ++ R') (q : ∀ σ',StI σ' st Tx R'→Ex [st] σ σ'→Q (.bool true) σ') : UCall g d (.ref 693) [.ref st, .str s] Q σ:=by
  refine fnc K (by assumption) rfl [some (.ref st),some (.str s)] rfl rfl ?_
  obtain ⟨⟨A,e,h0⟩,hz⟩:=S
  have hb : big = 16777216:=rfl
  walk_at "w"
  refine f_lens (by exact le_lit2 ‹_› (by rfl)) ?_
  walk_at "w"
  refine sl_s rfl rfl (by exact le_lit2 ‹_› (by rfl)) ?_
  have ts : sliceL (some (A.length:Int)) (some ((A.length:Int) + (s.length:Int))) Tx = R.take s.length:=by rw [e]; exact take_app _
  rw [ts]
  walk_at "w"
  refine if_d (fun _=>?_) fun hn=>absurd (by rw [h]; simp) hn
  walk_at "w"
  refine f_lens (by exact le_lit2 ‹_› (by rfl)) ?_
  walk_at "w"
  refine set_st h0 ?_
  walk_at "w"
  refine q _ ⟨⟨A ++ s,by rw [e,h,List.append_assoc],?_⟩,hz⟩ (Ex.set (by exact List.mem_cons_self ..))
  rw [upd_same]; simp
theorem at_no (K : GK g) (hd : 1 ≤ d) {s:List Nat} (hs : s.length ≤ 1000) (S : StI σ st Tx R) (h : ¬ s <+: R) (q : Q (.bool false) σ) : UCall g d (.ref 693) [.ref st, .str s] Q σ:=by
  refine fnc K (by assumption) rfl [some (.ref st),some (.str s)] rfl rfl ?_
  obtain ⟨⟨A,e,h0⟩,hz⟩:=S
  have hb : big = 16777216:=rfl
  walk_at "w"
  refine f_lens (by exact le_lit2 ‹_› (by rfl)) ?_
  walk_at "w"
  refine sl_s rfl rfl (by exact le_lit2 ‹_› (by rfl)) ?_
  have ts : sliceL (some (A.length:Int)) (some ((A.length:Int) + (s.length:Int))) Tx = R.take s.length:=by rw [e]; exact take_app _
  rw [ts]
  walk_at "w"
  refine if_d (fun hn=>absurd ⟨R.drop s.length,by have:=List.take_append_drop s.length R; rw [hn] at this; exact this⟩ h) fun _=>?_
  walk_at "w"
  exact q
noncomputable def runC (signs:List Nat) (c:Nat):Bool:=Unicode.isAlnum c || decide (c ∈ signs)
theorem get_app {A R:List Nat} {c:Nat} : (A ++ c :: R)[((A.length:Int)).toNat]? = some c:=by
  have : ((A.length:Int)).toNat = A.length:=by rfl
  rw [this]; simp
inductive RunI (σ:Sg) (st:Addr) (Tx signs A R:List Nat) (k:Nat) (ρ' : Env') (σ' : Sg):Prop
  | mk (hρ : ρ' = [some (.ref st),some (.str signs),some (.int A.length)]) (B R₁:List Nat) (e : R = B ++ R₁) (hB : B.all (runC signs) = true) (hk : R₁.length ≤ k) (h1 : σ' st = some (.list [.str Tx, .int ((A ++ B).length:Nat)])) (E : Ex [st] σ σ')
theorem run_ok (K : GK g) (hd : 1 ≤ d) {signs:List Nat} (S : StI σ st Tx R) (q : ∀ σ',StI σ' st Tx (R.dropWhile (runC signs))→Ex [st] σ σ'→Q (.str (R.takeWhile (runC signs))) σ') : UCall g d (.ref 705) [.ref st, .str signs] Q σ:=by
  refine fnc K (by assumption) rfl [some (.ref st),some (.str signs),none] rfl rfl ?_
  obtain ⟨⟨A,e,h0⟩,hz⟩:=S
  have hb : big = 16777216:=rfl
  walk_at "w"
  refine s_whlK (RunI σ st Tx signs A R) R.length ⟨rfl,[],R,rfl,rfl,Nat.le_refl _,by rw [List.append_nil]; exact h0,Ex.refl _ _⟩ ?_
  intro k ρ' σ' Kn I hK
  obtain ⟨rfl,B,R₁,e1,hB,hk,h1,E⟩:=I
  have eT : Tx = (A ++ B) ++ R₁:=by rw [e,e1,List.append_assoc]
  have fin : (R₁ = []∨∃ c r,R₁ = c :: r∧runC signs c = false)→wpSs g d (.cons (.ret (.slice (.idx (.var 0) (.k (.int 0))) (.var 2) (.idx (.var 0) (.k (.int 1))))) .nil) [some (.ref st),some (.str signs),some (.int A.length)] (fun _ σ'=>Q .none σ') Q σ':=fun hr=>by
    walk_at "w"
    refine sl_s rfl rfl (by exact le_lit2 ‹_› (by rfl)) ?_
    have t1 : R.takeWhile (runC signs) = B∧R.dropWhile (runC signs) = R₁:=by
      rw [e1,List.takeWhile_append_of_pos (by simpa using hB),List.dropWhile_append_of_pos (by simpa using hB)]
      rcases hr with rfl | ⟨c,r,rfl,hc⟩
      · simp
      · simp [hc]
    have t2 : sliceL (some (A.length:Int)) (some ((A ++ B).length:Int)) Tx = B:=by
      have:=take_app (A:=A) (R:=B ++ R₁) B.length
      rw [List.take_left'] at this
      · rw [eT,List.append_assoc,List.length_append]; simpa using this
      · rfl
    rw [t2, ← t1.1]
    refine q _ ⟨⟨A ++ B,by rw [t1.2]; exact eT,h1⟩,hz⟩ E
  walk_at "w"
  refine f_lens (by exact le_lit2 ‹_› (by rfl)) ?_
  walk_at "w"
  refine if_d (fun h2=>?_) fun h2=>?_
  · cases R₁ with
    | nil=>rw [List.append_nil] at eT; rw [eT] at h2; lia
    | cons c r=>
      have hix : Tx[(((A ++ B).length:Int)).toNat]? = some c:=by rw [eT]; exact get_app
      walk_at "w"
      refine ix_s hix ⟨by exact Int.ofNat_nonneg _,by lia⟩ ?_
      walk_at "w"
      have step : runC signs c = true→Kn [some (V.ref st),some (V.str signs),some (V.int A.length)] (upd σ' st (.list [.str Tx, .int (((A ++ B).length:Int) + 1)])):=fun hc=>by
        refine hK (k - 1) _ _ (Nat.sub_lt (Nat.lt_of_lt_of_le (Nat.succ_pos _) hk) Nat.one_pos) ⟨rfl,B ++ [c],r,by rw [e1,List.append_assoc]; rfl,?_,Nat.le_sub_of_add_le hk,?_,E.trans (Ex.set (.head _))⟩
        · rw [List.all_append,hB]; show (true && (runC signs c && true)) = true; rw [hc]; rfl
        · rw [upd_same, ← List.append_assoc,List.length_append (as:=A ++ B)]; rfl
      clear hK
      simp only [List.length_cons,List.length_nil,List.all_cons,List.all_nil,Bool.and_true,Nat.zero_add,Nat.lt_add_one,decide_true,Bool.true_and]
      have hrc : runC signs c = (Unicode.isAlnum c || decide (c ∈ signs)):=rfl
      refine if_b (fun h3=>?_) fun h3=>?_
      · walk_at "w"
        refine set_st h1 (s_nil ?_)
        exact step (by rw [hrc,h3]; rfl)
      · walk_at "w"
        refine ix_s hix ⟨by exact Int.ofNat_nonneg _,by lia⟩ ?_
        walk_at "w"
        refine if_d (fun h4=>?_) fun h4=>?_
        · walk_at "w"
          refine set_st h1 (s_nil ?_)
          exact step (by simp [hrc,h4])
        · exact fin (.inr ⟨c,r,rfl,by simp [hrc,h3,h4]⟩)
  · refine t_bool (if_f ?_)
    refine fin (.inl ?_)
    cases R₁ with
    | nil=>rfl
    | cons c r=>
      exfalso; apply h2
      rw [eT]; simp; simp +arith
end
noncomputable def quoteL:List Nat:=signsL ++ [49,61,63,110,111,91,93,117,112,33,43,120,102,103,60,62,85,45,42,47,37,38,124,94,99,95]
noncomputable def sgK:List (List Nat × V):=[([110], .str [10]),([116], .str [9]),([114], .str [13]),([101], .str [27]),([97], .str [7]),([98], .str [8]),([118], .str [11]),([102], .str [12])]
noncomputable def muK:List (List Nat × V):=[([117], .int 4),([120], .int 2)]
noncomputable def getS (x:Nat):V:=((sgK.find? fun p=>decide (p.1 = [x])).map (·.2)).getD (.str [x])
noncomputable def getM (x:Nat):V:=((muK.find? fun p=>decide (p.1 = [x])).map (·.2)).getD (.int 0)
noncomputable def sumHex (m:Nat) (hs:List Nat):Int:=((List.range m).map fun k:Nat=>(hexS.idxOf (hs.getD k 0):Int) * 16 ^ ((m:Int) - 1 - (k:Int)).toNat).sum
inductive Esc (c:Nat) (f:List Nat):Prop
  | one (x:Nat) (h : showL c f = [92,x]) (h1 : getM x = .int 0) (h2 : getS x = .str [c])
  | hex (x m:Nat) (hs:List Nat) (h : showL c f = 92 :: x :: hs) (h1 : getM x = .int m) (h2 : hs.length = m) (h3 : 0 < m∧m ≤ 4) (h4 : ∀ y ∈ hs,y ∈ hexS) (h5 : sumHex m hs = (c:Int)) (h6 : c < 1114112)
  | plain (h : showL c f = [c]) (h1 : c ≠ 34) (h2 : c ≠ 92) (h3 : c = 35→f ∉ ([[123],[36],[64]] : List (List Nat)))
noncomputable def escB (c:Nat) (w:List Nat):Bool:=match w with
  | [x]=>x == c && !(c == 34) && !(c == 92)
  | [_,x]=>w == [92,x] && ((muK.find? fun p=>decide (p.1 = [x])).isNone && (match getS x with | .str s=>s == [c] | _=>false))
  | _ :: x :: hs=>w == 92 :: x :: hs && ((match getM x with | .int m=>m == (hs.length:Int) | _=>false) && (Nat.ble 1 hs.length && (Nat.ble hs.length 4 && (hs.all hexS.contains && (sumHex hs.length hs == (c:Int) && Nat.ble (c + 1) 1114112)))))
  | _=>false
theorem esc_tab : (quoteL.all fun c=>c == 35 || escB c (showL c [])) = true:=by decide +kernel
theorem showL_same {c:Nat} (h : c ≠ 35) (f:List Nat) : showL c f = showL c []:=by
  have e : ∀ f,(if c = 35∧f ∈ ([[123],[36],[64]] : List (List Nat)) then [92,35] else if c < 32∨(127 < c∧c < 160) then [92,117,48,48] ++ [hexS.getD (c / 16) 0] ++ [hexS.getD (c % 16) 0] else [c]) = if c < 32∨(127 < c∧c < 160) then [92,117,48,48] ++ [hexS.getD (c / 16) 0] ++ [hexS.getD (c % 16) 0] else [c]:=fun f=>if_neg fun z=>h z.1
  unfold showL
  rw [e,e]
theorem getM_none {x:Nat} (h : (muK.find? fun p=>decide (p.1 = [x])).isNone = true) : getM x = .int 0:=by
  unfold getM; rw [Option.isNone_iff_eq_none.mp h]; rfl
theorem int_of {v:V} {m:Int} (h : (match v with | .int k=>k == m | _=>false) = true) : v = .int m:=by
  cases v with
  | int k=>exact congrArg V.int (eq_of_beq h)
  | _=>exact nomatch h
theorem str_of {v:V} {s:List Nat} (h : (match v with | .str k=>k == s | _=>false) = true) : v = .str s:=by
  cases v with
  | str k=>exact congrArg V.str (eq_of_beq h)
  | _=>exact nomatch h
theorem esc_of {c:Nat} (h35 : c ≠ 35) (f w:List Nat) (e : showL c f = w) (h : escB c w = true) : Esc c f:=by
  match w,e,h with
  | [x],e,h=>
    have h:=Bool.and_eq_true_iff.mp (show (x == c && !(c == 34) && !(c == 92)) = true from h)
    have h':=Bool.and_eq_true_iff.mp h.1
    rw [eq_of_beq h'.1] at e
    exact .plain e (fun z=>by rw [z] at h'; exact nomatch h'.2) (fun z=>by rw [z] at h; exact nomatch h.2) fun z=>absurd z h35
  | [y,x],e,h=>
    have h:=Bool.and_eq_true_iff.mp h
    have h':=Bool.and_eq_true_iff.mp h.2
    exact .one x (e.trans (eq_of_beq h.1)) (getM_none h'.1) (str_of h'.2)
  | y :: x :: z :: hs,e,h=>
    have h:=Bool.and_eq_true_iff.mp h
    have h1:=Bool.and_eq_true_iff.mp h.2
    have h2:=Bool.and_eq_true_iff.mp h1.2
    have h3:=Bool.and_eq_true_iff.mp h2.2
    have h4:=Bool.and_eq_true_iff.mp h3.2
    have h5:=Bool.and_eq_true_iff.mp h4.2
    exact .hex x (z :: hs).length (z :: hs) (e.trans (eq_of_beq h.1)) (int_of h1.1) rfl ⟨Nat.le_of_ble_eq_true h2.1,Nat.le_of_ble_eq_true h3.1⟩ (fun y hy=>List.contains_iff_mem.mp (List.all_eq_true.mp h4.1 y hy)) (eq_of_beq h5.1) (Nat.le_of_ble_eq_true h5.2)
theorem esc_all (c:Nat) (hc : c ∈ quoteL) (f:List Nat) : Esc c f:=by
  by_cases h35 : c = 35
  · subst h35
    by_cases hf : f ∈ ([[123],[36],[64]] : List (List Nat))
    · exact .one 35 (if_pos ⟨rfl,hf⟩) rfl rfl
    · exact .plain ((if_neg fun h=>hf h.2).trans rfl) (by decide) (by decide) fun _=>hf
  · have h:=List.all_eq_true.mp esc_tab c hc
    rw [beq_eq_false_iff_ne.mpr h35] at h
    exact esc_of h35 f _ (showL_same h35 f) h
theorem showL_head {c:Nat} {f:List Nat} (h : Esc c f) : ∃ y t,showL c f = y :: t∧y ≠ 34:=by
  cases h with
  | one x h _ _=>exact ⟨_,_,h,by decide⟩
  | hex x m hs h _ _ _ _ _ _=>exact ⟨_,_,h,by decide⟩
  | plain h h1 _ _=>exact ⟨_,_,h,h1⟩
section
variable {g:G} {d:Nat} {σ:Sg} {Q:V→Sg→Prop} {st:Addr} {Tx R:List Nat}
theorem StI.len (S : StI σ st Tx R) : R.length ≤ 2000000:=by
  obtain ⟨⟨A,e,_⟩,hz⟩:=S
  rw [e] at hz; simp at hz; lia
theorem next_head {r R' : List Nat} (hr : ∀ c ∈ r,c ∈ quoteL) (h : r.take 1 ∉ ([[123],[36],[64]] : List (List Nat))) : ∃ y t,showB r ++ 34 :: R' = y :: t∧y ∉ ([123,36,64] : List Nat):=by
  cases r with
  | nil=>exact ⟨34,R',rfl,by decide⟩
  | cons c r=>
    have hc : c ∉ ([123,36,64] : List Nat):=fun z=>h (by
      simp only [List.mem_cons,List.not_mem_nil,or_false] at z ⊢
      rcases z with rfl | rfl | rfl
      · exact .inl rfl
      · exact .inr (.inl rfl)
      · exact .inr (.inr rfl))
    have esc:=esc_all c (hr c (List.mem_cons_self ..)) (r.take 1)
    cases esc with
    | one x h _ _=>exact ⟨92,_,by simp only [showB,h]; rfl,by decide⟩
    | hex x m hs h _ _ _ _ _ _=>exact ⟨92,_,by simp only [showB,h]; rfl,by decide⟩
    | plain h h1 _ _=>exact ⟨c,_,by simp only [showB,h]; rfl,hc⟩
theorem m_getdv {a:Addr} {kvs:List (List Nat × V)} {s:List Nat} {dv v:V} (h0 : σ a = some (.sdict kvs)) (hv : ((kvs.find? fun p=>decide (p.1 = s)).map (·.2)).getD dv = v) (q : Q v σ) : mtW g .get (.ref a) [.str s,dv] Q σ:=
  m_getd2 h0 (by rw [hv]; exact q)
inductive QuoI (st sg:Addr) (Tx R' s:List Nat) (σ₁:Sg) (k:Nat) (ρ' : Env') (σ' : Sg):Prop
  | mk (s1 s2:List Nat) (v3 v4 v5:Option V) (hρ : ρ' = [some (.ref st),some (.ref sg),some (.str s1),v3,v4,v5]) (e : s = s1 ++ s2) (hk : s2.length = k) (S : StI σ' st Tx (showB s2 ++ 34 :: R')) (E : Ex [st] σ₁ σ')
inductive HexI (σ₅:Sg) (m:Nat) (val:Nat→Int) (ys acc:List V) (σ' : Sg):Prop
  | mk (e : σ' = σ₅) (i:Nat) (hi : i ≤ m) (hy : ys = ((List.range m).map fun i:Nat=>V.int (i:Int)).drop i) (ha : acc = ((List.range i).map val).map .int)
theorem range_item {m i:Nat} {y:V} {ys:List V} (e1 : y :: ys = ((List.range m).map fun i:Nat=>V.int (i:Int)).drop i) : i < m∧y = .int (i:Int)∧ys = ((List.range m).map fun i:Nat=>V.int (i:Int)).drop (i + 1):=by
  have hil : i < m:=by
    rcases Nat.lt_or_ge i m with h | h
    · exact h
    · rw [List.drop_eq_nil_of_le (by rw [List.length_map,List.length_range]; exact h)] at e1; cases e1
  rw [List.drop_eq_getElem_cons (by rw [List.length_map,List.length_range]; exact hil)] at e1
  have e2:=(List.cons.inj e1).1
  rw [List.getElem_map,List.getElem_range] at e2
  exact ⟨hil,e2,(List.cons.inj e1).2⟩
theorem range_end {m i:Nat} (hi : i ≤ m) (e1 : ([] : List V) = ((List.range m).map fun i:Nat=>V.int (i:Int)).drop i) : i = m:=by
  have:=congrArg List.length e1
  rw [List.length_drop,List.length_map,List.length_range] at this
  exact Nat.le_antisymm hi (Nat.sub_eq_zero_iff_le.mp this.symm)
theorem ints_map (l:List Int) : intsOf (l.map .int) = some l:=by
  induction l with
  | nil=>rfl
  | cons a r ih=>show (intsOf (r.map .int)).map (a :: ·) = _; rw [ih]; rfl
theorem quoted_ok (K : GK g) (hd : 2 ≤ d) {s R' : List Nat} (hs : ∀ c ∈ s,c ∈ quoteL) (hsl : s.length ≤ 1000) (S : StI σ st Tx (showB s ++ 34 :: R')) (q : ∀ σ',StI σ' st Tx R'→Ex [st] σ σ'→Q (.str s) σ') : UCall g d (.ref 698) [.ref st] Q σ:=by
  refine fnc K (by exact Nat.le_of_lt ‹_›) rfl [some (.ref st),none,none,none,none,none] rfl rfl ?_
  have hb : big = 16777216:=rfl
  walk_at "w"
  intro sg hsg
  have hsgl : (upd σ sg (.sdict sgK)) sg = some (.sdict sgK):=upd_same _ _ _
  have S₁ : StI (upd σ sg (.sdict sgK)) st Tx (showB s ++ 34 :: R'):=S.keep (Ex.new hsg)
  have E₁ : Ex [st] σ (upd σ sg (.sdict sgK)):=Ex.new hsg
  have hne : sg ≠ st:=by
    obtain ⟨⟨A,e,h0⟩,_⟩:=S
    exact (ne_some h0 hsg).symm
  change wpSs g _ _ _ _ _ (upd σ sg (.sdict sgK))
  generalize (upd σ sg (.sdict sgK)) = σ₁ at *
  walk_at "w"
  refine s_whlK (QuoI st sg Tx R' s σ₁) s.length ⟨[],s,_,_,_,rfl,rfl,rfl,S₁,Ex.refl _ _⟩ ?_
  intro k ρ' σ' Kn I hK
  obtain ⟨s1,s2,v3,v4,v5,rfl,e,rfl,S',E⟩:=I
  walk_at "w"
  cases s2 with
  | nil=>
    rw [List.append_nil] at e
    subst e
    refine at_yes K (by exact Nat.le_sub_of_add_le ‹_›) (by decide) S' rfl fun σ₂ S₂ E₂=>?_
    walk_at "w"
    exact q σ₂ S₂ ((E₁.trans E).trans E₂)
  | cons c r=>
    have hc : c ∈ quoteL:=hs c (by rw [e]; simp)
    have esc:=esc_all c hc (r.take 1)
    obtain ⟨y,t,hy,hy34⟩:=showL_head esc
    have eR : showB (c :: r) ++ 34 :: R' = showL c (r.take 1) ++ (showB r ++ 34 :: R'):=by simp [showB]
    rw [eR] at S'
    refine at_no K (by exact Nat.le_sub_of_add_le ‹_›) (by decide) S' (by rw [hy]; simp [List.cons_prefix_cons,hy34.symm]) ?_
    have hs1 : s1.length + 1 ≤ 1000:=by rw [e] at hsl; simp at hsl; lia
    obtain ⟨⟨A,eA,h0⟩,hz⟩:=id S'
    have hlen : (A.length:Int) < Tx.length:=by rw [eA,hy]; simp; lia
    have hA63 : (A.length:Int) < 2 ^ 63:=Int.lt_trans hlen (Int.lt_of_le_of_lt (Int.ofNat_le.mpr hz) (by decide))
    have hA64 : (A.length:Int) + 1 < 2 ^ 63:=Int.lt_of_le_of_lt hlen (Int.lt_of_le_of_lt (Int.ofNat_le.mpr hz) (by decide))
    have go : ∀ σ₃ v3 v4 v5,StI σ₃ st Tx (showB r ++ 34 :: R')→Ex [st] σ₁ σ₃→Kn [some (V.ref st),some (.ref sg),some (.str (s1 ++ [c])),v3,v4,v5] σ₃:=
      fun σ₃ v3 v4 v5 S₃ E₃=>hK r.length _ _ (Nat.lt_succ_self _) ⟨s1 ++ [c],r,v3,v4,v5,rfl,by rw [e,List.append_assoc]; rfl,rfl,S₃,E₃⟩
    clear hK
    walk_at "w"
    refine f_lens (by exact le_lit2 ‹_› (by rfl)) ?_
    walk_at "w"
    refine if_d (fun h=>by omega) fun _=>?_
    walk_at "w"
    cases esc with
    | plain h h1 h2 h3=>
      rw [h] at S'
      refine at_no K (by exact Nat.le_sub_of_add_le ‹_›) (by decide) S' (by simp [List.cons_prefix_cons,h2.symm]) ?_
      have hix : Tx[((A.length:Int)).toNat]? = some c:=by rw [eA,h]; exact get_app
      walk_at "w"
      refine ix_s hix ⟨by exact Int.ofNat_nonneg _,hA63⟩ ?_
      walk_at "w"
      have fin:=go (upd σ' st (.list [.str Tx, .int ((A.length:Int) + 1)])) v3 v4 v5 ⟨⟨A ++ [c],by rw [eA,h]; simp,by rw [upd_same]; simp⟩,hz⟩ (E.trans (Ex.set (by exact List.mem_cons_self ..)))
      refine if_d (fun h35=>?_) fun h35=>?_
      · have h35 : c = 35:=by simpa using h35
        obtain ⟨y2,t2,e2,hy2⟩:=next_head (R':=R') (fun z hz=>hs z (by rw [e]; simp [hz])) (h3 h35)
        have hix2 : Tx[((A.length:Int) + 1).toNat]? = some y2:=by
          have:=get_app (A:=A ++ [c]) (R:=t2) (c:=y2)
          rw [eA,h,e2]
          simpa using this
        walk_at "w"
        refine ix_s hix2 ⟨by exact Int.ofNat_nonneg _,hA64⟩ ?_
        walk_at "w"
        refine if_d (fun z=>absurd z hy2) fun _=>?_
        walk_at "w"
        refine ix_s hix ⟨by exact Int.ofNat_nonneg _,hA63⟩ ?_
        refine b_adds (by simp; exact le_lit2 ‹_› (by rfl)) ?_
        walk_at "w"
        refine set_st h0 (s_nil ?_)
        exact fin
      · walk_at "w"
        refine ix_s hix ⟨by exact Int.ofNat_nonneg _,hA63⟩ ?_
        refine b_adds (by simp; exact le_lit2 ‹_› (by rfl)) ?_
        walk_at "w"
        refine set_st h0 (s_nil ?_)
        exact fin
    | one x h h1 h2=>
      rw [h] at S'
      refine at_yes K (by exact Nat.le_sub_of_add_le ‹_›) (by decide) S' (s:=[92]) (R':=x :: (showB r ++ 34 :: R')) (by rfl) fun σ₂ S₂ E₂=>?_
      obtain ⟨⟨A2,eA2,k0⟩,_⟩:=id S₂
      have hix : Tx[((A2.length:Int)).toNat]? = some x:=by rw [eA2]; exact get_app
      have hlen2 : (A2.length:Int) < Tx.length:=by rw [eA2]; simp; lia
      walk_at "w"
      refine ix_s hix ⟨by exact Int.ofNat_nonneg _,by lia⟩ ?_
      walk_at "w"
      refine set_st k0 ?_
      have k1 : (upd σ₂ st (.list [.str Tx, .int ((A2.length:Int) + 1)])) st = some (.list [.str Tx, .int ((A2.length:Int) + 1)]):=upd_same _ _ _
      have E₃ : Ex [st] σ₁ (upd σ₂ st (.list [.str Tx, .int ((A2.length:Int) + 1)])):=(E.trans E₂).trans (Ex.set (by exact List.mem_cons_self ..))
      generalize (upd σ₂ st (.list [.str Tx, .int ((A2.length:Int) + 1)])) = σ₃ at *
      walk_at "w"
      intro mu hmu
      have k2:=upd_old (o':=.sdict ([[117],[120]].zip [V.int 4,V.int 2])) hmu k1
      have k3:=upd_old (o':=.sdict ([[117],[120]].zip [V.int 4,V.int 2])) hmu (E₃ _ _ hsgl (by exact nin1 (hne)))
      have k4 : (upd σ₃ mu (.sdict ([[117],[120]].zip [V.int 4,V.int 2]))) mu = some (.sdict ([[117],[120]].zip [V.int 4,V.int 2])):=upd_same _ _ _
      have E₄:=E₃.trans (Ex.new (S:=[st]) (o:=.sdict ([[117],[120]].zip [V.int 4,V.int 2])) hmu)
      walk_at "w"
      refine m_getdv k4 h1 ?_
      generalize (upd σ₃ mu _:Sg) = σ₄ at *
      walk_at "w"
      refine sl_s rfl rfl (by exact le_lit2 ‹_› (by rfl)) ?_
      walk_at "w"
      refine set_st k2 ?_
      walk_at "w"
      refine m_getdv (by walk_at "lk") h2 ?_
      refine b_adds (by simp; exact le_lit2 ‹_› (by rfl)) ?_
      refine go _ _ _ _ ⟨⟨A2 ++ [x],by rw [eA2]; simp,by rw [upd_same]; simp⟩,hz⟩ (E₄.trans (Ex.set (by exact List.mem_cons_self ..)))
    | hex x m hs' h h1 h2 h3 h4 h5 h6=>
      rw [h] at S'
      refine at_yes K (by exact Nat.le_sub_of_add_le ‹_›) (by decide) S' (s:=[92]) (R':=x :: (hs' ++ (showB r ++ 34 :: R'))) (by rfl) fun σ₂ S₂ E₂=>?_
      obtain ⟨⟨A2,eA2,k0⟩,_⟩:=id S₂
      have hix : Tx[((A2.length:Int)).toNat]? = some x:=by rw [eA2]; exact get_app
      have hlen2 : (A2.length:Int) < Tx.length:=by rw [eA2]; simp; lia
      walk_at "w"
      refine ix_s hix ⟨by exact Int.ofNat_nonneg _,by lia⟩ ?_
      walk_at "w"
      refine set_st k0 ?_
      have k1 : (upd σ₂ st (.list [.str Tx, .int ((A2.length:Int) + 1)])) st = some (.list [.str Tx, .int ((A2.length:Int) + 1)]):=upd_same _ _ _
      have E₃ : Ex [st] σ₁ (upd σ₂ st (.list [.str Tx, .int ((A2.length:Int) + 1)])):=(E.trans E₂).trans (Ex.set (by exact List.mem_cons_self ..))
      generalize (upd σ₂ st (.list [.str Tx, .int ((A2.length:Int) + 1)])) = σ₃ at *
      walk_at "w"
      intro mu hmu
      have k2:=upd_old (o':=.sdict ([[117],[120]].zip [V.int 4,V.int 2])) hmu k1
      have k4 : (upd σ₃ mu (.sdict ([[117],[120]].zip [V.int 4,V.int 2]))) mu = some (.sdict ([[117],[120]].zip [V.int 4,V.int 2])):=upd_same _ _ _
      have E₄:=E₃.trans (Ex.new (S:=[st]) (o:=.sdict ([[117],[120]].zip [V.int 4,V.int 2])) hmu)
      walk_at "w"
      refine m_getdv k4 h1 ?_
      generalize (upd σ₃ mu _:Sg) = σ₄ at *
      walk_at "w"
      refine sl_s rfl rfl (by exact le_lit2 ‹_› (by rfl)) ?_
      have hsl2 : sliceL (some ((A2.length:Int) + 1)) (some ((A2.length:Int) + 1 + (m:Int))) Tx = hs':=by
        have:=take_app (A:=A2 ++ [x]) (R:=hs' ++ (showB r ++ 34 :: R')) m
        rw [List.take_left' h2] at this
        rw [eA2]
        simpa using this
      rw [hsl2]
      walk_at "w"
      refine set_st k2 ?_
      walk_at "w"
      refine if_d (fun _=>?_) fun z=>absurd (by simp +arith [*]) z
      have k5 : (upd σ₄ st (.list [.str Tx, .int ((A2.length:Int) + 1 + (m:Int))])) st = some (.list [.str Tx, .int ((A2.length:Int) + 1 + (m:Int))]):=upd_same _ _ _
      have E₅ : Ex [st] σ₁ (upd σ₄ st (.list [.str Tx, .int ((A2.length:Int) + 1 + (m:Int))])):=E₄.trans (Ex.set (by exact List.mem_cons_self ..))
      generalize (upd σ₄ st (.list [.str Tx, .int ((A2.length:Int) + 1 + (m:Int))])) = σ₅ at *
      walk_at "w"
      walk_at "w"
      refine f_range ⟨by exact Int.ofNat_nonneg _,by simp [big]; lia⟩ ?_
      have em : ((m:Int)).toNat = m:=by rfl
      rw [em]
      refine src_r ⟨by simp [big]; lia,?_⟩
      let val:Nat→Int:=fun k=>(hexS.idxOf (hs'.getD k 0):Int) * 16 ^ ((m:Int) - 1 - (k:Int)).toNat
      refine comp1_rule (HexI σ₅ m val) (fun _ _ _ _=>rfl) (fun _ _ _ _ _=>rfl) ?_ ?_ ⟨rfl,0,Nat.zero_le _,rfl,rfl⟩
      · intro y ys acc σ' Kc I hK
        obtain ⟨rfl,i,hi,e1,rfl⟩:=I
        obtain ⟨hil,rfl,rfl⟩:=range_item e1
        have hih : i < hs'.length:=by simp +arith [*]
        have hgd : hs'.getD i 0 = hs'[i]:=by rw [List.getD_eq_getElem?_getD,List.getElem?_eq_getElem hih]; rfl
        have hmem:=h4 _ (List.getElem_mem hih)
        show wpE g _ _ [some (.int (i:Int)),some (.str hs'),some (.int (m:Int))] _ _
        walk_at "w"
        refine ix_s (c:=hs'[i]) (by
          have : ((i:Int)).toNat = i:=by rfl
          rw [this,List.getElem?_eq_getElem hih]) ⟨by exact Int.ofNat_nonneg _,by lia⟩ ?_
        walk_at "w"
        refine m_index hmem ?_
        walk_at "w"
        refine b_pow ⟨by lia,by lia,by decide⟩ ?_
        refine b_muli (by
          have:=List.idxOf_lt_length_of_mem hmem
          have : hexS.length = 16:=rfl
          exact le_lit2 ‹_› (by rfl)) ?_
        refine hK _ _ ⟨rfl,i + 1,hil,rfl,?_⟩
        rw [List.range_succ,List.map_append,List.map_append]
        show _ = _ ++ [V.int (val i)]
        rw [← hgd]
      · intro acc σ' I r0 hr0
        obtain ⟨rfl,i,hi,e1,rfl⟩:=I
        obtain rfl:=range_end hi e1
        walk_at "w"
        refine f_sum (upd_same _ _ _) (ints_map _) ?_
        have hsum : ((List.range i).map val).sum = (c:Int):=h5
        rw [hsum]
        walk_at "w"
        refine f_chr ⟨by exact Int.ofNat_nonneg _,by lia⟩ ?_
        have ec : ((c:Int)).toNat = c:=by rfl
        rw [ec]
        refine b_adds (by simp; exact le_lit2 ‹_› (by rfl)) ?_
        refine go _ _ _ _ ⟨⟨A2 ++ x :: hs',by rw [eA2]; simp,?_⟩,hz⟩ (E₅.trans (Ex.new hr0))
        rw [upd_old hr0 k5]; simp; simp +arith [*]
end
noncomputable def nameL:List (List Nat):=[[91,93,61],[91,93],[60,61,62],[61,61,61],[61,61],[61,126],[33,61],[33,126],[33],[42,42],[42],[47],[37],[43,64],[45,64],[43],[45],[60,60],[60,61]] ++ [[60],[62,62],[62,61],[62],[126],[38],[124],[94]]
noncomputable def symBody (s:List Nat):List Nat:=if plainSym s = true then s else showT s
noncomputable def FolI (R:List Nat):Prop:=R = []∨∃ c r,R = c :: r∧c ∈ ([44,93,125] : List Nat)
noncomputable def symTab (s:List Nat):Bool:=
  if plainSym s = true then
    (match s with | []=>false | c :: _=>!(c == 34)) && (nameL.all fun z=>[44,93,125].all fun c=>!(s ++ [c]).isPrefixOf z) &&
    (match nameL.find? fun z=>z.isPrefixOf s with
      | some z=>z == s
      | none=>(s.takeWhile (runC [95,64,36]) ++ (s.dropWhile (runC [95,64,36])).takeWhile (runC [63,33,61]) == s) && ((s.dropWhile (runC [95,64,36])).dropWhile (runC [63,33,61])).isEmpty)
  else s.all fun c=>quoteL.contains c
theorem sym_tab : (symsL.all symTab) = true:=by decide +kernel
theorem folI_run : ([44,93,125].all fun c=>!(runC [95,64,36] c) && !(runC [63,33,61] c)) = true:=by decide +kernel
theorem span_app {p:Nat→Bool} {s R:List Nat} (h : R = []∨∃ c r,R = c :: r∧p c = false) : (s ++ R).takeWhile p = s.takeWhile p∧(s ++ R).dropWhile p = s.dropWhile p ++ R:=by
  induction s with
  | nil=>
    rcases h with rfl | ⟨c,r,rfl,hc⟩
    · simp
    · simp [hc]
  | cons c s ih=>
    simp only [List.cons_append,List.takeWhile_cons,List.dropWhile_cons]
    by_cases hc : p c = true
    · simp only [if_pos hc,ih.1,ih.2]; exact ⟨trivial,trivial⟩
    · simp [if_neg hc]
theorem pre_iff (z s:List Nat) : z.isPrefixOf s = true ↔ z <+: s:=List.isPrefixOf_iff_prefix
section
variable {g:G} {d:Nat} {σ:Sg} {Q:V→Sg→Prop} {st:Addr} {Tx R:List Nat}
theorem name_ok (K : GK g) (hd : 3 ≤ d) {s R' : List Nat} (hs : s ∈ symsL) (hf : FolI R') (S : StI σ st Tx (symBody s ++ R')) (q : ∀ σ',StI σ' st Tx R'→Ex [st] σ σ'→Q (.str s) σ') : UCall g d (.ref 712) [.ref st] Q σ:=by
  refine fnc K (by exact le_lit ‹_› (by rfl)) rfl [some (.ref st),none,none] rfl rfl ?_
  have hb : big = 16777216:=rfl
  have tab:=List.all_eq_true.mp sym_tab s hs
  have hsm:=sym_small hs
  unfold symTab at tab
  unfold symBody at S
  walk_at "w"
  by_cases hp : plainSym s = true
  · rw [if_pos hp] at tab S
    simp only [Bool.and_eq_true] at tab
    obtain ⟨⟨t1,t2⟩,t3⟩:=tab
    have hno : ¬ ([34] : List Nat) <+: s ++ R':=fun h=>by
      cases s with
      | nil=>cases t1
      | cons c r=>
        rw [List.cons_append,List.cons_prefix_cons] at h
        simp [h.1.symm] at t1
    refine at_no K (by exact le_litp ‹_› (by rfl)) (by decide) S hno ?_
    walk_at "w"
    intro l1 h1
    walk_at "w"
    intro l2 h2
    refine b_addl (upd_old h2 (upd_same _ _ _)) (upd_same _ _ _) (by simp [big]) fun l3 h3=>?_
    generalize hσ : (upd (upd (upd σ l1 _) l2 _) l3 _:Sg) = σ₁
    have X₁ : Ex [] σ σ₁:=by rw [← hσ]; exact ((Ex.new (S:=[]) h1).trans (Ex.new h2)).trans (Ex.new h3)
    have S₁:=S.keep X₁
    have E₁ : Ex [st] σ σ₁:=X₁.nil
    have e3 : σ₁ l3 = some (.list (nameL.map .str)):=by rw [← hσ]; exact upd_same _ _ _
    have hne : l3 ≠ st:=by
      obtain ⟨⟨A,_,h0⟩,_⟩:=S
      exact (ne_some (upd_old h2 (upd_old h1 h0)) h3).symm
    clear hσ h1 h2 h3
    refine src_l e3 ⟨by simp [big,nameL],?_⟩
    have hpre : ∀ z ∈ nameL,z <+: s ++ R'→z <+: s:=fun z hz hzp=>by
      rcases hf with rfl | ⟨c,r,rfl,hc⟩
      · rwa [List.append_nil] at hzp
      · have t4:=List.all_eq_true.mp (List.all_eq_true.mp t2 z hz) c hc
        rcases (Nat.lt_or_ge s.length z.length).symm with hl | hl
        · exact List.prefix_of_prefix_length_le hzp (List.prefix_append _ _) hl
        · exfalso
          have h5 : s ++ [c] <+: z:=List.prefix_of_prefix_length_le (l₃:=s ++ c :: r) ⟨r,by exact List.append_assoc ..⟩ hzp (by simp; assumption)
          rw [(pre_iff _ _).mpr h5] at t4
          cases t4
    have hall : ∀ z,nameL.find? (fun z=>z.isPrefixOf s) = some z→z = s:=fun z e=>by
      rw [e] at t3; simpa using t3
    refine forW_rule (fun ys ρ' σ'=>(∃ v,ρ' = [some (.ref st),some (.ref l1),v])∧StI σ' st Tx (s ++ R')∧Ex [st] σ₁ σ'∧∃ dn rest,nameL = dn ++ rest∧ys = rest.map .str∧∀ z ∈ dn, ¬ z <+: s) (fun ys ρ' σ' h=>src_l' (h.2.2.1 _ _ e3 (by exact nin1 (hne)))) (fun y ys ρ' σ' Kc h hK=>?_) (fun ρ' σ' h=>?_) ⟨⟨_,rfl⟩,S₁,Ex.refl _ _,[],nameL,rfl,rfl,fun _ h=>(nomatch h)⟩
    · obtain ⟨⟨v,rfl⟩,S',E',dn,rest,e1,e2,hdn⟩:=h
      cases rest with
      | nil=>cases e2
      | cons z rest=>
        cases e2
        have hz : z ∈ nameL:=by rw [e1]; simp
        have hz3 : z.length ≤ 1000:=by
          have : (nameL.all fun z=>decide (z.length ≤ 1000)) = true:=by decide +kernel
          simpa using List.all_eq_true.mp this z hz
        show wpSs g _ _ [some (.ref st),some (.ref l1),some (.str z)] _ _ _
        walk_at "w"
        by_cases hzp : z <+: s ++ R'
        · have hzs:=hpre z hz hzp
          have : nameL.find? (fun z=>z.isPrefixOf s) = some z:=by
            rw [e1,List.find?_append]
            have h6 : dn.find? (fun z=>z.isPrefixOf s) = none:=by
              rw [List.find?_eq_none]; intro w hw h7; exact hdn w hw ((pre_iff _ _).mp h7)
            rw [h6,List.find?_cons,(pre_iff _ _).mpr hzs]; rfl
          have:=hall z this
          subst this
          refine at_yes K (by exact le_litp ‹_› (by rfl)) hz3 S' rfl fun σ₂ S₂ E₂=>?_
          walk_at "w"
          exact q σ₂ S₂ ((E₁.trans E').trans E₂)
        · refine at_no K (by exact le_litp ‹_› (by rfl)) hz3 S' hzp ?_
          walk_at "w"
          refine hK _ _ ⟨⟨_,rfl⟩,S',E',dn ++ [z],rest,by simp [e1],rfl,fun w hw=>?_⟩
          rcases List.mem_append.mp hw with hw | hw
          · exact hdn w hw
          · simp only [List.mem_singleton] at hw; subst hw
            exact fun h=>hzp (h.trans (List.prefix_append _ _))
    · obtain ⟨⟨v,rfl⟩,S',E',dn,rest,e1,e2,hdn⟩:=h
      cases rest with
      | cons z rest=>cases e2
      | nil=>
        rw [List.append_nil] at e1
        have : nameL.find? (fun z=>z.isPrefixOf s) = none:=by
          rw [e1,List.find?_eq_none]; intro w hw h7; exact hdn w hw ((pre_iff _ _).mp h7)
        rw [this] at t3
        simp only [Bool.and_eq_true,beq_iff_eq,List.isEmpty_iff] at t3
        have f1 : R' = []∨∃ c r,R' = c :: r∧runC [95,64,36] c = false:=by
          rcases hf with h | ⟨c,r,e,hc⟩
          · exact .inl h
          · have:=List.all_eq_true.mp folI_run c hc
            simp at this
            exact .inr ⟨c,r,e,this.1⟩
        have f2 : R' = []∨∃ c r,R' = c :: r∧runC [63,33,61] c = false:=by
          rcases hf with h | ⟨c,r,e,hc⟩
          · exact .inl h
          · have:=List.all_eq_true.mp folI_run c hc
            simp at this
            exact .inr ⟨c,r,e,this.2⟩
        walk_at "w"
        refine run_ok K (by exact le_litp ‹_› (by rfl)) S' fun σ₂ S₂ E₂=>?_
        rw [(span_app f1).2] at S₂
        rw [(span_app f1).1]
        walk_at "w"
        refine run_ok K (by exact le_litp ‹_› (by rfl)) S₂ fun σ₃ S₃ E₃=>?_
        rw [(span_app f2).2,t3.2] at S₃
        rw [(span_app f2).1]
        have hl : s.length = (s.takeWhile (runC [95,64,36])).length + ((s.dropWhile (runC [95,64,36])).takeWhile (runC [63,33,61])).length:=by
          rw [← List.length_append,t3.1]
        refine b_adds (by lia) ?_
        rw [t3.1]
        exact q σ₃ S₃ (((E₁.trans E').trans E₂).trans E₃)
  · rw [if_neg hp] at tab S
    unfold showT at S
    refine at_yes K (by exact le_litp ‹_› (by rfl)) (by decide) S (s:=[34]) (R':=showB s ++ 34 :: R') (by exact List.append_assoc ..) fun σ₂ S₂ E₂=>?_
    walk_at "w"
    refine quoted_ok K (by exact Nat.le_sub_of_add_le ‹_›) (fun c hc=>by simpa using List.all_eq_true.mp tab c hc) hsm.1 S₂ fun σ₃ S₃ E₃=>?_
    exact q σ₃ S₃ (E₂.trans E₃)
end
abbrev sWord:List Nat:=[119,111,114,100]
abbrev sTable:List Nat:=[116,97,98,108,101]
abbrev sTrue:List Nat:=[116,114,117,101]
abbrev sFalse:List Nat:=[102,97,108,115,101]
inductive PRange (σ:Sg) (N:Addr→Prop) (A B:V→Prop) (o:Bool) (v:V):Prop
  | mk (l:Addr) (va vb:V) (hv : v = .tup [.str sRange, .ref l]) (e : σ l = some (.list [va,vb, .bool o])) (n : N l) (ha : A va) (hb : B vb)
inductive PList (σ:Sg) (N:Addr→Prop) (s:List Nat) (L:V→Prop) (v:V):Prop
  | mk (l:Addr) (vs:List V) (hv : v = .tup [.str s, .ref l]) (e : σ l = some (.list vs)) (n : N l) (h : L (.tup vs))
inductive PCons (H T:V→Prop) (v:V):Prop
  | mk (y:V) (ys:List V) (hv : v = .tup (y :: ys)) (h1 : H y) (h2 : T (.tup ys))
inductive PRow (A B R:V→Prop) (v:V):Prop
  | mk (kv wv:V) (ys:List V) (hv : v = .tup (.tup [kv,wv] :: ys)) (h1 : A kv) (h2 : B wv) (h3 : R (.tup ys))
noncomputable def PlainIs (σ:Sg) (N:Addr→Prop):P→V→Prop
  | .int n,v=>v = .tup [.str sI, .int n]
  | .text s,v=>v = .tup [.str sText, .str s]
  | .sym s,v=>v = .tup [.str sSym, .str s]
  | .nul,v=>v = .tup [.str sWord, .str sNil]
  | .bool b,v=>v = .tup [.str sWord, .str (bif b then sTrue else sFalse)]
  | .range a b o,v=>PRange σ N (PlainIs σ N a) (PlainIs σ N b) o v
  | .list p,v=>PList σ N sList (PlainIs σ N p) v
  | .table p,v=>PList σ N sTable (PlainIs σ N p) v
  | .nil,v=>v = .tup []
  | .cons h t,v=>PCons (PlainIs σ N h) (PlainIs σ N t) v
  | .row k w t,v=>PRow (PlainIs σ N k) (PlainIs σ N w) (PlainIs σ N t) v
theorem PlainIs.keep {σ σ' : Sg} {N N' : Addr→Prop} (h1 : ∀ a xs,σ a = some (.list xs)→N a→σ' a = some (.list xs)) (h2 : ∀ a xs,σ a = some (.list xs)→N a→N' a) : ∀ {p:P} {v:V},PlainIs σ N p v→PlainIs σ' N' p v:=by
  intro p
  induction p with
  | range a b o iha ihb=>rintro v ⟨l,va,vb,rfl,e,n,h3,h4⟩; exact ⟨l,va,vb,rfl,h1 _ _ e n,h2 _ _ e n,iha h3,ihb h4⟩
  | list p ih=>rintro v ⟨l,vs,rfl,e,n,h3⟩; exact ⟨l,vs,rfl,h1 _ _ e n,h2 _ _ e n,ih h3⟩
  | table p ih=>rintro v ⟨l,vs,rfl,e,n,h3⟩; exact ⟨l,vs,rfl,h1 _ _ e n,h2 _ _ e n,ih h3⟩
  | cons h t iha ihb=>rintro v ⟨y,ys,rfl,h3,h4⟩; exact ⟨y,ys,rfl,iha h3,ihb h4⟩
  | row k w t iha ihb ihc=>rintro v ⟨y,w,ys,rfl,h3,h4,h5⟩; exact ⟨y,w,ys,rfl,iha h3,ihb h4,ihc h5⟩
  | _=>exact fun h=>h
noncomputable def New (σ:Sg) (a:Addr):Prop:=σ a = none
theorem New.back {S:List Addr} {σ σ₁:Sg} (E : Ex S σ σ₁) (hS : ∀ a ∈ S,σ₁ a ≠ none) {a:Addr} (h : New σ₁ a) : New σ a:=E.fresh h fun z=>hS a z h
noncomputable def runFol (R:List Nat):Prop:=R = []∨∃ c r,R = c :: r∧c ∈ ([44,93,125,32,46] : List Nat)
noncomputable def isDig (w:List Nat):Bool:=decide (0 < w.length) && w.all Unicode.isDigit
noncomputable def intTab (n:Int):Bool:=
  let w:=strI n
  (match w with | []=>false | c :: _=>![91,123,34,58].contains c) && w.all (runC [45]) && !(decide (w ∈ ([sNil,sTrue,sFalse] : List (List Nat)))) && isDig (w.dropWhile fun c=>[45].contains c) && (PySem.intText? (mkS w) == some n) && decide (w.length ≤ 640)
theorem int_tab : ([-3,1000000000000,0,1,2,3,4,5,6,7,8].all intTab) = true:=by decide +kernel
theorem run_fol : ([44,93,125,32,46].all fun c=>!(runC [45] c)) = true:=by decide +kernel
theorem word_run : ([sNil,sTrue,sFalse].all fun w=>w.all (runC [45]) && (match w with | []=>false | c :: _=>![91,123,34,58].contains c)) = true:=by decide +kernel
section
variable {g:G} {d:Nat} {σ:Sg} {Q:V→Sg→Prop} {st:Addr} {Tx R:List Nat}
theorem head_no {w R' : List Nat} {x:Nat} (h : (match w with | []=>false | c :: _=>![91,123,34,58].contains c) = true) (hx : x ∈ ([91,123,34,58] : List Nat)) : ¬ ([x] : List Nat) <+: w ++ R':=fun hp=>by
  cases w with
  | nil=>cases h
  | cons c r=>
    rw [List.cons_append,List.cons_prefix_cons] at hp
    rw [hp.1] at hx
    have : [91,123,34,58].contains c = true:=by simpa using hx
    have h : (![91,123,34,58].contains c) = true:=h
    rw [this] at h; cases h
theorem one_word (K : GK g) (hd : 2 ≤ d) {w R' : List Nat} (h1 : (match w with | []=>false | c :: _=>![91,123,34,58].contains c) = true) (h2 : w.all (runC [45]) = true) (hf : runFol R') (S : StI σ st Tx (w ++ R')) (hw : w.length ≤ 600)
    {v:V} (hv : (w ∈ ([sNil,sTrue,sFalse] : List (List Nat))∧v = .tup [.str sWord, .str w])∨(w ∉ ([sNil,sTrue,sFalse] : List (List Nat))∧∃ n,isDig (w.dropWhile fun c=>[45].contains c) = true∧PySem.intText? (mkS w) = some n∧v = .tup [.str sI, .int n]))
    (q : ∀ σ',StI σ' st Tx R'→Ex [st] σ σ'→Q v σ') : UCall g d (.ref 726) [.ref st] Q σ:=by
  refine fnc K (by exact Nat.le_of_lt ‹_›) rfl [some (.ref st),none,none] rfl rfl ?_
  have hb : big = 16777216:=rfl
  walk_at "w"
  refine at_no K (by exact Nat.le_sub_of_add_le ‹_›) (by decide) S (head_no h1 (by decide)) ?_
  walk_at "w"
  refine at_no K (by exact Nat.le_sub_of_add_le ‹_›) (by decide) S (head_no h1 (by decide)) ?_
  walk_at "w"
  refine at_no K (by exact Nat.le_sub_of_add_le ‹_›) (by decide) S (head_no h1 (by decide)) ?_
  walk_at "w"
  refine at_no K (by exact Nat.le_sub_of_add_le ‹_›) (by decide) S (head_no h1 (by decide)) ?_
  walk_at "w"
  have f1 : R' = []∨∃ c r,R' = c :: r∧runC [45] c = false:=by
    rcases hf with h | ⟨c,r,e,hc⟩
    · exact .inl h
    · have:=List.all_eq_true.mp run_fol c hc
      exact .inr ⟨c,r,e,by simpa using this⟩
  have t1 : (w ++ R').takeWhile (runC [45]) = w∧(w ++ R').dropWhile (runC [45]) = R':=by
    have h3 : ∀ x ∈ w,runC [45] x = true:=by simpa using h2
    rw [List.takeWhile_append_of_pos h3,List.dropWhile_append_of_pos h3]
    rcases f1 with rfl | ⟨c,r,rfl,hc⟩ <;> simp_all
  refine run_ok K (by exact Nat.le_sub_of_add_le ‹_›) S fun σ₂ S₂ E₂=>?_
  rw [t1.2] at S₂
  rw [t1.1]
  walk_at "w"
  intro l hl
  walk_at "w"
  have S₃:=S₂.keep (Ex.new (o:=.list [.str sNil, .str sTrue, .str sFalse]) hl)
  have E₃ : Ex [st] σ (upd σ₂ l (.list [.str sNil, .str sTrue, .str sFalse])):=E₂.trans (Ex.new hl)
  rcases hv with ⟨hm,rfl⟩ | ⟨hm,n,hdg,hin,rfl⟩
  · refine if_d (fun _=>?_) fun z=>absurd hm z
    walk_at "w"
    exact q _ S₃ E₃
  · refine if_d (fun z=>absurd z hm) fun _=>?_
    walk_at "w"
    refine mt_lstrip (by exact le_lit2 ‹_› (by rfl)) ?_
    walk_at "w"
    refine if_b (fun _=>?_) fun z=>?_
    · walk_at "w"
      refine f_int hin (by exact le_lit2 ‹_› (by rfl)) ?_
      walk_at "w"
      exact q _ S₃ E₃
    · exfalso
      unfold isDig at hdg
      rw [hdg] at z; cases z
theorem one_text (K : GK g) (hd : 3 ≤ d) {s R' : List Nat} (hs : ∀ c ∈ s,c ∈ quoteL) (hsl : s.length ≤ 1000) (S : StI σ st Tx (showT s ++ R')) (q : ∀ σ',StI σ' st Tx R'→Ex [st] σ σ'→Q (.tup [.str sText, .str s]) σ') : UCall g d (.ref 726) [.ref st] Q σ:=by
  refine fnc K (by exact le_lit ‹_› (by rfl)) rfl [some (.ref st),none,none] rfl rfl ?_
  have e : showT s ++ R' = [34] ++ (showB s ++ 34 :: R'):=by simp [showT]
  rw [e] at S
  walk_at "w"
  refine at_no K (by exact le_litp ‹_› (by rfl)) (by decide) S (by simp) ?_
  walk_at "w"
  refine at_no K (by exact le_litp ‹_› (by rfl)) (by decide) S (by simp) ?_
  walk_at "w"
  refine at_yes K (by exact le_litp ‹_› (by rfl)) (by decide) S rfl fun σ₂ S₂ E₂=>?_
  walk_at "w"
  refine quoted_ok K (by exact Nat.le_sub_of_add_le ‹_›) hs hsl S₂ fun σ₃ S₃ E₃=>?_
  walk_at "w"
  exact q σ₃ S₃ (E₂.trans E₃)
theorem one_sym (K : GK g) (hd : 4 ≤ d) {s R' : List Nat} (hs : s ∈ symsL) (hf : FolI R') (S : StI σ st Tx (symS s ++ R')) (q : ∀ σ',StI σ' st Tx R'→Ex [st] σ σ'→Q (.tup [.str sSym, .str s]) σ') : UCall g d (.ref 726) [.ref st] Q σ:=by
  refine fnc K (by exact le_lit ‹_› (by rfl)) rfl [some (.ref st),none,none] rfl rfl ?_
  have e : symS s ++ R' = [58] ++ (symBody s ++ R'):=by simp [symS,symBody]
  rw [e] at S
  walk_at "w"
  refine at_no K (by exact le_litp ‹_› (by rfl)) (by decide) S (by simp) ?_
  walk_at "w"
  refine at_no K (by exact le_litp ‹_› (by rfl)) (by decide) S (by simp) ?_
  walk_at "w"
  refine at_no K (by exact le_litp ‹_› (by rfl)) (by decide) S (by simp) ?_
  walk_at "w"
  refine at_yes K (by exact le_litp ‹_› (by rfl)) (by decide) S rfl fun σ₂ S₂ E₂=>?_
  walk_at "w"
  refine name_ok K (by exact Nat.le_sub_of_add_le ‹_›) hs hf S₂ fun σ₃ S₃ E₃=>?_
  walk_at "w"
  exact q σ₃ S₃ (E₂.trans E₃)
theorem one_flat (K : GK g) (hd : 4 ≤ d) {p:P} {R' : List Nat} {k:Int} (hw : wf p .it) (hp : dep p = 0) (hf : ∀ s,p = .sym s→FolI R') (hr : (∀ s,p ≠ .sym s)→(∀ s,p ≠ .text s)→runFol R') (S : StI σ st Tx (shw p k ++ R'))
    (q : ∀ σ' v,StI σ' st Tx R'→Ex [st] σ σ'→(∀ N,PlainIs σ' N p v)→Q v σ') : UCall g d (.ref 726) [.ref st] Q σ:=by
  cases p with
  | int n=>
    have tab:=List.all_eq_true.mp int_tab n (int_mem hw.2)
    unfold intTab at tab
    simp only [Bool.and_eq_true,Bool.not_eq_true',decide_eq_false_iff_not,beq_iff_eq,decide_eq_true_eq] at tab
    obtain ⟨⟨⟨⟨⟨t1,t2⟩,t3⟩,t4⟩,t5⟩,t6⟩:=tab
    have:=(intOk_len hw.2).1
    exact one_word K (by exact le_lit ‹_› (by rfl)) t1 t2 (hr (fun _ e=>nomatch e) fun _ e=>nomatch e) S (by exact le_lit2 ‹_› (by rfl)) (.inr ⟨t3,n,t4,t5,rfl⟩) fun σ' S' E=>q σ' _ S' E fun N=>rfl
  | nul=>exact one_word K (by exact le_lit ‹_› (by rfl)) (w:=sNil) (by decide) (by have:=List.all_eq_true.mp word_run sNil (by decide); rw [Bool.and_eq_true] at this; exact this.1) (hr (fun _ e=>nomatch e) fun _ e=>nomatch e) S (by decide) (.inl ⟨by decide,rfl⟩) fun σ' S' E=>q σ' _ S' E fun N=>rfl
  | bool b=>
    cases b with
    | true=>exact one_word K (by exact le_lit ‹_› (by rfl)) (w:=sTrue) (by decide) (by have:=List.all_eq_true.mp word_run sTrue (by decide); rw [Bool.and_eq_true] at this; exact this.1) (hr (fun _ e=>nomatch e) fun _ e=>nomatch e) S (by decide) (.inl ⟨by decide,rfl⟩) fun σ' S' E=>q σ' _ S' E fun N=>rfl
    | false=>exact one_word K (by exact le_lit ‹_› (by rfl)) (w:=sFalse) (by decide) (by have:=List.all_eq_true.mp word_run sFalse (by decide); rw [Bool.and_eq_true] at this; exact this.1) (hr (fun _ e=>nomatch e) fun _ e=>nomatch e) S (by decide) (.inl ⟨by decide,rfl⟩) fun σ' S' E=>q σ' _ S' E fun N=>rfl
  | text s=>
    have h1 : ∀ c ∈ s,c ∈ quoteL:=fun c hc=>by unfold quoteL; exact List.mem_append_left _ (hw.2.2 c hc)
    exact one_text K (by exact Nat.le_of_lt ‹_›) h1 (text_small hw.2).1 S fun σ' S' E=>q σ' _ S' E fun N=>rfl
  | sym s=>exact one_sym K hd hw.2 (hf s rfl) S fun σ' S' E=>q σ' _ S' E fun N=>rfl
  | nil=>exact absurd rfl hw
  | cons _ _=>exact nomatch hw.1
  | row _ _ _=>exact nomatch hw.1
  | _=>exact absurd hp (Nat.succ_ne_zero _)
end
noncomputable def FolR (R:List Nat):Prop:=R = []∨∃ c r,R = c :: r∧c ∈ ([44,93,125,32] : List Nat)
theorem FolI.r {R:List Nat} (h : FolI R) : FolR R:=h.imp id fun ⟨c,r,e,hc⟩=>⟨c,r,e,by simp only [List.mem_cons,List.not_mem_nil,or_false] at hc ⊢; lia⟩
theorem FolR.run {R:List Nat} (h : FolR R) : runFol R:=h.imp id fun ⟨c,r,e,hc⟩=>⟨c,r,e,by simp only [List.mem_cons,List.not_mem_nil,or_false] at hc ⊢; lia⟩
theorem FolR.nodot {R:List Nat} (h : FolR R) : ∀ r,R ≠ 46 :: r:=fun r e=>by
  rcases h with h | ⟨c,r',e',hc⟩
  · rw [h] at e; cases e
  · rw [e'] at e; cases e; revert hc; decide
noncomputable def headOk (w:List Nat):Prop:=∃ c r,w = c :: r∧c ∉ ([46,44,93,125,32,58] : List Nat)
theorem int_head : ([-3,1000000000000,0,1,2,3,4,5,6,7,8].all fun n:Int=>match strI n with | []=>false | c :: _=>!([46,44,93,125,32,58].contains c)) = true:=by decide +kernel
theorem head_int {n:Int} (h : intOk n) : headOk (strI n):=by
  have:=List.all_eq_true.mp int_head n (int_mem h)
  cases e : strI n with
  | nil=>rw [e] at this; cases this
  | cons c r=>rw [e] at this; exact ⟨c,r,rfl,by simpa using this⟩
noncomputable def isRange:P→Bool
  | .range ..=>true
  | _=>false
noncomputable def isSymP:P→Bool
  | .sym _=>true
  | _=>false
theorem ite_head {c:Prop} [Decidable c] {x:Nat} {a b:List Nat} (ha : ∃ r,a = x :: r) (hb : ∃ r,b = x :: r) : ∃ r,(if c then a else b) = x :: r:=by
  by_cases h : c
  · rw [if_pos h]; exact ha
  · rw [if_neg h]; exact hb
theorem shw_list (l:P) (k:Int) : ∃ r,shw (.list l) k = 91 :: r:=ite_head (c:=k < 1∧isNilP l = false) ⟨_,rfl⟩ ⟨_,rfl⟩
theorem shw_table (l:P) (k:Int) : ∃ r,shw (.table l) k = 123 :: r:=ite_head (c:=k < 1∧isNilP l = false) ⟨_,rfl⟩ ⟨_,rfl⟩
theorem head_item {p:P} {k:Int} (hw : wf p .it) : isRange p = false→isSymP p = false→headOk (shw p k):=
  P.it_ (motive:=fun p=>isRange p = false→isSymP p = false→headOk (shw p k)) hw (fun n h _ _=>head_int h) (fun s _ _ _=>⟨34,_,rfl,by decide⟩) (fun _ _ _ h=>nomatch h) (fun _ _=>⟨110,_,rfl,by decide⟩) (fun b _ _=>by cases b <;> exact ⟨_,_,rfl,by decide⟩)
    (fun _ _ _ _ h=>nomatch h) (fun l _ _ _=>let ⟨r,e⟩:=shw_list l k; ⟨91,r,e,by decide⟩) (fun l _ _ _=>let ⟨r,e⟩:=shw_table l k; ⟨123,r,e,by decide⟩)
theorem range_shw {a b:P} {o:Bool} {k:Int} (h : rangeOk a b) (hk : 0 < k) : shw (.range a b o) k = (if isNul a = true then [] else shw a (k - 1)) ++ ((bif o then [46,46,46] else [46,46]) ++ (if isNul b = true then [] else shw b (k - 1))):=by
  refine (if_pos hk).trans ?_
  induction h <;> exact List.append_assoc ..
theorem edge_flat {e f:P} (h : rangeOk e f) : (isNul e = false→(dep e = 0∧isRange e = false)∧isSymP e = false)∧(isNul f = false→(dep f = 0∧isRange f = false)∧isSymP f = false):=by
  induction h with
  | ni h=>exact ⟨fun h=>(nomatch h),fun _=>⟨⟨rfl,rfl⟩,rfl⟩⟩
  | im h=>exact ⟨fun _=>⟨⟨rfl,rfl⟩,rfl⟩,fun h=>(nomatch h)⟩
  | _=>exact ⟨fun _=>⟨⟨rfl,rfl⟩,rfl⟩,fun _=>⟨⟨rfl,rfl⟩,rfl⟩⟩
section
variable {g:G} {d:Nat} {σ:Sg} {Q:V→Sg→Prop} {st:Addr} {Tx R:List Nat}
theorem slice_st (S : StI σ st Tx R) (m:Nat) : ∃ A:List Nat,Tx = A ++ R∧σ st = some (.list [.str Tx, .int A.length])∧sliceL (some (A.length:Int)) (some ((A.length:Int) + (m:Int))) Tx = R.take m:=by
  obtain ⟨⟨A,e,h0⟩,hz⟩:=S
  exact ⟨A,e,h0,by rw [e]; exact take_app m⟩
theorem read_via (K : GK g) (hd : 2 ≤ d) {w R' : List Nat} {p:P} {N:Addr→Prop} (hw : ∃ c r,w = c :: r∧c ≠ 46) (hR : ∀ r,R' ≠ 46 :: r) (S : StI σ st Tx (w ++ R'))
    (one : ∀ d' Q',d' + 1 = d→(∀ σ' v,StI σ' st Tx R'→Ex [st] σ σ'→PlainIs σ' N p v→Q' v σ')→UCall g d' (.ref 726) [.ref st] Q' σ)
    (q : ∀ σ' v,StI σ' st Tx R'→Ex [st] σ σ'→PlainIs σ' N p v→Q v σ') : UCall g d (.ref 719) [.ref st] Q σ:=by
  refine fnc K (by exact Nat.le_of_lt ‹_›) rfl [some (.ref st),none,none,none,none] rfl rfl ?_
  have hb : big = 16777216:=rfl
  have hz:=S.sz
  obtain ⟨A,eA,h0,hsl⟩:=slice_st S 2
  obtain ⟨c,r,rfl,hc⟩:=hw
  walk_at "w"
  refine sl_s rfl rfl (by exact le_lit2 ‹_› (by rfl)) ?_
  rw [show ((A.length:Int) + 2) = (A.length:Int) + ((2:Nat):Int) from rfl,hsl]
  walk_at "w"
  refine if_d (fun h=>?_) fun _=>?_
  · exfalso
    cases r with
    | nil=>cases R' with
      | nil=>simp at h
      | cons z R'=>simp at h; exact hc h.1
    | cons z r=>simp at h; exact hc h.1
  · walk_at "w"
    refine one (d - 1) _ (by lia) fun σ₂ v S₂ E₂ hv=>?_
    walk_at "w"
    refine at_no K (by exact Nat.le_sub_of_add_le ‹_›) (by decide) S₂ (fun h=>by
      cases R' with
      | nil=>simp at h
      | cons z R'=>simp at h; exact hR _ (by rw [← h.1])) ?_
    walk_at "w"
    exact q σ₂ v S₂ E₂ hv
theorem plain_flat {p:P} {v:V} {σ σ' : Sg} {N N' : Addr→Prop} (h : dep p = 0) (hw : wf p .it) (hp : PlainIs σ N p v) : PlainIs σ' N' p v:=by
  cases p with
  | range _ _ _=>exact absurd h (Nat.succ_ne_zero _)
  | list _=>exact absurd h (Nat.succ_ne_zero _)
  | table _=>exact absurd h (Nat.succ_ne_zero _)
  | cons _ _=>exact nomatch hw.1
  | row _ _ _=>exact nomatch hw.1
  | _=>exact hp
theorem rr_flat {e f:P} (h : rangeOk e f∨rangeOk f e) (hn : isNul e = false) : dep e = 0∧isRange e = false∧isSymP e = false:=by
  rcases h with h | h
  · have:=(edge_flat h).1 hn; exact ⟨this.1.1,this.1.2,this.2⟩
  · have:=(edge_flat h).2 hn; exact ⟨this.1.1,this.1.2,this.2⟩
theorem rr_in {R' : List Nat} (hf : FolR R'):List.take 1 R' ∈ ([[],[44],[93],[125],[32]] : List (List Nat)):=by
  rcases hf with rfl | ⟨c,r,rfl,hc⟩
  · exact .head _
  · exact .tail _ (List.mem_map_of_mem (f:=fun c=>[c]) hc)
theorem rr_out {c:Nat} {r R' : List Nat} (hc : c ∉ [46,44,93,125,32,58]) (z:List.take 1 (c :: r ++ R') ∈ ([[],[44],[93],[125],[32]] : List (List Nat))) : False:=by
  have z : [c] ∈ ([[],[44],[93],[125],[32]] : List (List Nat)):=z
  cases z with
  | tail _ z=>
    obtain ⟨a,ha,e⟩:=List.mem_map.mp (show [c] ∈ ([44,93,125,32] : List Nat).map fun c=>[c] from z)
    cases e
    exact hc (.tail _ (List.mem_append_left [58] ha))
theorem rr_dots {c:Nat} {r R' : List Nat} {o:Bool} (hc : c ∉ [46,44,93,125,32,58]) (z:List.take 2 (c :: r ++ R') = [46,46]) : False:=by
  have e : c = 46:=(List.cons.inj (show c :: List.take 1 (r ++ R') = [46,46] from z)).1
  subst e; exact hc (.head _)
theorem nul_is {b:P} (hn : isNul b = true) {N:Addr→Prop} {σ' : Sg} : PlainIs σ' N b (.tup [.str sWord, .str sNil]):=by
  cases b with
  | nul=>rfl
  | _=>cases hn
theorem rr_nodot {b:P} {R' : List Nat} {k:Int} (hf : FolR R') (hb : wf b .it) (hh : isNul b = false→dep b = 0∧isRange b = false∧isSymP b = false) (r:List Nat) (e : (if isNul b = true then [] else shw b (k - 1)) ++ R' = 46 :: r) : False:=by
  by_cases hn : isNul b = true
  · rw [if_pos hn,List.nil_append] at e; exact hf.nodot r e
  · have fb:=hh (Bool.not_eq_true _ ▸ hn)
    obtain ⟨c,r',ec,hc⟩:=head_item (k:=k - 1) hb fb.2.1 fb.2.2
    rw [if_neg hn,ec] at e; cases e; exact hc (by decide)
theorem read_range (K : GK g) (hd : 5 ≤ d) {a b:P} {o:Bool} {k:Int} {R' : List Nat} (hw : wf (.range a b o) .it) (hk : 0 < k) (hf : FolR R') (S : StI σ st Tx (shw (.range a b o) k ++ R'))
    (q : ∀ σ' v,StI σ' st Tx R'→Ex [st] σ σ'→PlainIs σ' (New σ) (.range a b o) v→Q v σ') : UCall g d (.ref 719) [.ref st] Q σ:=by
  refine fnc K (by exact le_lit ‹_› (by rfl)) rfl [some (.ref st),none,none,none,none] rfl rfl ?_
  have hb : big = 16777216:=rfl
  have hz:=S.sz
  have hab:=rangeOk_wf hw.2
  rw [range_shw hw.2 hk,List.append_assoc,List.append_assoc] at S
  have hfa:=rr_flat (.inl hw.2)
  have hfb:=rr_flat (.inr hw.2)
  have more : ∀ σ₁ va,StI σ₁ st Tx ((bif o then [46,46,46] else [46,46]) ++ ((if isNul b = true then [] else shw b (k - 1)) ++ R'))→Ex [st] σ σ₁→(∀ N σ',PlainIs σ' N a va)→
      wpSs g (d - 1) (.cons (.ite (.not (.call (.u 693) (.cons (.var 0) (.cons (.k (.str [46,46])) .nil)))) (.cons (.ret (.var 1)) .nil) .nil) (.cons (.set 2 (.call (.u 693) (.cons (.var 0) (.cons (.k (.str [46])) .nil)))) (.cons (.set 3 (.slice (.idx (.var 0) (.k (.int 0))) (.idx (.var 0) (.k (.int 1))) (.bin .Add (.idx (.var 0) (.k (.int 1))) (.k (.int 1))))) (.cons (.set 4 (.ite (.cmp .In (.var 3) (.lst (.cons (.k (.str [])) (.cons (.k (.str [44])) (.cons (.k (.str [93])) (.cons (.k (.str [125])) (.cons (.k (.str [32])) .nil))))))) (.tup (.cons (.k (.str [119,111,114,100])) (.cons (.k (.str [110,105,108])) .nil))) (.call (.u 726) (.cons (.var 0) .nil)))) (.cons (.ret (.tup (.cons (.k (.str [114,97,110,103,101])) (.cons (.lst (.cons (.var 1) (.cons (.var 4) (.cons (.var 2) .nil)))) .nil)))) .nil)))))
        [some (.ref st),some va,none,none,none] (fun _ σ'=>Q .none σ') Q σ₁:=fun σ₁ va S₁ E₁ hva=>by
    have key : ∀ σ₂,StI σ₂ st Tx ((if isNul b = true then [] else shw b (k - 1)) ++ R')→Ex [st] σ σ₂→
      wpSs g (d - 1) (.cons (.set 3 (.slice (.idx (.var 0) (.k (.int 0))) (.idx (.var 0) (.k (.int 1))) (.bin .Add (.idx (.var 0) (.k (.int 1))) (.k (.int 1))))) (.cons (.set 4 (.ite (.cmp .In (.var 3) (.lst (.cons (.k (.str [])) (.cons (.k (.str [44])) (.cons (.k (.str [93])) (.cons (.k (.str [125])) (.cons (.k (.str [32])) .nil))))))) (.tup (.cons (.k (.str [119,111,114,100])) (.cons (.k (.str [110,105,108])) .nil))) (.call (.u 726) (.cons (.var 0) .nil)))) (.cons (.ret (.tup (.cons (.k (.str [114,97,110,103,101])) (.cons (.lst (.cons (.var 1) (.cons (.var 4) (.cons (.var 2) .nil)))) .nil)))) .nil)))
        (rset [some (.ref st),some va,none,none,none] 2 (.bool o)) (fun _ σ'=>Q .none σ') Q σ₂:=fun σ₂ S₂ E₂=>by
      obtain ⟨A,eA,h0,hsl⟩:=slice_st S₂ 1
      have fin : ∀ σ₃ vb,StI σ₃ st Tx R'→Ex [st] σ σ₃→(∀ N σ',PlainIs σ' N b vb)→∀ l,σ₃ l = none→Q (.tup [.str sRange, .ref l]) (upd σ₃ l (.list [va,vb, .bool o])):=fun σ₃ vb S₃ E₃ hvb l hl=>by
        have hl0 : New σ l:=E₃.fresh hl (by
          obtain ⟨⟨A,_,h0⟩,_⟩:=S₃
          simp only [List.mem_singleton]
          rintro rfl
          rw [h0] at hl; cases hl)
        exact q _ _ (S₃.keep (Ex.new hl)) (E₃.trans (Ex.new hl)) ⟨l,va,vb,rfl,upd_same _ _ _,hl0,hva _ _,hvb _ _⟩
      walk_at "w"
      refine sl_s rfl rfl (by exact le_lit2 ‹_› (by rfl)) ?_
      rw [show ((A.length:Int) + 1) = (A.length:Int) + ((1:Nat):Int) from rfl,hsl]
      walk_at "w"
      intro l0 hl0
      walk_at "w"
      have S₂':=S₂.keep (Ex.new (o:=.list [.str [], .str [44], .str [93], .str [125], .str [32]]) hl0)
      have E₂' : Ex [st] σ (upd σ₂ l0 (.list [.str [], .str [44], .str [93], .str [125], .str [32]])):=E₂.trans (Ex.new hl0)
      by_cases hn : isNul b = true
      · rw [if_pos hn,List.nil_append] at S₂'
        refine if_d (fun _=>?_) fun z=>?_
        · walk_at "w"
          exact fin _ _ S₂' E₂' (fun N σ'=>nul_is hn)
        · exact absurd (by rw [if_pos hn,List.nil_append]; exact rr_in hf) z
      · have fb:=hfb (Bool.not_eq_true _ ▸ hn)
        rw [if_neg hn] at S₂'
        obtain ⟨c,r,ec,hc⟩:=head_item (k:=k - 1) hab.2 fb.2.1 fb.2.2
        refine if_d (fun z=>?_) fun _=>?_
        · rw [if_neg hn,ec] at z; exact (rr_out hc z).elim
        · walk_at "w"
          refine one_flat K (by exact Nat.le_sub_of_add_le ‹_›) hab.2 fb.1 (fun s e=>by subst e; cases fb.2.2) (fun _ _=>hf.run) S₂' fun σ₃ vb S₃ E₃ hvb=>?_
          walk_at "w"
          exact fin _ _ S₃ (E₂'.trans E₃) fun N σ'=>plain_flat fb.1 hab.2 (hvb N)
    have Rb : ∀ r,(if isNul b = true then [] else shw b (k - 1)) ++ R' ≠ 46 :: r:=fun r e=>rr_nodot hf hab.2 hfb r e
    cases o with
    | true=>
      walk_at "w"
      refine at_yes K (by exact le_litp ‹_› (by rfl)) (by decide) S₁ (s:=[46,46]) (R':=46 :: ((if isNul b = true then [] else shw b (k - 1)) ++ R')) (by rfl) fun σ₂ S₂ E₂=>?_
      walk_at "w"
      refine at_yes K (by exact le_litp ‹_› (by rfl)) (by decide) S₂ (s:=[46]) (R':=(if isNul b = true then [] else shw b (k - 1)) ++ R') (by rfl) fun σ₃ S₃ E₃=>?_
      exact key σ₃ S₃ ((E₁.trans E₂).trans E₃)
    | false=>
      walk_at "w"
      refine at_yes K (by exact le_litp ‹_› (by rfl)) (by decide) S₁ (s:=[46,46]) (R':=(if isNul b = true then [] else shw b (k - 1)) ++ R') (by rfl) fun σ₂ S₂ E₂=>?_
      walk_at "w"
      refine at_no K (by exact le_litp ‹_› (by rfl)) (by decide) S₂ (fun h=>by
        obtain ⟨r,hr⟩:=h
        exact Rb r (by rw [← hr]; rfl)) ?_
      exact key σ₂ S₂ (E₁.trans E₂)
  obtain ⟨A,eA,h0,hsl⟩:=slice_st S 2
  walk_at "w"
  refine sl_s rfl rfl (by exact le_lit2 ‹_› (by rfl)) ?_
  rw [show ((A.length:Int) + 2) = (A.length:Int) + ((2:Nat):Int) from rfl,hsl]
  walk_at "w"
  by_cases hn : isNul a = true
  · rw [if_pos hn,List.nil_append] at S ⊢
    refine if_d (fun _=>?_) fun z=>absurd (by cases o <;> simp) z
    walk_at "w"
    exact more σ _ S (Ex.refl _ _) (fun N σ'=>nul_is hn)
  · have fa:=hfa (Bool.not_eq_true _ ▸ hn)
    obtain ⟨c,r,ec,hc⟩:=head_item (k:=k - 1) hab.1 fa.2.1 fa.2.2
    rw [if_neg hn] at S ⊢
    refine if_d (fun z=>?_) fun _=>?_
    · rw [ec] at z; exact (rr_dots (o:=o) hc z).elim
    · walk_at "w"
      refine one_flat K (by exact Nat.le_sub_of_add_le ‹_›) hab.1 fa.1 (fun s e=>by subst e; cases fa.2.2) (fun _ _=>.inr ⟨46,(bif o then [46,46] else [46]) ++ ((if isNul b = true then [] else shw b (k - 1)) ++ R'),by cases o <;> rfl,by decide⟩) S fun σ₃ va S₃ E₃ hva=>?_
      walk_at "w"
      exact more σ₃ va S₃ E₃ fun N σ'=>plain_flat fa.1 hab.1 (hva N)
end
noncomputable def ReadIH (g:G) (k:Nat):Prop:=∀ {d:Nat} {σ:Sg} {Q:V→Sg→Prop} {st:Addr} {Tx R' : List Nat} {p:P} {deep:Int},dep p ≤ k→3 * k + 8 ≤ d→wf p .it→(dep p:Int) ≤ deep→(∀ s,p = .sym s→FolI R')→FolR R'→StI σ st Tx (shw p deep ++ R')→
  (∀ σ' v,StI σ' st Tx R'→Ex [st] σ σ'→PlainIs σ' (New σ) p v→Q v σ')→UCall g d (.ref 719) [.ref st] Q σ
theorem joinL_cons (sep x:List Nat) (r:List (List Nat)) : joinL sep (x :: r) = x ++ (match r with | []=>[] | _ :: _=>sep ++ joinL sep r):=by
  cases r with
  | nil=>simp [joinL]
  | cons y r=>simp [joinL]
theorem joinL_ge : ∀ ts:List (List Nat),ts.length ≤ (joinL [44,32] ts).length + 1
  | []=>by exact Nat.le_add_right _ _
  | [x]=>by exact Nat.succ_pos _
  | x :: y :: r=>by
    have:=joinL_ge (y :: r)
    simp only [joinL,List.length_append,List.length_cons,List.length_nil] at *; lia
noncomputable def behind (r:List (List Nat)) (z:Nat) (R' : List Nat):List Nat:=match r with
  | []=>z :: R'
  | _ :: _=>44 :: 32 :: (joinL [44,32] r ++ z :: R')
theorem join_behind (x:List Nat) (r:List (List Nat)) (z:Nat) (R' : List Nat) : joinL [44,32] (x :: r) ++ z :: R' = x ++ behind r z R':=by
  rw [joinL_cons,List.append_assoc]
  cases r <;> rfl
theorem behind_fol (r:List (List Nat)) (z:Nat) (R' : List Nat) (hz : z = 93∨z = 125) : FolI (behind r z R'):=by
  cases r with
  | nil=>exact .inr ⟨z,R',rfl,by rcases hz with rfl | rfl <;> decide⟩
  | cons y r=>exact .inr ⟨44,_,rfl,by decide⟩
theorem item_range {a b:P} {o:Bool} {k:Int} (hr : rangeOk a b) : ∃ c r,shw (.range a b o) k = c :: r∧c ∉ ([44,93,125,32] : List Nat):=by
  by_cases hk : 0 < k
  · rw [range_shw hr hk]
    cases hn : isNul a with
    | true=>cases o <;> exact ⟨46,_,rfl,by decide⟩
    | false=>
      have h1:=(edge_flat hr).1 hn
      obtain ⟨c,r,e,hc⟩:=head_item (k:=k - 1) (rangeOk_wf hr).1 h1.1.2 h1.2
      rw [if_neg Bool.false_ne_true,e]
      exact ⟨c,_,rfl,fun z=>hc (by simp only [List.mem_cons,List.not_mem_nil,or_false] at z ⊢; lia)⟩
  · exact ⟨40,_,if_neg hk,by decide⟩
theorem item_head {p:P} {k:Int} (hw : wf p .it) : ∃ c r,shw p k = c :: r∧c ∉ ([44,93,125,32] : List Nat):=by
  have other : isRange p = false→isSymP p = false→∃ c r,shw p k = c :: r∧c ∉ ([44,93,125,32] : List Nat):=fun h1 h2=>by
    obtain ⟨c,r,e,hc⟩:=head_item (k:=k) hw h1 h2
    exact ⟨c,r,e,fun z=>hc (by simp only [List.mem_cons,List.not_mem_nil,or_false] at z ⊢; lia)⟩
  cases p with
  | sym s=>exact ⟨58,_,rfl,by decide⟩
  | range a b o=>exact item_range hw.2
  | _=>exact other rfl rfl
section
variable {g:G} {d:Nat} {σ:Sg} {Q:V→Sg→Prop} {st:Addr} {Tx R:List Nat}
theorem StI.live (S : StI σ st Tx R) : σ st ≠ none:=by
  obtain ⟨⟨A,_,h⟩,_⟩:=S
  rw [h]; simp
theorem StI.ne (S : StI σ st Tx R) {a:Addr} (h : σ a = none) : a ≠ st:=fun z=>S.live (by rw [← z]; exact h)
theorem grown {σ₀ σ' σ'' : Sg} {fl:Addr} {dn:List V} {h:P} {v:V} (E : Ex [st] σ' σ'') (S : StI σ' st Tx R) (hst0 : σ₀ st ≠ none) (X : ∀ a,σ' a = none→σ₀ a = none) (hf : σ' fl = some (.list dn)) (hfs : fl ≠ st) (hp : PlainIs σ'' (New σ') h v) :
    PlainIs (upd σ'' fl (.list (dn ++ [v]))) (fun a=>σ₀ a = none∧a ≠ fl∧a ≠ st) h v:=
  hp.keep (fun a xs e n=>by rw [upd_ne (fun z=>by rw [z] at n; exact absurd (hf.symm.trans n) (by simp))]; exact e) (fun a xs e n=>show σ₀ a = none∧a ≠ fl∧a ≠ st from ⟨X a n,(fun z=>by rw [z] at n; exact absurd (hf.symm.trans n) (by simp)),S.ne n⟩)
noncomputable def Nw (σ:Sg) (fl st:Addr) (a:Addr):Prop:=σ a = none∧a ≠ fl∧a ≠ st
noncomputable def Held (σ:Sg) (fl st:Addr) (σ' σ'' : Sg):Prop:=∀ a xs,σ' a = some (.list xs)→Nw σ fl st a→σ'' a = some (.list xs)
inductive ListI (σ:Sg) (st fl:Addr) (Tx R' : List Nat) (l:P) (deep:Int) (k n:Nat) (ρ' : Env') (σ' : Sg):Prop
  | mk (t:P) (dn:List V) (v:Option V) (hρ : ρ' = [some (.ref st),some (.ref fl),v]) (hw : wf t .ls) (hk : dep t ≤ k) (hd : (dep t:Int) + 1 ≤ deep) (hn : (shwL t (deep - 1)).length = n) (S : StI σ' st Tx (joinL [44,32] (shwL t (deep - 1)) ++ 93 :: R')) (E : Ex [st,fl] σ σ') (hf : σ' fl = some (.list dn)) (hl : dn.length + n ≤ 3000000)
    (c : ∀ σ'' ys,Held σ fl st σ' σ''→PlainIs σ'' (Nw σ fl st) t (.tup ys)→PlainIs σ'' (Nw σ fl st) l (.tup (dn ++ ys)))
theorem one_list (K : GK g) {k:Nat} (ih : ReadIH g k) (hd : 3 * k + 10 ≤ d) {l:P} {R' : List Nat} {deep:Int} (hk : dep l ≤ k) (hw : wf (.list l) .it) (hdp : ((dep l:Int) + 1) ≤ deep) (S : StI σ st Tx (shw (.list l) deep ++ R'))
    (q : ∀ σ' v,StI σ' st Tx R'→Ex [st] σ σ'→PlainIs σ' (New σ) (.list l) v→Q v σ') : UCall g d (.ref 726) [.ref st] Q σ:=by
  refine fnc K (by exact le_lit ‹_› (by rfl)) rfl [some (.ref st),none,none] rfl rfl ?_
  have hb : big = 16777216:=rfl
  have e : shw (.list l) deep ++ R' = [91] ++ (joinL [44,32] (shwL l (deep - 1)) ++ 93 :: R'):=by
    simp only [shw,shfL,shfT,shwL]
    rw [if_neg (by lia)]; simp
  rw [e] at S
  walk_at "w"
  refine at_yes K (by exact le_litp ‹_› (by rfl)) (by decide) S rfl fun σ₁ S₁ E₁=>?_
  walk_at "w"
  intro fl hfl
  have hfs : fl ≠ st:=S₁.ne hfl
  have hf0 : σ fl = none:=E₁.fresh hfl (by exact nin1 hfs)
  have S₂:=S₁.keep (Ex.new (o:=.list []) hfl)
  have hf2 : (upd σ₁ fl (.list [])) fl = some (.list []):=upd_same _ _ _
  have E₂ : Ex [st,fl] σ (upd σ₁ fl (.list [])):=(E₁.weak (by exact sub1 (.head _))).trans (Ex.set (by exact .tail _ (.head _)))
  generalize (upd σ₁ fl (.list [])) = σ₂ at *
  walk_at "w"
  refine s_whlK (ListI σ st fl Tx R' l deep k)
    (shwL l (deep - 1)).length ⟨l,[],none,rfl,hw.2,hk,hdp,rfl,S₂,E₂,hf2,by have:=joinL_ge (shwL l (deep - 1)); have:=S₂.len; simp at this ⊢; lia,fun σ'' ys _ h=>h⟩ ?_
  intro n ρ' σ' Kn I hK
  obtain ⟨t,dn,v,rfl,hwt,hkt,hdt,hn,S',E',hf',hl',cont⟩:=I
  have X : ∀ a,σ' a = none→σ a = none:=fun a ha=>E'.fresh ha (by
    simp only [List.mem_cons,List.not_mem_nil,or_false,not_or]
    exact ⟨S'.ne ha,fun z=>by subst z; rw [hf'] at ha; cases ha⟩)
  walk_at "w"
  cases t with
  | nil=>
    refine at_yes K (by exact le_litp ‹_› (by rfl)) (by decide) S' (s:=[93]) (R':=R') (by simp [shwL,shfC,shfW,shfN,joinL]) fun σ₃ S₃ E₃=>?_
    have hf3:=E₃ _ _ hf' (by exact nin1 hfs)
    walk_at "w"
    refine q σ₃ _ S₃ (Ex.drop (r:=fl) ((E'.weak (by simp)).trans (E₃.weak (by exact sub1 (.tail _ (.head _))))) hf0) ⟨fl,dn,rfl,hf3,hf0,?_⟩
    have:=cont σ₃ [] (fun a xs e n=>E₃ _ _ e (by exact nin1 (n.2.2))) rfl
    rw [List.append_nil] at this
    exact this.keep (fun a xs e _=>e) (fun a xs e n=>n.1)
  | cons h t=>
    have e2 : shwL (.cons h t) (deep - 1) = shw h (deep - 1) :: shwL t (deep - 1):=rfl
    rw [e2,join_behind] at S'
    rw [e2] at hn
    simp only [List.length_cons] at hn
    simp only [dG,dL,dT,dC,dW] at hkt hdt
    obtain ⟨c,r,ec,hc⟩:=item_head (k:=deep - 1) hwt.2.1
    refine at_no K (by exact le_litp ‹_› (by rfl)) (by decide) S' (fun z=>by
      rw [ec,List.cons_append,List.cons_prefix_cons] at z
      exact hc (by rw [← z.1]; decide)) ?_
    walk_at "w"
    have hbf:=behind_fol (shwL t (deep - 1)) 93 R' (.inl rfl)
    refine ih (by exact max_l ‹_›) (by lia) hwt.2.1 (by lia) (fun _ _=>hbf) hbf.r S' fun σ₃ v₃ S₃ E₃ hv=>?_
    have hf3:=E₃ _ _ hf' (by exact nin1 hfs)
    walk_at "w"
    refine m_append hf3 (by lia) ?_
    refine ⟨rfl,?_⟩
    have hfr : fl ≠ st:=hfs
    have S₄ : StI (upd σ₃ fl (.list (dn ++ [v₃]))) st Tx (behind (shwL t (deep - 1)) 93 R'):=by
      obtain ⟨⟨A,eA,h0⟩,hz⟩:=S₃
      exact ⟨⟨A,eA,upd_at hfs.symm h0⟩,hz⟩
    have E₄ : Ex [st,fl] σ (upd σ₃ fl (.list (dn ++ [v₃]))):=(E'.trans (E₃.weak (by exact sub1 (.head _)))).trans (Ex.set (by exact .tail _ (.head _)))
    have hf4 : (upd σ₃ fl (.list (dn ++ [v₃]))) fl = some (.list (dn ++ [v₃])):=upd_same _ _ _
    have hg:=grown E₃ S' S.live X hf' hfs hv
    have E34 : ∀ a xs,σ' a = some (.list xs)→σ a = none∧a ≠ fl∧a ≠ st→(upd σ₃ fl (.list (dn ++ [v₃]))) a = some (.list xs):=fun a xs e n=>by
      rw [upd_ne n.2.1]; exact E₃ _ _ e (by exact nin1 (n.2.2))
    generalize (upd σ₃ fl (.list (dn ++ [v₃]))) = σ₄ at *
    have next : ∀ σ₅,StI σ₅ st Tx (joinL [44,32] (shwL t (deep - 1)) ++ 93 :: R')→Ex [st] σ₄ σ₅→Kn [some (V.ref st),some (.ref fl),v] σ₅:=fun σ₅ S₅ E₅=>
      hK _ _ _ (Nat.le_of_eq hn) ⟨t,dn ++ [v₃],v,rfl,hwt.2.2,by exact max_r ‹_›,by lia,rfl,S₅,E₄.trans (E₅.weak (by exact sub1 (.head _))),E₅ _ _ hf4 (by exact nin1 hfs),by simp; lia,fun σ'' ys h1 h2=>by
        rw [List.append_assoc]
        refine cont σ'' _ (fun a xs e n=>h1 a xs (E₅ _ _ (E34 a xs e n) (by exact nin1 (n.2.2))) n) ⟨v₃,ys,rfl,?_,h2⟩
        exact hg.keep (fun a xs e n=>h1 a xs (E₅ _ _ e (by exact nin1 (n.2.2))) n) (fun a xs e n=>n)⟩
    clear hK cont
    walk_at "w"
    cases hs : shwL t (deep - 1) with
    | nil=>
      rw [hs] at S₄
      refine at_no K (by exact le_litp ‹_› (by rfl)) (by decide) S₄ (by simp [behind]) ?_
      walk_at "w"
      obtain ⟨A,eA,h0,hsl⟩:=slice_st S₄ 1
      have hz:=S₄.sz
      walk_at "w"
      refine sl_s rfl rfl (by exact le_lit2 ‹_› (by rfl)) ?_
      rw [show ((A.length:Int) + 1) = (A.length:Int) + ((1:Nat):Int) from rfl,hsl]
      walk_at "w"
      refine next σ₄ (by rw [hs]; exact S₄) (Ex.refl _ _)
    | cons y ys=>
      rw [hs] at S₄
      refine at_yes K (by exact le_litp ‹_› (by rfl)) (by decide) S₄ (s:=[44,32]) (R':=joinL [44,32] (y :: ys) ++ 93 :: R') rfl fun σ₅ S₅ E₅=>?_
      walk_at "w"
      refine next σ₅ (by rw [hs]; exact S₅) E₅
  | nul=>cases hwt
  | bool _=>cases hwt
  | _=>cases hwt.1
end
noncomputable def labTab (s:List Nat):Bool:=
  if isLabel s = true then !s.isEmpty && !(s.contains 125) && (s.takeWhile (runC [95]) ++ (s.dropWhile (runC [95])).takeWhile (runC [63,33]) == s) && ((s.dropWhile (runC [95])).dropWhile (runC [63,33])).isEmpty
  else s.all fun c=>quoteL.contains c
theorem lab_tab : (symsL.all labTab) = true:=by decide +kernel
theorem no_run : ([34,91,123,46,45,32,58].all fun c=>!(runC [95] c) && !(runC [63,33] c)) = true:=by decide +kernel
theorem wrd_run : ([sNil,sTrue,sFalse].all fun w=>w.all (runC [95])) = true:=by decide +kernel
theorem neg3 : ∃ r,strI (-3) = 45 :: r:=⟨(strI (-3)).tail,by decide +kernel⟩
theorem run_stop {c:Nat} {X:List Nat} (h : c ∈ ([34,91,123,46,45,32,58] : List Nat)) : ((c :: X).dropWhile (runC [95]) = c :: X∧(c :: X).takeWhile (runC [95]) = [])∧((c :: X).dropWhile (runC [63,33]) = c :: X∧(c :: X).takeWhile (runC [63,33]) = []):=by
  have:=List.all_eq_true.mp no_run c h
  simp only [Bool.and_eq_true,Bool.not_eq_true'] at this
  simp [this.1,this.2]
theorem run_word {w X:List Nat} {c:Nat} (hw : w.all (runC [95]) = true) (h : c ∈ ([34,91,123,46,45,32] : List Nat)) : ((w ++ c :: X).dropWhile (runC [95])).dropWhile (runC [63,33]) = c :: X:=by
  have h1 : ∀ x ∈ w,runC [95] x = true:=by simpa using hw
  have hm : c ∈ ([34,91,123,46,45,32,58] : List Nat):=by
    simp only [List.mem_cons,List.not_mem_nil,or_false] at h ⊢; lia
  have h2:=run_stop (X:=X) hm
  rw [List.dropWhile_append_of_pos h1,h2.1.1,h2.2.1]
theorem dig_all {n:Int} (h : intOk n) (h3 : n ≠ -3) : (strI n).all (runC [95]) = true:=by
  have:=intOk_all (p:=fun n=>decide (n = -3) || (strI n).all (runC [95])) (by decide +kernel) h
  rw [decide_eq_false h3] at this; exact this
noncomputable def NoCol (w:List Nat):Prop:=∃ c r,(w.dropWhile (runC [95])).dropWhile (runC [63,33]) = c :: r∧c ≠ 58
theorem nocol_word {w Y:List Nat} {c:Nat} (h1 : w.all (runC [95]) = true) (h : c ∈ ([34,91,123,46,45,32] : List Nat)) : NoCol (w ++ c :: Y):=⟨c,Y,run_word h1 h,fun e=>by subst e; revert h; decide⟩
theorem nocol_one {c:Nat} {Y:List Nat} (h : c ∈ ([34,91,123,46,45,32] : List Nat)) : NoCol (c :: Y):=nocol_word (w:=[]) rfl h
theorem nocol_range {a b:P} {o:Bool} {k:Int} {X:List Nat} (hr : rangeOk a b) (hk : 0 < k) : NoCol (shw (.range a b o) k ++ 32 :: X):=by
  rw [range_shw hr hk,List.append_assoc,List.append_assoc]
  have hd : ∃ Y,(bif o then [46,46,46] else [46,46] : List Nat) ++ ((if isNul b = true then [] else shw b (k - 1)) ++ 32 :: X) = 46 :: Y:=by cases o <;> exact ⟨_,rfl⟩
  obtain ⟨Y,hY⟩:=hd
  rw [hY]
  have dig : ∀ {i:Int},0 ≤ i∧i ≤ 8→(strI i).all (runC [95]) = true:=fun {i} hi=>dig_all (.inr (.inl hi)) fun e=>by rw [e] at hi; exact absurd hi.1 (by decide)
  clear hY
  induction hr with
  | ii h=>exact nocol_word (dig h.1) (by decide)
  | ni h=>exact nocol_one (by decide)
  | im h=>exact nocol_word (dig h) (by decide)
  | tt h=>exact nocol_one (by decide)
theorem key_R2 {p:P} {k:Int} {X:List Nat} (hw : wf p .it) : isSymP p = false→(isRange p = true→0 < k)→NoCol (shw p k ++ 32 :: X):=
  P.it_ (motive:=fun p=>isSymP p = false→(isRange p = true→0 < k)→NoCol (shw p k ++ 32 :: X)) hw (fun n hn _ _=>by
    by_cases h3 : n = -3
    · subst h3
      obtain ⟨r,e⟩:=neg3
      show NoCol (strI (-3) ++ 32 :: X)
      rw [e]; exact nocol_one (by decide)
    · exact nocol_word (dig_all hn h3) (by decide)) (fun s _ _ _=>nocol_one (by decide)) (fun _ _ h _=>nomatch h) (fun _ _=>nocol_word (w:=sNil) (List.all_eq_true.mp wrd_run _ (by decide)) (by decide))
    (fun b _ _=>by
      cases b
      · exact nocol_word (w:=sFalse) (List.all_eq_true.mp wrd_run _ (by decide)) (by decide)
      · exact nocol_word (w:=sTrue) (List.all_eq_true.mp wrd_run _ (by decide)) (by decide))
    (fun a b o hr _ hk=>nocol_range hr (hk rfl)) (fun l _ _ _=>by obtain ⟨r,e⟩:=shw_list l k; rw [e]; exact nocol_one (by decide)) (fun l _ _ _=>by obtain ⟨r,e⟩:=shw_table l k; rw [e]; exact nocol_one (by decide))
noncomputable def tagOf:P→List Nat
  | .int _=>sI | .text _=>sText | .sym _=>sSym | .nul=>sWord | .bool _=>sWord | .range ..=>sRange | .list _=>sList | _=>sTable
theorem PlainIs.tag {σ:Sg} {N:Addr→Prop} {p:P} {v:V} (hw : wf p .it) : PlainIs σ N p v→∃ x,v = .tup [.str (tagOf p),x]:=
  P.it_ (motive:=fun p=>PlainIs σ N p v→∃ x,v = .tup [.str (tagOf p),x]) hw (fun _ _ h=>⟨_,h⟩) (fun _ _ h=>⟨_,h⟩) (fun _ _ h=>⟨_,h⟩) (fun h=>⟨_,h⟩) (fun _ h=>⟨_,h⟩)
    (fun _ _ _ _ h=>by obtain ⟨l,_,_,rfl,_⟩:=h; exact ⟨_,rfl⟩) (fun _ _ h=>by obtain ⟨l,_,rfl,_⟩:=h; exact ⟨_,rfl⟩) (fun _ _ h=>by obtain ⟨l,_,rfl,_⟩:=h; exact ⟨_,rfl⟩)
inductive TabI (σ:Sg) (st fl:Addr) (Tx R' : List Nat) (l:P) (deep:Int) (k n:Nat) (ρ' : Env') (σ' : Sg):Prop
  | mk (t:P) (dn:List V) (v2 v3 v4:Option V) (hρ : ρ' = [some (.ref st),some (.ref fl),v2,v3,v4]) (hw : wf t .rs) (hk : dep t ≤ k) (hd : (dep t:Int) + 1 ≤ deep) (hn : (shwL t (deep - 1)).length = n) (S : StI σ' st Tx (joinL [44,32] (shwL t (deep - 1)) ++ 125 :: R')) (E : Ex [st,fl] σ σ') (hf : σ' fl = some (.list dn)) (hl : dn.length + n ≤ 3000000)
    (c : ∀ σ'' ys,Held σ fl st σ' σ''→PlainIs σ'' (Nw σ fl st) t (.tup ys)→PlainIs σ'' (Nw σ fl st) l (.tup (dn ++ ys)))
section
variable {g:G} {d:Nat} {σ:Sg} {Q:V→Sg→Prop} {st:Addr} {Tx R:List Nat}
theorem StI.back {σ' : Sg} {A:List Nat} (e : Tx = A ++ R) (hz : Tx.length ≤ 2000000) : StI (upd σ' st (.list [.str Tx, .int A.length])) st Tx R:=⟨⟨A,e,upd_same _ _ _⟩,hz⟩
set_option tactic.hygienic true in
noncomputable abbrev irTail:CSs:=(.cons (.ev (.meth .append (.var 1) (.cons (.tup (.cons (.var 4) (.cons (.call (.u 719) (.cons (.var 0) .nil)) .nil))) .nil))) (.cons (.ite (.and (.cons (.not (.call (.u 693) (.cons (.var 0) (.cons (.k (.str [44,32])) .nil)))) (.cons (.cmp .NotEq (.slice (.idx (.var 0) (.k (.int 0))) (.idx (.var 0) (.k (.int 1))) (.bin .Add (.idx (.var 0) (.k (.int 1))) (.k (.int 1)))) (.k (.str [125]))) .nil))) (.cons (.ret (.tup (.cons (.k (.str [111,100,100])) (.cons (.var 1) .nil)))) .nil) .nil) .nil))
noncomputable abbrev irEls:CSs:=(.cons (.setIt (.var 0) (.k (.int 1)) (.var 2)) (.cons (.set 4 (.call (.u 719) (.cons (.var 0) .nil))) (.cons (.ite (.and (.cons (.cmp .Eq (.idx (.var 4) (.k (.int 0))) (.k (.str [116,101,120,116]))) (.cons (.call (.u 693) (.cons (.var 0) (.cons (.k (.str [58,32])) .nil))) .nil))) (.cons (.set 4 (.tup (.cons (.k (.str [115,121,109])) (.cons (.idx (.var 4) (.k (.int 1))) .nil)))) .nil) (.cons (.ite (.not (.call (.u 693) (.cons (.var 0) (.cons (.k (.str [32,61,62,32])) .nil)))) (.cons (.ret (.tup (.cons (.k (.str [111,100,100])) (.cons (.var 1) .nil)))) .nil) .nil) .nil)) .nil)))
theorem rows_head {kp:P} {m:Int} (hwk : wf kp .it) : ∃ c r,keyS kp (shw kp m) = c :: r∧c ≠ 125:=by
  cases key_c kp (shw kp m) with
  | sym s e h=>
    subst e
    rw [h]
    have tab:=List.all_eq_true.mp lab_tab s hwk.2
    unfold labTab at tab
    cases hl : isLabel s with
    | true=>
      rw [if_pos hl] at tab
      rw [if_pos rfl]
      have tab:=(Bool.and_eq_true_iff.mp (Bool.and_eq_true_iff.mp (Bool.and_eq_true_iff.mp tab).1).1)
      cases s with
      | nil=>exact nomatch tab.1
      | cons c r=>
        refine ⟨c,_,rfl,fun e=>?_⟩
        subst e
        exact nomatch tab.2
    | false=>exact ⟨34,_,rfl,by decide⟩
  | oth n h=>
    obtain ⟨c,r,e,hc⟩:=item_head (k:=m) hwk
    rw [h,e]
    exact ⟨c,_,rfl,fun z=>hc (by rw [z]; decide)⟩
inductive TabC (σ:Sg) (st fl:Addr) (Tx R' : List Nat) (l:P) (deep:Int) (k n:Nat) (ρ' : Env') (σ' : Sg):Prop
  | nil (dn:List V) (v2 v3 v4:Option V) (hρ : ρ' = [some (.ref st),some (.ref fl),v2,v3,v4]) (S : StI σ' st Tx (125 :: R')) (E : Ex [st,fl] σ σ') (hf : σ' fl = some (.list dn)) (c : ∀ σ'',Held σ fl st σ' σ''→PlainIs σ'' (Nw σ fl st) l (.tup dn))
  | row (kp vp t:P) (dn:List V) (v2 v3 v4:Option V) (hρ : ρ' = [some (.ref st),some (.ref fl),v2,v3,v4]) (hw : (wf kp .it∧wf vp .it)∧wf t .rs) (hk : (dep kp ≤ k∧dep vp ≤ k)∧dep t ≤ k) (hd : (((dep kp:Int) + 1 ≤ deep)∧(dep vp:Int) + 1 ≤ deep)∧(dep t:Int) + 1 ≤ deep) (hn : (shwL t (deep - 1)).length + 1 = n)
    (S : StI σ' st Tx (keyS kp (shw kp (deep - 1)) ++ (shw vp (deep - 1) ++ behind (shwL t (deep - 1)) 125 R'))) (E : Ex [st,fl] σ σ') (hf : σ' fl = some (.list dn)) (hl : dn.length + n ≤ 3000000) (c : ∀ σ'' ys,Held σ fl st σ' σ''→PlainIs σ'' (Nw σ fl st) (.row kp vp t) (.tup ys)→PlainIs σ'' (Nw σ fl st) l (.tup (dn ++ ys)))
theorem TabI.cs {σ:Sg} {fl:Addr} {R' : List Nat} {l:P} {deep:Int} {k n:Nat} {ρ' : Env'} {σ' : Sg} (I : TabI σ st fl Tx R' l deep k n ρ' σ') : TabC σ st fl Tx R' l deep k n ρ' σ':=by
  obtain ⟨t,dn,v2,v3,v4,hρ,hw,hk,hd,hn,S,E,hf,hl,c⟩:=I
  revert hk hd hn S c
  refine P.rs_ hw (fun _ _ _ S c=>.nil dn v2 v3 v4 hρ S E hf fun σ'' h=>?_) fun kp vp t hw hk hd hn S c=>.row kp vp t dn v2 v3 v4 hρ ⟨⟨hw.2.1,hw.2.2.1⟩,hw.2.2.2.1⟩ ⟨⟨max_l hk,max_m hk⟩,max_e hk⟩ ?_ hn ?_ E hf hl c
  · have:=c σ'' [] h rfl
    rw [List.append_nil] at this; exact this
  · have h1 : dep kp ≤ dep (.row kp vp t):=Nat.le_max_left _ _
    have h2 : dep vp ≤ dep (.row kp vp t):=Nat.le_trans (Nat.le_max_left _ _) (Nat.le_max_right _ _)
    have h3 : dep t ≤ dep (.row kp vp t):=Nat.le_trans (Nat.le_max_right _ _) (Nat.le_max_right _ _)
    exact ⟨⟨Int.le_trans (Int.add_le_add_right (Int.ofNat_le.mpr h1) 1) hd,Int.le_trans (Int.add_le_add_right (Int.ofNat_le.mpr h2) 1) hd⟩,Int.le_trans (Int.add_le_add_right (Int.ofNat_le.mpr h3) 1) hd⟩
  · rw [show shwL (.row kp vp t) (deep - 1) = (keyS kp (shw kp (deep - 1)) ++ shw vp (deep - 1)) :: shwL t (deep - 1) from rfl,join_behind,List.append_assoc] at S
    exact S
theorem tab_next {σ σ' σ₄ σ₆:Sg} {fl:Addr} {R' : List Nat} {l kp vp t:P} {deep:Int} {k n:Nat} {dn:List V} {hv v₃:V} {v2 v3:Option V} (hfs : fl ≠ st) (hn : (shwL t (deep - 1)).length + 1 = n) (hl' : dn.length + n ≤ 3000000) (hw : wf t .rs) (hk : dep t ≤ k) (hd : (dep t:Int) + 1 ≤ deep)
    (cont : ∀ σ'' ys,Held σ fl st σ' σ''→PlainIs σ'' (Nw σ fl st) (.row kp vp t) (.tup ys)→PlainIs σ'' (Nw σ fl st) l (.tup (dn ++ ys)))
    (E₄ : Ex [st,fl] σ σ₄) (hf4 : σ₄ fl = some (.list (dn ++ [.tup [hv,v₃]]))) (E34 : Held σ fl st σ' σ₄) (hgk : PlainIs σ₄ (Nw σ fl st) kp hv) (hgv : PlainIs σ₄ (Nw σ fl st) vp v₃) (S₆ : StI σ₆ st Tx (joinL [44,32] (shwL t (deep - 1)) ++ 125 :: R')) (E₆ : Ex [st] σ₄ σ₆) :
    TabI σ st fl Tx R' l deep k (shwL t (deep - 1)).length [some (.ref st),some (.ref fl),v2,v3,some hv] σ₆:=by
  refine ⟨t,dn ++ [.tup [hv,v₃]],v2,v3,some hv,rfl,hw,hk,hd,rfl,S₆,E₄.trans (E₆.weak (by exact sub1 (.head _))),E₆ _ _ hf4 (by exact nin1 hfs),?_,fun σ'' ys h1 h2=>?_⟩
  · rw [List.length_append,List.length_singleton,Nat.add_assoc,Nat.add_comm 1,hn]; exact hl'
  · rw [List.append_assoc]
    have kp2 : ∀ a xs,σ₄ a = some (.list xs)→Nw σ fl st a→σ'' a = some (.list xs):=fun a xs e n=>h1 a xs (E₆ _ _ e (by exact nin1 (n.2.2))) n
    exact cont σ'' _ (fun a xs e n=>kp2 a xs (E34 a xs e n) n) ⟨hv,v₃,ys,rfl,hgk.keep kp2 (fun a xs e n=>n),hgv.keep kp2 (fun a xs e n=>n),h2⟩
noncomputable def TabFin (σ σ' : Sg) (st fl:Addr) (Tx R' : List Nat) (kp vp t:P) (deep:Int) (dn:List V) (Kn:Env'→Sg→Prop):Prop:=∀ {σ₄ σ₆:Sg} {hv v₃:V} {v2 v3:Option V},Ex [st,fl] σ σ₄→σ₄ fl = some (.list (dn ++ [.tup [hv,v₃]]))→Held σ fl st σ' σ₄→PlainIs σ₄ (Nw σ fl st) kp hv→PlainIs σ₄ (Nw σ fl st) vp v₃→
  StI σ₆ st Tx (joinL [44,32] (shwL t (deep - 1)) ++ 125 :: R')→Ex [st] σ₄ σ₆→Kn [some (.ref st),some (.ref fl),v2,v3,some hv] σ₆
theorem tab_tail (K : GK g) {k:Nat} (ih : ReadIH g k) (hd : 3 * k + 9 ≤ d) {σ σ' σ₅:Sg} {fl:Addr} {R' : List Nat} {kp vp t:P} {deep:Int} {dn:List V} {hv:V} {v2 v3:Option V} {Kn:Env'→Sg→Prop} (hfs : fl ≠ st) (hf' : σ' fl = some (.list dn)) (hdn : dn.length ≤ 3000000) (E' : Ex [st,fl] σ σ') (X : ∀ a,σ' a = none→Nw σ fl st a)
    (hwv : wf vp .it) (hkv : dep vp ≤ k) (hdv : (dep vp:Int) + 1 ≤ deep) (fin : TabFin σ σ' st fl Tx R' kp vp t deep dn Kn) (S₅ : StI σ₅ st Tx (shw vp (deep - 1) ++ behind (shwL t (deep - 1)) 125 R')) (E₅ : Ex [st] σ' σ₅) (hkey : PlainIs σ₅ (New σ') kp hv) :
    wpSs g (d - 1) irTail [some (.ref st),some (.ref fl),v2,v3,some hv] Kn Q σ₅:=by
  have hbf:=behind_fol (shwL t (deep - 1)) 125 R' (.inr rfl)
  have hb : big = 16777216:=rfl
  have hf5:=E₅ _ _ hf' (by exact nin1 hfs)
  walk_at "w"
  refine ih hkv (by exact Nat.le_sub_of_add_le ‹_›) hwv (by lia) (fun _ _=>hbf) hbf.r S₅ fun σ₃ v₃ S₃ E₃ hv'=>?_
  have hf3:=E₃ _ _ hf5 (by exact nin1 hfs)
  have X5 : ∀ a,σ₅ a = none→Nw σ fl st a:=fun a ha=>X a (E₅.fresh ha (by exact nin1 (S₅.ne ha)))
  walk_at "w"
  refine m_append hf3 (Nat.lt_of_le_of_lt hdn (by decide)) ?_
  refine ⟨rfl,?_⟩
  have S₄ : StI (upd σ₃ fl (.list (dn ++ [.tup [hv,v₃]]))) st Tx (behind (shwL t (deep - 1)) 125 R'):=by
    obtain ⟨⟨A,eA,h0⟩,hz⟩:=S₃
    exact ⟨⟨A,eA,upd_at hfs.symm h0⟩,hz⟩
  have E₄ : Ex [st,fl] σ (upd σ₃ fl (.list (dn ++ [.tup [hv,v₃]]))):=((E'.trans (E₅.weak (by exact sub1 (.head _)))).trans (E₃.weak (by exact sub1 (.head _)))).trans (Ex.set (by exact .tail _ (.head _)))
  have hgv : PlainIs (upd σ₃ fl (.list (dn ++ [.tup [hv,v₃]]))) (Nw σ fl st) vp v₃:=
    hv'.keep (fun a xs e n=>by rw [upd_ne (X5 a n).2.1]; exact e) fun a xs e n=>X5 a n
  have hgk : PlainIs (upd σ₃ fl (.list (dn ++ [.tup [hv,v₃]]))) (Nw σ fl st) kp hv:=
    hkey.keep (fun a xs e n=>by rw [upd_ne (X a n).2.1]; exact E₃ _ _ e (by exact nin1 (X a n).2.2)) fun a xs e n=>X a n
  have E34 : Held σ fl st σ' (upd σ₃ fl (.list (dn ++ [.tup [hv,v₃]]))):=fun a xs e n=>by
    rw [upd_ne n.2.1]; exact E₃ _ _ (E₅ _ _ e (by exact nin1 (n.2.2))) (by exact nin1 (n.2.2))
  have next:=fun {σ₆:Sg} {v2 v3:Option V}=>fin (σ₆:=σ₆) (v2:=v2) (v3:=v3) E₄ (upd_same _ _ _) E34 hgk hgv
  clear fin E34 hgk hgv E₄ hkey hv' X X5 E' hf' hf5 hf3
  generalize (upd σ₃ fl (.list (dn ++ [.tup [hv,v₃]]))) = σ₄ at *
  walk_at "w"
  cases hs : shwL t (deep - 1) with
  | nil=>
    rw [hs] at S₄
    refine at_no K (by exact le_litp ‹_› (by rfl)) (by decide) S₄ (by simp [behind]) ?_
    walk_at "w"
    obtain ⟨A,eA,h0,hsl⟩:=slice_st S₄ 1
    have hz:=S₄.sz
    walk_at "w"
    refine sl_s rfl rfl (by exact le_lit2 ‹_› (by rfl)) ?_
    rw [show ((A.length:Int) + 1) = (A.length:Int) + ((1:Nat):Int) from rfl,hsl]
    walk_at "w"
    refine next (by rw [hs]; exact S₄) (Ex.refl _ _)
  | cons y ys=>
    rw [hs] at S₄
    refine at_yes K (by exact le_litp ‹_› (by rfl)) (by decide) S₄ (s:=[44,32]) (R':=joinL [44,32] (y :: ys) ++ 125 :: R') rfl fun σ₅ S₅ E₅=>?_
    walk_at "w"
    refine next (by rw [hs]; exact S₅) E₅
noncomputable def TabCont (g:G) (d:Nat) (σ' : Sg) (st fl:Addr) (Tx R' : List Nat) (kp vp t:P) (deep:Int) (Kn:Env'→Sg→Prop) (Q:V→Sg→Prop):Prop:=∀ {σ₅:Sg} {hv:V} {v2 v3:Option V},StI σ₅ st Tx (shw vp (deep - 1) ++ behind (shwL t (deep - 1)) 125 R')→Ex [st] σ' σ₅→PlainIs σ₅ (New σ') kp hv→
  wpSs g (d - 1) irTail [some (.ref st),some (.ref fl),v2,v3,some hv] Kn Q σ₅
theorem tab_els_sym (K : GK g) {k:Nat} (hd : 3 * k + 9 ≤ d) {σ' σ₄:Sg} {fl:Addr} {R' : List Nat} {s sd A:List Nat} {vp t:P} {deep:Int} {v4:Option V} {Kn:Env'→Sg→Prop} (hws : s ∈ symsL) (hl : isLabel s = false) (eA : Tx = A ++ (keyS (.sym s) (shw (.sym s) (deep - 1)) ++ (shw vp (deep - 1) ++ behind (shwL t (deep - 1)) 125 R'))) (hz : Tx.length ≤ 2000000) {X:List Nat} (S₄ : StI σ₄ st Tx X) (E34 : Ex [st] σ' σ₄)
    (cont4 : TabCont g d σ' st fl Tx R' (.sym s) vp t deep Kn Q) : wpSs g (d - 1) irEls [some (.ref st),some (.ref fl),some (.int A.length),some (.str sd),v4] (fun ρ₂ σ₂=>wpSs g (d - 1) irTail ρ₂ Kn Q σ₂) Q σ₄:=by
  obtain ⟨⟨A4,eA4,h4⟩,_⟩:=S₄
  walk_at "w"
  refine set_st h4 ?_
  have S₅:=StI.back (σ':=σ₄) (st:=st) eA hz
  have E₅ : Ex [st] σ' (upd σ₄ st (.list [.str Tx, .int A.length])):=E34.trans (Ex.set (by exact List.mem_cons_self ..))
  generalize (upd σ₄ st (.list [.str Tx, .int A.length])) = σ₅ at *
  walk_at "w"
  have tab:=List.all_eq_true.mp lab_tab s hws
  unfold labTab at tab
  rw [if_neg (by rw [hl]; exact Bool.false_ne_true)] at tab
  have ek : keyS (.sym s) (shw (.sym s) (deep - 1)) = showT s ++ [58,32]:=by show (if isLabel s = true then s else showT s) ++ _ = _; rw [hl]; rfl
  rw [ek,List.append_assoc] at S₅
  refine read_via K (by exact le_litp ‹_› (by rfl)) (p:=.text s) (N:=fun _=>True) ⟨34,_,rfl,by decide⟩ (fun r e=>by cases e) S₅ (fun d' Q' e h=>one_text K (by lia) (fun c hc=>List.contains_iff_mem.mp (List.all_eq_true.mp tab c hc)) (sym_small hws).1 S₅ fun σ₆ S₆ E₆=>h σ₆ _ S₆ E₆ rfl) fun σ₆ v S₆ E₆ hv=>?_
  cases hv
  walk_at "w"
  refine at_yes K (by exact le_litp ‹_› (by rfl)) (by decide) S₆ (s:=[58,32]) (R':=shw vp (deep - 1) ++ behind (shwL t (deep - 1)) 125 R') rfl fun σ₇ S₇ E₇=>?_
  walk_at "w"
  exact cont4 S₇ ((E₅.trans E₆).trans E₇) rfl
theorem tab_els_oth (K : GK g) {k:Nat} (ih : ReadIH g k) (hd : 3 * k + 9 ≤ d) {σ' σ₄:Sg} {fl:Addr} {R' : List Nat} {sd A:List Nat} {kp vp t:P} {deep:Int} {v4:Option V} {Kn:Env'→Sg→Prop} (hwk : wf kp .it) (hkk : dep kp ≤ k) (hdk : (dep kp:Int) + 1 ≤ deep) (hsy : ∀ s,kp ≠ .sym s) (S' : ∀ a,σ' a = none→a ≠ st) (eA : Tx = A ++ (keyS kp (shw kp (deep - 1)) ++ (shw vp (deep - 1) ++ behind (shwL t (deep - 1)) 125 R'))) (hz : Tx.length ≤ 2000000) {X:List Nat} (S₄ : StI σ₄ st Tx X) (E34 : Ex [st] σ' σ₄)
    (cont4 : TabCont g d σ' st fl Tx R' kp vp t deep Kn Q) : wpSs g (d - 1) irEls [some (.ref st),some (.ref fl),some (.int A.length),some (.str sd),v4] (fun ρ₂ σ₂=>wpSs g (d - 1) irTail ρ₂ Kn Q σ₂) Q σ₄:=by
  obtain ⟨⟨A4,eA4,h4⟩,_⟩:=S₄
  walk_at "w"
  refine set_st h4 ?_
  have S₅:=StI.back (σ':=σ₄) (st:=st) eA hz
  have E₅ : Ex [st] σ' (upd σ₄ st (.list [.str Tx, .int A.length])):=E34.trans (Ex.set (by exact List.mem_cons_self ..))
  generalize (upd σ₄ st (.list [.str Tx, .int A.length])) = σ₅ at *
  walk_at "w"
  rw [keyS_oth hsy,List.append_assoc] at S₅
  refine ih hkk (by exact Nat.le_sub_of_add_le ‹_›) hwk (by lia) (fun s e=>absurd e (hsy s)) (.inr ⟨32,_,rfl,by decide⟩) S₅ fun σ₆ v S₆ E₆ hv=>?_
  obtain ⟨xx,rfl⟩:=hv.tag hwk
  have hv' : PlainIs σ₆ (New σ') kp (.tup [.str (tagOf kp),xx]):=hv.keep (fun a xs e _=>e) fun a xs e n=>E₅.fresh n (by exact nin1 (S₅.ne n))
  have E56:=E₅.trans E₆
  clear E₅ E₆ S₅ hv
  have fin : wpSs g (d - 1) (.cons (.ite (.not (.call (.u 693) (.cons (.var 0) (.cons (.k (.str [32,61,62,32])) .nil)))) (.cons (.ret (.tup (.cons (.k (.str [111,100,100])) (.cons (.var 1) .nil)))) .nil) .nil) .nil)
      [some (.ref st),some (.ref fl),some (.int A.length),some (.str sd),some (.tup [.str (tagOf kp),xx])] (fun ρ₂ σ₂=>wpSs g (d - 1) irTail ρ₂ Kn Q σ₂) Q σ₆:=by
    walk_at "w"
    refine at_yes K (by exact le_litp ‹_› (by rfl)) (by decide) S₆ (s:=[32,61,62,32]) (R':=shw vp (deep - 1) ++ behind (shwL t (deep - 1)) 125 R') rfl fun σ₈ S₈ E₈=>?_
    walk_at "w"
    exact cont4 S₈ (E56.trans E₈) (hv'.keep (fun a xs e n=>E₈ _ _ e (by exact nin1 (S' a n))) fun a xs e n=>n)
  walk_at "w"
  refine if_d (fun _=>?_) fun _=>?_
  · walk_at "w"
    refine at_no K (by exact le_litp ‹_› (by rfl)) (by decide) S₆ (by simp) ?_
    refine t_bool (t_bool (if_f ?_))
    exact fin
  · refine t_bool (if_f ?_)
    exact fin
inductive KeyK (kp:P):Prop
  | lab (s:List Nat) (e : kp = .sym s) (h : isLabel s = true)
  | quo (s:List Nat) (e : kp = .sym s) (h : isLabel s = false)
  | oth (n : ∀ s,kp ≠ .sym s) (h : isSymP kp = false)
theorem key_k (kp:P) : KeyK kp:=by
  cases kp with
  | sym s=>cases h : isLabel s with
    | true=>exact .lab s rfl h
    | false=>exact .quo s rfl h
  | _=>exact .oth (fun _ e=>nomatch e) rfl
theorem range_pos {p:P} (h : isRange p = true) : 0 < dep p:=by
  cases p with
  | range _ _ _=>exact Nat.succ_pos _
  | _=>exact nomatch h
theorem pairs_read (K : GK g) {k:Nat} (ih : ReadIH g k) (hd : 3 * k + 9 ≤ d) {l:P} {R' : List Nat} {deep:Int} (hk : dep l ≤ k) (hw : wf (.table l) .it) (hdp : ((dep l:Int) + 1) ≤ deep) (S : StI σ st Tx (joinL [44,32] (shwL l (deep - 1)) ++ 125 :: R'))
    (q : ∀ σ' v,StI σ' st Tx R'→Ex [st] σ σ'→PlainIs σ' (New σ) (.table l) v→Q v σ') : UCall g d (.ref 733) [.ref st] Q σ:=by
  refine fnc K (by exact le_lit ‹_› (by rfl)) rfl [some (.ref st),none,none,none,none] rfl rfl ?_
  have hb : big = 16777216:=rfl
  walk_at "w"
  intro fl hfl
  have hfs : fl ≠ st:=S.ne hfl
  have S₂:=S.keep (Ex.new (o:=.list []) hfl)
  have hf2 : (upd σ fl (.list [])) fl = some (.list []):=upd_same _ _ _
  have E₂ : Ex [st,fl] σ (upd σ fl (.list [])):=Ex.set (by exact .tail _ (.head _))
  generalize (upd σ fl (.list [])) = σ₂ at *
  walk_at "w"
  refine s_whlK (TabI σ st fl Tx R' l deep k) (shwL l (deep - 1)).length
    ⟨l,[],none,none,none,rfl,hw.2,hk,hdp,rfl,S₂,E₂,hf2,by have:=joinL_ge (shwL l (deep - 1)); have:=S₂.len; simp at this ⊢; lia,fun σ'' ys _ h=>h⟩ ?_
  intro n ρ' σ' Kn I hK
  cases I.cs with
  | nil dn v2 v3 v4 hρ S' E' hf' cont=>
    subst hρ
    walk_at "w"
    refine at_yes K (by exact le_litp ‹_› (by rfl)) (by decide) S' (s:=[125]) (R':=R') rfl fun σ₃ S₃ E₃=>?_
    have hf3:=E₃ _ _ hf' (by exact nin1 hfs)
    walk_at "w"
    refine q σ₃ _ S₃ (Ex.drop (r:=fl) ((E'.weak (by simp)).trans (E₃.weak (by exact sub1 (.tail _ (.head _))))) hfl) ⟨fl,dn,rfl,hf3,hfl,?_⟩
    exact (cont σ₃ (fun a xs e n=>E₃ _ _ e (by exact nin1 (n.2.2)))).keep (fun a xs e _=>e) (fun a xs e n=>n.1)
  | row kp vp t dn v2 v3 v4 hρ hw' hk' hd' hn S' E' hf' hl' cont=>
    subst hρ
    have X : ∀ a,σ' a = none→Nw σ fl st a:=fun a ha=>
      have h1 : a ≠ fl:=fun z=>by subst z; rw [hf'] at ha; cases ha
      ⟨E'.fresh ha (by exact nin2 (S'.ne ha) h1),h1,S'.ne ha⟩
    have cont4 : TabCont g d σ' st fl Tx R' kp vp t deep Kn Q:=fun S₅ E₅ hkey=>tab_tail K ih hd hfs hf' (Nat.le_trans (Nat.le_add_right _ _) hl') E' X hw'.1.2 hk'.1.2 hd'.1.2 (fun a b c d e f h=>hK _ _ _ (Nat.le_of_eq hn) (tab_next hfs hn hl' hw'.2 hk'.2 hd'.2 cont a b c d e f h)) S₅ E₅ hkey
    have ne : ∀ a,σ' a = none→a ≠ st:=fun a h=>(X a h).2.2
    obtain ⟨hwk,hkk,hdk⟩ : wf kp .it∧dep kp ≤ k∧(dep kp:Int) + 1 ≤ deep:=⟨hw'.1.1,hk'.1.1,hd'.1.1⟩
    clear hK cont hn hl' X hw' hk' hd' hf' E' hf2 E₂ S₂ q I
    walk_at "w"
    have hz:=S'.sz
    obtain ⟨⟨A,eA,h0⟩,_⟩:=id S'
    obtain ⟨c0,r0,ec0,hc0⟩:=rows_head (m:=deep - 1) hwk
    refine at_no K (by exact le_litp ‹_› (by rfl)) (by decide) S' (fun z=>by
      rw [ec0,List.cons_append,List.cons_prefix_cons] at z
      exact hc0 z.1.symm) ?_
    clear ec0 hc0
    walk_at "w"
    refine run_ok K (by exact le_litp ‹_› (by rfl)) S' fun σ₃ S₃ E₃=>?_
    walk_at "w"
    refine run_ok K (by exact le_litp ‹_› (by rfl)) S₃ fun σ₄ S₄ E₄=>?_
    have hl1:=S'.len
    have tk1 : ((keyS kp (shw kp (deep - 1)) ++ (shw vp (deep - 1) ++ behind (shwL t (deep - 1)) 125 R')).takeWhile (runC [95])).length ≤ 2000000:=Nat.le_trans (List.takeWhile_prefix _).length_le hl1
    have tk2:=Nat.le_trans (List.takeWhile_prefix (p:=runC [63,33]) (l:=(keyS kp (shw kp (deep - 1)) ++ (shw vp (deep - 1) ++ behind (shwL t (deep - 1)) 125 R')).dropWhile (runC [95]))).length_le S₃.len
    refine b_adds (Nat.le_trans (Nat.add_le_add tk1 tk2) (by decide)) ?_
    have E34:=E₃.trans E₄
    clear tk1 tk2 hl1 S₃ E₃ E₄
    generalize hsd:List.takeWhile (runC [95]) _ ++ List.takeWhile (runC [63,33]) _ = sd
    walk_at "w"
    cases key_k kp with
    | lab s e hl=>
      subst e
      have tab:=List.all_eq_true.mp lab_tab s hwk.2
      unfold labTab at tab
      rw [if_pos hl] at tab
      simp only [Bool.and_eq_true,Bool.not_eq_true',List.isEmpty_eq_false_iff,beq_iff_eq,List.isEmpty_iff] at tab
      obtain ⟨⟨⟨t1,t2⟩,t3⟩,t4⟩:=tab
      have ek : keyS (.sym s) (shw (.sym s) (deep - 1)) = s ++ [58,32]:=by show (if isLabel s = true then s else showT s) ++ _ = _; rw [hl]; rfl
      rw [ek,List.append_assoc] at S₄ hsd
      have n58:=List.all_eq_true.mp no_run 58 (by decide)
      simp only [Bool.and_eq_true,Bool.not_eq_true'] at n58
      have f1 : ([58,32] ++ (shw vp (deep - 1) ++ behind (shwL t (deep - 1)) 125 R')) = []∨∃ c r,([58,32] ++ (shw vp (deep - 1) ++ behind (shwL t (deep - 1)) 125 R')) = c :: r∧runC [95] c = false:=.inr ⟨58,_,rfl,n58.1⟩
      have f2 : ([58,32] ++ (shw vp (deep - 1) ++ behind (shwL t (deep - 1)) 125 R')) = []∨∃ c r,([58,32] ++ (shw vp (deep - 1) ++ behind (shwL t (deep - 1)) 125 R')) = c :: r∧runC [63,33] c = false:=.inr ⟨58,_,rfl,n58.2⟩
      rw [(span_app f1).2,(span_app f2).2,t4] at S₄
      rw [(span_app f1).1,(span_app f1).2,(span_app f2).1,t3] at hsd
      subst hsd
      refine if_d (fun _=>?_) fun z=>absurd t1 z
      walk_at "w"
      refine at_yes K (by exact le_litp ‹_› (by rfl)) (by decide) S₄ (s:=[58,32]) (R':=shw vp (deep - 1) ++ behind (shwL t (deep - 1)) 125 R') rfl fun σ₅ S₅ E₅=>?_
      walk_at "w"
      exact cont4 S₅ (E34.trans E₅) rfl
    | quo s e hl=>
      subst e
      refine if_d (fun hsn=>?_) fun _=>?_
      · exfalso
        apply hsn
        have ek : keyS (.sym s) (shw (.sym s) (deep - 1)) = showT s ++ [58,32]:=by show (if isLabel s = true then s else showT s) ++ _ = _; rw [hl]; rfl
        have st:=run_stop (c:=34) (X:=showB s ++ [34] ++ [58,32] ++ (shw vp (deep - 1) ++ behind (shwL t (deep - 1)) 125 R')) (by decide)
        have e3 : showT s ++ [58,32] ++ (shw vp (deep - 1) ++ behind (shwL t (deep - 1)) 125 R') = 34 :: (showB s ++ [34] ++ [58,32] ++ (shw vp (deep - 1) ++ behind (shwL t (deep - 1)) 125 R')):=by simp [showT]
        rw [ek,e3,st.1.1,st.1.2,st.2.2] at hsd; rw [← hsd]; rfl
      · refine t_bool (if_ff rfl ?_)
        exact tab_els_sym K hd hwk.2 hl eA hz S₄ E34 cont4
    | oth hns hsy=>
      refine if_d (fun hsn=>?_) fun _=>?_
      · walk_at "w"
        refine at_no K (by exact le_litp ‹_› (by rfl)) (by decide) S₄ ?_ ?_
        · rw [keyS_oth hns,List.append_assoc]
          intro z
          obtain ⟨c,r,e,hc⟩:=key_R2 (k:=deep - 1) (X:=[61,62,32] ++ (shw vp (deep - 1) ++ behind (shwL t (deep - 1)) 125 R')) hwk hsy fun hr=>by have:=range_pos hr; lia
          have z' : [58,32] <+: c :: r:=by rw [← e]; exact z
          rw [List.cons_prefix_cons] at z'
          exact hc z'.1.symm
        · refine t_bool (t_bool (if_ff rfl ?_))
          exact tab_els_oth K ih hd hwk hkk hdk hns ne eA hz S₄ E34 cont4
      · refine t_bool (if_ff rfl ?_)
        exact tab_els_oth K ih hd hwk hkk hdk hns ne eA hz S₄ E34 cont4
end
theorem flat_head {p:P} {k:Int} (hw : wf p .it) (h : dep p = 0) : ∃ c r,shw p k = c :: r∧c ≠ 46:=by
  have other : isRange p = false→isSymP p = false→∃ c r,shw p k = c :: r∧c ≠ 46:=fun h1 h2=>by
    obtain ⟨c,r,e,hc⟩:=head_item (k:=k) hw h1 h2
    exact ⟨c,r,e,fun z=>hc (by rw [z]; decide)⟩
  cases p with
  | sym s=>exact ⟨58,_,rfl,by decide⟩
  | range a b o=>exact absurd h (Nat.succ_ne_zero _)
  | _=>exact other rfl rfl
section
variable {g:G} {d:Nat} {σ:Sg} {Q:V→Sg→Prop} {st:Addr} {Tx R:List Nat}
theorem one_table (K : GK g) {k:Nat} (ih : ReadIH g k) (hd : 3 * k + 10 ≤ d) {l:P} {R' : List Nat} {deep:Int} (hk : dep l ≤ k) (hw : wf (.table l) .it) (hdp : ((dep l:Int) + 1) ≤ deep) (S : StI σ st Tx (shw (.table l) deep ++ R'))
    (q : ∀ σ' v,StI σ' st Tx R'→Ex [st] σ σ'→PlainIs σ' (New σ) (.table l) v→Q v σ') : UCall g d (.ref 726) [.ref st] Q σ:=by
  refine fnc K (by exact le_lit ‹_› (by rfl)) rfl [some (.ref st),none,none] rfl rfl ?_
  have e : shw (.table l) deep ++ R' = [123] ++ (joinL [44,32] (shwL l (deep - 1)) ++ 125 :: R'):=by
    simp only [shw,shfL,shfT,shwL]
    rw [if_neg (by lia)]; simp
  rw [e] at S
  walk_at "w"
  refine at_no K (by exact le_litp ‹_› (by rfl)) (by decide) S (by simp) ?_
  walk_at "w"
  refine at_yes K (by exact le_litp ‹_› (by rfl)) (by decide) S rfl fun σ₁ S₁ E₁=>?_
  walk_at "w"
  refine pairs_read K ih (by exact Nat.le_sub_of_add_le ‹_›) hk hw hdp S₁ fun σ₂ v S₂ E₂ hv=>?_
  exact q σ₂ v S₂ (E₁.trans E₂) (hv.keep (fun a xs e _=>e) fun a xs e n=>E₁.fresh n (by exact nin1 (S₁.ne n)))
theorem flat_new {p:P} {v:V} (h : ∀ N,PlainIs σ N p v) : PlainIs σ (New σ) p v:=h _
theorem read_all (K : GK g) : ∀ k,ReadIH g k:=by
  intro k
  induction k with
  | zero=>
    intro d σ Q st Tx R' p deep hk hd hw hdp hf hr S q
    have h0 : dep p = 0:=by exact Nat.le_zero.mp ‹_›
    have hh : ∃ c r,shw p deep = c :: r∧c ≠ 46:=flat_head hw h0
    exact read_via K (by exact le_lit ‹_› (by rfl)) hh hr.nodot S (fun d' Q' e q'=>one_flat K (by lia) hw h0 hf (fun _ _=>hr.run) S fun σ' v S' E' hv=>q' σ' v S' E' (hv _)) q
  | succ k ih=>
    intro d σ Q st Tx R' p deep hk hd hw hdp hf hr S q
    by_cases h0 : dep p ≤ k
    · exact ih h0 (by lia) hw hdp hf hr S q
    · cases p with
      | range a b o=>exact read_range K (by exact le_lit ‹_› (by rfl)) hw (by simp only [dG,dL,dT,dC,dW] at hdp; lia) hr S q
      | list l=>
        simp only [dG,dL,dT,dC,dW] at hk hdp
        obtain ⟨c,r,e,hc⟩:=head_item (k:=deep) hw rfl rfl
        exact read_via K (by exact lt_lit ‹_› (by rfl)) ⟨c,r,e,fun z=>hc (by rw [z]; decide)⟩ hr.nodot S (fun d' Q' e q'=>one_list K ih (by lia) (by exact Nat.le_of_succ_le_succ ‹_›) hw (by assumption) S q') q
      | table l=>
        simp only [dG,dL,dT,dC,dW] at hk hdp
        obtain ⟨c,r,e,hc⟩:=head_item (k:=deep) hw rfl rfl
        exact read_via K (by exact lt_lit ‹_› (by rfl)) ⟨c,r,e,fun z=>hc (by rw [z]; decide)⟩ hr.nodot S (fun d' Q' e q'=>one_table K ih (by lia) (by exact Nat.le_of_succ_le_succ ‹_›) hw (by assumption) S q') q
      | cons _ _=>cases hw.1
      | row _ _ _=>cases hw.1
      | _=>exact absurd (Nat.zero_le _) h0
end
inductive IsBox (σ:Sg) (bx sc:Addr) (R:Nat):Prop
  | mk (ns:List Int) (i j:Int) (e : σ bx = some (.list [.ref sc, .int i, .int j])) (f : σ sc = some (.list (ns.map .int))) (hi : 0 ≤ i) (hj : 0 ≤ j) (hn : ns.length ≤ 60) (hR : R = (ns.length:Int).toNat - i.toNat)
theorem IsBox.live {σ bx sc R} (h : IsBox σ bx sc R) : ∃ xs,σ bx = some (.list xs):=let ⟨_,_,_,e,_,_,_,_,_⟩:=h; ⟨_,e⟩
theorem IsBox.keep {σ σ' : Sg} {bx sc R} (h : IsBox σ bx sc R) (E : ∀ a xs,σ a = some (.list xs)→σ' a = some (.list xs)) : IsBox σ' bx sc R:=let ⟨ns,i,j,e,f,a,b,c,d⟩:=h; ⟨ns,i,j,E _ _ e,E _ _ f,a,b,c,d⟩
theorem IsBox.pure {σ σ' : Sg} {bx sc R} (h : IsBox σ bx sc R) (E : Ex [] σ σ') : IsBox σ' bx sc R:=h.keep fun a xs e=>E.get e
theorem IsBox.ne {σ bx sc R} (h : IsBox σ bx sc R) {a:Addr} (e : σ a = none) : a ≠ bx:=fun z=>by
  obtain ⟨xs,e'⟩:=h.live
  rw [z,e'] at e; cases e
theorem IsBox.ne2 {σ bx sc R} (h : IsBox σ bx sc R) {a:Addr} (e : σ a = none) : a ≠ bx∧a ≠ sc:=by
  obtain ⟨ns,i,j,e0,e1,_,_,_,_⟩:=h
  exact ⟨(ne_some e0 e).symm,(ne_some e1 e).symm⟩
theorem IsBox.upd {σ:Sg} {bx sc R} (h : IsBox σ bx sc R) {a:Addr} {o:AObj} (n : a ≠ bx∧a ≠ sc) : IsBox (Mine.upd σ a o) bx sc R:=by
  obtain ⟨ns,i,j,e0,e1,a,b,c,d⟩:=h
  exact ⟨ns,i,j,upd_at n.1.symm e0,upd_at n.2.symm e1,a,b,c,d⟩
theorem tk_R {R n:Nat} {i:Int} (hi : 0 ≤ i) (h : R = n - i.toNat) : R - 1 = n - (i + 1).toNat:=by rw [h,Int.toNat_add hi (by decide)]; rfl
theorem tk_lt {i:Int} {n:Nat} (hi : 0 ≤ i) (h : i + 1 ≤ n) : i.toNat < n:=(Int.toNat_lt hi).mpr h
theorem tk_big {i:Int} {n:Nat} (h : i.toNat < n) (hn : n ≤ 60) (hi : 0 ≤ i) : 0 ≤ i + 1 - 1∧i + 1 - 1 < 2 ^ 63:=by
  rw [Int.add_sub_cancel]
  exact ⟨hi,Int.lt_trans ((Int.toNat_lt hi).mp (Nat.lt_of_lt_of_le h hn)) (by decide)⟩
theorem tk_mod {a m:Int} (h3 : 0 ≤ a) (h4 : a < 3) (hm : 0 < m) : a % m ≤ 2:=by
  by_cases h6 : a < m
  · rw [Int.emod_eq_of_lt h3 h6]; exact Int.le_of_lt_add_one h4
  · exact Int.le_of_lt_add_one (Int.lt_of_lt_of_le (Int.emod_lt_of_pos a hm) (Int.le_trans (Int.not_lt.mp h6) (Int.le_of_lt h4)))
section
variable {g:G} {d:Nat} {σ:Sg} {Q:V→Sg→Prop} {bx sc:Addr} {R:Nat}
theorem take_ok (K : GK g) (hd : 1 ≤ d) {m:Int} (hm : 0 < m) (B : IsBox σ bx sc R) (q : ∀ σ' r,0 ≤ r→r < m→(R = 0→r ≤ 2)→IsBox σ' bx sc (R - 1)→Ex [bx] σ σ'→Q (.int r) σ') : UCall g d (.ref 664) [.ref bx, .int m] Q σ:=by
  refine fnc K (by assumption) rfl [some (.ref bx),some (.int m)] rfl rfl ?_
  obtain ⟨ns,i,j,h0,h1,hi,hj,hn,hR⟩:=B
  have hb : big = 16777216:=rfl
  have hne : sc ≠ bx:=fun z=>by
    subst z; rw [h0] at h1
    cases ns with
    | nil=>cases h1
    | cons a r=>cases h1
  walk_at "w"
  refine set_l h0 ⟨by decide,by simp,by simp [big]⟩ ?_
  have k0 : (upd σ bx (.list ([.ref sc, .int i, .int j].set (1:Int).toNat (.int (i + 1))))) bx = some (.list [.ref sc, .int (i + 1), .int j]):=upd_same _ _ _
  have k1 : (upd σ bx (.list ([.ref sc, .int i, .int j].set (1:Int).toNat (.int (i + 1))))) sc = some (.list (ns.map .int)):=upd_at hne h1
  have E : Ex [bx] σ (upd σ bx (.list ([.ref sc, .int i, .int j].set (1:Int).toNat (.int (i + 1))))):=Ex.set (by exact List.mem_cons_self ..)
  generalize (upd σ bx (.list ([.ref sc, .int i, .int j].set (1:Int).toNat (.int (i + 1))))) = σ₁ at *
  walk_at "w"
  refine f_lenl k1 (by simp; exact le_lit2 ‹_› (by rfl)) ?_
  simp only [List.length_map]
  walk_at "w"
  refine if_d (fun hle=>?_) fun hle=>?_
  · walk_at "w"
    have hlt:=tk_lt hi hle
    have e1 : (i + 1 - 1).toNat = i.toNat:=by rw [Int.add_sub_cancel]
    refine ix_l k1 (c:=.int ns[i.toNat]) (by rw [e1,List.getElem?_map,List.getElem?_eq_getElem hlt]; rfl) (tk_big hlt hn hi) ?_
    walk_at "w"
    refine b_mod hm ?_
    exact q σ₁ _ (Int.emod_nonneg _ (Int.ne_of_gt hm)) (Int.emod_lt_of_pos _ hm) (fun h=>absurd (hR.symm.trans h) (Nat.sub_ne_zero_of_lt hlt)) ⟨ns,i + 1,j,k0,k1,Int.le_add_one hi,hj,hn,tk_R hi hR⟩ E
  · walk_at "w"
    refine set_l k0 ⟨by decide,by simp,by simp [big]⟩ ?_
    have m0 : (upd σ₁ bx (.list ([.ref sc, .int (i + 1), .int j].set (2:Int).toNat (.int (j + 1))))) bx = some (.list [.ref sc, .int (i + 1), .int (j + 1)]):=upd_same _ _ _
    have m1 : (upd σ₁ bx (.list ([.ref sc, .int (i + 1), .int j].set (2:Int).toNat (.int (j + 1))))) sc = some (.list (ns.map .int)):=upd_at hne k1
    have E2 : Ex [bx] σ (upd σ₁ bx (.list ([.ref sc, .int (i + 1), .int j].set (2:Int).toNat (.int (j + 1))))):=E.trans (Ex.set (by exact List.mem_cons_self ..))
    generalize (upd σ₁ bx (.list ([.ref sc, .int (i + 1), .int j].set (2:Int).toNat (.int (j + 1))))) = σ₂ at *
    walk_at "w"
    refine b_mod (by decide) ?_
    walk_at "w"
    refine b_mod hm ?_
    have h3:=Int.emod_nonneg (j + 1) (by decide : (3:Int) ≠ 0)
    have h4:=Int.emod_lt_of_pos (j + 1) (by decide : (0:Int) < 3)
    exact q σ₂ _ (Int.emod_nonneg _ (Int.ne_of_gt hm)) (Int.emod_lt_of_pos _ hm) (fun _=>tk_mod h3 h4 hm) ⟨ns,i + 1,j + 1,m0,m1,Int.le_add_one hi,Int.le_add_one hj,hn,tk_R hi hR⟩ E2
theorem pick {α : Type} {xs:List α} {r:Int} (h0 : 0 ≤ r) (h1 : r < xs.length) : ∃ x ∈ xs,xs[r.toNat]? = some x:=by
  have h : r.toNat < xs.length:=by simp +arith [*]
  exact ⟨xs[r.toNat],List.getElem_mem h,List.getElem?_eq_getElem h⟩
theorem get_map {α β : Type} {f : α→β} {xs:List α} {k:Nat} {x : α} (h : xs[k]? = some x) : (xs.map f)[k]? = some (f x):=by rw [List.getElem?_map,h]; rfl
theorem ones_len : ∀ s:List Nat,((s.map fun c=>[c]).map (·.length)).sum = s.length
  | []=>rfl
  | a :: r=>by have:=ones_len r; simp only [List.map_cons,List.sum_cons,this,List.length_cons,List.length_nil]; simp +arith [*]
theorem ones_flat : ∀ s:List Nat,(s.map fun c=>[c]).flatten = s
  | []=>rfl
  | a :: r=>by rw [List.map_cons,List.flatten_cons,ones_flat r]; rfl
theorem letters_ok (K : GK g) (hd : 2 ≤ d) (B : IsBox σ bx sc R) (q : ∀ σ' s R',textOk s→R' ≤ R→IsBox σ' bx sc R'→Ex [bx] σ σ'→Q (.str s) σ') : UCall g d (.ref 669) [.ref bx] Q σ:=by
  refine fnc K (by exact Nat.le_of_lt ‹_›) rfl [some (.ref bx),none] rfl rfl ?_
  have hb : big = 16777216:=rfl
  walk_at "w"
  intro l1 hl1
  walk_at "w"
  intro l2 hl2
  refine b_addl (upd_old hl2 (upd_same _ _ _)) (upd_same _ _ _) (by simp [big]) fun l3 hl3=>?_
  generalize hσ : (upd (upd (upd σ l1 _) l2 _) l3 _:Sg) = σ₁
  have X₁ : Ex [] σ σ₁:=by rw [← hσ]; exact ((Ex.new (S:=[]) hl1).trans (Ex.new hl2)).trans (Ex.new hl3)
  have e3 : σ₁ l3 = some (.list (signsL.map fun c=>.str [c])):=by rw [← hσ]; exact upd_same _ _ _
  have B₁:=B.pure X₁
  have E₁ : Ex [bx] σ σ₁:=X₁.nil
  have hne : l3 ≠ bx:=(B.pure ((Ex.new (S:=[]) hl1).trans (Ex.new hl2))).ne hl3
  clear hσ hl1 hl2 hl3
  walk_at "w"
  walk_at "w"
  intro l4 hl4
  have B₂:=B₁.pure (Ex.new (o:=.list [.int 2, .int 3, .int 1, .int 0, .int 5]) hl4)
  have hne4 : l4 ≠ bx:=B₁.ne hl4
  have e34:=upd_old (o':=.list [.int 2, .int 3, .int 1, .int 0, .int 5]) hl4 e3
  have e44 : (upd σ₁ l4 (.list [.int 2, .int 3, .int 1, .int 0, .int 5])) l4 = some (.list (([2,3,1,0,5] : List Int).map .int)):=upd_same _ _ _
  have E₂ : Ex [bx] σ (upd σ₁ l4 (.list [.int 2, .int 3, .int 1, .int 0, .int 5])):=E₁.trans (Ex.new hl4)
  generalize (upd σ₁ l4 (.list [.int 2, .int 3, .int 1, .int 0, .int 5])) = σ₂ at *
  walk_at "w"
  refine take_ok K (by exact Nat.le_sub_of_add_le ‹_›) (by decide) B₂ fun σ₃ r hr0 hr1 _ B₃ E₃=>?_
  obtain ⟨n,hn,hnx⟩:=pick (xs:=([2,3,1,0,5] : List Int)) hr0 (by assumption)
  have e43:=E₃ _ _ e44 (by exact nin1 hne4)
  have e33:=E₃ _ _ e34 (by exact nin1 (hne))
  refine ix_l e43 (get_map hnx) ⟨by assumption,by lia⟩ ?_
  walk_at "w"
  have hn5 : 0 ≤ n∧n ≤ 5:=by
    simp only [List.mem_cons,List.not_mem_nil,or_false] at hn; lia
  refine f_range ⟨by simp +arith [*],by lia⟩ ?_
  refine src_r ⟨by simp [big]; lia,?_⟩
  refine comp1_rule (fun ys acc σ'=>Ex [bx] σ₃ σ'∧∃ R' s,IsBox σ' bx sc R'∧R' ≤ R∧acc = s.map (fun c=>V.str [c])∧(∀ c ∈ s,c ∈ signsL)∧s.length + ys.length ≤ 5) (fun _ _ _ _=>rfl) (fun _ _ _ _ _=>rfl) ?_ ?_ ⟨Ex.refl _ _,_,[],B₃,by simp +arith,rfl,fun _ h=>(nomatch h),by simp; simp +arith [*]⟩
  · rintro y ys acc σ' Kc ⟨E',R',s,B',hR',rfl,hs,hl⟩ hK
    show wpE g _ _ [some y,some (.ref bx),some (.ref l3)] _ _
    walk_at "w"
    refine take_ok K (by exact Nat.le_sub_of_add_le ‹_›) (by decide) B' fun σ₄ r hr0 hr1 _ B₄ E₄=>?_
    obtain ⟨c,hc,hcx⟩:=pick (xs:=signsL) hr0 (by simpa [signsL] using hr1)
    refine ix_l (E₄ _ _ (E' _ _ e33 (by exact nin1 (hne))) (by exact nin1 (hne))) (get_map hcx) ⟨by assumption,by lia⟩ ?_
    refine hK _ _ ⟨E'.trans E₄,_,s ++ [c],B₄,by lia,by simp,fun z hz=>?_,by simp at hl ⊢; lia⟩
    rcases List.mem_append.mp hz with hz | hz
    · exact hs z hz
    · simp only [List.mem_singleton] at hz; subst hz; exact hc
  · rintro acc σ' ⟨E',R',s,B',hR',rfl,hs,hl⟩ r hr
    simp only [List.length_nil,Nat.add_zero] at hl
    walk_at "w"
    have hm : s.map (fun c=>V.str [c]) = (s.map fun c=>[c]).map .str:=by simp
    rw [hm]
    refine m_join (upd_same _ _ _) (strsOf_map _) (by rw [ones_len]; simp; exact le_lit2 ‹_› (by rfl)) ?_
    rw [joinL_nil]
    rw [ones_flat]
    exact q _ s R' ⟨by exact le_lit2 ‹_› (by rfl),hs⟩ hR' (B'.pure (Ex.new hr)) (((E₂.trans E₃).trans E').trans (Ex.new hr))
theorem symbol_ok (K : GK g) (hd : 2 ≤ d) (B : IsBox σ bx sc R) (q : ∀ σ' s R',s ∈ symsL→R' ≤ R→IsBox σ' bx sc R'→Ex [bx] σ σ'→Q (.str s) σ') : UCall g d (.ref 676) [.ref bx] Q σ:=by
  refine fnc K (by exact Nat.le_of_lt ‹_›) rfl [some (.ref bx),none] rfl rfl ?_
  walk_at "w"
  intro l1 hl1
  walk_at "w"
  intro l2 hl2
  refine b_addl (upd_old hl2 (upd_same _ _ _)) (upd_same _ _ _) (by simp [big]) fun l3 hl3=>?_
  walk_at "w"
  intro l4 hl4
  generalize hσ0 : (upd (upd (upd (upd σ l1 _) l2 _) l3 _) l4 _:Sg) = σ₀
  have X0 : Ex [] σ σ₀:=by rw [← hσ0]; exact (((Ex.new (S:=[]) hl1).trans (Ex.new hl2)).trans (Ex.new hl3)).trans (Ex.new hl4)
  have f3 : σ₀ l3 = some (.list ((symsL.take 39).map .str)):=by rw [← hσ0]; exact upd_old hl4 (upd_same _ _ _)
  have f4 : σ₀ l4 = some (.list ((symsL.drop 39).map .str)):=by rw [← hσ0]; exact upd_same _ _ _
  clear hσ0 hl1 hl2 hl3 hl4
  refine b_addl f3 f4 (by simp [big,symsL]) fun l5 hl5=>?_
  have e3 : (upd σ₀ l5 (.list ((symsL.take 39).map V.str ++ (symsL.drop 39).map .str))) l5 = some (.list (symsL.map .str)):=upd_same _ _ _
  have X₁ : Ex [] σ (upd σ₀ l5 (.list ((symsL.take 39).map V.str ++ (symsL.drop 39).map .str))):=X0.trans (Ex.new hl5)
  have B₁:=B.pure X₁
  have hne : l5 ≠ bx:=(B.pure X0).ne hl5
  generalize (upd σ₀ l5 (.list ((symsL.take 39).map V.str ++ (symsL.drop 39).map .str))) = σ₁ at *
  walk_at "w"
  refine take_ok K (by exact Nat.le_sub_of_add_le ‹_›) (by decide) B₁ fun σ₃ r hr0 hr1 _ B₃ E₃=>?_
  obtain ⟨s,hs,hsx⟩:=pick (xs:=symsL) hr0 (by simpa [symsL] using hr1)
  refine ix_l (E₃ _ _ e3 (by exact nin1 (hne))) (get_map hsx) ⟨by assumption,by lia⟩ ?_
  exact q σ₃ s _ hs (by simp +arith) B₃ (X₁.nil.trans E₃)
end
noncomputable def datf:P→PyData × List PyData
  | .int n=>(.tuple [.str (mkS sI), .int n],[])
  | .text s=>(.tuple [.str (mkS sText), .str (mkS s)],[])
  | .sym s=>(.tuple [.str (mkS sSym), .str (mkS s)],[])
  | .nul=>(.tuple [.str (mkS sWord), .str (mkS sNil)],[])
  | .bool b=>(.tuple [.str (mkS sWord), .str (mkS (bif b then sTrue else sFalse))],[])
  | .range a b o=>(.tuple [.str (mkS sRange), .list [(datf a).1,(datf b).1, .bool o]],[])
  | .list l=>(.tuple [.str (mkS sList), .list (datf l).2],[])
  | .table l=>(.tuple [.str (mkS sTable), .list (datf l).2],[])
  | .nil=>(.none,[])
  | .cons h t=>(.none,(datf h).1 :: (datf t).2)
  | .row k v t=>(.none, .tuple [(datf k).1,(datf v).1] :: (datf t).2)
theorem plain_dat {σ:Sg} {N:Addr→Prop} : ∀ {p:P} {m : Md} {v:V},wf p m→PlainIs σ N p v→(m = .it→DatIs σ v (datf p).1)∧(m ≠ .it→DatIs σ v (.tuple (datf p).2)):=by
  intro p
  induction p with
  | int n=>rintro m v hw rfl; exact ⟨fun _=>.tcons (.str _) (.tcons (.int _) .tnil),fun h=>absurd hw.1 h⟩
  | text n=>rintro m v hw rfl; exact ⟨fun _=>.tcons (.str _) (.tcons (.str _) .tnil),fun h=>absurd hw.1 h⟩
  | sym n=>rintro m v hw rfl; exact ⟨fun _=>.tcons (.str _) (.tcons (.str _) .tnil),fun h=>absurd hw.1 h⟩
  | nul=>rintro m v hw rfl; exact ⟨fun _=>.tcons (.str _) (.tcons (.str _) .tnil),fun h=>absurd hw h⟩
  | bool b=>rintro m v hw rfl; exact ⟨fun _=>.tcons (.str _) (.tcons (.str _) .tnil),fun h=>absurd hw h⟩
  | range a b o iha ihb=>
    rintro m v hw ⟨l,va,vb,rfl,e,_,h1,h2⟩
    have hab:=rangeOk_wf hw.2
    exact ⟨fun _=>.tcons (.str _) (.tcons (.list e (.tcons ((iha hab.1 h1).1 rfl) (.tcons ((ihb hab.2 h2).1 rfl) (.tcons (.bool o) .tnil)))) .tnil),fun h=>absurd hw.1 h⟩
  | list l ih=>
    rintro m v hw ⟨a,vs,rfl,e,_,h1⟩
    exact ⟨fun _=>.tcons (.str _) (.tcons (.list e ((ih hw.2 h1).2 (by simp))) .tnil),fun h=>absurd hw.1 h⟩
  | table l ih=>
    rintro m v hw ⟨a,vs,rfl,e,_,h1⟩
    exact ⟨fun _=>.tcons (.str _) (.tcons (.list e ((ih hw.2 h1).2 (by simp))) .tnil),fun h=>absurd hw.1 h⟩
  | nil=>rintro m v hw rfl; exact ⟨fun h=>absurd h hw,fun _=>.tnil⟩
  | cons h t ih1 ih2=>
    rintro m v hw ⟨y,ys,rfl,h1,h2⟩
    exact ⟨(fun e=>by rw [hw.1] at e; cases e),fun _=>.tcons ((ih1 hw.2.1 h1).1 rfl) ((ih2 hw.2.2 h2).2 (by simp))⟩
  | row k w t ih1 ih2 ih3=>
    rintro m v hw ⟨kv,wv,ys,rfl,h1,h2,h3⟩
    exact ⟨(fun e=>by rw [hw.1] at e; cases e),fun _=>.tcons (.tcons ((ih1 hw.2.1 h1).1 rfl) (.tcons ((ih2 hw.2.2.1 h2).1 rfl) .tnil)) ((ih3 hw.2.2.2.1 h3).2 (by simp))⟩
theorem strOk_of {s:List Nat} (h : ∀ c ∈ s,c < 1114112) : PyData.strOk (mkS s) = true:=by
  unfold PyData.strOk mkS
  rw [Array.all_eq_true']
  intro c hc
  exact decide_eq_true (h c (by simpa using hc))
theorem tags_ok : ([sI,sText,sSym,sWord,sNil,sTrue,sFalse,sRange,sList,sTable,sThing,sBool].all fun s=>s.all fun c=>decide (c < 1114112)) = true:=by decide +kernel
theorem tag_ok {s:List Nat} (h : s ∈ ([sI,sText,sSym,sWord,sNil,sTrue,sFalse,sRange,sList,sTable,sThing,sBool] : List (List Nat))) : PyData.strOk (mkS s) = true:=
  strOk_of fun c hc=>by simpa using List.all_eq_true.mp (List.all_eq_true.mp tags_ok s h) c hc
inductive Fit (n:Nat) (d : PyData):Prop
  | mk (l : d.canLay0 = true) (h : d.depth ≤ n)
inductive Fits (n:Nat) (ds:List PyData):Prop
  | mk (l : PyData.canLayAll0 ds = true) (h : PyData.depthAll ds ≤ n)
theorem Fit.str {n:Nat} {s:List Nat} (h : PyData.strOk (mkS s) = true) : Fit n (.str (mkS s)):=⟨h,Nat.zero_le _⟩
theorem Fit.tup {n:Nat} {ds:List PyData} (h : Fits n ds) : Fit (n + 1) (.tuple ds):=let ⟨l,h⟩:=h; ⟨l,Nat.succ_le_succ h⟩
theorem Fit.lst {n:Nat} {ds:List PyData} (h : Fits n ds) : Fit (n + 1) (.list ds):=let ⟨l,h⟩:=h; ⟨l,Nat.succ_le_succ h⟩
theorem Fits.cons {n:Nat} {d : PyData} {ds:List PyData} (a : Fit n d) (b : Fits n ds) : Fits n (d :: ds):=let ⟨l,h⟩:=a; let ⟨l',h'⟩:=b; ⟨Bool.and_eq_true_iff.mpr ⟨l,l'⟩,Nat.max_le.mpr ⟨h,h'⟩⟩
theorem Fits.nil {n:Nat} : Fits n []:=⟨rfl,Nat.zero_le _⟩
theorem Fits.one {n:Nat} {d : PyData} (a : Fit n d) : Fits n [d]:=a.rec fun l h=>.cons ⟨l,h⟩ .nil
theorem Fit.mono {n m:Nat} {d : PyData} (a : Fit n d) (k : n ≤ m) : Fit m d:=let ⟨l,h⟩:=a; ⟨l,Nat.le_trans h k⟩
theorem Fits.mono {n m:Nat} {d:List PyData} (a : Fits n d) (k : n ≤ m) : Fits m d:=let ⟨l,h⟩:=a; ⟨l,Nat.le_trans h k⟩
theorem Fit.tag {n:Nat} {s:List Nat} {d : PyData} (h : s ∈ ([sI,sText,sSym,sWord,sNil,sTrue,sFalse,sRange,sList,sTable,sThing,sBool] : List (List Nat))) (a : Fit n d) : Fit (n + 1) (.tuple [.str (mkS s),d]):=.tup (.cons (.str (tag_ok h)) (.one a))
theorem four {a b:Nat} (h : a ≤ b) (k:Nat) : 4 * a + k ≤ 4 * b + k:=Nat.add_le_add_right (Nat.mul_le_mul_left 4 h) k
theorem dat_fit (p:P) : ∀ m,wf p m→Fit (4 * dep p + 4) (datf p).1∧Fits (4 * dep p + 6) (datf p).2:=by
  induction p with
  | int n=>exact fun m hw=>⟨.tag (by decide) ⟨rfl,Nat.zero_le _⟩, .nil⟩
  | text s=>exact fun m hw=>⟨.tag (by decide) (.str (strOk_of (text_small hw.2).2)), .nil⟩
  | sym s=>exact fun m hw=>⟨.tag (by decide) (.str (strOk_of (sym_small hw.2).2)), .nil⟩
  | nul=>exact fun m hw=>⟨.tag (by decide) (.str (tag_ok (by decide))), .nil⟩
  | bool b=>exact fun m hw=>⟨.tag (by decide) (.str (by cases b <;> exact tag_ok (by decide))), .nil⟩
  | nil=>exact fun m hw=>⟨⟨rfl,Nat.zero_le _⟩, .nil⟩
  | range a b o iha ihb=>
    intro m hw
    have hab:=rangeOk_wf hw.2
    exact ⟨(Fit.tag (by decide) (.lst (.cons ((iha _ hab.1).1.mono (four (Nat.le_max_left (dep a) (dep b)) 4)) (.cons ((ihb _ hab.2).1.mono (four (Nat.le_max_right _ _) 4)) (.one ⟨rfl,Nat.zero_le _⟩))))).mono (by rw [dG,Nat.mul_succ]; exact Nat.add_le_add_left (by decide : 6 ≤ 8) _), .nil⟩
  | list l ih=>exact fun m hw=>⟨Fit.tag (by decide) (.lst (ih _ hw.2).2), .nil⟩
  | table l ih=>exact fun m hw=>⟨Fit.tag (by decide) (.lst (ih _ hw.2).2), .nil⟩
  | cons h t ih1 ih2=>exact fun m hw=>⟨⟨rfl,Nat.zero_le _⟩, .cons ((ih1 _ hw.2.1).1.mono (Nat.le_trans (four (Nat.le_max_left _ _) 4) (Nat.add_le_add_left (by decide : 4 ≤ 6) _))) ((ih2 _ hw.2.2).2.mono (four (Nat.le_max_right _ _) 6))⟩
  | row k w t ih1 ih2 ih3=>
    intro m hw
    have l1 : dep k ≤ dep (.row k w t):=Nat.le_max_left _ _
    have l2 : dep w ≤ dep (.row k w t):=Nat.le_trans (Nat.le_max_left _ _) (Nat.le_max_right _ _)
    have l3 : dep t ≤ dep (.row k w t):=Nat.le_trans (Nat.le_max_right _ _) (Nat.le_max_right _ _)
    exact ⟨⟨rfl,Nat.zero_le _⟩, .cons ((Fit.tup (.cons ((ih1 _ hw.2.1).1.mono (four l1 4)) (.one ((ih2 _ hw.2.2.1).1.mono (four l2 4))))).mono (Nat.add_le_add_left (by decide : 5 ≤ 6) _)) ((ih3 _ hw.2.2.2.1).2.mono (four l3 6))⟩
theorem dat_lay {p:P} {m : Md} (hw : wf p m) : (datf p).1.canLay0 = true:=let ⟨l,_⟩:=(dat_fit p m hw).1; l
theorem Fit.shaped {n:Nat} {d : PyData} (h : Fit n d) (k : n ≤ 64) : PySem.SeqAt.shaped d = true:=let ⟨l,h⟩:=h; Bool.and_eq_true_iff.mpr ⟨l,decide_eq_true (Nat.le_trans h k)⟩
theorem shaped_dat {p:P} {m : Md} (hw : wf p m) (hd : dep p ≤ 10) : PySem.SeqAt.shaped (datf p).1 = true∧PySem.SeqAt.shaped (.list (datf p).2) = true:=by
  have h:=dat_fit p m hw
  exact ⟨h.1.shaped (Nat.le_trans (four hd 4) (by decide)),(Fit.lst h.2).shaped (Nat.succ_le_succ (Nat.le_trans (four hd 6) (by decide)))⟩
noncomputable def chainOf:List P→P
  | []=>.nil
  | p :: r=>.cons p (chainOf r)
noncomputable def rowsOf:List (P × P)→P
  | []=>.nil
  | p :: r=>.row p.1 p.2 (rowsOf r)
theorem wf_chain {ps:List P} (h : ∀ p ∈ ps,wf p .it) : wf (chainOf ps) .ls:=by
  induction ps with
  | nil=>exact fun e=>nomatch e
  | cons p r ih=>exact ⟨rfl,h p (.head _),ih fun q hq=>h q (.tail _ hq)⟩
theorem dep_chain {k:Nat} {ps:List P} (h : ∀ p ∈ ps,dep p ≤ k) : dep (chainOf ps) ≤ k:=by
  induction ps with
  | nil=>exact Nat.zero_le _
  | cons p r ih=>exact Nat.max_le.mpr ⟨h p (.head _),ih fun q hq=>h q (.tail _ hq)⟩
theorem wt_chain {M:Nat} {ps:List P} (h : ∀ p ∈ ps,wt p ≤ M) : wt (chainOf ps) ≤ ps.length * (M + 10):=by
  induction ps with
  | nil=>exact Nat.zero_le _
  | cons p r ih=>
    rw [List.length_cons,Nat.succ_mul]
    show wt p + wt (chainOf r) + 10 ≤ _
    rw [Nat.add_right_comm,Nat.add_comm (_ * _)]
    exact Nat.add_le_add (Nat.add_le_add_right (h p (.head _)) 10) (ih fun q hq=>h q (.tail _ hq))
theorem noTab_chain {ps:List P} (h : ∀ p ∈ ps,noTab p = true) : noTab (chainOf ps) = true:=by
  induction ps with
  | nil=>rfl
  | cons p r ih=>exact Bool.and_eq_true_iff.mpr ⟨h p (.head _),ih fun q hq=>h q (.tail _ hq)⟩
theorem plain_snoc {σ:Sg} {N:Addr→Prop} {p:P} {v:V} (hp : PlainIs σ N p v) {ps:List P} : ∀ {vs:List V},PlainIs σ N (chainOf ps) (.tup vs)→PlainIs σ N (chainOf (ps ++ [p])) (.tup (vs ++ [v])):=by
  induction ps with
  | nil=>intro vs h; cases h; exact ⟨v,[],rfl,hp,rfl⟩
  | cons q r ih=>
    intro vs h
    obtain ⟨y,ys,e,h1,h2⟩:=h
    cases e
    exact ⟨y,ys ++ [v],rfl,h1,ih h2⟩
theorem keys_rows (rs:List (P × P)) : keysOf (rowsOf rs) = rs.map (·.1):=by
  induction rs with
  | nil=>rfl
  | cons p r ih=>exact congrArg (p.1 :: ·) ih
theorem wf_rows {rs:List (P × P)} (h : ∀ r ∈ rs,wf r.1 .it∧wf r.2 .it∧noTab r.1 = true∧dep r.1 ≤ 2) (hn : (rs.map (·.1)).Nodup) : wf (rowsOf rs) .rs:=by
  induction rs with
  | nil=>exact fun e=>nomatch e
  | cons p r ih=>
    rw [List.map_cons,List.nodup_cons] at hn
    obtain ⟨h1,h2,h3,h4⟩:=h p (.head _)
    exact ⟨rfl,h1,h2,ih (fun q hq=>h q (.tail _ hq)) hn.2,h3,h4,by rw [keys_rows]; exact hn.1⟩
theorem dep_rows {k:Nat} {rs:List (P × P)} (h : ∀ r ∈ rs,dep r.1 ≤ k∧dep r.2 ≤ k) : dep (rowsOf rs) ≤ k:=by
  induction rs with
  | nil=>exact Nat.zero_le _
  | cons p r ih=>
    obtain ⟨h1,h2⟩:=h p (.head _)
    exact Nat.max_le.mpr ⟨h1,Nat.max_le.mpr ⟨h2,ih fun q hq=>h q (.tail _ hq)⟩⟩
theorem wt_rows {M:Nat} {rs:List (P × P)} (h : ∀ r ∈ rs,wt r.1 + wt r.2 ≤ M) : wt (rowsOf rs) ≤ rs.length * (M + 20):=by
  induction rs with
  | nil=>exact Nat.zero_le _
  | cons p r ih=>
    rw [List.length_cons,Nat.succ_mul]
    show wt p.1 + wt p.2 + wt (rowsOf r) + 20 ≤ _
    rw [Nat.add_right_comm,Nat.add_comm (_ * _)]
    exact Nat.add_le_add (Nat.add_le_add_right (h p (.head _)) 20) (ih fun q hq=>h q (.tail _ hq))
theorem rows_snoc {σ:Sg} {N:Addr→Prop} {k w:P} {kv wv:V} (hk : PlainIs σ N k kv) (hw : PlainIs σ N w wv) {rs:List (P × P)} : ∀ {vs:List V},PlainIs σ N (rowsOf rs) (.tup vs)→PlainIs σ N (rowsOf (rs ++ [(k,w)])) (.tup (vs ++ [.tup [kv,wv]])):=by
  induction rs with
  | nil=>intro vs h; cases h; exact ⟨kv,wv,[],rfl,hk,hw,rfl⟩
  | cons q r ih=>
    intro vs h
    obtain ⟨y,z,ys,e,h1,h2,h3⟩:=h
    cases e
    exact ⟨y,z,ys ++ [.tup [kv,wv]],rfl,h1,h2,ih h3⟩
theorem chain_data (ps:List P) : (datf (chainOf ps)).2 = ps.map fun p=>(datf p).1:=by
  induction ps with
  | nil=>rfl
  | cons p r ih=>exact congrArg ((datf p).1 :: ·) ih
noncomputable def litsE:List V→CEs
  | []=>.nil
  | v :: r=>.cons (.k v) (litsE r)
noncomputable def Wf:Nat→Nat
  | 0=>400
  | n + 1=>3 * Wf n + 5000
section
variable {g:G} {d:Nat} {σ:Sg} {Q:V→Sg→Prop} {bx sc:Addr} {R:Nat} {ρ:Env'}
theorem lits_ok : ∀ {vs:List V} {Q:List V→Sg→Prop},Q vs σ→wpEs g d (litsE vs) ρ Q σ
  | [],_,q=>q
  | _ :: r,_,q=>lits_ok (vs:=r) q
theorem pick_take (K : GK g) (hd : 1 ≤ d) {vs:List V} {j:Nat} {m:Int} (hj : ρ.getD j none = some (.ref bx)) (hm : m = vs.length) (h0 : 0 < m) (hl : m ≤ 1000) (B : IsBox σ bx sc R)
    (q : ∀ σ' v r,v ∈ vs→vs[r.toNat]? = some v→0 ≤ r→r < m→(R = 0→r ≤ 2)→IsBox σ' bx sc (R - 1)→Ex [bx] σ σ'→Q v σ') : wpE g d (.idx (.lst (litsE vs)) (.call (.u 664) (.cons (.var j) (.cons (.k (.int m)) .nil)))) ρ Q σ:=by
  refine e_idx (e_lst (lits_ok fun l hl=>?_))
  refine e_callu (es_cons (e_var hj (es_cons (e_k (es_nil ?_)))))
  refine take_ok K hd h0 (B.pure (Ex.new hl)) fun σ' r hr0 hr1 hr2 B' E'=>?_
  obtain ⟨v,hv,hvx⟩:=pick (xs:=vs) hr0 (by lia)
  have hne:=B.ne hl
  exact ix_l (E' _ _ (upd_same _ _ _) (by exact nin1 (hne))) hvx ⟨hr0,by lia⟩ (q σ' v r hv hvx hr0 hr1 hr2 B' ((Ex.new hl).trans E'))
noncomputable def PlainQ (σ:Sg) (bx sc:Addr) (R:Nat) (deep:Int) (Q:V→Sg→Prop):Prop:=∀ σ' p v R',wf p .it→dep p ≤ deep.toNat + 2→wt p ≤ Wf deep.toNat→(deep ≤ 1→(∃ l,p = .table l)∨(noTab p = true∧wt p ≤ 1300∧dep p ≤ deep.toNat + 1))→(deep ≤ 0→noTab p = true)→
  PlainIs σ' (New σ) p v→R' ≤ R→IsBox σ' bx sc R'→Ex [bx] σ σ'→Q v σ'
theorem Wf_ge (n:Nat) : 400 ≤ Wf n:=by induction n <;> simp [Wf] <;> omega
theorem PlainQ.flat {deep:Int} (q : PlainQ σ bx sc R deep Q) {σ' : Sg} {p:P} {v:V} {R' : Nat} (hw : wf p .it) (hd : dep p = 0) (ht : wt p ≤ 400) (hn : noTab p = true) (hp : ∀ N,PlainIs σ' N p v) (hR : R' ≤ R) (B : IsBox σ' bx sc R') (E : Ex [bx] σ σ') : Q v σ':=
  q σ' p v R' hw (by simp +arith [*]) (Nat.le_trans ht (Wf_ge _)) (fun _=>.inr ⟨hn,by exact le_lit2 ‹_› (by rfl),by simp +arith [*]⟩) (fun _=>hn) (hp _) hR B E
theorem text_wt {s:List Nat} (h : textOk s) : wt (.text s) ≤ 110:=Nat.add_le_add_right (Nat.mul_le_mul_left 10 h.1) 10
theorem range_wt {a b:P} (h : rangeOk a b) : wt a ≤ 110∧wt b ≤ 110:=by
  induction h with
  | tt h=>exact ⟨text_wt h.1,text_wt h.2⟩
  | _=>exact ⟨Nat.le_of_ble_eq_true rfl,Nat.le_of_ble_eq_true rfl⟩
theorem sym_wt {s:List Nat} (h : s ∈ symsL) : wt (.sym s) ≤ 400:=by
  have : (symsL.all fun s=>decide (s.length ≤ 30)) = true:=by decide +kernel
  have:=List.all_eq_true.mp this s h
  simp only [decide_eq_true_eq] at this
  rw [wY]; lia
noncomputable def PlainIH (g:G) (k:Nat):Prop:=∀ {d:Nat} {σ:Sg} {Q:V→Sg→Prop} {bx sc:Addr} {R:Nat} {deep:Int},R + deep.toNat ≤ k→deep ≤ 3→k + 5 ≤ d→IsBox σ bx sc R→PlainQ σ bx sc R deep Q→UCall g d (.ref 681) [.ref bx, .int deep] Q σ
noncomputable abbrev CSs.tl:CSs→CSs
  | .cons _ r=>r
  | .nil=>.nil
theorem plain_rng (K : GK g) {σ σ₁:Sg} {deep:Int} (hd : 5 ≤ d) (B : IsBox σ bx sc R) (q : PlainQ σ bx sc R deep Q) (B₁ : IsBox σ₁ bx sc (R - 1)) (E₁ : Ex [bx] σ σ₁) : wpSs g (d - 1) ir_law_plain.body.tl [some (.ref bx),some (.int deep),some (.int 4),none,none,none,none] (fun _ σ'=>Q .none σ') Q σ₁:=by
  have hb : big = 16777216:=rfl
  walk_at "w"
  refine take_ok K (by exact le_litp ‹_› (by rfl)) (by decide) B₁ fun σ₂ i hi0 hi9 _ B₂ E₂=>?_
  walk_at "w"
  refine take_ok K (by exact le_litp ‹_› (by rfl)) (by decide) B₂ fun σ₃ j hj0 hj9 _ B₃ E₃=>?_
  walk_at "w"
  intro el hel
  have nel2:=B₃.ne2 hel
  have nel:=nel2.1
  have B₄:=B₃.pure (Ex.new (o:=.list [.tup [.str sI, .int i], .tup [.str sI, .int j]]) hel)
  have f4 : (upd σ₃ el (.list [.tup [.str sI, .int i], .tup [.str sI, .int j]])) el = some (.list [.tup [.str sI, .int i], .tup [.str sI, .int j]]):=upd_same _ _ _
  have hel0 : σ el = none:=((E₁.trans E₂).trans E₃).fresh hel (by exact nin1 nel)
  have E₄ : Ex [bx] σ (upd σ₃ el (.list [.tup [.str sI, .int i], .tup [.str sI, .int j]])):=((E₁.trans E₂).trans E₃).trans (Ex.new hel)
  generalize (upd σ₃ el (.list [.tup [.str sI, .int i], .tup [.str sI, .int j]])) = σ₄ at *
  have Eel : ∀ σ' {o:AObj},Ex [bx] σ₄ σ'→Ex [bx] σ (upd σ' el o):=fun σ' o E=>Ex.drop (r:=el) ((((E₄.trans E).weak (by exact sub1 (.tail _ (.head _))))).trans (Ex.set (by exact List.mem_cons_self ..))) hel0
  walk_at "w"
  refine take_ok K (by exact le_litp ‹_› (by rfl)) (by decide) B₄ fun σ₅ x hx0 hx3 _ B₅ E₅=>?_
  have f5:=E₅ _ _ f4 (by exact nin1 nel)
  walk_at "w"
  have fin : ∀ (Kn:Env'→Sg→Prop) σ₆ e₆ R' a b va vb,IsBox σ₆ bx sc R'→R' ≤ R→Ex [bx] σ σ₆→σ₆ e₆ = some (.list [va,vb])→rangeOk a b→(∀ N σ',PlainIs σ' N a va)→(∀ N σ',PlainIs σ' N b vb)→
      wpSs g (d - 1) (.cons (.ret (.tup (.cons (.k (.str [114,97,110,103,101])) (.cons (.bin .Add (.var 3) (.lst (.cons (.cmp .Eq (.call (.u 664) (.cons (.var 0) (.cons (.k (.int 2)) .nil))) (.k (.int 1))) .nil))) .nil)))) .nil)
        [some (.ref bx),some (.int deep),some (.int 4),some (.ref e₆),none,none,none] Kn Q σ₆:=fun Kn σ₆ e₆ R' a b va vb B₆ hR E₆ f6 hab ha hb'=>by
    walk_at "w"
    refine take_ok K (by exact le_litp ‹_› (by rfl)) (by decide) B₆ fun σ₇ y hy0 hy2 _ B₇ E₇=>?_
    have f7:=E₇ _ _ f6 (by
      obtain ⟨_,_,_,e0,_⟩:=B₆
      simpa using ne_obj f6 e0 (by simp))
    walk_at "w"
    intro l hl
    have f8:=upd_old (o':=.list [.bool (decide (y = 1))]) hl f7
    refine b_addl f8 (upd_same _ _ _) (by simp [big]) fun l2 hl2=>?_
    walk_at "w"
    have E₈:=(((E₆.trans E₇).trans (Ex.new (o:=.list [.bool (decide (y = 1))]) hl)))
    have B₈:=B₇.pure (Ex.new (o:=.list [.bool (decide (y = 1))]) hl)
    have hl20 : σ l2 = none:=E₈.fresh hl2 (by exact nin1 (B₈.ne hl2))
    have hwf:=rangeOk_wf hab
    have hwt : wt a ≤ 110∧wt b ≤ 110∧noTab a = true∧noTab b = true∧dep a = 0∧dep b = 0:=by
      have z1:=range_dep hab
      have z2:=range_wt hab
      have z3:=(Bool.and_eq_true_iff.mp (range_noTab (o:=true) hab))
      exact ⟨z2.1,z2.2,z3.1,z3.2,z1.1,z1.2⟩
    obtain ⟨w1,w2,w3,w4,w5,w6⟩:=hwt
    refine q _ (.range a b (decide (y = 1))) _ _ ⟨rfl,hab⟩ (by simp only [dG,dL,dT,dC,dW,w5,w6]; exact Nat.succ_pos _) (by have:=Wf_ge deep.toNat; simp only [wG,wL,wT,wC,wW]; lia) (fun _=>.inr ⟨by simp only [nG,nL,nC,w3,w4]; rfl,by simp only [wG,wL,wT,wC,wW]; lia,by simp only [dG,dL,dT,dC,dW,w5,w6]; exact Nat.succ_pos _⟩) (fun _=>by simp only [nG,nL,nC,w3,w4]; rfl) ⟨l2,va,vb,rfl,upd_same _ _ _,hl20,ha _ _,hb' _ _⟩ (by lia) (B₈.pure (Ex.new hl2)) (E₈.trans (Ex.new hl2))
  refine if_d (fun _=>?_) fun _=>?_
  · -- an open end
    walk_at "w"
    refine take_ok K (by exact le_litp ‹_› (by rfl)) (by decide) B₅ fun σ₆ y hy0 hy2 _ B₆ E₆=>?_
    have f6:=E₆ _ _ f5 (by exact nin1 nel)
    have hy : y = 0∨y = 1:=by lia
    rcases hy with rfl | rfl
    · refine set_l f6 ⟨by decide,by assumption,by simp [big]⟩ (s_nil ?_)
      exact fin _ _ el _ .nul (.int j) _ _ (B₆.upd nel2) (by simp +arith [*]) (Eel σ₆ (E₅.trans E₆)) (upd_same _ _ _) (by constructor; exact ⟨by assumption,by exact Int.le_of_lt_add_one ‹_›⟩) (fun N σ'=>rfl) (fun N σ'=>rfl)
    · refine set_l f6 ⟨by decide,by assumption,by simp [big]⟩ (s_nil ?_)
      exact fin _ _ el _ (.int i) .nul _ _ (B₆.upd nel2) (by simp +arith [*]) (Eel σ₆ (E₅.trans E₆)) (upd_same _ _ _) (by constructor; exact ⟨by assumption,by exact Int.le_of_lt_add_one ‹_›⟩) (fun N σ'=>rfl) (fun N σ'=>rfl)
  · walk_at "w"
    refine take_ok K (by exact le_litp ‹_› (by rfl)) (by decide) B₅ fun σ₆ y hy0 hy2 _ B₆ E₆=>?_
    have f6:=E₆ _ _ f5 (by exact nin1 nel)
    walk_at "w"
    refine if_d (fun _=>?_) fun _=>?_
    · walk_at "w"
      refine letters_ok K (by exact le_litp ‹_› (by rfl)) B₆ fun σ₇ s R₇ hs hR7 B₇ E₇=>?_
      walk_at "w"
      refine letters_ok K (by exact le_litp ‹_› (by rfl)) B₇ fun σ₈ s' R₈ hs' hR8 B₈ E₈=>?_
      walk_at "w"
      intro l hl
      refine s_nil (s_nil ?_)
      refine fin _ _ l _ (.text s) (.text s') (.tup [.str sText, .str s]) (.tup [.str sText, .str s']) (B₈.pure (Ex.new hl)) (by lia) (((((E₄.trans E₅).trans E₆).trans E₇).trans E₈).trans (Ex.new hl)) (upd_same _ _ _) (.tt ⟨hs,hs'⟩) (fun N σ'=>rfl) (fun N σ'=>rfl)
    · refine s_nil (s_nil ?_)
      exact fin _ _ el _ (.int i) (.int j) _ _ B₆ (by simp +arith [*]) ((E₄.trans E₅).trans E₆) f6 (.ii ⟨by lia,by lia⟩) (fun N σ'=>rfl) (fun N σ'=>rfl)
theorem w56 {w n:Int} (hw : w = 5∨w = 6) (h : w = n) (h5 : (5:Int) ≠ n) (h6 : (6:Int) ≠ n) : False:=hw.elim (fun e=>h5 (e.symm.trans h)) fun e=>h6 (e.symm.trans h)
theorem hmOf {deep:Int} (h : 0 < deep) : ∃ m:Nat,deep.toNat = m + 1∧(deep - 1).toNat = m:=by
  obtain ⟨m,rfl⟩:=Int.eq_succ_of_zero_lt h
  exact ⟨m,rfl,by rw [Int.add_sub_cancel]; rfl⟩
theorem k5 {k d:Nat} (hk : 0 < k) (h : k + 5 ≤ d) : k - 1 + 5 ≤ d - 1:=Nat.le_sub_of_add_le (by rw [Nat.add_right_comm,Nat.sub_add_cancel hk]; exact h)
theorem k6 {R R' a b k:Nat} (hR : 0 < R) (h1 : R' ≤ R - 1) (h2 : a ≤ b) (hk : R + b ≤ k) : R' + a ≤ k - 1:=Nat.le_sub_of_add_le (Nat.le_trans (by rw [Nat.add_right_comm]; exact Nat.add_le_add (Nat.add_le_of_le_sub hR h1) h2) hk)
theorem ls_fin {m:Nat} {deep:Int} {ps:List P} (hm : deep.toNat = m + 1) (hl : ps.length ≤ 3) (ok : ∀ p ∈ ps,wf p .it∧dep p ≤ m + 2∧wt p ≤ Wf m∧(deep ≤ 1→noTab p = true∧dep p ≤ m + 1)) :
    wf (.list (chainOf ps)) .it∧dep (.list (chainOf ps)) ≤ deep.toNat + 2∧wt (.list (chainOf ps)) ≤ Wf deep.toNat∧(deep ≤ 1→(∃ l,P.list (chainOf ps) = .table l)∨(noTab (.list (chainOf ps)) = true∧wt (.list (chainOf ps)) ≤ 1300∧dep (.list (chainOf ps)) ≤ deep.toNat + 1)):=by
  have hw2 : wt (.list (chainOf ps)) ≤ 3 * (Wf m + 10) + 10:=Nat.add_le_add_right (Nat.le_trans (wt_chain fun p hp=>(ok p hp).2.2.1) (Nat.mul_le_mul_right _ hl)) 10
  have hm0:=fun hd1 : deep ≤ 1=>Int.toNat_le_toNat hd1
  rw [hm] at hm0 ⊢
  refine ⟨⟨rfl,wf_chain fun p hp=>(ok p hp).1⟩,Nat.succ_le_succ (dep_chain fun p hp=>(ok p hp).2.1),Nat.le_trans hw2 ?_,fun hd1=>.inr ⟨noTab_chain fun p hp=>((ok p hp).2.2.2 hd1).1,?_,Nat.succ_le_succ (dep_chain fun p hp=>((ok p hp).2.2.2 hd1).2)⟩⟩
  · show _ ≤ 3 * Wf m + 5000
    rw [Nat.mul_add,Nat.add_assoc]; exact Nat.add_le_add_left (by decide) _
  · cases Nat.le_zero.mp (Nat.le_of_succ_le_succ (hm0 hd1))
    exact Nat.le_trans hw2 (by decide)
theorem ls_ok {m:Nat} {deep:Int} {ps:List P} {p:P} (ok : ∀ p ∈ ps,wf p .it∧dep p ≤ m + 2∧wt p ≤ Wf m∧(deep ≤ 1→noTab p = true∧dep p ≤ m + 1)) (h1 : wf p .it) (h2 : dep p ≤ m + 2) (h3 : wt p ≤ Wf m) (h4 : deep - 1 ≤ 1→(∃ l,p = .table l)∨(noTab p = true∧wt p ≤ 1300∧dep p ≤ m + 1)) (h5 : deep - 1 ≤ 0→noTab p = true) :
    ∀ q ∈ ps ++ [p],wf q .it∧dep q ≤ m + 2∧wt q ≤ Wf m∧(deep ≤ 1→noTab q = true∧dep q ≤ m + 1):=by
  intro q hq
  rcases List.mem_append.mp hq with hq | hq
  · exact ok q hq
  · rw [List.mem_singleton.mp hq]
    refine ⟨h1,h2,h3,fun hd1=>?_⟩
    have h6 : deep - 1 ≤ 0:=Int.sub_nonpos_of_le hd1
    refine ⟨h5 h6,?_⟩
    rcases h4 (Int.le_trans h6 (by decide)) with ⟨l,e⟩ | h4
    · rw [e] at h5; cases h5 h6
    · exact h4.2.2
inductive LsI (σ:Sg) (bx sc:Addr) (R m:Nat) (deep:Int) (ys acc:List V) (σ' : Sg):Prop
  | mk (E : Ex [bx] σ σ') (R' : Nat) (ps:List P) (B : IsBox σ' bx sc R') (hR : R' ≤ R) (hp : PlainIs σ' (New σ) (chainOf ps) (.tup acc)) (hl : ps.length + ys.length ≤ 3) (ok : ∀ p ∈ ps,wf p .it∧dep p ≤ m + 2∧wt p ≤ Wf m∧(deep ≤ 1→noTab p = true∧dep p ≤ m + 1))
theorem plain_lst (K : GK g) {k:Nat} (ih : ∀ j,j < k→PlainIH g j) {σ σ₁:Sg} {deep:Int} (hk : R + deep.toNat ≤ k) (hdp : deep ≤ 3) (hd : k + 5 ≤ d) (B : IsBox σ bx sc R) (q : PlainQ σ bx sc R deep Q) (B₁ : IsBox σ₁ bx sc (R - 1)) (E₁ : Ex [bx] σ σ₁) (hpos : 0 < deep) {w:Int} (hw : w = 5∨w = 6) : wpSs g (d - 1) ir_law_plain.body.tl [some (.ref bx),some (.int deep),some (.int w),none,none,none,none] (fun _ σ'=>Q .none σ') Q σ₁:=by
  have hb : big = 16777216:=rfl
  walk_at "w"
  refine if_d (fun h=>(w56 hw h (by decide) (by decide)).elim) fun _=>?_
  walk_at "w"
  refine if_d (fun h=>(w56 hw h (by decide) (by decide)).elim) fun _=>?_
  walk_at "w"
  refine if_d (fun h=>(w56 hw h (by decide) (by decide)).elim) fun _=>?_
  walk_at "w"
  refine if_d (fun h=>(w56 hw h (by decide) (by decide)).elim) fun _=>?_
  walk_at "w"
  refine if_d (fun h=>(w56 hw h (by decide) (by decide)).elim) fun _=>?_
  walk_at "w"
  refine if_d (fun _=>?_) fun h=>absurd (by first | exact hw | lia) h
  walk_at "w"
  refine e_callb (fun _ _=>rfl) (es_cons (pick_take K (by exact le_litp ‹_› (by rfl)) (vs:=[.int 2, .int 1, .int 0, .int 3]) rfl rfl (by decide) (by decide) B₁ fun σ₂ v r hv hvx hr0 hr1 _ B₂ E₂=>?_))
  obtain ⟨n,rfl,hn0,hn3⟩ : ∃ n:Int,v = .int n∧0 ≤ n∧n ≤ 3:=by
    simp only [List.mem_cons,List.not_mem_nil,or_false] at hv
    rcases hv with rfl | rfl | rfl | rfl <;> exact ⟨_,rfl,by decide,by decide⟩
  refine es_nil (f_range ⟨hn0,by first | exact Int.le_trans hn3 (by decide) | exact Int.lt_of_le_of_lt hn3 (by decide)⟩ (src_r ⟨by simp [big]; lia,?_⟩))
  obtain ⟨m,hm1,hm2⟩:=hmOf hpos
  have hk2 : R + (m + 1) ≤ k:=hm1 ▸ hk
  refine comp1_rule (LsI σ bx sc R m deep) (fun _ _ _ _=>rfl) (fun _ _ _ _ _=>rfl) (fun y ys acc σ' Kc h hK=>?_) (fun acc σ' h l hlf=>?_) ⟨E₁.trans E₂,_,[],B₂,Nat.le_trans (Nat.sub_le _ _) (Nat.sub_le _ _),rfl,by simp; assumption,fun _ h=>(nomatch h)⟩
  · obtain ⟨E',R',ps,B',hR',hp,hl,hps⟩:=h
    have hk0 : 0 < k:=Nat.lt_of_lt_of_le (Nat.succ_pos _) hk2
    show wpE g _ _ [some y,some (.ref bx),some (.int deep)] _ _
    walk_at "w"
    refine ih (k - 1) (Nat.sub_lt hk0 Nat.one_pos) (by rw [hm2]; exact Nat.le_sub_of_add_le (Nat.le_trans (Nat.add_le_add_right hR' (m + 1)) hk2)) (Int.le_trans (Int.sub_le_self _ (by decide)) hdp) (k5 hk0 hd) B' fun σ'' p v R'' h1 h2 h3 h4 h5 h6 h7 h8 h9=>?_
    rw [hm2] at h2 h3 h4
    refine hK _ _ ⟨E'.trans h9,R'',ps ++ [p],h8,Nat.le_trans h7 hR',plain_snoc (h6.keep (fun a xs e _=>e) fun a xs e n=>E'.fresh n (by exact nin1 (B'.ne n))) (hp.keep (fun a xs e n=>h9 _ _ e (by exact nin1 (B.ne n))) fun a xs e n=>n),?_,ls_ok hps h1 h2 h3 h4 h5⟩
    rw [List.length_append,Nat.add_assoc,Nat.add_comm [p].length]; exact hl
  · obtain ⟨E',R',ps,B',hR',hp,hl,hps⟩:=h
    obtain ⟨f1,f2,f3,f4⟩:=ls_fin hm1 hl hps
    walk_at "w"
    exact q _ (.list (chainOf ps)) _ R' f1 f2 f3 f4 (fun h=>absurd (Int.lt_of_lt_of_le hpos h) (Int.lt_irrefl _)) ⟨l,acc,rfl,upd_same _ _ _,E'.fresh hlf (by exact nin1 (B'.ne hlf)),hp.keep (fun a xs e n=>upd_old hlf e) fun a xs e n=>n⟩ hR' (B'.pure (Ex.new hlf)) (E'.trans (Ex.new hlf))
noncomputable def Np (σ:Sg) (pl:Addr) (a:Addr):Prop:=σ a = none∧a ≠ pl
inductive RowsOk (m:Nat) (rs:List (P × P)):Prop
  | mk (h : ∀ r ∈ rs,(wf r.1 .it∧wf r.2 .it∧noTab r.1 = true∧dep r.1 ≤ 2)∧dep r.2 ≤ m + 2∧wt r.1 ≤ 1300∧wt r.2 ≤ Wf m) (nd : (rs.map (·.1)).Nodup)
inductive RowsI (σ:Sg) (bx sc pl:Addr) (R m:Nat) (deep:Int) (ys:List V) (ρ' : Env') (σ' : Sg):Prop
  | mk (v4 v6:Option V) (vs:List V) (rs:List (P × P)) (R' : Nat) (hρ : ρ' = [some (.ref bx),some (.int deep),some (.int 7),none,v4,some (.ref pl),v6]) (f : σ' pl = some (.list vs)) (hp : PlainIs σ' (Np σ pl) (rowsOf rs) (.tup vs)) (B : IsBox σ' bx sc R') (hR : R' ≤ R - 1) (E : Ex [bx,pl] σ σ') (hl : rs.length + ys.length ≤ 3) (ok : RowsOk m rs)
inductive KeysI (σ σ₅:Sg) (pl:Addr) (rs:List (P × P)) (ys acc:List V) (σ'' : Sg):Prop
  | mk (e : σ'' = σ₅) (r1 r2:List (P × P)) (hr : rs = r1 ++ r2) (h1 : PlainIs σ₅ (Np σ pl) (rowsOf r2) (.tup ys)) (h2 : PlainIs σ₅ (Np σ pl) (chainOf (r1.map (·.1))) (.tup acc))
theorem PlainIH.at {k:Nat} (ih : ∀ j,j < k→PlainIH g j) {σ' : Sg} {deep dp:Int} {R' : Nat} (hk : R + deep.toNat ≤ k) (hd : k + 5 ≤ d) (hR : 0 < R) (hR' : R' ≤ R - 1) (h1 : dp ≤ 3) (h2 : dp.toNat ≤ deep.toNat) (B : IsBox σ' bx sc R') (q : PlainQ σ' bx sc R' dp Q) : UCall g (d - 1) (.ref 681) [.ref bx, .int dp] Q σ':=
  have hk0:=Nat.lt_of_lt_of_le hR (Nat.le_trans (Nat.le_add_right R _) hk)
  ih (k - 1) (Nat.sub_lt hk0 Nat.one_pos) (k6 hR hR' h2 hk) h1 (k5 hk0 hd) B q
theorem rows_vs {rs:List (P × P)} : ∀ {vs:List V} {σ:Sg} {N:Addr→Prop},PlainIs σ N (rowsOf rs) (.tup vs)→vs.length = rs.length:=by
  induction rs with
  | nil=>intro vs σ N h; cases h; rfl
  | cons p r ih=>intro vs σ N h; obtain ⟨a,b,ys,e,_,_,h3⟩:=h; cases e; exact congrArg (· + 1) (ih h3)
theorem RowsOk.add {m:Nat} {rs:List (P × P)} (h : RowsOk m rs) {p v:P} (h1 : (wf p .it∧wf v .it∧noTab p = true∧dep p ≤ 2)∧dep v ≤ m + 2∧wt p ≤ 1300∧wt v ≤ Wf m) (h2 : ((rs.map (·.1)).map fun p=>(datf p).1).any (fun y=>PyData.eqv y (datf p).1) = false) : RowsOk m (rs ++ [(p,v)]):=by
  obtain ⟨hrs,hnd⟩:=h
  refine ⟨fun r hr=>?_,?_⟩
  · rcases List.mem_append.mp hr with hr | hr
    · exact hrs r hr
    · rw [List.mem_singleton.mp hr]; exact h1
  · rw [List.map_append,List.nodup_append]
    refine ⟨hnd,List.pairwise_singleton _ _,fun a ha b hb e=>?_⟩
    rw [List.mem_singleton.mp hb] at e
    subst e
    have : ((rs.map (·.1)).map fun p=>(datf p).1).any (fun y=>PyData.eqv y (datf a).1) = true:=by
      rw [List.any_eq_true]
      exact ⟨(datf a).1,List.mem_map_of_mem ha,PySem.SeqAt.eqv_refl _ (dat_lay h1.1.1)⟩
    rw [this] at h2; cases h2
theorem RowsOk.keys {m:Nat} {rs:List (P × P)} (h : RowsOk m rs) : wf (chainOf (rs.map (·.1))) .ls∧dep (chainOf (rs.map (·.1))) ≤ 2:=by
  obtain ⟨hrs,hnd⟩:=h
  refine ⟨wf_chain fun p hp=>?_,dep_chain fun p hp=>?_⟩
  · obtain ⟨r,hr,rfl⟩:=List.mem_map.mp hp
    exact (hrs r hr).1.1
  · obtain ⟨r,hr,rfl⟩:=List.mem_map.mp hp
    exact (hrs r hr).1.2.2.2
theorem RowsOk.tab {m:Nat} {rs:List (P × P)} (h : RowsOk m rs) (hl : rs.length ≤ 3) : wf (.table (rowsOf rs)) .it∧dep (.table (rowsOf rs)) ≤ m + 3∧wt (.table (rowsOf rs)) ≤ Wf (m + 1):=by
  obtain ⟨hrs,hnd⟩:=h
  refine ⟨⟨rfl,wf_rows (fun r hr=>(hrs r hr).1) hnd⟩,Nat.succ_le_succ (dep_rows fun r hr=>⟨Nat.le_trans (hrs r hr).1.2.2.2 (Nat.le_add_left 2 m),(hrs r hr).2.1⟩),?_⟩
  have h1:=wt_rows (M:=1300 + Wf m) fun r hr=>Nat.add_le_add (hrs r hr).2.2.1 (hrs r hr).2.2.2
  have h2 : rs.length * (1300 + Wf m + 20) ≤ 3 * (1300 + Wf m + 20):=Nat.mul_le_mul_right _ hl
  rw [wT]
  show _ ≤ 3 * Wf m + 5000
  clear hrs hnd hl
  lia
theorem two01 {v:V} (hv : v ∈ ([.int 0, .int 0, .int 1] : List V)) : ∃ n:Int,v = .int n∧n ≤ 3∧n.toNat ≤ 1∧n ≤ 1:=by
  simp only [List.mem_cons,List.not_mem_nil,or_false] at hv
  rcases hv with rfl | rfl | rfl <;> exact ⟨_,rfl,by decide,by decide,by decide⟩
theorem upto3 {v:V} (hv : v ∈ ([.int 1, .int 2, .int 0, .int 3] : List V)) : ∃ n:Int,v = .int n∧(0 ≤ n∧n ≤ big)∧n.toNat ≤ 3:=by
  simp only [List.mem_cons,List.not_mem_nil,or_false] at hv
  rcases hv with rfl | rfl | rfl | rfl <;> exact ⟨_,rfl,by decide,by decide⟩
theorem plain_tab (K : GK g) {k:Nat} (ih : ∀ j,j < k→PlainIH g j) {σ σ₁:Sg} {deep:Int} (hk : R + deep.toNat ≤ k) (hdp : deep ≤ 3) (hd : k + 5 ≤ d) (B : IsBox σ bx sc R) (q : PlainQ σ bx sc R deep Q) (B₁ : IsBox σ₁ bx sc (R - 1)) (E₁ : Ex [bx] σ σ₁) (hpos : 0 < deep) (hRp : 0 < R) : wpSs g (d - 1) ir_law_plain.body.tl [some (.ref bx),some (.int deep),some (.int 7),none,none,none,none] (fun _ σ'=>Q .none σ') Q σ₁:=by
  have hb : big = 16777216:=rfl
  have hm:=hmOf hpos
  obtain ⟨m,hm1,hm2⟩:=hm
  walk_at "w"
  intro pl hpl
  have npl:=B₁.ne2 hpl
  have hpl0 : σ pl = none:=E₁.fresh hpl (by exact nin1 (npl.1))
  have B₂:=B₁.pure (Ex.new (o:=.list []) hpl)
  have f2 : (upd σ₁ pl (.list [])) pl = some (.list []):=upd_same _ _ _
  have E₂ : Ex [bx,pl] σ (upd σ₁ pl (.list [])):=(E₁.weak (by exact sub1 (.head _))).trans (Ex.set (by exact .tail _ (.head _)))
  clear B₁ E₁
  generalize (upd σ₁ pl (.list [])) = σ₂ at *
  refine s_for (e_callb (fun _ _=>rfl) (es_cons (pick_take K (by exact le_litp ‹_› (by rfl)) (vs:=[.int 1, .int 2, .int 0, .int 3]) rfl rfl (by decide) (by decide) B₂ fun σ₃ v r hv hvx hr0 hr1 _ B₃ E₃=>?_)))
  obtain ⟨n,rfl,hn,hn3⟩:=upto3 hv
  refine es_nil (f_range hn (src_r ⟨by rw [List.length_map,List.length_range]; exact Nat.le_trans hn3 (by decide),?_⟩))
  have f3:=E₃ _ _ f2 (by exact nin1 (npl.1))
  refine forW_rule (RowsI σ bx sc pl R m deep) (fun _ _ _ _=>rfl) (fun y ys ρ' σ' Kc h hK=>?_) (fun ρ' σ' h=>?_)
    ⟨none,none,[],[],_,rfl,f3,rfl,B₃,Nat.sub_le _ _,E₂.trans (E₃.weak (by exact sub1 (.head _))),by rw [List.length_map,List.length_range]; exact Nat.le_trans (Nat.le_of_eq (Nat.zero_add _)) hn3,fun _ h=>(nomatch h),List.nodup_nil⟩
  · have hT : ∀ (ρ' : Env') (σ' : Sg) (v4 v6:Option V) (vs:List V) (rs:List (P × P)) (R' : Nat),ρ' = [some (.ref bx),some (.int deep),some (.int 7),none,v4,some (.ref pl),v6]→σ' pl = some (.list vs)→PlainIs σ' (Np σ pl) (rowsOf rs) (.tup vs)→IsBox σ' bx sc R'→R' ≤ R - 1→Ex [bx,pl] σ σ'→rs.length + ys.length ≤ 3→RowsOk m rs→Kc ρ' σ':=
      fun _ _ v4 v6 vs rs R' a b c d e f g h=>hK _ _ ⟨v4,v6,vs,rs,R',a,b,c,d,e,f,g,h⟩
    obtain ⟨v4,v6,vs,rs,R',rfl,f',hp,B',hR',E',hl,ok⟩:=h
    clear hK f3 B₃ E₃ hr0 hr1 hvx hv hn hn3 E₂ f2 B₂
    have nbx : ∀ a,σ a = none→a ≠ bx:=fun a n z=>by
      obtain ⟨xs',e0⟩:=B.live
      rw [z,e0] at n; cases n
    show wpSs g _ _ [some (.ref bx),some (.int deep),some (.int 7),none,some y,some (.ref pl),v6] _ _ _
    refine s_set (e_callu (es_cons (e_var rfl (es_cons (pick_take K (by exact le_litp ‹_› (by rfl)) (vs:=[.int 0, .int 0, .int 1]) rfl rfl (by decide) (by decide) B' fun σ₄ v r hv hvx hr0 hr1 _ B₄ E₄=>?_)))))
    obtain ⟨dh,rfl,hd3,hdt,hd1⟩:=two01 hv
    refine PlainIH.at ih hk hd hRp (Nat.le_trans (Nat.sub_le _ _) hR') hd3 (by rw [hm1]; exact Nat.le_trans hdt (Nat.le_add_left 1 m)) B₄ fun σ₅ hp' hv' R₅ w1 w2 w3 w4 w5 w6 w7 B₅ E₅=>?_
    have f5:=E₅ _ _ (E₄ _ _ f' (by exact nin1 (npl.1))) (by exact nin1 (npl.1))
    have E45:=E₄.trans E₅
    have hp5 : PlainIs σ₅ (Np σ pl) (rowsOf rs) (.tup vs):=hp.keep (fun a xs e n=>E45 _ _ e (by exact nin1 (nbx a n.1))) fun a xs e n=>n
    have hh5 : PlainIs σ₅ (Np σ pl) hp' hv':=w6.keep (fun a xs e _=>e) fun a xs e n=>by
      have n' : σ' a = none:=E₄.fresh n (by exact nin1 (B₄.ne n))
      exact ⟨E'.fresh n' (by exact nin2 (B'.ne n') fun z=>by rw [z,f'] at n'; cases n'),fun z=>by rw [z,f'] at n'; cases n'⟩
    obtain ⟨xx,rfl⟩:=hh5.tag w1
    have E05 : Ex [bx,pl] σ σ₅:=E'.trans (E45.weak (by exact sub1 (.head _)))
    have hR5 : R₅ ≤ R - 1:=Nat.le_trans w7 (Nat.le_trans (Nat.sub_le _ _) hR')
    have hl5 : rs.length + ys.length ≤ 3:=Nat.le_of_succ_le hl
    clear E₄ E₅ E45 E' B' f' hp w5 w6 w7 hR' B₄ hr0 hr1 hvx hv hd3 q B w3 hpl0 hpl
    have skip : ∀ σ₆,Ex [] σ₅ σ₆→Kc [some (.ref bx),some (.int deep),some (.int 7),none,some y,some (.ref pl),some (.tup [.str (tagOf hp'),xx])] σ₆:=fun σ₆ E₆=>
      hT _ _ (some y) _ vs rs R₅ rfl (E₆.get f5) (hp5.keep (fun a xs e n=>E₆.get e) fun a xs e n=>n) (B₅.pure E₆) hR5 (E05.trans E₆.nil) hl5 ok
    have hvl : vs.length ≤ 3:=by rw [rows_vs hp5]; exact Nat.le_trans (Nat.le_add_right _ _) hl5
    walk_at "w"
    walk_at "w"
    refine src_l f5 ⟨Nat.le_trans hvl (by decide),?_⟩
    refine comp1_rule (KeysI σ σ₅ pl rs) (fun ys acc σ'' h=>h.rec fun e _ _ _ _ _=>by rw [e]; exact src_l' f5) (fun _ _ _ _ _=>rfl) ?_ ?_ ⟨rfl,[],rs,rfl,hp5,rfl⟩
    · intro z zs acc σ'' Kd I hKd
      obtain ⟨rfl,r1,r2,e,h1,h2⟩:=I
      cases r2 with
      | nil=>cases h1
      | cons p r2=>
        obtain ⟨kv,wv,ys',e',h3,h4,h5⟩:=h1
        cases e'
        show wpE g _ _ [some (.tup [kv,wv])] _ _
        walk_at "w"
        exact hKd _ _ ⟨rfl,r1 ++ [p],r2,by rw [e,List.append_assoc]; rfl,h5,by rw [List.map_append]; exact plain_snoc h3 h2⟩
    · intro acc σ'' I kl hkl
      obtain ⟨rfl,r1,r2,e,h1,h2⟩:=I
      cases r2 with
      | cons p r2=>obtain ⟨kv,wv,ys',e',_⟩:=h1; cases e'
      | nil=>
        rw [List.append_nil] at e
        subst e
        obtain ⟨hwc,hdc⟩:=ok.keys
        have E₆ : Ex [] σ'' (upd σ'' kl (.list acc)):=Ex.new hkl
        have hdk:=(plain_dat hwc (h2.keep (σ':=upd σ'' kl (.list acc)) (N':=fun _=>True) (fun a xs e n=>E₆.get e) fun _ _ _ _=>trivial)).2 (fun h=>nomatch h)
        have hdh:=(plain_dat w1 (hh5.keep (σ':=upd σ'' kl (.list acc)) (N':=fun _=>True) (fun a xs e n=>E₆.get e) fun _ _ _ _=>trivial)).1 rfl
        refine c_ninr hdh (.list (upd_same _ _ _) hdk) (shaped_dat w1 (Nat.le_trans w2 (Nat.le_trans (Nat.add_le_add_right hdt 2) (by decide)))).1 (shaped_dat hwc (Nat.le_trans hdc (by decide))).2 ?_
        rw [chain_data]
        have B₆:=B₅.pure E₆
        have f6:=E₆.get f5
        have skip6:=skip _ E₆
        have hh6:=hh5.keep (σ':=upd σ'' kl (.list acc)) (fun a xs e n=>E₆.get e) fun a xs e n=>n
        have hp6:=hp5.keep (σ':=upd σ'' kl (.list acc)) (fun a xs e n=>E₆.get e) fun a xs e n=>n
        have E06 : Ex [bx,pl] σ (upd σ'' kl (.list acc)):=E05.trans E₆.nil
        clear hdk hdh E₆ hkl h1 h2 hh5 hp5 B₅ f5 skip E05 hwc hdc w2
        walk_at "w"
        generalize (upd σ'' kl (.list acc)) = σ₆ at *
        refine if_b (fun hnin=>?_) fun _=>?_
        · walk_at "w"
          refine if_d (fun htag=>?_) fun _=>?_
          · walk_at "w"
            refine PlainIH.at ih hk hd hRp hR5 (Int.le_trans (Int.sub_le_self deep (by decide)) hdp) (by rw [hm2,hm1]; exact Nat.le_succ m) B₆ fun σ₇ vp vv R₇ u1 u2 u3 u4 u5 u6 u7 B₇ E₇=>?_
            have f7:=E₇ _ _ f6 (by exact nin1 (npl.1))
            walk_at "w"
            refine m_append f7 (Nat.lt_of_le_of_lt hvl (by decide)) ⟨rfl,?_⟩
            have live6 : ∀ a,σ₆ a = none→Np σ pl a:=fun a ha=>
              have h1 : a ≠ pl:=fun z=>by rw [z,f6] at ha; cases ha
              ⟨E06.fresh ha (by exact nin2 (B₆.ne ha) h1),h1⟩
            refine s_nil (s_nil ?_)
            rw [hm2] at u2 u3
            have z:=(w4 hd1).resolve_left fun ⟨l,e⟩=>by rw [e] at htag; exact absurd rfl htag
            refine hT _ _ (some y) _ _ (rs ++ [(hp',vp)]) R₇ rfl (upd_same _ _ _) ?_ (B₇.upd npl) (Nat.le_trans u7 hR5) ((E06.trans (E₇.weak (by exact sub1 (.head _)))).trans (Ex.set (by exact .tail _ (.head _)))) (by rw [List.length_append,List.length_singleton,Nat.add_assoc,Nat.add_comm 1]; exact hl) (ok.add ⟨⟨w1,u1,z.1,Nat.le_trans z.2.2 (Nat.add_le_add_right hdt 1)⟩,u2,z.2.1,u3⟩ (by simpa using hnin))
            refine rows_snoc (hh6.keep (fun a xs e n=>?_) fun a xs e n=>n) (u6.keep (fun a xs e n=>?_) fun a xs e n=>live6 a n) (hp6.keep (fun a xs e n=>?_) fun a xs e n=>n)
            · rw [upd_ne n.2]; exact E₇ _ _ e (by exact nin1 (nbx a n.1))
            · rw [upd_ne (live6 a n).2]; exact e
            · rw [upd_ne n.2]; exact E₇ _ _ e (by exact nin1 (nbx a n.1))
          · refine s_nil (s_nil ?_)
            exact skip6
        · refine t_bool (if_ff rfl (s_nil (s_nil ?_)))
          exact skip6
  · obtain ⟨v4,v6,vs,rs,R',rfl,f',hp,B',hR',E',hl,ok⟩:=h
    walk_at "w"
    have tb:=ok.tab hl
    refine q σ' (.table (rowsOf rs)) _ R' tb.1 (by rw [hm1]; exact tb.2.1) (by rw [hm1]; exact tb.2.2) (fun _=>.inl ⟨_,rfl⟩) (fun h=>absurd hpos (Int.not_lt.mpr h)) ⟨pl,vs,rfl,f',hpl0,hp.keep (fun a xs e n=>e) fun a xs e n=>n.1⟩ (Nat.le_trans hR' (Nat.sub_le _ _)) B' (Ex.drop (r:=pl) (E'.weak (by simp)) hpl0)
theorem plain_step (K : GK g) {k:Nat} (ih : ∀ j,j < k→PlainIH g j) : PlainIH g k:=by
  intro d σ Q bx sc R deep hk hdp hd B q
  refine fnc K (by exact le_lit ‹_› (by rfl)) rfl [some (.ref bx),some (.int deep),none,none,none,none,none] rfl rfl ?_
  have hb : big = 16777216:=rfl
  have way : ∀ {Q' : V→Sg→Prop},(∀ σ' w,0 ≤ w→w ≤ 7→(deep ≤ 0→w ≤ 4)→(w = 7→0 < R)→IsBox σ' bx sc (R - 1)→Ex [bx] σ σ'→Q' (.int w) σ')→
      wpE g (d - 1) (.ite (.cmp .Gt (.var 1) (.k (.int 0))) (.idx (.lst (.cons (.k (.int 0)) (.cons (.k (.int 1)) (.cons (.k (.int 5)) (.cons (.k (.int 3)) (.cons (.k (.int 4)) (.cons (.k (.int 2)) (.cons (.k (.int 6)) (.cons (.k (.int 7)) .nil))))))))) (.call (.u 664) (.cons (.var 0) (.cons (.k (.int 8)) .nil)))) (.call (.u 664) (.cons (.var 0) (.cons (.k (.int 5)) .nil))))
        [some (.ref bx),some (.int deep),none,none,none,none,none] Q' σ:=fun {Q'} hq=>by
    walk_at "w"
    refine if_d (fun hpos=>?_) fun hpos=>?_
    · refine pick_take K (by exact le_litp ‹_› (by rfl)) (vs:=[.int 0, .int 1, .int 5, .int 3, .int 4, .int 2, .int 6, .int 7]) rfl rfl (by decide) (by decide) B fun σ' v r hv hvx hr0 hr1 hr2 B' E'=>?_
      have hr : r = 0∨r = 1∨r = 2∨r = 3∨r = 4∨r = 5∨r = 6∨r = 7:=by lia
      rcases hr with rfl | rfl | rfl | rfl | rfl | rfl | rfl | rfl <;> (cases hvx; exact hq σ' _ (by decide) (by decide) (fun h=>by omega) (fun h=>by first | (exact absurd h (by decide)) | (exact Nat.pos_of_ne_zero fun z=>absurd (hr2 z) (by decide))) B' E')
    · walk_at "w"
      refine take_ok K (by exact le_litp ‹_› (by rfl)) (by decide) B fun σ' r hr0 hr1 hr2 B' E'=>?_
      exact hq σ' r hr0 (by lia) (fun _=>by exact Int.le_of_lt_add_one ‹_›) (fun h=>by lia) B' E'
  refine s_set (way fun σ₁ w hw0 hw7 hwd hwR B₁ E₁=>?_)
  clear way
  have hw : w = 0∨w = 1∨w = 2∨w = 3∨w = 4∨(w = 5∨w = 6)∨w = 7:=by lia
  rcases hw with rfl | rfl | rfl | rfl | rfl | hw | rfl
  · -- an int
    walk_at "w"
    refine b_pow ⟨by decide,by decide,by decide⟩ ?_
    walk_at "w"
    intro l hl
    walk_at "w"
    refine take_ok K (by exact le_litp ‹_› (by rfl)) (by decide) (B₁.pure (Ex.new hl)) fun σ₂ r hr0 hr1 _ B₂ E₂=>?_
    have hne:=B₁.ne hl
    obtain ⟨n,hn,hnx⟩:=pick (xs:=([7, -3,0,1000000000000] : List Int)) hr0 (by assumption)
    refine ix_l (E₂ _ _ (upd_same _ _ _) (by exact nin1 (hne))) (get_map (f:=V.int) hnx) ⟨by assumption,by lia⟩ ?_
    walk_at "w"
    have hi : intOk n:=by
      simp only [List.mem_cons,List.not_mem_nil,or_false] at hn
      unfold intOk; lia
    exact q.flat (p:=.int n) ⟨rfl,hi⟩ rfl (show (50:Nat) ≤ 400 by decide) rfl (fun N=>rfl) (by simp +arith [*]) B₂ ((E₁.trans (Ex.new hl)).trans E₂)
  · -- a text
    walk_at "w"
    refine letters_ok K (by exact le_litp ‹_› (by rfl)) B₁ fun σ₂ s R' hs hR B₂ E₂=>?_
    walk_at "w"
    exact q.flat (p:=.text s) ⟨rfl,hs⟩ rfl (Nat.le_trans (text_wt hs) (by decide)) rfl (fun N=>rfl) (by lia) B₂ (E₁.trans E₂)
  · -- a symbol
    walk_at "w"
    refine symbol_ok K (by exact le_litp ‹_› (by rfl)) B₁ fun σ₂ s R' hs hR B₂ E₂=>?_
    walk_at "w"
    exact q.flat (p:=.sym s) ⟨rfl,hs⟩ rfl (sym_wt hs) rfl (fun N=>rfl) (by lia) B₂ (E₁.trans E₂)
  · -- a word
    walk_at "w"
    intro l hl
    walk_at "w"
    refine take_ok K (by exact le_litp ‹_› (by rfl)) (by decide) (B₁.pure (Ex.new hl)) fun σ₂ r hr0 hr1 _ B₂ E₂=>?_
    have hne:=B₁.ne hl
    have hr : r = 0∨r = 1∨r = 2:=by lia
    have f2:=E₂ _ _ (upd_same _ _ _) (by exact nin1 (hne))
    have E₃:=(E₁.trans (Ex.new hl)).trans E₂
    rcases hr with rfl | rfl | rfl
    · refine ix_l f2 rfl ⟨by assumption,by exact Int.ofNat_nonneg _⟩ ?_
      walk_at "w"
      exact q.flat (p:=.nul) rfl rfl (by decide) rfl (fun N=>rfl) (by simp +arith [*]) B₂ E₃
    · refine ix_l f2 rfl ⟨by assumption,by exact Int.ofNat_nonneg _⟩ ?_
      walk_at "w"
      exact q.flat (p:=.bool true) rfl rfl (by decide) rfl (fun N=>rfl) (by simp +arith [*]) B₂ E₃
    · refine ix_l f2 rfl ⟨by assumption,by exact Int.ofNat_nonneg _⟩ ?_
      walk_at "w"
      exact q.flat (p:=.bool false) rfl rfl (by decide) rfl (fun N=>rfl) (by simp +arith [*]) B₂ E₃
  · exact plain_rng K (Nat.le_trans (Nat.le_add_left 5 k) hd) B q B₁ E₁
  · exact plain_lst K ih hk hdp hd B q B₁ E₁ (by lia) hw
  · exact plain_tab K ih hk hdp hd B q B₁ E₁ (by lia) (hwR rfl)
theorem plain_ok (K : GK g) (k:Nat) : PlainIH g k:=Nat.strongRecOn (motive:=fun k=>PlainIH g k) k fun k ih=>plain_step K fun j hj=>ih j hj
end
noncomputable def Code.cs : Code→List Code
  | .list cs=>cs
  | _=>[]
noncomputable def codeP:P→Code
  | .int n=>.int n
  | .text s=>.text s
  | .sym s=>.sym s
  | .nul=>.nil
  | .bool b=>.bool b
  | .range a b o=>.range (codeP a) (codeP b) o
  | .list l=>.list (codeP l).cs
  | .nil=>.list []
  | .cons h t=>.list (codeP h :: (codeP t).cs)
  | .table _=>.nil
  | .row _ _ _=>.nil
theorem code_noTab {σ:Sg} {T : TE} {p:P} : ∀ {m : Md} {v:V} {c : Code},wf p m→noTab p = true→ThgIs σ T p v c→c = codeP p:=by
  induction p with
  | int n=>intro m v c _ _ h; exact h.2
  | text s=>intro m v c _ _ h; exact h.1
  | sym s=>intro m v c _ _ h; exact h.2
  | nul=>intro m v c _ _ h; exact h.2
  | bool b=>intro m v c _ _ h; exact h.2
  | nil=>intro m v c _ _ h; exact h.2
  | range a b o iha ihb=>
    intro m v c hw hn h
    obtain ⟨x,fs,k,va,vb,ca,cb,_,rfl,_,_,_,_,_,h1,h2⟩:=h
    have hab:=rangeOk_wf hw.2
    have hn:=Bool.and_eq_true_iff.mp (show (noTab a && noTab b) = true from hn)
    rw [iha hab.1 hn.1 h1,ihb hab.2 hn.2 h2]; rfl
  | list l ih=>
    intro m v c hw hn h
    obtain ⟨x,fs,k,il,vs,cs,_,rfl,_,_,_,_,_,h1⟩:=h
    show Code.list cs = .list (codeP l).cs
    rw [← ih hw.2 hn h1]; rfl
  | cons h t ih1 ih2=>
    intro m v c hw hn q
    obtain ⟨y,ys,d,ds,_,rfl,h1,h2⟩:=q
    have hn:=Bool.and_eq_true_iff.mp (show (noTab h && noTab t) = true from hn)
    show Code.list (d :: ds) = .list (codeP h :: (codeP t).cs)
    rw [← ih2 hw.2.2 hn.2 h2, ← ih1 hw.2.1 hn.1 h1]; rfl
  | table l _=>intro m v c _ hn; exact nomatch hn
  | row _ _ _=>intro m v c _ hn; exact nomatch hn
mutual
noncomputable def backP : Code→P
  | .int n=>.int n | .text s=>.text s | .sym s=>.sym s | .nil=>.nul | .bool b=>.bool b | .range a b o=>.range (backP a) (backP b) o | .list cs=>.list (backs cs) | .thing _=>.nul
noncomputable def backs:List Code→P
  | []=>.nil
  | c :: r=>.cons (backP c) (backs r)
end
theorem back_code (p:P) : (wf p .it→noTab p = true→backP (codeP p) = p)∧(wf p .ls→noTab p = true→backs (codeP p).cs = p):=by
  induction p with
  | int n=>exact ⟨fun _ _=>rfl,fun h=>nomatch h.1⟩
  | text n=>exact ⟨fun _ _=>rfl,fun h=>nomatch h.1⟩
  | sym n=>exact ⟨fun _ _=>rfl,fun h=>nomatch h.1⟩
  | nul=>exact ⟨fun _ _=>rfl,fun h=>nomatch h⟩
  | bool n=>exact ⟨fun _ _=>rfl,fun h=>nomatch h⟩
  | nil=>exact ⟨fun h=>absurd rfl h,fun _ _=>rfl⟩
  | range a b o iha ihb=>
    refine ⟨fun h hn=>?_,fun h=>nomatch h.1⟩
    have hn:=Bool.and_eq_true_iff.mp (show (noTab a && noTab b) = true from hn)
    have hab:=rangeOk_wf h.2
    show P.range (backP (codeP a)) (backP (codeP b)) o = _
    rw [iha.1 hab.1 hn.1,ihb.1 hab.2 hn.2]
  | list l ih=>exact ⟨fun h hn=>congrArg P.list (ih.2 h.2 hn),fun h=>nomatch h.1⟩
  | cons h t ih1 ih2=>
    refine ⟨fun h=>(nomatch h.1),fun hw hn=>?_⟩
    have hn:=Bool.and_eq_true_iff.mp (show (noTab h && noTab t) = true from hn)
    show P.cons (backP (codeP h)) (backs (codeP t).cs) = _
    rw [ih1.1 hw.2.1 hn.1,ih2.2 hw.2.2 hn.2]
  | table _ _=>exact ⟨fun _ h=>(nomatch h),fun _ h=>nomatch h⟩
  | row _ _ _=>exact ⟨fun _ h=>(nomatch h),fun _ h=>nomatch h⟩
theorem codeP_inj {p q:P} (hp : wf p .it) (hq : wf q .it) (h1 : noTab p = true) (h2 : noTab q = true) (e : codeP p = codeP q) : p = q:=by
  rw [← (back_code p).1 hp h1, ← (back_code q).1 hq h2,e]
inductive Key (n:Nat) (d : PyData):Prop
  | mk (l : keyish d = true) (h : d.depth ≤ n)
inductive Keys (n:Nat) (ds:List PyData):Prop
  | mk (l : keyishs ds = true) (h : PyData.depthAll ds ≤ n)
theorem Key.str {n:Nat} {s:List Nat} (h : PyData.strOk (mkS s) = true) : Key n (.str (mkS s)):=⟨h,Nat.zero_le _⟩
theorem Key.tup {n:Nat} {ds:List PyData} (h : Keys n ds) : Key (n + 1) (.tuple ds):=let ⟨l,h⟩:=h; ⟨l,Nat.succ_le_succ h⟩
theorem Keys.cons {n:Nat} {d : PyData} {ds:List PyData} (a : Key n d) (b : Keys n ds) : Keys n (d :: ds):=let ⟨l,h⟩:=a; let ⟨l',h'⟩:=b; ⟨Bool.and_eq_true_iff.mpr ⟨l,l'⟩,Nat.max_le.mpr ⟨h,h'⟩⟩
theorem Keys.nil {n:Nat} : Keys n []:=⟨rfl,Nat.zero_le _⟩
theorem Key.mono {n m:Nat} {d : PyData} (a : Key n d) (k : n ≤ m) : Key m d:=let ⟨l,h⟩:=a; ⟨l,Nat.le_trans h k⟩
theorem Keys.mono {n m:Nat} {d:List PyData} (a : Keys n d) (k : n ≤ m) : Keys m d:=let ⟨l,h⟩:=a; ⟨l,Nat.le_trans h k⟩
theorem Key.tag {n:Nat} {s:List Nat} {d : PyData} (h : s ∈ ([sI,sText,sSym,sWord,sNil,sTrue,sFalse,sRange,sList,sTable,sThing,sBool] : List (List Nat))) (a : Key n d) : Key (n + 1) (.tuple [.str (mkS s),d]):=.tup (.cons (.str (tag_ok h)) (.cons a .nil))
theorem twoK {a b:Nat} (h : a ≤ b) : 2 * a + 1 ≤ 2 * b + 1:=Nat.add_le_add_right (Nat.mul_le_mul_left 2 h) 1
theorem code_key (p:P) : noTab p = true→(wf p .it→Key (2 * dep p + 1) (codeP p).data)∧(wf p .ls→Keys (2 * dep p + 1) (Code.datas (codeP p).cs)):=by
  induction p with
  | int n=>exact fun _=>⟨fun _=>.tag (by decide) ⟨rfl,Nat.zero_le _⟩,fun h=>nomatch h.1⟩
  | text s=>exact fun _=>⟨fun hw=>.tag (by decide) (.str (strOk_of (text_small hw.2).2)),fun h=>nomatch h.1⟩
  | sym s=>exact fun _=>⟨fun hw=>.tag (by decide) (.str (strOk_of (sym_small hw.2).2)),fun h=>nomatch h.1⟩
  | nul=>exact fun _=>⟨fun _=>.tag (by decide) ⟨rfl,Nat.zero_le _⟩,fun h=>nomatch h⟩
  | bool b=>exact fun _=>⟨fun _=>.tag (by decide) ⟨rfl,Nat.zero_le _⟩,fun h=>nomatch h⟩
  | nil=>exact fun _=>⟨fun h=>absurd rfl h,fun _=>.nil⟩
  | range a b o iha ihb=>
    intro hn
    have hn:=Bool.and_eq_true_iff.mp (show (noTab a && noTab b) = true from hn)
    refine ⟨fun hw=>?_,fun h=>nomatch h.1⟩
    have hab:=rangeOk_wf hw.2
    exact (Key.tup (.cons (.str (tag_ok (by decide))) (.cons (((iha hn.1).1 hab.1).mono (twoK (Nat.le_max_left (dep a) (dep b)))) (.cons (((ihb hn.2).1 hab.2).mono (twoK (Nat.le_max_right _ _))) (.cons ⟨rfl,Nat.zero_le _⟩ .nil))))).mono (by rw [dG,Nat.mul_succ]; exact Nat.add_le_add_left (by decide : 2 ≤ 3) _)
  | list l ih=>exact fun hn=>⟨fun hw=>.tag (by decide) (.tup ((ih hn).2 hw.2)),fun h=>nomatch h.1⟩
  | cons h t ih1 ih2=>
    intro hn
    have hn:=Bool.and_eq_true_iff.mp (show (noTab h && noTab t) = true from hn)
    exact ⟨fun h=>(nomatch h.1),fun hw=>.cons (((ih1 hn.1).1 hw.2.1).mono (twoK (Nat.le_max_left _ _))) (((ih2 hn.2).2 hw.2.2).mono (twoK (Nat.le_max_right _ _)))⟩
  | table _ _=>exact fun h=>nomatch h
  | row _ _ _=>exact fun h=>nomatch h
theorem codeP_ok {p:P} (hw : wf p .it) (hn : noTab p = true) (hd : dep p ≤ 2) : (codeP p).ok:=by
  obtain ⟨l,h⟩:=(code_key p hn).1 hw
  exact ⟨l,Nat.le_trans h (Nat.le_trans (twoK hd) (by decide))⟩
theorem mk_uniq {mk : Mk} (hn : (mk.map (·.1)).Nodup) {nm:List Nat} {a b:Addr} (ha : (nm,a) ∈ mk) (hb : (nm,b) ∈ mk) : a = b:=by
  induction mk with
  | nil=>cases ha
  | cons z r ih=>
    rw [List.map_cons,List.nodup_cons] at hn
    rcases List.mem_cons.mp ha with e | ha
    · rcases List.mem_cons.mp hb with e' | hb
      · rw [← e] at e'; cases e'; rfl
      · exact absurd (by rw [← e]; exact List.mem_map_of_mem (f:=(·.1)) hb) hn.1
    · rcases List.mem_cons.mp hb with e' | hb
      · exact absurd (by rw [← e']; exact List.mem_map_of_mem (f:=(·.1)) ha) hn.1
      · exact ih hn.2 ha hb
theorem findC_none {kvs:List (Code × V)} {c : Code} (h : c ∉ kvs.map (·.1)) : findC kvs c = none:=by
  unfold findC
  rw [Option.map_eq_none_iff,List.find?_eq_none]
  intro p hp e
  exact h (List.mem_map.mpr ⟨p,hp,by simpa using e⟩)
section
variable {g:G} {x : Wd} {d:Nat} {σ:Sg} {Q:V→Sg→Prop} {n:Int} {mk : Mk} {bx:Addr} {T : TE}
theorem ends_ok (K : GK g) (hd : 95 ≤ d) {a b:P} {va vb:V} {ca cb : Code} {rd:Bool} (W : WI σ x n mk rd []) (hT : T.ms = mk) (hr : rangeOk a b) (ha : ThgIs σ T a va ca) (hb : ThgIs σ T b vb cb) (hna : isNul a = false) (hnb : isNul b = false) {ρ:Env'}
    (h0 : ρ.getD 0 none = some (.ref x.w)) (h1 : ρ.getD 1 none = some va) (h2 : ρ.getD 2 none = some vb)
    (q : ∀ σ' n' mk',WI σ' x n' mk' rd []→n ≤ n'→(∀ p ∈ mk,p ∈ mk')→Ex [x.wd,x.md] σ σ'→Q (.bool true) σ') :
    wpE g d (.call (.u 244) (.cons (.umeth 57 (.var 0) (.cons (.var 1) .nil)) (.cons (.umeth 57 (.var 0) (.cons (.var 2) .nil)) .nil))) ρ Q σ:=by
  cases hr with
  | ii hr=>
    obtain ⟨rfl,rfl⟩:=ha; obtain ⟨rfl,rfl⟩:=hb
    refine e_callu (es_cons (um_b K W h0 rfl rfl (es_cons (e_var h1 (es_nil ?_)))))
    refine class_int K (by exact le_lit ‹_› (by rfl)) W fun σ₁ n₁ mk₁ m₁ W₁ hn1 hs1 hm1 E₁=>?_
    refine es_cons (um_b K W₁ h0 rfl rfl (es_cons (e_var h2 (es_nil ?_))))
    refine class_int K (by exact le_lit ‹_› (by rfl)) W₁ fun σ₂ n₂ mk₂ m₂ W₂ hn2 hs2 hm2 E₂=>?_
    have:=mk_uniq W₂.nd (hs2 _ hm1) hm2
    subst this
    obtain ⟨dd,fs,q1,q2,q3,_⟩:=(W₂.md _ hm2).ex
    obtain ⟨k,f0⟩:=q3.f0
    refine es_nil (same_things K (by exact le_lit ‹_› (by rfl)) q1 q2 rfl rfl f0 q1 q2 rfl rfl f0 ?_)
    rw [decide_eq_true rfl]
    exact q σ₂ n₂ mk₂ W₂ (by exact Int.le_trans ‹_› ‹_›) (fun p hp=>hs2 _ (hs1 _ hp)) (E₁.trans E₂)
  | ni _=>exact nomatch hna
  | im _=>exact nomatch hnb
  | tt hr=>
    obtain ⟨_,a,fs,k,m,fr,rfl,⟨dd,e1,e2⟩,e3,e4,e5,e6,e7⟩:=ha
    obtain ⟨_,b,fs',k',m',fr',rfl,⟨dd',e1',e2'⟩,e3',e4',e5',e6',e7'⟩:=hb
    rw [hT] at e7 e7'
    have:=mk_uniq W.nd e7 e7'
    subst this
    refine e_callu (es_cons (um_b K W h0 rfl rfl (es_cons (e_var h1 (es_nil ?_)))))
    refine class_ref K (by exact le_lit ‹_› (by rfl)) e1 e2 rfl rfl e5 rfl ?_
    refine es_cons (um_b K W h0 rfl rfl (es_cons (e_var h2 (es_nil ?_))))
    refine class_ref K (by exact le_lit ‹_› (by rfl)) e1' e2' rfl rfl e5' rfl ?_
    obtain ⟨dd,fs,q1,q2,q3,_⟩:=(W.md _ e7).ex
    obtain ⟨k,f0⟩:=q3.f0
    refine es_nil (same_things K (by exact le_lit ‹_› (by rfl)) q1 q2 rfl rfl f0 q1 q2 rfl rfl f0 ?_)
    rw [decide_eq_true rfl]
    exact q σ n mk W (Int.le_refl _) (fun p hp=>hp) (Ex.refl _ _)
end
section
variable {g:G} {x : Wd} {d:Nat} {σ:Sg} {Q:V→Sg→Prop} {n:Int} {mk : Mk} {bx:Addr} {T : TE} {rd:Bool}
theorem Kp.step {σ σ' : Sg} {x n mk rd ip n' mk' bx lo} (W : WI σ x n mk rd ip) (E : Ex [x.wd,x.md] σ σ') (hs : ∀ p ∈ mk,p ∈ mk') (hn : n ≤ n') : Kp σ σ' ⟨mk,bx,lo,n⟩ ⟨mk',bx,lo,n'⟩:=Kp.world W E hs rfl (Int.le_refl _) hn
theorem edge_kind {a b:P} (h : rangeOk a b) : (isNul a = false→(∃ i,a = .int i)∨∃ s,a = .text s)∧(isNul b = false→(∃ i,b = .int i)∨∃ s,b = .text s):=by
  induction h with
  | ii _=>exact ⟨fun _=>.inl ⟨_,rfl⟩,fun _=>.inl ⟨_,rfl⟩⟩
  | ni _=>exact ⟨fun h=>(nomatch h),fun _=>.inl ⟨_,rfl⟩⟩
  | im _=>exact ⟨fun _=>.inl ⟨_,rfl⟩,fun h=>(nomatch h)⟩
  | tt _=>exact ⟨fun _=>.inr ⟨_,rfl⟩,fun _=>.inr ⟨_,rfl⟩⟩
theorem range_of_ok (K : GK g) (hd : 97 ≤ d) {a b:P} {o:Bool} {va vb:V} {ca cb : Code} {lo:Int} (W : WI σ x n mk rd []) (hr : rangeOk a b) (hlo : lo ≤ n) (ha : ThgIs σ ⟨mk,bx,lo,n⟩ a va ca) (hb : ThgIs σ ⟨mk,bx,lo,n⟩ b vb cb)
    (q : ∀ σ' n' mk' v c,WI σ' x n' mk' rd []→n ≤ n'→(∀ p ∈ mk,p ∈ mk')→Ex [x.wd,x.md] σ σ'→ThgIs σ' ⟨mk',bx,lo,n'⟩ (.range a b o) v c→Q v σ') : UCall g d (.ref 545) [.ref x.w,va,vb, .bool o] Q σ:=by
  refine fnc K (by exact le_lit ‹_› (by rfl)) rfl [some (.ref x.w),some va,some vb,some (.bool o),none,none] rfl rfl ?_
  have hab:=rangeOk_wf hr
  have na0:=ha.isNone hab.1
  have nb0:=hb.isNone hab.2
  have make : ∀ σ₁ n₁ mk₁ v4,WI σ₁ x n₁ mk₁ rd []→n ≤ n₁→(∀ p ∈ mk,p ∈ mk₁)→Ex [x.wd,x.md] σ σ₁→
      wpSs g (d - 1) (.cons (.set 5 (.call (.u 140) (.cons (.umeth 0 (.var 0) .nil) (.cons (.umeth 54 (.var 0) (.cons (.k (.str [82,97,110,103,101])) .nil)) (.cons (.var 1) (.cons (.var 2) (.cons (.var 3) .nil))))))) (.cons (.setAt (.var 5) 4 (.k (.bool true))) (.cons (.ret (.var 5)) .nil)))
        [some (.ref x.w),some va,some vb,some (.bool o),v4,none] (fun _ σ'=>Q .none σ') Q σ₁:=fun σ₁ n₁ mk₁ v4 W₁ hn1 hs1 E₁=>by
    refine s_set (e_callu (nb K (by exact le_litp ‹_› (by rfl)) (by decide +kernel) W₁ rfl fun σ₂ n₂ mk₂ m W₂ hn2 hs2 hm2 E₂=>?_))
    walk_at "w"
    refine new_range K (by exact le_litp ‹_› (by rfl)) fun σ₃ y dd r E₃ hy hdd h1 h2=>?_
    walk_at "w"
    have hne : y ≠ dd:=ne_obj h1 h2 (by simp)
    have W₃:=W₂.mono E₃
    have W₄:=W₃.turnT (o:=.idict (aset ((12, .bool o) :: (11,vb) :: (10,va) :: thf (.int (n₁ + 1)) (.ref m) r) 4 (.bool true))) h2 rfl rfl
    have hdd1 : σ₁ dd = none:=W₁.none_of E₂ hdd ⟨_,_,W₂⟩
    have E₄ : Ex [x.wd,x.md] σ₁ (upd σ₃ dd (.idict (aset ((12, .bool o) :: (11,vb) :: (10,va) :: thf (.int (n₁ + 1)) (.ref m) r) 4 (.bool true)))):=Ex.drop (r:=dd) (((E₂.trans E₃.nil).weak (by simp)).trans (Ex.set (by exact List.mem_cons_self ..))) hdd1
    have Kq : Kp σ (upd σ₃ dd (.idict (aset ((12, .bool o) :: (11,vb) :: (10,va) :: thf (.int (n₁ + 1)) (.ref m) r) 4 (.bool true)))) ⟨mk,bx,lo,n⟩ ⟨mk₂,bx,lo,n₂⟩:=Kp.step W (E₁.trans E₄) (fun p hp=>hs2 _ (hs1 _ hp)) (by lia)
    exact q _ n₂ mk₂ (.ref y) (.range ca cb o) W₄ (by lia) (fun p hp=>hs2 _ (hs1 _ hp)) (E₁.trans E₄) ⟨y,_,n₁ + 1,va,vb,ca,cb,rfl,rfl,⟨dd,upd_at hne h1,upd_same _ _ _⟩,⟨rfl,by show lo < n₁ + 1; lia,by show n₁ + 1 ≤ n₂; assumption⟩,rfl,rfl,rfl,ha.keep Kq,hb.keep Kq⟩
  walk_at "w"
  refine c_isn na0.2 (t_bool ?_)
  rw [na0.1]
  refine if_b (fun h1=>?_) fun h1=>?_
  · walk_at "w"
    refine c_isn nb0.2 (t_bool (t_bool ?_))
    rw [nb0.1]
    refine if_b (fun h2=>?_) fun h2=>?_
    · have hna : isNul a = false:=by simpa using h1
      have hnb : isNul b = false:=by simpa using h2
      have srt : ∀ {p:P} {v:V} {c : Code} {Q' : V→Sg→Prop},((∃ i,p = .int i)∨∃ s,p = .text s)→ThgIs σ ⟨mk,bx,lo,n⟩ p v c→(∀ s,s ≠ sBool→Q' (.str s) σ)→UCall g (d - 1) (.ref 237) [v] Q' σ:=fun {p v c Q'} hk hp hq=>by
        rcases hk with ⟨i,rfl⟩ | ⟨s,rfl⟩
        · rw [hp.1]; exact sort_plain K (by exact le_litp ‹_› (by rfl)) rfl (hq sI (by decide))
        · obtain ⟨_,y,fs,_,_,_,rfl,⟨dd,e1,e2⟩,_⟩:=hp; exact sort_thing K (by exact le_litp ‹_› (by rfl)) e1 e2 rfl (hq _ (by decide))
      walk_at "w"
      refine srt ((edge_kind hr).1 hna) ha fun s1 hs1=>?_
      walk_at "w"
      refine if_d (fun z=>absurd z hs1) fun _=>?_
      walk_at "w"
      refine srt ((edge_kind hr).2 hnb) hb fun s2 hs2=>?_
      walk_at "w"
      refine if_d (fun z=>absurd z hs2) fun _=>?_
      refine ends_ok K (by exact le_litp ‹_› (by rfl)) W rfl hr ha hb hna hnb rfl rfl rfl fun σ₁ n₁ mk₁ W₁ hn1 hs1 E₁=>?_
      walk_at "w"
      exact make σ₁ n₁ mk₁ _ W₁ hn1 hs1 E₁
    · exact make σ n mk _ W (Int.le_refl _) (fun _ h=>h) (Ex.refl _ _)
  · exact make σ n mk _ W (Int.le_refl _) (fun _ h=>h) (Ex.refl _ _)
theorem put_ok (K : GK g) (hd : 12 ≤ d) {a dd rd:Addr} {fs:List (Nat × V)} {kvs:List (Code × V)} {ep:Nat} {kp:P} {kv vv:V} {kc : Code} (h1 : σ a = some (.inst 120 dd)) (h2 : σ dd = some (.idict fs)) (h3 : flk fs 8 = some (.ref rd)) (h4 : σ rd = some (.cdict kvs ep))
    (hw : wf kp .it) (hn : noTab kp = true) (hdp : dep kp ≤ 2) (hwt : wt kp ≤ 1000000) (hk : ThgIs σ T kp kv kc) (hnew : kc ∉ kvs.map (·.1)) (hl : kvs.length ≤ 100000)
    (q : ∀ σ' row ep',Ex [rd] σ σ'→σ row = none→σ' row = some (.list [kv,vv])→σ' rd = some (.cdict (kvs ++ [(kc, .ref row)]) ep')→Q .none σ') : UCall g d (.ref 105) [.ref a,kv,vv] Q σ:=by
  refine fnc K (by exact le_lit ‹_› (by rfl)) rfl [some (.ref a),some kv,some vv,none,none] rfl rfl ?_
  have hc:=code_noTab hw hn hk
  have hok : kc.ok:=by rw [hc]; exact codeP_ok hw hn hdp
  walk_at "w"
  refine code_aux K 2 (.inr ⟨rfl,rfl⟩) hdp (by exact le_litp ‹_› (by rfl)) (by decide) hw hwt hk fun σ₁ E₁=>?_
  have h1':=E₁.get h1; have h2':=E₁.get h2; have h4':=E₁.get h4
  walk_at "w"
  refine m_getc h4' hok ?_
  rw [findC_none hnew]
  walk_at "w"
  intro row hrow
  have h1'':=upd_old (o':=.list [kv,vv]) hrow h1'; have h2'':=upd_old (o':=.list [kv,vv]) hrow h2'; have h4'':=upd_old (o':=.list [kv,vv]) hrow h4'
  walk_at "w"
  refine set_c h4'' ⟨hok,hnew,hl⟩ fun ep'=>?_
  walk_at "w"
  have hne : row ≠ rd:=(ne_some h4' hrow).symm
  refine q _ row ep' ?_ (E₁.fresh hrow (by exact List.not_mem_nil)) (upd_at hne (upd_same _ _ _)) (upd_same _ _ _)
  exact (E₁.nil.trans (Ex.new hrow)).trans (Ex.set (by exact List.mem_cons_self ..))
end
structure KpN (σ σ' : Sg) (T T' : TE):Prop where
  obj : ∀ C a fs v,ObjI σ C a fs→flk fs 0 = some v→ObjI σ' C a fs
  lst : ∀ a xs,σ a = some (.list xs)→a ≠ T.bx→σ' a = some (.list xs)
  ms : ∀ p ∈ T.ms,p ∈ T'.ms
  bx : T'.bx = T.bx
  lo : T'.lo ≤ T.lo
  hi : T.hi ≤ T'.hi
theorem Kp.n {σ σ' : Sg} {T T' : TE} (K : Kp σ σ' T T') : KpN σ σ' T T':=⟨K.obj,K.lst,K.ms,K.bx,K.lo,K.hi⟩
theorem KpN.trans {σ σ₁ σ₂:Sg} {T T₁ T₂ : TE} (x : KpN σ σ₁ T T₁) (y : KpN σ₁ σ₂ T₁ T₂) : KpN σ σ₂ T T₂:=
  ⟨fun C a fs v h e=>y.obj C a fs v (x.obj C a fs v h e) e,fun a xs h n=>y.lst a xs (x.lst a xs h n) (by rw [x.bx]; exact n),fun p hp=>y.ms _ (x.ms _ hp),y.bx.trans x.bx,Int.le_trans y.lo x.lo,Int.le_trans x.hi y.hi⟩
theorem KpN.cd {σ σ' : Sg} {T : TE} {b:Addr} {kvs:List (Code × V)} {ep:Nat} (hb : σ b = some (.cdict kvs ep)) (E : Ex [b] σ σ') : KpN σ σ' T T:=
  ⟨fun C a fs v ⟨dd,h1,h2⟩ _=>⟨dd,E _ _ h1 (by simpa using ne_obj h1 hb (by simp)),E _ _ h2 (by simpa using ne_obj h2 hb (by simp))⟩,fun a xs h _=>E _ _ h (by simpa using ne_obj h hb (by simp)),fun _ h=>h,rfl,Int.le_refl _,Int.le_refl _⟩
theorem ThgIs.keepN {σ σ' : Sg} {T T' : TE} (K : KpN σ σ' T T') : ∀ {p:P} {v:V} {c : Code},noTab p = true→ThgIs σ T p v c→ThgIs σ' T' p v c:=by
  intro p
  induction p with
  | text s=>
    rintro v c _ ⟨rfl,a,fs,k,m,fr,rfl,h1,h2,h3,h4,h5,h6⟩
    exact ⟨rfl,a,fs,k,m,fr,rfl,K.obj _ _ _ _ h1 h2.1,h2.keep K.lo K.hi,h3,h4,h5,K.ms _ h6⟩
  | range a b o iha ihb=>
    rintro v c hn ⟨x,fs,k,va,vb,ca,cb,rfl,rfl,h1,h2,h3,h4,h5,h6,h7⟩
    simp only [nG,nL,nC,Bool.and_eq_true] at hn
    exact ⟨x,fs,k,va,vb,ca,cb,rfl,rfl,K.obj _ _ _ _ h1 h2.1,h2.keep K.lo K.hi,h3,h4,h5,iha hn.1 h6,ihb hn.2 h7⟩
  | list l ih=>
    rintro v c hn ⟨x,fs,k,il,vs,cs,rfl,rfl,h1,h2,h3,h4,h5,h6⟩
    exact ⟨x,fs,k,il,vs,cs,rfl,rfl,K.obj _ _ _ _ h1 h2.1,h2.keep K.lo K.hi,h3,K.lst _ _ h4 h5,by rw [K.bx]; exact h5,ih hn h6⟩
  | cons h t ih1 ih2=>
    rintro v c hn ⟨y,ys,d,ds,rfl,rfl,h1,h2⟩
    simp only [nG,nL,nC,Bool.and_eq_true] at hn
    exact ⟨y,ys,d,ds,rfl,rfl,ih1 hn.1 h1,ih2 hn.2 h2⟩
  | table _ _=>intro v c hn; cases hn
  | row _ _ _=>intro v c hn; cases hn
  | _=>exact fun _ h=>h
theorem keys_props : ∀ {l:P},wf l .rs→(keysOf l).Nodup∧∀ k ∈ keysOf l,wf k .it∧noTab k = true:=by
  intro l
  induction l with
  | nil=>exact fun _=>⟨List.nodup_nil,fun _ h=>(nomatch h)⟩
  | row k v t _ _ ih=>
    intro hw
    obtain ⟨_,h1,h2,h3,h4,h5,h6⟩:=hw
    have:=ih h3
    refine ⟨List.nodup_cons.mpr ⟨h6,this.1⟩,fun z hz=>?_⟩
    rcases List.mem_cons.mp hz with rfl | hz
    · exact ⟨h1,h4⟩
    · exact this.2 z hz
  | nul=>intro hw; cases hw
  | bool _=>intro hw; cases hw
  | _=>intro hw; cases hw.1
section
variable {g:G} {x : Wd} {d:Nat} {σ:Sg} {Q:V→Sg→Prop} {n:Int} {mk : Mk} {bx:Addr} {T : TE} {rd:Bool}
theorem WI.exC (W : WI σ x n mk rd []) {σ' : Sg} {b:Addr} {kvs:List (Code × V)} {ep:Nat} (hb : σ b = some (.cdict kvs ep)) (E : Ex [b] σ σ') : WI σ' x n mk rd []:=by
  obtain ⟨fw,e1,F⟩:=W.d
  have tr : ∀ {a o},σ a = some o→o ≠ .cdict kvs ep→σ' a = some o:=fun {a o} h n=>E _ _ h (by simpa using ne_obj h hb n)
  refine ⟨tr W.w (by simp),⟨fw,tr e1 (by simp),F⟩,tr W.m (by simp),tr W.na (by simp),tr W.pr (by simp),W.nd,W.nm,fun p hp=>?_,W.na',W.pr'⟩
  obtain ⟨dd,fs,q1,q2,q3,q4⟩:=(W.md p hp).ex
  exact ⟨dd,fs,tr q1 (by simp),tr q2 (by simp),q3,q4⟩
theorem key_thing (K : GK g) (hd : 95 ≤ d) {kp:P} {kv:V} {kc : Code} {lo:Int} (hw : wf kp .it) (hn : noTab kp = true) (W : WI σ x n mk rd []) (hlo : lo ≤ n) (hk : ThgIs σ ⟨mk,bx,lo,n⟩ kp kv kc)
    (q : ∀ σ' n' mk' kv',WI σ' x n' mk' rd []→n ≤ n'→(∀ p ∈ mk,p ∈ mk')→Ex [x.wd,x.md] σ σ'→ThgIs σ' ⟨mk',bx,lo,n'⟩ kp kv' kc→Q kv' σ') : UCall g d (.ref 538) [.ref x.w,kv] Q σ:=by
  have same:=q σ n mk kv W (Int.le_refl _) (fun _ h=>h) (Ex.refl _ _) hk
  cases kp with
  | int i=>exact key_of_ok K (by exact Nat.le_of_lt ‹_›) W (.inl (by rw [hk.1]; rfl)) same
  | sym i=>exact key_of_ok K (by exact Nat.le_of_lt ‹_›) W (.inl (by rw [hk.1]; rfl)) same
  | nul=>exact key_of_ok K (by exact Nat.le_of_lt ‹_›) W (.inl (by rw [hk.1]; rfl)) same
  | bool i=>exact key_of_ok K (by exact Nat.le_of_lt ‹_›) W (.inl (by rw [hk.1]; rfl)) same
  | range a b o=>obtain ⟨y,fs,_,_,_,_,_,e,_,⟨dd,e1,e2⟩,_⟩:=hk; exact key_of_ok K (by exact Nat.le_of_lt ‹_›) W (.inr ⟨y,140,dd,fs,e,e1,e2,rfl,by decide⟩) same
  | list l=>obtain ⟨y,fs,_,_,_,_,e,_,⟨dd,e1,e2⟩,_⟩:=hk; exact key_of_ok K (by exact Nat.le_of_lt ‹_›) W (.inr ⟨y,82,dd,fs,e,e1,e2,rfl,by decide⟩) same
  | table l=>cases hn
  | nil=>exact absurd rfl hw
  | cons _ _=>cases hw.1
  | row _ _ _=>cases hw.1
  | text s=>
    obtain ⟨rfl,a,fs,k,m,fr,rfl,⟨dd,h1,h2⟩,h3,h4,h5,h6,h7⟩:=hk
    refine fnc K (by exact le_lit ‹_› (by rfl)) rfl [some (.ref x.w),some (.ref a),none] rfl rfl ?_
    walk_at "w"
    cases fr with
    | true=>walk_at "w"; exact same
    | false=>
      walk_at "w"
      refine um_w K W rfl rfl ?_
      walk_at "w"
      refine text_ok K (by exact le_litp ‹_› (by rfl)) W fun σ₃ n₃ mk₃ b bd mm rr W₃ hn3 hs3 E₃ hm3 hb hbd b1 b2=>?_
      walk_at "w"
      have hne : b ≠ bd:=ne_obj b1 b2 (by simp)
      exact q _ n₃ mk₃ (.ref b) (W₃.turnT b2 rfl rfl) (by exact Int.le_of_lt ‹_›) hs3 (Ex.drop (r:=bd) ((E₃.weak (by simp)).trans (Ex.set (by simp))) hbd)
        ⟨rfl,b,_,n + 1,mm,true,rfl,⟨bd,upd_at hne b1,upd_same _ _ _⟩,⟨rfl,by show lo < n + 1; exact Int.lt_add_one_of_le ‹_›,by show n + 1 ≤ n₃; assumption⟩,rfl,rfl,rfl,hm3⟩
theorem list_world {rd:Bool} (W : WI σ x n mk rd []) {σ' : Sg} (E : Ex [x.wd,x.md] σ σ') {a:Addr} {xs:List V} (h : σ a = some (.list xs)) : σ' a = some (.list xs):=by
  obtain ⟨fw,ew,F⟩:=W.d
  exact E _ _ h (nin2 (ne_obj h ew (fun z=>nomatch z)) (ne_obj h W.m (fun z=>nomatch z)))
theorem nin3 {α : Type} {a b c d : α} (h : a ≠ b) (k : a ≠ c) (l : a ≠ d) : a ∉ [b,c,d]:=fun q=>(List.mem_cons.mp q).elim h (nin2 k l)
theorem wt_rng {a b:P} {o:Bool} (h : wt (.range a b o) ≤ 1000000) : wt a ≤ 1000000∧wt b ≤ 1000000:=
  have h : wt a + wt b + 10 ≤ 1000000:=h
  ⟨Nat.le_trans (Nat.le_trans (Nat.le_add_right _ _) (Nat.le_add_right _ 10)) h,Nat.le_trans (Nat.le_trans (Nat.le_add_left _ _) (Nat.le_add_right _ 10)) h⟩
theorem wt_cons {a b:P} (h : wt (.cons a b) ≤ 1000000) : wt a ≤ 1000000∧wt b ≤ 1000000:=wt_rng (o:=true) h
theorem wt_row {a b c:P} (h : wt (.row a b c) ≤ 1000000) : wt a ≤ 1000000∧wt b ≤ 1000000∧wt c ≤ 1000000:=
  have h : wt a + wt b + wt c + 20 ≤ 1000000:=h
  have h:=Nat.le_trans (Nat.le_add_right _ 20) h
  have h1:=Nat.le_trans (Nat.le_add_right _ _) h
  ⟨Nat.le_trans (Nat.le_add_right _ _) h1,Nat.le_trans (Nat.le_add_left _ _) h1,Nat.le_trans (Nat.le_add_left _ _) h⟩
theorem pair_row {T : TE} {t:P} {y:V} {ys:List V} (h : PairL σ T t (y :: ys)) : ∃ kp vp t' kv vv kc vc,t = .row kp vp t'∧y = .tup [kv,vv]∧ThgIs σ T kp kv kc∧ThgIs σ T vp vv vc∧PairL σ T t' ys:=by
  cases t with
  | nil=>cases h
  | row kp vp t=>obtain ⟨kv,vv,kc,vc,ps',e,h1,h2,h3⟩:=h; cases e; exact ⟨kp,vp,t,kv,vv,kc,vc,rfl,rfl,h1,h2,h3⟩
  | _=>cases h
theorem pair_nil {T : TE} {t:P} (h : PairL σ T t []) : t = .nil:=by
  cases t with
  | nil=>rfl
  | row kp vp t=>obtain ⟨_,_,_,_,_,e,_⟩:=h; cases e
  | _=>cases h
inductive TblB (x : Wd) (rd:Bool) (bx a dd rdd:Addr) (fs:List (Nat × V)) (n₁:Int) (mk₁ : Mk) (σ₁ σ₂:Sg):Prop
  | mk (v0:V) (ep:Nat) (W₁ : WI σ₁ x n₁ mk₁ rd []) (W₂ : WI σ₂ x n₁ mk₁ rd []) (E₂ : Ex [] σ₁ σ₂) (hrd : σ₁ rdd = none) (h1 : σ₂ a = some (.inst 120 dd)) (h2 : σ₂ dd = some (.idict fs)) (hf : flk fs 0 = some v0) (h3 : σ₂ rdd = some (.cdict [] ep)) (hbx : ∃ xs,σ₁ bx = some (.list xs))
theorem TblB.at {a dd rdd:Addr} {fs:List (Nat × V)} {n₁:Int} {mk₁ : Mk} {σ₁ σ₂ σ' : Sg} (B : TblB x rd bx a dd rdd fs n₁ mk₁ σ₁ σ₂) (E' : Ex [x.wd,x.md,rdd] σ₂ σ') : (σ' a = some (.inst 120 dd)∧σ' dd = some (.idict fs))∧(∃ xs,σ' bx = some (.list xs))∧Ex [x.wd,x.md] σ₁ σ':=by
  obtain ⟨v0,ep,W₁,W₂,E₂,hrd,h1,h2,hf,h3,xs,e⟩:=B
  obtain ⟨z1,z2,z3,z4⟩:=W₂.apart (by decide) h1 h2 hf
  have E1' : Ex [x.wd,x.md] σ₁ σ':=Ex.drop (r:=rdd) ((E₂.nil.trans E').weak (by simp)) hrd
  exact ⟨⟨E' _ _ h1 (nin3 z1 z2 (ne_obj h1 h3 (fun z=>nomatch z))),E' _ _ h2 (nin3 z3 z4 (ne_obj h2 h3 (fun z=>nomatch z)))⟩,⟨xs,list_world W₁ E1' e⟩,E1'⟩
inductive TblI (x : Wd) (rd:Bool) (bx a pl rdd:Addr) (lo n₁:Int) (mk₁ : Mk) (σ₁ σ₂:Sg) (l:P) (ys:List V) (ρ' : Env') (σ' : Sg):Prop
  | mk (v3 v4:Option V) (n' : Int) (mk' : Mk) (kvs:List (Code × V)) (ep' : Nat) (t:P) (dn:List P) (hρ : ρ' = [some (.ref x.w),some (.ref pl),some (.ref a),v3,v4]) (W : WI σ' x n' mk' rd []) (hn : n₁ ≤ n') (hs : ∀ p ∈ mk₁,p ∈ mk') (E : Ex [x.wd,x.md,rdd] σ₂ σ') (hc : σ' rdd = some (.cdict kvs ep')) (hp : PairL σ₁ ⟨mk₁,bx,lo,n₁⟩ t ys) (hw : wf t .rs) (hwt : wt t ≤ 1000000)
    (hk : kvs.map (·.1) = dn.map codeP) (hkl : keysOf l = dn ++ keysOf t) (hl : kvs.length + ys.length ≤ 100000)
    (cont : ∀ σ'' mk'' n'' rs,Kp σ₁ σ'' ⟨mk₁,bx,lo,n₁⟩ ⟨mk'',bx,lo,n''⟩→KpN σ' σ'' ⟨mk',bx,lo,n'⟩ ⟨mk'',bx,lo,n''⟩→ThgIs σ'' ⟨mk'',bx,lo,n''⟩ t (.tup rs) (.list [])→ThgIs σ'' ⟨mk'',bx,lo,n''⟩ l (.tup (kvs.map (·.2) ++ rs)) (.list []))
inductive TblN (x : Wd) (rd:Bool) (bx a dd pl rdd:Addr) (fs:List (Nat × V)) (lo n₁:Int) (mk₁ : Mk) (σ₁ σ₂:Sg) (l:P) (y:V) (ys:List V) (ρ' : Env') (σ' : Sg):Prop
  | mk (v3 v4:Option V) (n' : Int) (mk' : Mk) (kvs:List (Code × V)) (ep' : Nat) (kp:P) (kc : Code) (kv vv:V) (hρ : ρ' = [some (.ref x.w),some (.ref pl),some (.ref a),v3,v4]) (hy : y = .tup [kv,vv]) (W : WI σ' x n' mk' rd []) (hlo : lo ≤ n') (hk : ThgIs σ' ⟨mk',bx,lo,n'⟩ kp kv kc) (wk : wf kp .it) (nk : noTab kp = true) (dk : dep kp ≤ 2) (hwt : wt kp ≤ 1000000) (hnew : kc ∉ kvs.map (·.1)) (hl : kvs.length ≤ 100000)
    (hc : σ' rdd = some (.cdict kvs ep')) (h1 : σ' a = some (.inst 120 dd)) (h2 : σ' dd = some (.idict fs))
    (go : ∀ {σ₄ n₄ mk₄ kv' σ₅ row ep₅},WI σ₄ x n₄ mk₄ rd []→n' ≤ n₄→(∀ p ∈ mk',p ∈ mk₄)→Ex [x.wd,x.md] σ' σ₄→ThgIs σ₄ ⟨mk₄,bx,lo,n₄⟩ kp kv' kc→Ex [rdd] σ₄ σ₅→σ₄ row = none→σ₅ row = some (.list [kv',vv])→σ₅ rdd = some (.cdict (kvs ++ [(kc, .ref row)]) ep₅)→
      TblI x rd bx a pl rdd lo n₁ mk₁ σ₁ σ₂ l ys [some (.ref x.w),some (.ref pl),some (.ref a),some kv,some vv] σ₅)
theorem tbl_new {l kp vp t:P} {dn:List P} {kvs:List (Code × V)} {kc : Code} (hw : wf l .rs) (hkl : keysOf l = dn ++ kp :: keysOf t) (hkeys : kvs.map (·.1) = dn.map codeP) (wk : wf kp .it) (nk : noTab kp = true) (hkc : kc = codeP kp) : kc ∉ kvs.map (·.1):=by
  rw [hkeys,hkc]
  intro hmem
  obtain ⟨p,hpm,hpe⟩:=List.mem_map.mp hmem
  obtain ⟨h1,h2⟩:=keys_props hw
  rw [hkl] at h1 h2
  obtain ⟨w,n⟩:=h2 p (List.mem_append_left _ hpm)
  cases codeP_inj w wk n nk hpe
  exact (List.nodup_append.mp h1).2.2 _ hpm _ (List.mem_cons_self ..) rfl
theorem at4 {σ' σ₄:Sg} {n' : Int} {mk' : Mk} {a dd rdd:Addr} {fs:List (Nat × V)} {v0:V} {kvs:List (Code × V)} {ep' : Nat} (W' : WI σ' x n' mk' rd []) (E₄ : Ex [x.wd,x.md] σ' σ₄) (h1 : σ' a = some (.inst 120 dd)) (h2 : σ' dd = some (.idict fs)) (hf : flk fs 0 = some v0) (hc : σ' rdd = some (.cdict kvs ep')) : σ₄ a = some (.inst 120 dd)∧σ₄ dd = some (.idict fs)∧σ₄ rdd = some (.cdict kvs ep'):=by
  obtain ⟨z1,z2,z3,z4⟩:=W'.apart (by decide) h1 h2 hf
  obtain ⟨fw',ew',_⟩:=W'.d
  exact ⟨E₄ _ _ h1 (nin2 z1 z2),E₄ _ _ h2 (nin2 z3 z4),E₄ _ _ hc (nin2 (ne_obj hc ew' (fun z=>nomatch z)) (ne_obj hc W'.m (fun z=>nomatch z)))⟩
theorem TblI.next {a dd pl rdd:Addr} {fs:List (Nat × V)} {lo n₁:Int} {mk₁ : Mk} {σ₁ σ₂:Sg} {l:P} {y:V} {ys:List V} {ρ' : Env'} {σ' : Sg} (I : TblI x rd bx a pl rdd lo n₁ mk₁ σ₁ σ₂ l (y :: ys) ρ' σ') (B : TblB x rd bx a dd rdd fs n₁ mk₁ σ₁ σ₂) (hw : wf l .rs) (hlo : lo ≤ n₁) : TblN x rd bx a dd pl rdd fs lo n₁ mk₁ σ₁ σ₂ l y ys ρ' σ':=by
  obtain ⟨v3,v4,n',mk',kvs,ep',t,dn,hρ,W',hn',hs',E',hc',hpp,hwt',hwt2,hkeys,hkl,hll,cont⟩:=I
  obtain ⟨⟨h1',h2'⟩,⟨xs,hbx'⟩,E1'⟩:=B.at E'
  obtain ⟨v0,ep,W₁,_,_,_,_,_,hf,_,_⟩:=B
  obtain ⟨kp,vp,t,kv,vv,kc,vc,rfl,rfl,hk,hv,hrest⟩:=pair_row hpp
  obtain ⟨_,wk,wv,wtt,nk,dk,_⟩:=hwt'
  obtain ⟨w1,_,w3⟩:=wt_row hwt2
  have hkc:=code_noTab wk nk hk
  refine ⟨v3,v4,n',mk',kvs,ep',kp,kc,kv,vv,hρ,rfl,W',Int.le_trans hlo hn',hk.keep (Kp.step W₁ E1' hs' hn'),wk,nk,dk,w1,tbl_new (vp:=vp) hw hkl hkeys wk nk hkc,Nat.le_trans (Nat.le_add_right _ _) hll,hc',h1',h2',fun {σ₄ n₄ mk₄ kv' σ₅ row ep₅} W₄ hn4 hs4 E₄ hk4 E₅ hrow hrow5 hc5=>?_⟩
  obtain ⟨_,_,hc4⟩:=at4 W' E₄ h1' h2' hf hc'
  have N45:=KpN.cd (T:=⟨mk₄,bx,lo,n₄⟩) hc4 E₅
  have N':=(Kp.step (bx:=bx) (lo:=lo) W' E₄ hs4 hn4).n.trans N45
  have hrb : row ≠ bx:=fun z=>by rw [z,list_world W' E₄ hbx'] at hrow; cases hrow
  refine ⟨some kv,some vv,n₄,mk₄,kvs ++ [(kc, .ref row)],ep₅,t,dn ++ [kp],rfl,W₄.exC hc4 E₅,Int.le_trans hn' hn4,fun p hp=>hs4 _ (hs' _ hp),(E'.trans (E₄.weak (by simp))).trans (E₅.weak (by simp)),hc5,hrest,wtt,w3,?_,?_,?_,fun σ'' mk'' n'' rs k2 kn ht=>?_⟩
  · rw [List.map_append,List.map_append,hkeys,hkc]; rfl
  · rw [hkl,List.append_assoc]; rfl
  · rw [List.length_append,Nat.add_assoc,Nat.add_comm [_].length]; exact hll
  · have:=cont σ'' mk'' n'' (.ref row :: rs) k2 (N'.trans kn) ⟨row,rs,kv',vv,kc,vc,rfl,rfl,kn.lst _ _ hrow5 hrb,hrb,hk4.keepN (N45.trans kn) nk,hv.keep k2,ht⟩
    rw [List.map_append,List.append_assoc]; exact this
theorem table_of_ok (K : GK g) (hd : 98 ≤ d) {l:P} {pl:Addr} {ps:List V} {lo:Int} (hw : wf l .rs) (hwt : wt l ≤ 1000000) (W : WI σ x n mk rd []) (hlo : lo ≤ n) (hpl : σ pl = some (.list ps)) (hbx : ∃ xs,σ bx = some (.list xs)) (hp : PairL σ ⟨mk,bx,lo,n⟩ l ps)
    (q : ∀ σ' n' mk' v c,WI σ' x n' mk' rd []→n ≤ n'→(∀ p ∈ mk,p ∈ mk')→Ex [x.wd,x.md] σ σ'→ThgIs σ' ⟨mk',bx,lo,n'⟩ (.table l) v c→Q v σ') : UCall g d (.ref 531) [.ref x.w, .ref pl] Q σ:=by
  refine fnc K (by exact le_lit ‹_› (by rfl)) rfl [some (.ref x.w),some (.ref pl),none,none,none] rfl rfl ?_
  have hlen : ps.length ≤ 100000:=Nat.le_of_mul_le_mul_left (Nat.le_trans (Nat.le_trans (Nat.mul_le_mul_right ps.length (by decide : 10 ≤ 20)) hp.len) hwt) (by decide : 0 < 10)
  refine s_set (e_callu (nb K (by exact le_litp ‹_› (by rfl)) (by decide +kernel) W rfl fun σ₁ n₁ mk₁ m W₁ hn1 hs1 hm1 E₁=>?_))
  walk_at "w"
  refine new_table K (by exact le_litp ‹_› (by rfl)) fun σ₂ a dd r rdd ep E₂ ha hdd hrd h1 h2 h3=>?_
  have hpl1:=list_world W E₁ hpl
  have hpl2:=E₂.get hpl1
  have B : TblB x rd bx a dd rdd _ n₁ mk₁ σ₁ σ₂:=⟨_,ep,W₁,W₁.mono E₂,E₂,hrd,h1,h2,rfl,h3,let ⟨xs,e⟩:=hbx; ⟨xs,list_world W E₁ e⟩⟩
  walk_at "w"
  refine src_l hpl2 ⟨by exact Nat.le_trans hlen (by decide),?_⟩
  dsimp only
  refine forW_rule (TblI x rd bx a pl rdd lo n₁ mk₁ σ₁ σ₂ l) (fun ys ρ' σ' h=>?_) (fun y ys ρ' σ' Kc h hK=>?_) (fun ρ' σ' h=>?_)
    ⟨none,none,n₁,mk₁,[],ep,l,[],rfl,W₁.mono E₂,Int.le_refl _,fun _ h=>h,Ex.refl _ _,h3,hp.keep (Kp.step W E₁ hs1 (by exact Int.le_of_lt ‹_›)),hw,hwt,rfl,rfl,by rw [List.length_nil,Nat.zero_add]; exact hlen,fun σ'' mk'' n'' rs _ _ h=>h⟩
  · obtain ⟨v3,v4,n',mk',kvs,ep',t,dn,rfl,_,_,_,E',_⟩:=h
    obtain ⟨_,_,_,W₂,_⟩:=B
    obtain ⟨fw2,ew2,_⟩:=W₂.d
    exact src_l' (E' _ _ hpl2 (nin3 (ne_obj hpl2 ew2 (fun z=>nomatch z)) (ne_obj hpl2 W₂.m (fun z=>nomatch z)) (ne_obj hpl2 h3 (fun z=>nomatch z))))
  · obtain ⟨v3,v4,n',mk',kvs,ep',kp,kc,kv,vv,rfl,rfl,W',hlo',hk,wk,nk,dk,wk2,hnew,hl,hc',h1',h2',go⟩:=h.next B hw (Int.le_trans hlo (Int.le_of_lt hn1))
    show wpSs g _ _ [some (.ref x.w),some (.ref pl),some (.ref a),some kv,some vv] _ _ _
    walk_at "w"
    refine um_w K W' rfl rfl ?_
    walk_at "w"
    refine key_thing K (by exact le_litp ‹_› (by rfl)) wk nk W' hlo' hk fun σ₄ n₄ mk₄ kv' W₄ hn4 hs4 E₄ hk4=>?_
    obtain ⟨h1'',h2'',hc''⟩:=at4 (v0:=.int (n + 1)) W' E₄ h1' h2' rfl hc'
    walk_at "w"
    refine put_ok K (by exact le_litp ‹_› (by rfl)) h1'' h2'' rfl hc'' wk nk dk wk2 hk4 hnew hl fun σ₅ row ep₅ E₅ hrow hrow5 hc5=>?_
    exact ⟨rfl,s_nil (hK _ _ (go W₄ hn4 hs4 E₄ hk4 E₅ hrow hrow5 hc5))⟩
  · obtain ⟨v3,v4,n',mk',kvs,ep',t,dn,rfl,W',hn',hs',E',hc',hpp,_,_,_,_,_,cont⟩:=h
    cases pair_nil hpp
    obtain ⟨⟨h1',h2'⟩,_,E1'⟩:=B.at E'
    walk_at "w"
    have fin:=cont σ' mk' n' [] (Kp.step W₁ E1' hs' hn') ⟨fun _ _ _ _ h _=>h,fun _ _ h _=>h,fun _ h=>h,rfl,Int.le_refl _,Int.le_refl _⟩ ⟨rfl,rfl⟩
    rw [List.append_nil] at fin
    exact q σ' n' mk' (.ref a) (.thing (n + 1)) W' (Int.le_trans (Int.le_of_lt hn1) hn') (fun p hp=>hs' _ (hs1 _ hp)) (E₁.trans E1') ⟨a,_,n + 1,rdd,kvs,ep',rfl,rfl,⟨dd,h1',h2'⟩,⟨rfl,by show lo < n + 1; exact Int.lt_add_one_of_le ‹_›,by show n + 1 ≤ n'; exact Int.lt_of_lt_of_le ‹_› ‹_›⟩,rfl,rfl,hc',fin⟩
end
section
variable {g:G} {x : Wd} {d:Nat} {σ:Sg} {Q:V→Sg→Prop} {n:Int} {mk : Mk} {bx:Addr} {N:Addr→Prop}
theorem plain_world {rd:Bool} (W : WI σ x n mk rd []) {σ' : Sg} (E : Ex [x.wd,x.md] σ σ') {p:P} {v:V} (h : PlainIs σ N p v) : PlainIs σ' N p v:=by
  obtain ⟨fw,ew,F⟩:=W.d
  exact h.keep (fun a xs e _=>E _ _ e (by simp only [List.mem_cons,List.not_mem_nil,or_false,not_or]; exact ⟨ne_obj e ew (by simp),ne_obj e W.m (by simp)⟩)) fun _ _ _ n=>n
theorem ThgIs.lower {σ:Sg} {mk : Mk} {bx:Addr} {lo lo' hi:Int} (hl : lo' ≤ lo) {p:P} {v:V} {c : Code} (h : ThgIs σ ⟨mk,bx,lo,hi⟩ p v c) : ThgIs σ ⟨mk,bx,lo',hi⟩ p v c:=
  have k : Kp σ σ ⟨mk,bx,lo,hi⟩ ⟨mk,bx,lo',hi⟩:=⟨fun _ _ _ _ h _=>h,fun _ _ h _=>h,fun _ _ _ h=>h,fun _ h=>h,rfl,hl,Int.le_refl _⟩
  h.keep k
noncomputable def ThingIH (g:G) (x : Wd) (bx:Addr) (k:Nat):Prop:=∀ {d:Nat} {σ:Sg} {Q:V→Sg→Prop} {p:P} {v:V} {n:Int} {mk : Mk} {N:Addr→Prop},dep p ≤ k→3 * k + 105 ≤ d→wf p .it→wt p ≤ 1000000→PlainIs σ N p v→WI σ x n mk true []→(∃ xs,σ bx = some (.list xs))→
  (∀ σ' n' mk' t c,WI σ' x n' mk' true []→n ≤ n'→(∀ p ∈ mk,p ∈ mk')→Ex [x.wd,x.md] σ σ'→ThgIs σ' ⟨mk',bx,n,n'⟩ p t c→Q t σ')→UCall g d (.ref 686) [.ref x.w,v] Q σ
theorem thing_flat (K : GK g) (hd : 100 ≤ d) {p:P} {v:V} (hw : wf p .it) (hdp : dep p = 0) (hp : PlainIs σ N p v) (W : WI σ x n mk true [])
    (q : ∀ σ' n' mk' t c,WI σ' x n' mk' true []→n ≤ n'→(∀ p ∈ mk,p ∈ mk')→Ex [x.wd,x.md] σ σ'→ThgIs σ' ⟨mk',bx,n,n'⟩ p t c→Q t σ') : UCall g d (.ref 686) [.ref x.w,v] Q σ:=by
  refine fnc K (by exact le_lit ‹_› (by rfl)) rfl [some (.ref x.w),some v,none,none] rfl rfl ?_
  have at_ : ∀ σ',Ex [] σ σ'→∀ t c,ThgIs σ' ⟨mk,bx,n,n⟩ p t c→Q t σ':=fun σ' E t c h=>q σ' n mk t c (W.mono E) (Int.le_refl _) (fun _ h=>h) E.nil h
  cases p with
  | int i=>cases hp; refine s_unpv rfl ⟨rfl,?_⟩; walk_at "w"; exact at_ σ (Ex.refl _ _) _ _ ⟨rfl,rfl⟩
  | sym s=>cases hp; refine s_unpv rfl ⟨rfl,?_⟩; walk_at "w"; exact at_ σ (Ex.refl _ _) _ _ ⟨rfl,rfl⟩
  | nul=>
    cases hp; refine s_unpv rfl ⟨rfl,?_⟩; walk_at "w"
    intro l hl
    walk_at "w"
    exact at_ _ (Ex.new hl) _ _ ⟨rfl,rfl⟩
  | bool b=>
    cases b
    · cases hp; refine s_unpv rfl ⟨rfl,?_⟩; walk_at "w"
      intro l hl
      walk_at "w"
      exact at_ _ (Ex.new hl) _ _ ⟨rfl,rfl⟩
    · cases hp; refine s_unpv rfl ⟨rfl,?_⟩; walk_at "w"
      intro l hl
      walk_at "w"
      exact at_ _ (Ex.new hl) _ _ ⟨rfl,rfl⟩
  | text s=>
    cases hp; refine s_unpv rfl ⟨rfl,?_⟩; walk_at "w"
    refine um_w K W rfl rfl ?_
    walk_at "w"
    refine text_ok K (by exact le_litp ‹_› (by rfl)) W fun σ' n' mk' a dd m r W' hn hs E hm ha hdd h1 h2=>?_
    exact q σ' n' mk' _ _ W' (by exact Int.le_of_lt ‹_›) hs E ⟨rfl,a,_,n + 1,m,false,rfl,⟨dd,h1,h2⟩,⟨rfl,by show n < n + 1; simp +arith,hn⟩,rfl,rfl,rfl,hm⟩
  | nil=>exact absurd rfl hw
  | cons _ _=>cases hw.1
  | row _ _ _=>cases hw.1
  | _=>simp at hdp
theorem Kp.trans {σ σ₁ σ₂:Sg} {T T₁ T₂ : TE} (x : Kp σ σ₁ T T₁) (y : Kp σ₁ σ₂ T₁ T₂) : Kp σ σ₂ T T₂:=
  ⟨fun C a fs v h1 h2=>y.obj _ _ _ _ (x.obj _ _ _ _ h1 h2) h2,fun a xs h1 h2=>y.lst _ _ (x.lst _ _ h1 h2) (x.bx.symm ▸ h2),fun a kvs ep h1=>y.cdc _ _ _ (x.cdc _ _ _ h1),fun p hp=>y.ms _ (x.ms _ hp),y.bx.trans x.bx,Int.le_trans y.lo x.lo,Int.le_trans x.hi y.hi⟩
inductive Nx (x : Wd) (σ:Sg) (n:Int) (mk : Mk) (σ' : Sg) (n' : Int) (mk' : Mk):Prop
  | mk (W : WI σ' x n' mk' true []) (hn : n ≤ n') (hs : ∀ p ∈ mk,p ∈ mk') (E : Ex [x.wd,x.md] σ σ')
theorem Nx.then {σ' σ₂:Sg} {n' n₂:Int} {mk' mk₂ : Mk} (h : Nx x σ n mk σ' n' mk') (h2 : Nx x σ' n' mk' σ₂ n₂ mk₂) : Nx x σ n mk σ₂ n₂ mk₂:=by
  obtain ⟨_,hn,hs,E⟩:=h
  obtain ⟨W,hn2,hs2,E2⟩:=h2
  exact ⟨W,Int.le_trans hn hn2,fun p hp=>hs2 _ (hs _ hp),E.trans E2⟩
theorem Nx.kp {σ' σ₂:Sg} {n' n₂ lo:Int} {mk' mk₂ : Mk} (h : Nx x σ n mk σ' n' mk') (h2 : Nx x σ' n' mk' σ₂ n₂ mk₂) : Kp σ' σ₂ ⟨mk',bx,lo,n'⟩ ⟨mk₂,bx,lo,n₂⟩:=by
  obtain ⟨W,_,_,_⟩:=h
  obtain ⟨_,hn2,hs2,E2⟩:=h2
  exact Kp.step W E2 hs2 hn2
theorem pl_cons {t:P} {y:V} {ys:List V} (w : wf t .ls) (h : PlainIs σ N t (.tup (y :: ys))) : ∃ h' t',t = .cons h' t'∧PlainIs σ N h' y∧PlainIs σ N t' (.tup ys):=by
  cases t with
  | nil=>cases h
  | cons h' t'=>obtain ⟨_,_,e,h1,h2⟩:=h; cases e; exact ⟨h',t',rfl,h1,h2⟩
  | nul=>cases w
  | bool _=>cases w
  | _=>cases w.1
theorem pl_nil {t:P} (w : wf t .ls) (h : PlainIs σ N t (.tup [])) : t = .nil:=by
  cases t with
  | nil=>rfl
  | cons h' t'=>obtain ⟨_,_,e,_⟩:=h; cases e
  | nul=>cases w
  | bool _=>cases w
  | _=>cases w.1
theorem pr_row {t:P} {y:V} {ys:List V} (w : wf t .rs) (h : PlainIs σ N t (.tup (y :: ys))) : ∃ a b t' u v,t = .row a b t'∧y = .tup [u,v]∧PlainIs σ N a u∧PlainIs σ N b v∧PlainIs σ N t' (.tup ys):=by
  cases t with
  | nil=>cases h
  | row a b t'=>obtain ⟨u,v,_,e,h1,h2,h3⟩:=h; cases e; exact ⟨a,b,t',u,v,rfl,rfl,h1,h2,h3⟩
  | nul=>cases w
  | bool _=>cases w
  | _=>cases w.1
theorem pr_nil {t:P} (w : wf t .rs) (h : PlainIs σ N t (.tup [])) : t = .nil:=by
  cases t with
  | nil=>rfl
  | row a b t'=>obtain ⟨_,_,_,e,_⟩:=h; cases e
  | nul=>cases w
  | bool _=>cases w
  | _=>cases w.1
theorem ten_le {a b c M:Nat} (h : 10 * a ≤ b) (hc : b + 10 ≤ c) : 10 * (a + 1) ≤ c:=Nat.le_trans (Nat.add_le_add_right h 10) hc
theorem pl_len {ys:List V} : ∀ {t:P},wf t .ls→PlainIs σ N t (.tup ys)→10 * ys.length ≤ wt t:=by
  induction ys with
  | nil=>intro t _ _; exact Nat.zero_le _
  | cons y ys ih=>
    intro t w h
    obtain ⟨a,t',rfl,_,h2⟩:=pl_cons w h
    exact ten_le (M:=0) (ih w.2.2 h2) (Nat.add_le_add_right (Nat.le_add_left _ _) 10)
theorem pr_len {ys:List V} : ∀ {t:P},wf t .rs→PlainIs σ N t (.tup ys)→10 * ys.length ≤ wt t:=by
  induction ys with
  | nil=>intro t _ _; exact Nat.zero_le _
  | cons y ys ih=>
    intro t w h
    obtain ⟨a,b,t',u,v,rfl,rfl,_,_,h2⟩:=pr_row w h
    exact ten_le (M:=0) (ih w.2.2.2.1 h2) (Nat.add_le_add (Nat.le_add_left _ _) (by decide))
theorem len_big {a w:Nat} (h : 10 * a ≤ w) (hw : w ≤ 1000000) : a ≤ 100000:=Nat.le_of_mul_le_mul_left (Nat.le_trans h hw) (by decide : 0 < 10)
theorem dk3 {k d:Nat} (h : 3 * (k + 1) + 105 ≤ d) : 3 * k + 105 ≤ d - 1 - 1 - 1:=Nat.le_sub_of_add_le (Nat.le_sub_of_add_le (Nat.le_sub_of_add_le (by rw [Nat.mul_succ,Nat.add_right_comm] at h; exact h)))
theorem dk2 {k d:Nat} (h : 3 * (k + 1) + 105 ≤ d) : 3 * k + 105 ≤ d - 1 - 1:=Nat.le_trans (dk3 h) (Nat.sub_le _ 1)
theorem dk1 {k d:Nat} (h : 3 * (k + 1) + 105 ≤ d) : 3 * k + 105 ≤ d - 1:=Nat.le_trans (dk2 h) (Nat.sub_le _ 1)
inductive LstI (x : Wd) (bx:Addr) (k:Nat) (n:Int) (mk : Mk) (N:Addr→Prop) (σ:Sg) (l:P) (ys acc:List V) (σ' : Sg):Prop
  | mk (n' : Int) (mk' : Mk) (t:P) (nx : Nx x σ n mk σ' n' mk') (ht : PlainIs σ N t (.tup ys)) (hw : wf t .ls) (hd : dep t ≤ k) (hwt : wt t ≤ 1000000) (hl : acc.length + ys.length ≤ 1000000)
    (cont : ∀ σ'' mk'' n'' vs' cs',Kp σ' σ'' ⟨mk',bx,n,n'⟩ ⟨mk'',bx,n,n''⟩→ThgIs σ'' ⟨mk'',bx,n,n''⟩ t (.tup vs') (.list cs')→∃ cs,ThgIs σ'' ⟨mk'',bx,n,n''⟩ l (.tup (acc ++ vs')) (.list cs))
inductive LstN (x : Wd) (bx:Addr) (k:Nat) (n:Int) (mk : Mk) (N:Addr→Prop) (σ:Sg) (l:P) (y:V) (ys acc:List V) (σ' : Sg):Prop
  | mk (n' : Int) (mk' : Mk) (h:P) (nx : Nx x σ n mk σ' n' mk') (hh : PlainIs σ N h y) (wh : wf h .it) (dh : dep h ≤ k) (wth : wt h ≤ 1000000)
    (go : ∀ {σ₂ n₂ mk₂ v₂ c₂},Nx x σ' n' mk' σ₂ n₂ mk₂→ThgIs σ₂ ⟨mk₂,bx,n',n₂⟩ h v₂ c₂→LstI x bx k n mk N σ l ys (acc ++ [v₂]) σ₂)
theorem LstI.next {k:Nat} {l:P} {y:V} {ys acc:List V} {σ' : Sg} (I : LstI x bx k n mk N σ l (y :: ys) acc σ') : LstN x bx k n mk N σ l y ys acc σ':=by
  obtain ⟨n',mk',t,nx,ht,hw,hd,hwt,hl,cont⟩:=I
  obtain ⟨h,t,rfl,h1,h2⟩:=pl_cons hw ht
  obtain ⟨w1,w2⟩:=wt_cons hwt
  refine ⟨n',mk',h,nx,h1,hw.2.1,max_l hd,w1,fun {σ₂ n₂ mk₂ v₂ c₂} nx2 ht2=>⟨n₂,mk₂,t,nx.then nx2,h2,hw.2.2,max_r hd,w2,by rw [List.length_append,Nat.add_assoc,Nat.add_comm [v₂].length]; exact hl,fun σ'' mk'' n'' vs' cs' kp hvs=>?_⟩⟩
  obtain ⟨cs,hcs⟩:=cont σ'' mk'' n'' (v₂ :: vs') (c₂ :: cs') ((nx.kp nx2).trans kp) ⟨v₂,vs',c₂,cs',rfl,rfl,(ht2.lower (by obtain ⟨_,z,_,_⟩:=nx; exact z)).keep kp,hvs⟩
  exact ⟨cs,by rw [List.append_assoc]; exact hcs⟩
inductive TbI (x : Wd) (bx:Addr) (k:Nat) (n:Int) (mk : Mk) (N:Addr→Prop) (σ:Sg) (l:P) (ys acc:List V) (σ' : Sg):Prop
  | mk (n' : Int) (mk' : Mk) (t:P) (nx : Nx x σ n mk σ' n' mk') (ht : PlainIs σ N t (.tup ys)) (hw : wf t .rs) (hd : dep t ≤ k) (hwt : wt t ≤ 1000000)
    (cont : ∀ σ'' mk'' n'' ps',Kp σ' σ'' ⟨mk',bx,n,n'⟩ ⟨mk'',bx,n,n''⟩→PairL σ'' ⟨mk'',bx,n,n''⟩ t ps'→PairL σ'' ⟨mk'',bx,n,n''⟩ l (acc ++ ps'))
inductive TbN (x : Wd) (bx:Addr) (k:Nat) (n:Int) (mk : Mk) (N:Addr→Prop) (σ:Sg) (l:P) (y:V) (ys acc:List V) (σ' : Sg):Prop
  | mk (n' : Int) (mk' : Mk) (a b:P) (u v:V) (e : y = .tup [u,v]) (nx : Nx x σ n mk σ' n' mk') (ha : PlainIs σ N a u) (hb : PlainIs σ N b v) (wa : wf a .it) (wb : wf b .it) (da : dep a ≤ k) (db : dep b ≤ k) (wta : wt a ≤ 1000000) (wtb : wt b ≤ 1000000)
    (go : ∀ {σ₂ n₂ mk₂ v₂ c₂ σ₃ n₃ mk₃ v₃ c₃},Nx x σ' n' mk' σ₂ n₂ mk₂→ThgIs σ₂ ⟨mk₂,bx,n',n₂⟩ a v₂ c₂→Nx x σ₂ n₂ mk₂ σ₃ n₃ mk₃→ThgIs σ₃ ⟨mk₃,bx,n₂,n₃⟩ b v₃ c₃→TbI x bx k n mk N σ l ys (acc ++ [.tup [v₂,v₃]]) σ₃)
theorem TbI.next {k:Nat} {l:P} {y:V} {ys acc:List V} {σ' : Sg} (I : TbI x bx k n mk N σ l (y :: ys) acc σ') : TbN x bx k n mk N σ l y ys acc σ':=by
  obtain ⟨n',mk',t,nx,ht,hw,hd,hwt,cont⟩:=I
  obtain ⟨a,b,t,u,v,rfl,rfl,h1,h2,h3⟩:=pr_row hw ht
  obtain ⟨_,wa,wb,wtt,_⟩:=hw
  obtain ⟨w1,w2,w3⟩:=wt_row hwt
  refine ⟨n',mk',a,b,u,v,rfl,nx,h1,h2,wa,wb,max_l hd,max_m hd,w1,w2,fun {σ₂ n₂ mk₂ v₂ c₂ σ₃ n₃ mk₃ v₃ c₃} nx2 ht2 nx3 ht3=>⟨n₃,mk₃,t,(nx.then nx2).then nx3,h3,wtt,max_e hd,w3,fun σ'' mk'' n'' ps' kp hps=>?_⟩⟩
  rw [List.append_assoc]
  have k23:=(nx.then nx2).kp (bx:=bx) (lo:=n) nx3
  refine cont σ'' mk'' n'' _ (((nx.kp nx2).trans k23).trans kp) ⟨v₂,v₃,c₂,c₃,ps',rfl,((ht2.lower ?_).keep k23).keep kp,(ht3.lower ?_).keep kp,hps⟩
  · obtain ⟨_,z,_,_⟩:=nx; exact z
  · obtain ⟨_,z,_,_⟩:=nx.then nx2; exact z
theorem thing_rng (K : GK g) {k:Nat} (ih : ThingIH g x bx k) {a b:P} {o:Bool} {v:V} (hk : dep (.range a b o) ≤ k + 1) (hd : 3 * (k + 1) + 105 ≤ d) (hw : wf (.range a b o) .it) (hwt : wt (.range a b o) ≤ 1000000) (hp : PlainIs σ N (.range a b o) v) (W : WI σ x n mk true []) (hbx' : ∀ {σ'},Ex [x.wd,x.md] σ σ'→∃ xs,σ' bx = some (.list xs))
    (q : ∀ σ' n' mk' t c,WI σ' x n' mk' true []→n ≤ n'→(∀ p ∈ mk,p ∈ mk')→Ex [x.wd,x.md] σ σ'→ThgIs σ' ⟨mk',bx,n,n'⟩ (.range a b o) t c→Q t σ') : UCall g d (.ref 686) [.ref x.w,v] Q σ:=by
  obtain ⟨l,va,vb,rfl,e,hN,h1,h2⟩:=hp
  have hab:=rangeOk_wf hw.2
  obtain ⟨w1,w2⟩:=wt_rng hwt
  have ha:=max1_l hk
  have hb:=max1_r hk
  clear hk hwt
  refine fnc K (Nat.le_trans (Nat.le_add_left 1 _) (dk1 (k:=k) (d:=d + 1) (Nat.le_succ_of_le hd))) rfl [some (.ref x.w),some (.tup [.str sRange, .ref l]),none,none] rfl rfl ?_
  refine s_unpv rfl ⟨rfl,?_⟩
  walk_at "w"
  refine um_w K W rfl rfl ?_
  walk_at "w"
  refine ih ha (by first | exact dk1 hd | exact dk2 hd | exact dk3 hd) hab.1 w1 h1 W (hbx' (Ex.refl _ _)) fun σ₁ n₁ mk₁ t₁ c₁ W₁ hn1 hs1 E₁ ht1=>?_
  have e1:=list_world W E₁ e
  walk_at "w"
  refine ih hb (by first | exact dk1 hd | exact dk2 hd | exact dk3 hd) hab.2 w2 (plain_world W E₁ h2) W₁ (hbx' E₁) fun σ₂ n₂ mk₂ t₂ c₂ W₂ hn2 hs2 E₂ ht2=>?_
  have e2:=list_world W₁ E₂ e1
  walk_at "w"
  refine range_of_ok K (by exact le_litp ‹_› (by rfl)) (lo:=n) W₂ hw.2 (by exact Int.le_trans ‹_› ‹_›) (ht1.keep (Kp.step W₁ E₂ hs2 hn2)) (ht2.lower hn1) fun σ₃ n₃ mk₃ v c W₃ hn3 hs3 E₃ ht3=>?_
  exact q σ₃ n₃ mk₃ v c W₃ (by exact Int.le_trans ‹_› (Int.le_trans ‹_› ‹_›)) (fun p hp=>hs3 _ (hs2 _ (hs1 _ hp))) ((E₁.trans E₂).trans E₃) ht3
theorem thing_lst (K : GK g) {k:Nat} (ih : ThingIH g x bx k) {l:P} {v:V} (hk : dep l ≤ k) (hd : 3 * (k + 1) + 105 ≤ d) (hw : wf l .ls) (hwt : wt l ≤ 1000000) (hp : PlainIs σ N (.list l) v) (W : WI σ x n mk true []) (hbx' : ∀ {σ'},Ex [x.wd,x.md] σ σ'→∃ xs,σ' bx = some (.list xs))
    (q : ∀ σ' n' mk' t c,WI σ' x n' mk' true []→n ≤ n'→(∀ p ∈ mk,p ∈ mk')→Ex [x.wd,x.md] σ σ'→ThgIs σ' ⟨mk',bx,n,n'⟩ (.list l) t c→Q t σ') : UCall g d (.ref 686) [.ref x.w,v] Q σ:=by
  obtain ⟨il,vs,rfl,e,hN,h1⟩:=hp
  have hlen:=len_big (pl_len hw h1) hwt
  refine fnc K (Nat.le_trans (Nat.le_add_left 1 _) (dk1 (k:=k) (d:=d + 1) (Nat.le_succ_of_le hd))) rfl [some (.ref x.w),some (.tup [.str sList, .ref il]),none,none] rfl rfl ?_
  refine s_unpv rfl ⟨rfl,?_⟩
  walk_at "w"
  refine um_w K W rfl rfl ?_
  refine es_cons (e_comp ?_)
  walk_at "w"
  refine src_l e ⟨by exact Nat.le_trans hlen (by decide),?_⟩
  refine comp1_rule (LstI x bx k n mk N σ l) (fun ys acc σ' h=>?_) (fun _ _ _ _ _=>rfl) (fun y ys acc σ' Kc h hK=>?_) (fun acc σ' h il2 hil2=>?_)
    ⟨n,mk,l,⟨W,Int.le_refl _,fun _ h=>h,Ex.refl _ _⟩,h1,hw,hk,hwt,by exact Nat.le_trans (Nat.add_le_add_left hlen 0) (by decide),fun σ'' mk'' n'' vs' cs' _ h=>⟨cs',h⟩⟩
  · obtain ⟨n',mk',t,⟨W',_,_,E'⟩,_⟩:=h
    exact src_l' (list_world W E' e)
  · obtain ⟨n',mk',h,nx,hh,wh,dh,wth,go⟩:=h.next
    obtain ⟨W',hn',hs',E'⟩:=nx
    show wpE g _ _ [some y,some (.ref x.w)] _ _
    walk_at "w"
    exact ih dh (by first | exact dk1 hd | exact dk2 hd | exact dk3 hd) wh wth (plain_world W E' hh) W' (hbx' E') fun σ₂ n₂ mk₂ v₂ c₂ W₂ hn2 hs2 E₂ ht2=>hK _ _ (go ⟨W₂,hn2,hs2,E₂⟩ ht2)
  · obtain ⟨n',mk',t,nx,ht,hwt',_,_,hll,cont⟩:=h
    cases pl_nil hwt' ht
    obtain ⟨W',hn',hs',E'⟩:=nx
    walk_at "w"
    have E2 : Ex [] σ' (upd σ' il2 (.list acc)):=Ex.new hil2
    refine list_of_ok K (by exact le_litp ‹_› (by rfl)) (W'.mono E2) (upd_same _ _ _) hll fun σ₃ n₃ mk₃ a dd m r l2 W₃ hn3 hs3 E₃ ha hdd hl2 h1' h2' h3'=>?_
    obtain ⟨cs,hcs⟩:=cont σ₃ mk₃ n₃ [] [] (Kp.step W' (E2.nil.trans E₃) hs3 (by exact Int.le_of_lt ‹_›)) ⟨rfl,rfl⟩
    rw [List.append_nil] at hcs
    have hlb : l2 ≠ bx:=fun z=>by
      obtain ⟨xs,e0⟩:=hbx' E'
      rw [z,E2.get e0] at hl2; cases hl2
    exact q σ₃ n₃ mk₃ (.ref a) (.list cs) W₃ (Int.le_trans hn' (by exact Int.le_of_lt ‹_›)) (fun p hp=>hs3 _ (hs' _ hp)) ((E'.trans E2.nil).trans E₃) ⟨a,_,n' + 1,l2,acc,cs,rfl,rfl,⟨dd,h1',h2'⟩,⟨rfl,by show n < n' + 1; exact Int.lt_add_one_of_le ‹_›,hn3⟩,rfl,h3',hlb,hcs⟩
theorem thing_tab (K : GK g) {k:Nat} (ih : ThingIH g x bx k) {l:P} {v:V} (hk : dep l ≤ k) (hd : 3 * (k + 1) + 105 ≤ d) (hw : wf l .rs) (hwt : wt l ≤ 1000000) (hp : PlainIs σ N (.table l) v) (W : WI σ x n mk true []) (hbx' : ∀ {σ'},Ex [x.wd,x.md] σ σ'→∃ xs,σ' bx = some (.list xs))
    (q : ∀ σ' n' mk' t c,WI σ' x n' mk' true []→n ≤ n'→(∀ p ∈ mk,p ∈ mk')→Ex [x.wd,x.md] σ σ'→ThgIs σ' ⟨mk',bx,n,n'⟩ (.table l) t c→Q t σ') : UCall g d (.ref 686) [.ref x.w,v] Q σ:=by
  obtain ⟨il,vs,rfl,e,hN,h1⟩:=hp
  have hlen:=len_big (pr_len hw h1) hwt
  refine fnc K (Nat.le_trans (Nat.le_add_left 1 _) (dk1 (k:=k) (d:=d + 1) (Nat.le_succ_of_le hd))) rfl [some (.ref x.w),some (.tup [.str sTable, .ref il]),none,none] rfl rfl ?_
  refine s_unpv rfl ⟨rfl,?_⟩
  walk_at "w"
  refine um_w K W rfl rfl ?_
  refine es_cons (e_comp ?_)
  walk_at "w"
  refine src_l e ⟨by exact Nat.le_trans hlen (by decide),?_⟩
  refine comp1_rule (TbI x bx k n mk N σ l) (fun ys acc σ' h=>?_) (fun _ _ _ _ _=>rfl) (fun y ys acc σ' Kc h hK=>?_) (fun acc σ' h il2 hil2=>?_)
    ⟨n,mk,l,⟨W,Int.le_refl _,fun _ h=>h,Ex.refl _ _⟩,h1,hw,hk,hwt,fun σ'' mk'' n'' ps' _ h=>h⟩
  · obtain ⟨n',mk',t,⟨W',_,_,E'⟩,_⟩:=h
    exact src_l' (list_world W E' e)
  · obtain ⟨n',mk',a,b,u,v,rfl,nx,ha,hb,wa,wb,da,db,wta,wtb,go⟩:=h.next
    obtain ⟨W',hn',hs',E'⟩:=nx
    show wpE g _ _ [some (.tup [u,v]),some (.ref x.w)] _ _
    walk_at "w"
    refine ih da (by first | exact dk1 hd | exact dk2 hd | exact dk3 hd) wa wta (plain_world W E' ha) W' (hbx' E') fun σ₂ n₂ mk₂ v₂ c₂ W₂ hn2 hs2 E₂ ht2=>?_
    walk_at "w"
    refine ih db (by first | exact dk1 hd | exact dk2 hd | exact dk3 hd) wb wtb (plain_world W (E'.trans E₂) hb) W₂ (hbx' (E'.trans E₂)) fun σ₃ n₃ mk₃ v₃ c₃ W₃ hn3 hs3 E₃ ht3=>?_
    walk_at "w"
    exact hK _ _ (go ⟨W₂,hn2,hs2,E₂⟩ ht2 ⟨W₃,hn3,hs3,E₃⟩ ht3)
  · obtain ⟨n',mk',t,nx,ht,hwt',_,_,cont⟩:=h
    cases pr_nil hwt' ht
    obtain ⟨W',hn',hs',E'⟩:=nx
    walk_at "w"
    have E2 : Ex [] σ' (upd σ' il2 (.list acc)):=Ex.new hil2
    have hps:=cont _ mk' n' [] (Kp.pure E2 ⟨mk',bx,n,n'⟩) rfl
    rw [List.append_nil] at hps
    refine table_of_ok K (by exact le_litp ‹_› (by rfl)) (lo:=n) hw hwt (W'.mono E2) hn' (upd_same _ _ _) (hbx' (E'.trans E2.nil)) hps fun σ₃ n₃ mk₃ v c W₃ hn3 hs3 E₃ ht3=>?_
    exact q σ₃ n₃ mk₃ v c W₃ (by exact Int.le_trans ‹_› ‹_›) (fun p hp=>hs3 _ (hs' _ hp)) ((E'.trans E2.nil).trans E₃) ht3
theorem thing_step (K : GK g) {k:Nat} (ih : ThingIH g x bx k) : ThingIH g x bx (k + 1):=by
  intro d σ Q p v n mk N hk hd hw hwt hp W hbx q
  by_cases h0 : dep p ≤ k
  · exact ih h0 (Nat.le_trans (dk1 hd) (Nat.sub_le _ _)) hw hwt hp W hbx q
  have hbx' : ∀ {σ'},Ex [x.wd,x.md] σ σ'→∃ xs,σ' bx = some (.list xs):=fun {σ'} E=>let ⟨xs,e⟩:=hbx; ⟨xs,list_world W E e⟩
  cases p with
  | range a b o=>exact thing_rng K ih hk hd hw hwt hp W hbx' q
  | list l=>exact thing_lst K ih (Nat.le_of_succ_le_succ hk) hd hw.2 (Nat.le_trans (Nat.le_add_right _ 10) hwt) hp W hbx' q
  | table l=>exact thing_tab K ih (Nat.le_of_succ_le_succ hk) hd hw.2 (Nat.le_trans (Nat.le_add_right _ 10) hwt) hp W hbx' q
  | nil=>exact absurd rfl hw
  | cons _ _=>cases hw.1
  | row _ _ _=>cases hw.1
  | _=>exact absurd (Nat.zero_le _) h0
theorem thing_all (K : GK g) : ∀ k,ThingIH g x bx k:=by
  intro k
  induction k with
  | zero=>intro d σ Q p v n mk N hk hd hw hwt hp W hbx q; exact thing_flat K (by exact le_lit ‹_› (by rfl)) hw (by exact Nat.le_zero.mp ‹_›) hp W q
  | succ k ih=>exact thing_step K ih
end
noncomputable def CodeIs (lo hi:Int):P→Code→Prop
  | .table _,c=>∃ k,c = .thing k∧lo < k∧k ≤ hi
  | .list l,c=>CodeIs lo hi l c
  | .nil,c=>c = .list []
  | .cons h t,c=>∃ d ds,c = .list (d :: ds)∧CodeIs lo hi h d∧CodeIs lo hi t (.list ds)
  | .row ..,_=>True
  | p,c=>c = codeP p
theorem ThgIs.code {σ:Sg} {T : TE} {p:P} : ∀ {m : Md} {v:V} {c : Code},wf p m→ThgIs σ T p v c→CodeIs T.lo T.hi p c:=by
  induction p with
  | int n=>intro m v c _ h; exact h.2
  | text s=>intro m v c _ h; exact h.1
  | sym s=>intro m v c _ h; exact h.2
  | nul=>intro m v c _ h; exact h.2
  | bool b=>intro m v c _ h; exact h.2
  | nil=>intro m v c _ h; exact h.2
  | range a b o _ _=>intro m v c hw h; exact code_noTab hw (range_noTab hw.2) h
  | list l ih=>intro m v c hw h; obtain ⟨x,fs,k,il,vs,cs,_,rfl,_,_,_,_,_,h1⟩:=h; exact ih hw.2 h1
  | cons h t ih1 ih2=>intro m v c hw q; obtain ⟨y,ys,d,ds,_,rfl,h1,h2⟩:=q; exact ⟨d,ds,rfl,ih1 hw.2.1 h1,ih2 hw.2.2 h2⟩
  | table l _=>intro m v c hw h; obtain ⟨x,fs,k,rd,kvs,ep,_,rfl,_,h,_⟩:=h; exact ⟨k,rfl,h.2⟩
  | row _ _ _ _ _ _=>intro m v c _ _; trivial
inductive ItemAt (σ:Sg) (N:Addr→Prop) (lo hi:Int) (l:P) (vs:List V) (cs:List Code) (i:Nat):Prop
  | mk (h:P) (y:V) (e : Code) (a1 : vs[i]? = some y) (a2 : cs[i]? = some e) (w : wf h .it) (m : dep h ≤ dep l∧wt h ≤ wt l) (p : PlainIs σ N h y) (k : CodeIs lo hi h e)
inductive ChainGet (σ:Sg) (N:Addr→Prop) (lo hi:Int) (l:P) (vs:List V) (c : Code):Prop
  | mk (cs:List Code) (e : c = .list cs) (n : vs.length = cs.length) (w : 10 * vs.length ≤ wt l) (get : ∀ i:Nat,i < vs.length→ItemAt σ N lo hi l vs cs i)
theorem chain_get {σ:Sg} {N:Addr→Prop} {lo hi:Int} {l:P} : ∀ {vs:List V} {c : Code},wf l .ls→PlainIs σ N l (.tup vs)→CodeIs lo hi l c→ChainGet σ N lo hi l vs c:=by
  induction l with
  | nil=>intro vs c _ h1 h2; cases h1; exact ⟨[],h2,rfl,Nat.zero_le _,fun i hi=>nomatch hi⟩
  | cons h t _ ih=>
    intro vs c hw q1 q2
    obtain ⟨y,ys,e,h1,h2⟩:=q1
    obtain ⟨d,ds,rfl,h3,h4⟩:=q2
    cases e
    obtain ⟨cs,e,h5,h6,h7⟩:=ih hw.2.2 h2 h4
    cases e
    refine ⟨d :: ds,rfl,congrArg (· + 1) h5,?_,fun i hi=>?_⟩
    · rw [List.length_cons,Nat.mul_succ,wC]; exact Nat.add_le_add_right (Nat.le_trans h6 (Nat.le_add_left _ _)) 10
    cases i with
    | zero=>exact ⟨h,y,d,rfl,rfl,hw.2.1,⟨Nat.le_max_left _ _,Nat.le_trans (Nat.le_add_right _ (wt t)) (Nat.le_add_right _ 10)⟩,h1,h3⟩
    | succ i=>
      obtain ⟨h',y',e',a1,a2,a3,a4,a5,a6⟩:=h7 i (Nat.lt_of_succ_lt_succ hi)
      exact ⟨h',y',e',a1,a2,a3,⟨Nat.le_trans a4.1 (Nat.le_max_right _ _),Nat.le_trans a4.2 (Nat.le_trans (Nat.le_add_left _ (wt h)) (Nat.le_add_right _ 10))⟩,a5,a6⟩
  | nul=>intro _ _ hw; exact nomatch hw
  | bool _=>intro _ _ hw; exact nomatch hw
  | _=>intro _ _ hw; exact nomatch hw.1
noncomputable def simple:P→Bool
  | .int _=>true | .text _=>true | .sym _=>true | .nul=>true | .bool _=>true | .range ..=>true | _=>false
theorem dat_head {p:P} (hw : wf p .it) : ∃ x,(datf p).1 = .tuple [.str (mkS (tagOf p)),x]:=
  P.it_ (motive:=fun p=>∃ x,(datf p).1 = .tuple [.str (mkS (tagOf p)),x]) hw (fun _ _=>⟨_,rfl⟩) (fun _ _=>⟨_,rfl⟩) (fun _ _=>⟨_,rfl⟩) ⟨_,rfl⟩ (fun _=>⟨_,rfl⟩) (fun _ _ _ _=>⟨_,rfl⟩) (fun _ _=>⟨_,rfl⟩) (fun _ _=>⟨_,rfl⟩)
theorem eqv_two (s t:List Nat) (x y : PyData) : PyData.eqv (.tuple [.str (mkS s),x]) (.tuple [.str (mkS t),y]) = (decide (s = t) && PyData.eqv x y):=by
  rw [← mkS_beq]
  show ((mkS s == mkS t) && (PyData.eqv x y && true)) = _
  rw [Bool.and_true]
theorem tag_no {s t:List Nat} {x y : PyData} {p q:P} (h : decide (s = t) = false) (n : p ≠ q) : PyData.eqv (.tuple [.str (mkS s),x]) (.tuple [.str (mkS t),y]) = true ↔ p = q:=by
  rw [eqv_two,h]; exact ⟨fun h=>(nomatch h),fun h=>absurd h n⟩
theorem tag_yes {s:List Nat} {x y : PyData} {p q:P} (h : PyData.eqv x y = true ↔ p = q) : PyData.eqv (.tuple [.str (mkS s),x]) (.tuple [.str (mkS s),y]) = true ↔ p = q:=by
  rw [eqv_two,decide_eq_true rfl,Bool.true_and]; exact h
theorem str_eqv {s t:List Nat} {p q:P} (h : s = t ↔ p = q) : PyData.eqv (.str (mkS s)) (.str (mkS t)) = true ↔ p = q:=by
  show (mkS s == mkS t) = true ↔ _
  rw [mkS_beq,decide_eq_true_iff]; exact h
noncomputable def flatK:P→Bool
  | .int _=>true | .text _=>true | .sym _=>true | .nul=>true | .bool _=>true | _=>false
noncomputable def boolW (b:Bool):List Nat:=bif b then sTrue else sFalse
theorem word_ne (b:Bool) : ¬ sNil = boolW b:=by cases b <;> decide
theorem boolW_inj {a b:Bool} (h : boolW a = boolW b) : a = b:=by revert h; cases a <;> cases b <;> decide
theorem flat_eqv {p q:P} (fp : flatK p = true) (fq : flatK q = true) : PyData.eqv (datf p).1 (datf q).1 = true ↔ p = q:=by
  cases p with
  | int n=>
    cases q with
    | int m=>exact tag_yes (by show (n == m) = true ↔ _; rw [beq_iff_eq]; exact ⟨congrArg _,P.int.inj⟩)
    | text _=>exact tag_no (by decide) fun h=>nomatch h
    | sym _=>exact tag_no (by decide) fun h=>nomatch h
    | nul=>exact tag_no (by decide) fun h=>nomatch h
    | bool _=>exact tag_no (by decide) fun h=>nomatch h
    | _=>exact nomatch fq
  | text s=>
    cases q with
    | text m=>exact tag_yes (str_eqv ⟨congrArg _,P.text.inj⟩)
    | int _=>exact tag_no (by decide) fun h=>nomatch h
    | sym _=>exact tag_no (by decide) fun h=>nomatch h
    | nul=>exact tag_no (by decide) fun h=>nomatch h
    | bool _=>exact tag_no (by decide) fun h=>nomatch h
    | _=>exact nomatch fq
  | sym s=>
    cases q with
    | sym m=>exact tag_yes (str_eqv ⟨congrArg _,P.sym.inj⟩)
    | int _=>exact tag_no (by decide) fun h=>nomatch h
    | text _=>exact tag_no (by decide) fun h=>nomatch h
    | nul=>exact tag_no (by decide) fun h=>nomatch h
    | bool _=>exact tag_no (by decide) fun h=>nomatch h
    | _=>exact nomatch fq
  | nul=>
    cases q with
    | nul=>exact tag_yes (str_eqv ⟨fun _=>rfl,fun _=>rfl⟩)
    | bool b=>exact tag_yes (str_eqv (t:=boolW b) ⟨fun h=>absurd h (word_ne b),fun h=>(nomatch h)⟩)
    | int _=>exact tag_no (by decide) fun h=>nomatch h
    | text _=>exact tag_no (by decide) fun h=>nomatch h
    | sym _=>exact tag_no (by decide) fun h=>nomatch h
    | _=>exact nomatch fq
  | bool a=>
    cases q with
    | nul=>exact tag_yes (str_eqv (s:=boolW a) ⟨fun h=>absurd h.symm (word_ne a),fun h=>nomatch h⟩)
    | bool b=>exact tag_yes (str_eqv (s:=boolW a) (t:=boolW b) ⟨fun h=>congrArg _ (boolW_inj h),fun h=>congrArg _ (P.bool.inj h)⟩)
    | int _=>exact tag_no (by decide) fun h=>nomatch h
    | text _=>exact tag_no (by decide) fun h=>nomatch h
    | sym _=>exact tag_no (by decide) fun h=>nomatch h
    | _=>exact nomatch fq
  | _=>exact nomatch fp
theorem range_flat {a b:P} (h : rangeOk a b) : flatK a = true∧flatK b = true:=by induction h <;> exact ⟨rfl,rfl⟩
inductive SimpC (p:P):Prop
  | flat (h : flatK p = true) (n : decide (tagOf p = sRange) = false) (e : (datf p).1 = .tuple [.str (mkS (tagOf p)),((datf p).1 |> fun | .tuple [_,x]=>x | x=>x)])
  | rng (a b:P) (o:Bool) (e : p = .range a b o) (h : rangeOk a b)
theorem simp_c {p:P} (hw : wf p .it) (s : simple p = true) : SimpC p:=by
  cases p with
  | range a b o=>exact .rng a b o rfl hw.2
  | int _=>exact .flat rfl (decide_eq_false (by decide : sI ≠ sRange)) rfl
  | text _=>exact .flat rfl (decide_eq_false (by decide : sText ≠ sRange)) rfl
  | sym _=>exact .flat rfl (decide_eq_false (by decide : sSym ≠ sRange)) rfl
  | nul=>exact .flat rfl (decide_eq_false (by decide : sWord ≠ sRange)) rfl
  | bool _=>exact .flat rfl (decide_eq_false (by decide : sWord ≠ sRange)) rfl
  | _=>exact nomatch s
theorem simple_eqv {p q:P} (hp : wf p .it) (hq : wf q .it) (sp : simple p = true) (sq : simple q = true) : PyData.eqv (datf p).1 (datf q).1 = true ↔ p = q:=by
  cases simp_c hp sp with
  | flat f1 n1 e1=>
    cases simp_c hq sq with
    | flat f2 n2 e2=>exact flat_eqv f1 f2
    | rng a b o e h=>subst e; rw [e1]; exact tag_no n1 fun h=>by rw [h] at f1; exact nomatch f1
  | rng a b o e h=>
    subst e
    cases simp_c hq sq with
    | flat f2 n2 e2=>rw [e2]; exact tag_no (decide_eq_false fun h=>of_decide_eq_false n2 h.symm) fun h=>by rw [← h] at f2; exact nomatch f2
    | rng a' b' o' e' h'=>
      subst e'
      have z:=range_flat h; have z':=range_flat h'
      refine tag_yes ?_
      show (PyData.eqv (datf a).1 (datf a').1 && (PyData.eqv (datf b).1 (datf b').1 && ((o == o') && true))) = true ↔ _
      rw [Bool.and_true,Bool.and_eq_true,Bool.and_eq_true,flat_eqv z.1 z'.1,flat_eqv z.2 z'.2,beq_iff_eq]
      exact ⟨fun h=>by rw [h.1,h.2.1,h.2.2],fun h=>by cases h; exact ⟨rfl,rfl,rfl⟩⟩
section
variable {g:G} {d:Nat} {σ:Sg} {Q:V→Sg→Prop} {N N' : Addr→Prop}
noncomputable def AlikeIH (g:G) (k:Nat):Prop:=∀ {d:Nat} {σ:Sg} {Q:V→Sg→Prop} {N N' : Addr→Prop} {p q:P} {v u:V} {c c' : Code} {lo hi lo' hi' : Int},dep p ≤ k→dep p ≤ 10→dep q ≤ 10→wt p ≤ 1000000→wt q ≤ 1000000→k + 2 ≤ d→wf p .it→wf q .it→PlainIs σ N p v→PlainIs σ N' q u→CodeIs lo hi p c→CodeIs lo' hi' q c'→hi ≤ lo'→
  (∀ σ' b,Ex [] σ σ'→(b = true ↔ c = c')→Q (.bool b) σ')→UCall g d (.ref 752) [v,u] Q σ
inductive CodeCls (lo hi:Int) (p:P) (c : Code):Prop
  | smp (s : simple p = true) (n : noTab p = true) (e : c = codeP p) (t1 : tagOf p ≠ sTable) (t2 : tagOf p ≠ sList) (n1 : ∀ cs,c ≠ .list cs) (n2 : ∀ k,c ≠ .thing k)
  | lst (l:P) (cs:List Code) (e : p = .list l) (ec : c = .list cs)
  | tab (l:P) (k:Int) (e : p = .table l) (ec : c = .thing k) (h : lo < k∧k ≤ hi)
theorem chain_code {lo hi:Int} {l:P} {c : Code} (hw : wf l .ls) : CodeIs lo hi l c→∃ cs,c = .list cs:=
  P.ls_ (motive:=fun l=>CodeIs lo hi l c→∃ cs,c = .list cs) hw (fun h=>⟨[],h⟩) fun _ _ _ _ h=>let ⟨_,_,e,_⟩:=h; ⟨_,e⟩
theorem smp_of {lo hi:Int} {p:P} {c : Code} (t:List Nat) (ht : tagOf p = t) (t1 : t ≠ sTable) (t2 : t ≠ sList) (s : simple p = true) (n : noTab p = true) (n1 : ∀ cs,codeP p ≠ .list cs) (n2 : ∀ k,codeP p ≠ .thing k) (e : c = codeP p) : CodeCls lo hi p c:=by subst e ht; exact .smp s n rfl t1 t2 n1 n2
theorem code_cls {lo hi:Int} {p:P} {c : Code} (hw : wf p .it) : CodeIs lo hi p c→CodeCls lo hi p c:=
  P.it_ (motive:=fun p=>CodeIs lo hi p c→CodeCls lo hi p c) hw (fun _ _=>smp_of sI rfl (by decide) (by decide) rfl rfl (fun _ h=>nomatch h) fun _ h=>nomatch h) (fun _ _=>smp_of sText rfl (by decide) (by decide) rfl rfl (fun _ h=>nomatch h) fun _ h=>nomatch h)
    (fun _ _=>smp_of sSym rfl (by decide) (by decide) rfl rfl (fun _ h=>nomatch h) fun _ h=>nomatch h) (smp_of sWord rfl (by decide) (by decide) rfl rfl (fun _ h=>nomatch h) fun _ h=>nomatch h) (fun _=>smp_of sWord rfl (by decide) (by decide) rfl rfl (fun _ h=>nomatch h) fun _ h=>nomatch h)
    (fun _ _ _ r=>smp_of sRange rfl (by decide) (by decide) rfl (range_noTab r) (fun _ h=>nomatch h) fun _ h=>nomatch h) (fun l hl h=>let ⟨cs,e⟩:=chain_code hl h; .lst l cs rfl e) (fun l _ h=>let ⟨k,e,q⟩:=h; .tab l k rfl e q)
theorem list_of {p:P} (t:List Nat) (ht : tagOf p = t) (n : t ≠ sList) (h : tagOf p = sList) : ∃ l,p = .list l:=absurd (ht.symm.trans h) n
theorem tag_list {p:P} (hw : wf p .it) : tagOf p = sList ↔ ∃ l,p = .list l:=by
  refine ⟨?_,fun ⟨l,e⟩=>by rw [e]; rfl⟩
  exact P.it_ (motive:=fun p=>tagOf p = sList→∃ l,p = .list l) hw (fun _ _=>list_of sI rfl (by decide)) (fun _ _=>list_of sText rfl (by decide)) (fun _ _=>list_of sSym rfl (by decide)) (list_of sWord rfl (by decide)) (fun _=>list_of sWord rfl (by decide)) (fun _ _ _ _=>list_of sRange rfl (by decide)) (fun l _ _=>⟨l,rfl⟩) (fun _ _=>list_of sTable rfl (by decide))
theorem code_tab {lo hi lo' hi' : Int} {p q:P} {c c' : Code} (hp : wf p .it) (hq : wf q .it) (h1 : CodeIs lo hi p c) (h2 : CodeIs lo' hi' q c') (hd : hi ≤ lo') (ht : tagOf p = sTable∨tagOf q = sTable) : c ≠ c':=by
  cases code_cls hp h1 with
  | tab l k e ec h=>
    subst ec
    cases code_cls hq h2 with
    | tab l' k' e' ec' h'=>subst ec'; exact fun e=>by cases e; exact absurd h'.1 (Int.not_lt.mpr (Int.le_trans h.2 hd))
    | lst l' cs e' ec'=>subst ec'; exact fun e=>nomatch e
    | smp _ _ _ _ _ _ n2=>exact fun e=>n2 k e.symm
  | lst l cs e ec=>
    subst ec e
    cases code_cls hq h2 with
    | tab l' k' e' ec' h'=>subst ec'; exact fun e=>nomatch e
    | lst l' cs e' ec'=>subst e'; exact (ht.elim (fun h=>absurd h (by decide : sList ≠ sTable)) fun h=>absurd h (by decide : sList ≠ sTable))
    | smp _ _ _ t1 _ _ _=>exact (ht.elim (fun h=>absurd h (by decide : sList ≠ sTable)) fun h=>absurd h t1)
  | smp _ _ _ t1 _ _ n2=>
    cases code_cls hq h2 with
    | tab l' k' e' ec' h'=>subst ec'; exact n2 k'
    | lst l' cs e' ec'=>subst e'; exact (ht.elim (fun h=>absurd h t1) fun h=>absurd h (by decide : sList ≠ sTable))
    | smp _ _ _ t1' _ _ _=>exact (ht.elim (fun h=>absurd h t1) fun h=>absurd h t1')
theorem code_last {lo hi lo' hi' : Int} {p q:P} {c c' : Code} (hp : wf p .it) (hq : wf q .it) (h1 : CodeIs lo hi p c) (h2 : CodeIs lo' hi' q c') (n1 : tagOf p ≠ sTable) (n2 : tagOf q ≠ sTable) (n3 : ¬ (tagOf p = sList∧tagOf q = sList)) : PyData.eqv (datf p).1 (datf q).1 = true ↔ c = c':=by
  have tags : tagOf p ≠ tagOf q→PyData.eqv (datf p).1 (datf q).1 = false:=fun h=>by
    obtain ⟨x,e⟩:=dat_head hp
    obtain ⟨y,e'⟩:=dat_head hq
    rw [e,e',eqv_two,decide_eq_false h]; rfl
  cases code_cls hp h1 with
  | tab l k e ec h=>subst e; exact absurd rfl n1
  | lst l cs e ec=>
    subst e ec
    cases code_cls hq h2 with
    | tab l k e ec h=>subst e; exact absurd rfl n2
    | lst l cs e ec=>subst e; exact absurd ⟨rfl,rfl⟩ n3
    | smp _ _ _ _ t2 n1 _=>rw [tags fun h=>t2 h.symm]; exact ⟨fun h=>(nomatch h),fun h=>absurd h.symm (n1 cs)⟩
  | smp s1 nt1 e1 _ t2 m1 _=>
    cases code_cls hq h2 with
    | tab l k e ec h=>subst e; exact absurd rfl n2
    | lst l cs e ec=>subst e ec; rw [tags t2]; exact ⟨fun h=>(nomatch h),fun h=>absurd h (m1 cs)⟩
    | smp s2 nt2 e2 _ _ _ _=>rw [simple_eqv hp hq s1 s2,e1,e2]; exact ⟨fun h=>by rw [h],fun h=>codeP_inj hp hq nt1 nt2 h⟩
end
theorem ints_dat (σ:Sg) : ∀ is:List Int,DatIs σ (.tup (is.map .int)) (.tuple (is.map .int))
  | []=>.tnil
  | i :: r=>.tcons (.int i) (ints_dat σ r)
theorem ints_shape (is:List Int) : PySem.SeqAt.shaped (.list (is.map PyData.int)) = true:=by
  have h1 : ∀ is:List Int,PyData.canLayAll0 (is.map .int) = true:=fun is=>by
    induction is with
    | nil=>rfl
    | cons a r ih=>simp [PyData.canLayAll0,PyData.canLay0,ih]
  have h2 : ∀ is:List Int,PyData.depthAll (is.map .int) = 0:=fun is=>by
    induction is with
    | nil=>rfl
    | cons a r ih=>simp [PyData.depthAll,PyData.depth,ih]
  unfold PySem.SeqAt.shaped
  simp [PyData.canLay0,PyData.depth,h1,h2]
section
variable {g:G} {d:Nat} {σ:Sg} {Q:V→Sg→Prop}
theorem alike_step (K : GK g) {k:Nat} (ih : ∀ j,j < k→AlikeIH g j) : AlikeIH g k:=by
  intro d σ Q N N' p q v u c c' lo hi lo' hi' hk hp10 hq10 hwp hwq hd hp hq h1 h2 k1 k2 hdis qq
  have hb : big = 16777216:=rfl
  obtain ⟨x,rfl⟩:=h1.tag hp
  obtain ⟨y,rfl⟩:=h2.tag hq
  have s1:=(shaped_dat hp hp10).1
  have s2:=(shaped_dat hq hq10).1
  have dp:=(plain_dat hp h1).1 rfl
  have dq:=(plain_dat hq h2).1 rfl
  refine fnc K (by exact le_lit ‹_› (by rfl)) rfl [some (.tup [.str (tagOf p),x]),some (.tup [.str (tagOf q),y])] rfl rfl ?_
  walk_at "w"
  refine if_d (fun ht=>?_) fun ht1=>?_
  · walk_at "w"
    exact qq σ false (Ex.refl _ _) ⟨fun h=>(nomatch h),fun h=>absurd h (code_tab hp hq k1 k2 hdis (.inl ht))⟩
  walk_at "w"
  refine if_d (fun ht=>?_) fun ht2=>?_
  · walk_at "w"
    exact qq σ false (Ex.refl _ _) ⟨fun h=>(nomatch h),fun h=>absurd h (code_tab hp hq k1 k2 hdis (.inr ht))⟩
  walk_at "w"
  refine if_d (fun hl1=>?_) fun hl1=>?_
  · walk_at "w"
    refine if_d (fun hl2=>?_) fun hl2=>?_
    · obtain ⟨l,rfl⟩:=(tag_list hp).mp hl1
      obtain ⟨m,rfl⟩:=(tag_list hq).mp hl2
      obtain ⟨il,vs,e1,f1,_,g1⟩:=h1
      obtain ⟨jl,ws,e2,f2,_,g2⟩:=h2
      cases e1; cases e2
      obtain ⟨cs,rfl,n1,w1,get1⟩:=chain_get hp.2 g1 k1
      obtain ⟨cs',rfl,n2,w2,get2⟩:=chain_get hq.2 g2 k2
      simp only [wG,wL,wT,wC,wW] at hwp hwq
      simp only [dG,dL,dT,dC,dW] at hk hp10 hq10
      walk_at "w"
      refine f_lenl f1 (by lia) ?_
      walk_at "w"
      refine f_lenl f2 (by lia) ?_
      walk_at "w"
      refine if_d (fun hlen=>?_) fun hlen=>?_
      · have hlen : vs.length = ws.length:=by lia
        refine e_and1 (e_cmp (e_compIf ?_))
        walk_at "w"
        refine f_lenl f1 (by lia) ?_
        walk_at "w"
        refine f_range ⟨by exact Int.ofNat_nonneg _,by lia⟩ ?_
        have en : ((vs.length:Int)).toNat = vs.length:=by rfl
        rw [en]
        refine src_r ⟨by simp; lia,?_⟩
        refine compW_rule (fun ys acc σ'=>Ex [] σ σ'∧∃ i is,i ≤ vs.length∧ys = ((List.range vs.length).map fun i:Nat=>V.int (i:Int)).drop i∧acc = is.map .int∧(is = [] ↔ ∀ j,j < i→cs[j]? = cs'[j]?)) (fun _ _ _ _=>rfl) (fun y ys acc σ' Kt Kn h hT hN=>?_) (fun y P P' σ' h hf=>h y σ' hf) (fun acc σ' h=>?_)
          ⟨Ex.refl _ _,0,[],Nat.zero_le _,rfl,rfl,⟨fun _ j hj=>absurd hj (Nat.not_lt_zero _),fun _=>rfl⟩⟩
        · obtain ⟨E,i,is,hi,e1,rfl,hiff⟩:=h
          have hil : i < vs.length:=by
            rcases Nat.lt_or_ge i vs.length with h | h
            · exact h
            · rw [List.drop_eq_nil_of_le (by simpa using h)] at e1; cases e1
          have e2 : y = .int (i:Int)∧ys = ((List.range vs.length).map fun i:Nat=>V.int (i:Int)).drop (i + 1):=by
            rw [List.drop_eq_getElem_cons (by simpa using hil)] at e1
            simp at e1
            exact ⟨e1.1,by rw [e1.2, ← List.map_drop]⟩
          obtain ⟨rfl,rfl⟩:=e2
          obtain ⟨hh,yy,ee,a1,a2,a3,a4,a5,a6⟩:=get1 i hil
          obtain ⟨hh',yy',ee',b1,b2,b3,b4,b5,b6⟩:=get2 i (by lia)
          have ei : ((i:Int)).toNat = i:=by rfl
          show wpE g _ _ [some (.int (i:Int)),some (.tup [.str sList, .ref il]),some (.tup [.str sList, .ref jl])] _ _
          have f1':=E.get f1; have f2':=E.get f2
          walk_at "w"
          refine ix_l f1' (by rw [ei]; exact a1) ⟨by exact Int.ofNat_nonneg _,by lia⟩ ?_
          walk_at "w"
          refine ix_l f2' (by rw [ei]; exact b1) ⟨by exact Int.ofNat_nonneg _,by lia⟩ ?_
          walk_at "w"
          refine ih (dep l) (by assumption) a4.1 (by lia) (by lia) (by lia) (by lia) (by lia) a3 b3 (a5.keep (fun a xs e n=>E.get e) fun _ _ _ n=>n) (b5.keep (fun a xs e n=>E.get e) fun _ _ _ n=>n) a6 b6 hdis fun σ₂ b E₂ hbiff=>?_
          walk_at "w"
          cases b with
          | true=>
            refine hN σ₂ ⟨E.trans E₂,i + 1,is,hil,rfl,rfl,?_⟩
            rw [hiff]
            have heq : cs[i]? = cs'[i]?:=by rw [a2,b2,hbiff.mp rfl]
            refine ⟨fun h j hj=>?_,fun h j hj=>h j (by exact Nat.lt_succ_of_lt ‹_›)⟩
            rcases Nat.lt_or_ge j i with z | z
            · exact h j z
            · have : j = i:=by lia
              rw [this]; exact heq
          | false=>
            refine hT σ₂ ⟨E.trans E₂,i + 1,is ++ [(i:Int)],hil,rfl,by simp,?_⟩
            refine ⟨fun h=>absurd h (by simp),fun h=>?_⟩
            have:=h i (by exact Nat.lt_succ_self _)
            rw [a2,b2,Option.some.injEq] at this
            exact absurd (hbiff.mpr this) (by simp)
        · obtain ⟨E,i,is,hi,e1,rfl,hiff⟩:=h
          have : i = vs.length:=by
            have:=congrArg List.length e1
            simp at this; lia
          subst this
          intro r hr
          walk_at "w"
          intro r2 hr2
          have E2 : Ex [] σ (upd (upd σ' r (.list (is.map .int))) r2 (.list [])):=(E.trans (Ex.new hr)).trans (Ex.new hr2)
          refine c_eqd (.list (upd_old hr2 (upd_same _ _ _)) (ints_dat _ is)) (.list (upd_same _ _ _) (ints_dat _ [])) (ints_shape is) (ints_shape []) ?_
          walk_at "w"
          refine qq _ _ E2 ?_
          have e3 : PyData.eqv (.list (is.map .int)) (.list (([] : List Int).map .int)) = is.isEmpty:=by cases is <;> rfl
          rw [e3,List.isEmpty_iff,hiff,Code.list.injEq]
          exact ⟨fun h=>List.ext_getElem? fun j=>by
            rcases Nat.lt_or_ge j vs.length with z | z
            · exact h j z
            · rw [List.getElem?_eq_none (by lia),List.getElem?_eq_none (by lia)],fun h j _=>by rw [h]⟩
      · exact qq σ false (Ex.refl _ _) ⟨fun h=>(nomatch h),fun h=>by cases h; lia⟩
    · walk_at "w"
      refine c_eqd dp dq s1 s2 ?_
      exact qq σ _ (Ex.refl _ _) (code_last hp hq k1 k2 ht1 ht2 fun z=>hl2 z.2)
  · walk_at "w"
    refine c_eqd dp dq s1 s2 ?_
    exact qq σ _ (Ex.refl _ _) (code_last hp hq k1 k2 ht1 ht2 fun z=>hl1 z.1)
theorem alike_ok (K : GK g) (k:Nat) : AlikeIH g k:=Nat.strongRecOn (motive:=fun k=>AlikeIH g k) k fun k ih=>alike_step K fun j hj=>ih j hj
end
noncomputable def nestP:Nat→P→P
  | 0,p=>p
  | k + 1,p=>.list (.cons (nestP k p) .nil)
noncomputable def rowP:Nat→P
  | 0=>.list .nil
  | 1=>.list (.cons (.int 1) .nil)
  | 2=>.table .nil
  | _=>.table (.row (.sym [97]) (.int 1) .nil)
noncomputable def rowS:Nat→List Nat
  | 0=>[91,93]
  | 1=>[91,49,93]
  | 2=>[123,125]
  | _=>[123,97,58,32,49,125]
noncomputable def dotS:Nat→List Nat
  | 1=>[91,46,46,46,93]
  | _=>[123,46,46,46,125]
noncomputable def wrapS:Nat→List Nat→List Nat
  | 0,s=>s
  | k + 1,s=>[91] ++ wrapS k s ++ [93]
noncomputable def due0 (r l m:Nat):List Nat:=if (rowS r).length = 2 then rowS r else if l < m then rowS r else dotS r
noncomputable def dueS (r l m:Nat):List Nat:=if m < l then (List.replicate m [91]).flatten ++ [91,46,46,46,93] ++ (List.replicate m [93]).flatten else wrapS l (due0 r l m)
theorem due_tab : ((List.range 4).all fun r=>(List.range 4).all fun l=>(List.range 5).all fun m=>shw (nestP (l + 1) (rowP r)) (m:Nat) == dueS r (l + 1) m) = true:=by decide +kernel
theorem due_ok {r l m:Nat} (hr : r < 4) (hl : 1 ≤ l∧l ≤ 4) (hm : m < 5) : shw (nestP l (rowP r)) (m:Nat) = dueS r l m:=by
  obtain ⟨k,rfl⟩ : ∃ k,l = k + 1:=⟨l - 1,by simp +arith [*]⟩
  have:=List.all_eq_true.mp (List.all_eq_true.mp (List.all_eq_true.mp due_tab r (List.mem_range.mpr hr)) k (List.mem_range.mpr (by lia))) m (List.mem_range.mpr hm)
  simpa using this
theorem a_sym : [97] ∈ symsL:=by decide +kernel
theorem one_ok : wf (.int 1) .it:=⟨rfl, .inr (.inl (by decide))⟩
theorem row3 : wf (.row (.sym [97]) (.int 1) .nil) .rs:=⟨rfl,⟨rfl,a_sym⟩,one_ok,fun h=>(nomatch h),rfl,Nat.zero_le _,List.not_mem_nil⟩
theorem row_wf : ∀ (r:Nat),wf (rowP r) .it∧dep (rowP r) ≤ 1∧wt (rowP r) ≤ 200
  | 0=>⟨⟨rfl,fun h=>(nomatch h)⟩,Nat.le_refl 1,Nat.le_of_ble_eq_true rfl⟩
  | 1=>⟨⟨rfl,rfl,one_ok,fun h=>(nomatch h)⟩,Nat.le_refl 1,Nat.le_of_ble_eq_true rfl⟩
  | 2=>⟨⟨rfl,fun h=>(nomatch h)⟩,Nat.le_refl 1,Nat.le_of_ble_eq_true rfl⟩
  | _ + 3=>⟨⟨rfl,row3⟩,Nat.le_refl 1,Nat.le_of_ble_eq_true rfl⟩
theorem nest_wf {p:P} (h : wf p .it) (k:Nat) : wf (nestP k p) .it∧dep (nestP k p) ≤ dep p + k∧wt (nestP k p) ≤ wt p + 20 * k:=by
  induction k with
  | zero=>exact ⟨h,Nat.le_refl _,Nat.le_refl _⟩
  | succ k ih=>
    refine ⟨⟨rfl,rfl,ih.1,fun h=>(nomatch h)⟩,?_,?_⟩
    · show max (dep (nestP k p)) 0 + 1 ≤ _
      rw [Nat.max_zero]; exact Nat.succ_le_succ ih.2.1
    · show wt (nestP k p) + 0 + 10 + 10 ≤ wt p + 20 * (k + 1)
      rw [Nat.add_zero,Nat.mul_succ, ← Nat.add_assoc]; exact Nat.add_le_add_right ih.2.2 20
section
variable {g:G} {x : Wd} {d:Nat} {σ:Sg} {Q:V→Sg→Prop} {n:Int} {mk : Mk} {bx sc:Addr} {R:Nat} {rd:Bool}
theorem WI.exL (W : WI σ x n mk rd []) {σ' : Sg} {b:Addr} {xs:List V} (hb : σ b = some (.list xs)) (E : Ex [b] σ σ') : WI σ' x n mk rd []:=by
  obtain ⟨fw,e1,F⟩:=W.d
  have tr : ∀ {a o},σ a = some o→o ≠ .list xs→σ' a = some o:=fun {a o} h n=>E _ _ h (by exact nin1 (ne_obj h hb n))
  refine ⟨tr W.w (by simp),⟨fw,tr e1 (by simp),F⟩,tr W.m (by simp),tr W.na (by simp),tr W.pr (by simp),W.nd,W.nm,fun p hp=>?_,W.na',W.pr'⟩
  obtain ⟨dd,fs,q1,q2,q3,q4⟩:=(W.md p hp).ex
  exact ⟨dd,fs,tr q1 (by simp),tr q2 (by simp),q3,q4⟩
theorem IsBox.world (B : IsBox σ bx sc R) (W : WI σ x n mk rd []) {σ' : Sg} (E : Ex [x.wd,x.md] σ σ') : IsBox σ' bx sc R:=B.keep fun a xs e=>list_world W E e
theorem list_thing (K : GK g) (hd : 92 ≤ d) {il:Addr} {vs:List V} {l:P} {cs:List Code} {lo:Int} (W : WI σ x n mk rd []) (hlo : lo ≤ n) (hl : σ il = some (.list vs)) (hv : vs.length ≤ 1000000) (hbx : ∃ xs,σ bx = some (.list xs)) (ht : ThgIs σ ⟨mk,bx,lo,n⟩ l (.tup vs) (.list cs))
    (q : ∀ σ' n' mk' v,WI σ' x n' mk' rd []→n ≤ n'→(∀ p ∈ mk,p ∈ mk')→Ex [x.wd,x.md] σ σ'→ThgIs σ' ⟨mk',bx,lo,n'⟩ (.list l) v (.list cs)→Q v σ') : UCall g d (.ref 524) [.ref x.w, .ref il] Q σ:=by
  refine list_of_ok K hd W hl hv fun σ₃ n₃ mk₃ a dd m r l2 W₃ hn3 hs3 E₃ ha hdd hl2 h1' h2' h3'=>?_
  have hlb : l2 ≠ bx:=fun z=>by
    obtain ⟨xs,e0⟩:=hbx
    rw [z,e0] at hl2; cases hl2
  exact q σ₃ n₃ mk₃ (.ref a) W₃ (by exact Int.le_of_lt ‹_›) hs3 E₃ ⟨a,_,n + 1,l2,vs,cs,rfl,rfl,⟨dd,h1',h2'⟩,⟨rfl,by show lo < n + 1; exact Int.lt_add_one_of_le ‹_›,hn3⟩,rfl,h3',hlb,ht.keep (Kp.step W E₃ hs3 (by exact Int.le_of_lt ‹_›))⟩
theorem go_list (K : GK g) (hd : 94 ≤ d) {lo:Int} (W : WI σ x n mk rd []) (hbx : ∃ xs,σ bx = some (.list xs)) {l:P} {vs:List V} {cs:List Code} {r:CEs} {Qs:List V→Sg→Prop} {es:CEs} {ρ:Env'} (h0 : ρ.getD 0 none = some (.ref x.w)) (hes : ∀ {Q' : List V→Sg→Prop},Q' vs σ→wpEs g d es ρ Q' σ)
    (ht : ∀ σ',Ex [] σ σ'→ThgIs σ' ⟨mk,bx,lo,n⟩ l (.tup vs) (.list cs)) (hn : lo ≤ n) (hl : vs.length ≤ 100)
    (q : ∀ σ' n' mk' v,WI σ' x n' mk' rd []→n ≤ n'→(∀ p ∈ mk,p ∈ mk')→Ex [x.wd,x.md] σ σ'→ThgIs σ' ⟨mk',bx,lo,n'⟩ (.list l) v (.list cs)→wpEs g d r ρ (fun vs σ''=>Qs (v :: vs) σ'') σ') : wpEs g d (.cons (.umeth 59 (.var 0) (.cons (.lst es) .nil)) r) ρ Qs σ:=by
  refine es_cons (um_b K W h0 rfl rfl (es_cons (e_lst (hes fun il hil=>es_nil ?_))))
  have E : Ex [] σ (upd σ il (.list vs)):=Ex.new hil
  refine list_thing K (by exact le_lit ‹_› (by rfl)) (W.mono E) hn (upd_same _ _ _) (by exact le_lit2 ‹_› (by rfl)) (let ⟨xs,e⟩:=hbx; ⟨xs,E.get e⟩) (ht _ E) fun σ' n' mk' v W' hn' hs' E' ht'=>?_
  exact q σ' n' mk' v W' hn' hs' (E.nil.trans E') ht'
theorem go_tab (K : GK g) (hd : 99 ≤ d) {lo:Int} (W : WI σ x n mk rd []) (hbx : ∃ xs,σ bx = some (.list xs)) {l:P} {vs:List V} {r:CEs} {Qs:List V→Sg→Prop} {es:CEs} {ρ:Env'} (h0 : ρ.getD 0 none = some (.ref x.w)) (hes : ∀ {Q' : List V→Sg→Prop},Q' vs σ→wpEs g d es ρ Q' σ)
    (hw : wf l .rs) (hwt : wt l ≤ 1000000) (ht : ∀ σ',PairL σ' ⟨mk,bx,lo,n⟩ l vs) (hn : lo ≤ n)
    (q : ∀ σ' n' mk' v c,WI σ' x n' mk' rd []→n ≤ n'→(∀ p ∈ mk,p ∈ mk')→Ex [x.wd,x.md] σ σ'→ThgIs σ' ⟨mk',bx,lo,n'⟩ (.table l) v c→wpEs g d r ρ (fun vs σ''=>Qs (v :: vs) σ'') σ') : wpEs g d (.cons (.umeth 60 (.var 0) (.cons (.lst es) .nil)) r) ρ Qs σ:=by
  refine es_cons (um_b K W h0 rfl rfl (es_cons (e_lst (hes fun il hil=>es_nil ?_))))
  have E : Ex [] σ (upd σ il (.list vs)):=Ex.new hil
  refine table_of_ok K (by exact Nat.le_of_lt ‹_›) hw hwt (W.mono E) hn (upd_same _ _ _) (let ⟨xs,e⟩:=hbx; ⟨xs,E.get e⟩) (ht _) fun σ' n' mk' v c W' hn' hs' E' ht'=>?_
  exact q σ' n' mk' v c W' hn' hs' (E.nil.trans E') ht'
theorem four_r {r:Nat} (h : r < 4) : r = 0∨r = 1∨r = 2∨r = 3:=by lia
theorem lev_lens {r:Nat} (h : r < 4) : (rowS r).length ≤ 6∧(dotS r).length ≤ 6:=by rcases four_r h with rfl | rfl | rfl | rfl <;> decide
theorem due_len {r l m:Nat} (h : r < 4) : (due0 r l m).length ≤ 10:=by
  obtain ⟨h1,h2⟩:=lev_lens h
  unfold due0
  by_cases h3 : (rowS r).length = 2
  · rw [if_pos h3]; exact Nat.le_trans h1 (by decide)
  · rw [if_neg h3]
    by_cases h4 : l < m
    · rw [if_pos h4]; exact Nat.le_trans h1 (by decide)
    · rw [if_neg h4]; exact Nat.le_trans h2 (by decide)
theorem wrapS_len (k:Nat) (s:List Nat) : (wrapS k s).length = s.length + 2 * k:=by
  induction k with
  | zero=>rfl
  | succ k ih=>simp only [wrapS,List.length_append,List.length_cons,List.length_nil,ih]; lia
theorem lev_due {r lv mo:Nat} {t:V} {Q' : V→Sg→Prop} (hr4 : r < 4) (hq : ∀ σ',Ex [] σ σ'→Q' (.str (due0 r (lv + 1) mo)) σ') : wpE g (d - 1) (.ite (.or (.cons (.cmp .Eq (.call .len (.cons (.var 2) .nil)) (.k (.int 2))) (.cons (.cmp .Lt (.var 5) (.var 6)) .nil))) (.var 2) (.idx (.dct [[91,49,93],[123,97,58,32,49,125]] (.cons (.k (.str [91,46,46,46,93])) (.cons (.k (.str [123,46,46,46,125])) .nil))) (.var 2)))
      [some (.ref x.w),some (.ref bx),some (.str (rowS r)),some (.str []),some t,some (.int (1 + (lv:Int))),some (.int (mo:Int)),none,none] Q' σ:=by
  have hrl:=(lev_lens hr4).1
  unfold due0 at hq
  walk_at "w"
  refine f_lens (by exact le_lit2 ‹_› (by rfl)) ?_
  walk_at "w"
  refine if_d (fun h=>?_) fun h=>?_
  · rw [if_pos (by lia)] at hq
    walk_at "w"
    exact hq σ (Ex.refl _ _)
  · rw [if_neg (by lia)] at hq
    walk_at "w"
    refine if_d (fun h2=>?_) fun h2=>?_
    · rw [if_pos (by lia)] at hq
      walk_at "w"
      exact hq σ (Ex.refl _ _)
    · rw [if_neg (by lia)] at hq
      walk_at "w"
      intro l hl
      have hr : r = 1∨r = 3:=by
        rcases four_r hr4 with rfl | rfl | rfl | rfl
        · exact absurd rfl h
        · exact .inl rfl
        · exact absurd rfl h
        · exact .inr rfl
      rcases hr with rfl | rfl
      · refine e_var rfl (ix_d (upd_same _ _ _) rfl ?_)
        exact hq _ (Ex.new hl)
      · refine e_var rfl (ix_d (upd_same _ _ _) rfl ?_)
        exact hq _ (Ex.new hl)
inductive LevI (x : Wd) (bx:Addr) (n:Int) (r lv mo:Nat) (t:V) (ys:List V) (ρ' : Env') (σ' : Sg):Prop
  | mk (i:Nat) (n' : Int) (mk' : Mk) (t' : V) (c' : Code) (v8:Option V) (hρ : ρ' = [some (.ref x.w),some (.ref bx),some (.str (rowS r)),some (.str (wrapS i (due0 r (lv + 1) mo))),some t,some (.int (1 + (lv:Int))),some (.int (mo:Int)),some t',v8]) (W : WI σ' x n' mk' true []) (hn : n ≤ n') (ht : ThgIs σ' ⟨mk',bx,n,n'⟩ (nestP i (rowP r)) t' c') (hl : i + ys.length = lv + 1) (hbx : ∃ xs,σ' bx = some (.list xs))
theorem levels_ok (K : GK g) (hd : 120 ≤ d) (W : WI σ x n mk true []) (B : IsBox σ bx sc R) (q : ∀ σ' n' mk',WI σ' x n' mk' true []→Q (.bool true) σ') : UCall g d (.ref 740) [.ref x.w, .ref bx] Q σ:=by
  refine fnc K (by exact le_lit ‹_› (by rfl)) rfl [some (.ref x.w),some (.ref bx),none,none,none,none,none,none,none] rfl rfl ?_
  have hb : big = 16777216:=rfl
  refine s_unp (es_cons (pick_take K (by exact le_litp ‹_› (by rfl)) (vs:=[.str (rowS 0), .str (rowS 1), .str (rowS 2), .str (rowS 3)]) rfl rfl (by decide) (by decide) B fun σ₁ v r hv hvx hr0 hr1 _ B₁ E₁=>?_))
  obtain ⟨r,rfl⟩:=Int.eq_ofNat_of_zero_le hr0
  have hr4 : r < 4:=by lia
  have ev : v = .str (rowS r):=by
    rcases four_r hr4 with rfl | rfl | rfl | rfl <;> (cases hvx; rfl)
  subst ev
  obtain ⟨xs0,hbx0⟩:=B.live
  have W₁:=W.exL hbx0 E₁
  clear hv hvx hr1 hr0 W
  refine es_cons (e_k (es_nil ⟨rfl,?_⟩))
  refine s_set (e_idx (e_dct ?_))
  refine go_list K (by exact le_litp ‹_› (by rfl)) (lo:=n) W₁ B₁.live (l:=.nil) (cs:=[]) rfl (fun h=>es_nil h) (fun σ' _=>⟨rfl,rfl⟩) (Int.le_refl _) (by exact Nat.zero_le _) fun σ₂ n₂ mk₂ t0 W₂ hn2 hs2 E₂ ht0=>?_
  have B₂:=B₁.world W₁ E₂
  refine go_list K (by exact le_litp ‹_› (by rfl)) (lo:=n) W₂ B₂.live (l:=.cons (.int 1) .nil) (cs:=[.int 1]) rfl (fun h=>es_cons (e_k (es_nil h))) (fun σ' _=>⟨.int 1,[], .int 1,[],rfl,rfl,⟨rfl,rfl⟩,⟨rfl,rfl⟩⟩) hn2 (by exact Nat.succ_pos _) fun σ₃ n₃ mk₃ t1 W₃ hn3 hs3 E₃ ht1=>?_
  have B₃:=B₂.world W₂ E₃
  refine go_tab K (by exact le_litp ‹_› (by rfl)) (lo:=n) W₃ B₃.live (l:=.nil) rfl (fun h=>es_nil h) (fun h=>nomatch h) (by simp) (fun σ'=>rfl) (by exact Int.le_trans ‹_› ‹_›) fun σ₄ n₄ mk₄ t2 c2 W₄ hn4 hs4 E₄ ht2=>?_
  have B₄:=B₃.world W₃ E₄
  refine go_tab K (by exact le_litp ‹_› (by rfl)) (lo:=n) W₄ B₄.live (l:=.row (.sym [97]) (.int 1) .nil) rfl (fun h=>es_cons (e_tup (es_cons (e_k (es_cons (e_k (es_nil (es_nil h)))))))) row3 (by simp) (fun σ'=>⟨.str [97], .int 1, .sym [97], .int 1,[],rfl,⟨rfl,rfl⟩,⟨rfl,rfl⟩,rfl⟩) (by exact Int.le_trans ‹_› (Int.le_trans ‹_› ‹_›)) fun σ₅ n₅ mk₅ t3 c3 W₅ hn5 hs5 E₅ ht3=>?_
  have B₅:=B₄.world W₄ E₅
  refine es_nil fun dl hdl=>?_
  have k23:=Kp.step (bx:=bx) (lo:=n) W₂ E₃ hs3 hn3
  have k34:=Kp.step (bx:=bx) (lo:=n) W₃ E₄ hs4 hn4
  have k45:=Kp.step (bx:=bx) (lo:=n) W₄ E₅ hs5 hn5
  have four : ∃ t c,(([[91,93],[91,49,93],[123,125],[123,97,58,32,49,125]].zip [t0,t1,t2,t3]).find? fun p=>decide (p.1 = rowS r)) = some (rowS r,t)∧ThgIs σ₅ ⟨mk₅,bx,n,n₅⟩ (rowP r) t c:=by
    rcases four_r hr4 with rfl | rfl | rfl | rfl
    · exact ⟨t0,_,rfl,((ht0.keep k23).keep k34).keep k45⟩
    · exact ⟨t1,_,rfl,(ht1.keep k34).keep k45⟩
    · exact ⟨t2,_,rfl,ht2.keep k45⟩
    · exact ⟨t3,_,rfl,ht3⟩
  obtain ⟨t,c,hf,ht⟩:=four
  refine e_var rfl (ix_d (upd_same _ _ _) hf ?_)
  have E₆ : Ex [] σ₅ (upd σ₅ dl (.sdict ([[91,93],[91,49,93],[123,125],[123,97,58,32,49,125]].zip [t0,t1,t2,t3]))):=Ex.new hdl
  have W₆:=W₅.mono E₆
  have B₆:=B₅.pure E₆
  have ht6:=ht.keep (Kp.pure E₆ _)
  generalize (upd σ₅ dl (.sdict ([[91,93],[91,49,93],[123,125],[123,97,58,32,49,125]].zip [t0,t1,t2,t3]))) = σ₆ at *
  clear W₁ B₁ W₂ B₂ W₃ B₃ W₄ B₄ W₅ B₅ ht ht0 ht1 ht2 ht3 k23 k34 k45 E₁ E₂ E₃ E₄ E₅ E₆ hf
  walk_at "w"
  refine take_ok K (by exact le_litp ‹_› (by rfl)) (by decide) B₆ fun σ₇ lv hl0 hl4 _ B₇ E₇=>?_
  obtain ⟨xs6,hbx6⟩:=B₆.live
  have W₇:=W₆.exL hbx6 E₇
  have ht7:=ht6.keep (Kp.box (T:=⟨mk₅,bx,n,n₅⟩) hbx6 E₇)
  walk_at "w"
  refine take_ok K (by exact le_litp ‹_› (by rfl)) (by decide) B₇ fun σ₈ mo hm0 hm5 _ B₈ E₈=>?_
  obtain ⟨xs7,hbx7⟩:=B₇.live
  have W₈:=W₇.exL hbx7 E₈
  have ht8:=ht7.keep (Kp.box (T:=⟨mk₅,bx,n,n₅⟩) hbx7 E₈)
  obtain ⟨lv,rfl⟩:=Int.eq_ofNat_of_zero_le hl0
  obtain ⟨mo,rfl⟩:=Int.eq_ofNat_of_zero_le hm0
  walk_at "w"
  refine ⟨rfl,?_⟩
  clear W₆ B₆ W₇ B₇ ht6 ht7 E₇ E₈ hbx6 hbx7
  refine s_set (lev_due hr4 fun σ₉ E₉=>?_)
  have W₉:=W₈.mono E₉
  have B₉:=B₈.pure E₉
  have ht9:=ht8.keep (Kp.pure E₉ ⟨mk₅,bx,n,n₅⟩)
  clear W₈ B₈ ht8 E₉
  refine s_set (e_var rfl (s_for (e_callb (fun _ _=>rfl) (es_cons (e_var rfl (es_nil (f_range ⟨by exact Int.ofNat_nonneg _,by lia⟩ (src_r ⟨by simp; lia,?_⟩))))))))
  have en : ((1 + (lv:Int))).toNat = lv + 1:=by simp +arith [*]
  rw [en]
  have hd0:=due_len (l:=lv + 1) (m:=mo) hr4
  refine forW_rule (LevI x bx n r lv mo t)
    (fun _ _ _ _=>rfl) (fun y ys ρ' σ' Kc h hK=>?_) (fun ρ' σ' h=>?_) ⟨0,n₅,mk₅,t,c,none,rfl,W₉,by lia,ht9,by simp,B₉.live⟩
  · obtain ⟨i,n',mk',t',c',v8,rfl,W',hn',ht',hi,hbx⟩:=h
    simp only [List.length_cons] at hi
    show wpSs g _ _ [some (.ref x.w),some (.ref bx),some (.str (rowS r)),some (.str (wrapS i (due0 r (lv + 1) mo))),some t,some (.int (1 + (lv:Int))),some (.int (mo:Int)),some t',some y] _ _ _
    refine s_set (um_b K W' rfl rfl rfl (es_cons (e_lst (es_cons (e_var rfl (es_nil fun il hil=>es_nil ?_))))))
    have E : Ex [] σ' (upd σ' il (.list [t'])):=Ex.new hil
    refine list_thing K (by exact le_litp ‹_› (by rfl)) (lo:=n) (l:=.cons (nestP i (rowP r)) .nil) (cs:=[c']) (W'.mono E) hn' (upd_same _ _ _) (by exact Nat.succ_pos _) (let ⟨xs,e⟩:=hbx; ⟨xs,E.get e⟩) ⟨t',[],c',[],rfl,rfl,ht'.keep (Kp.pure E _),⟨rfl,rfl⟩⟩ fun σ'' n'' mk'' v'' W'' hn'' hs'' E'' ht''=>?_
    have:=wrapS_len i (due0 r (lv + 1) mo)
    walk_at "w"
    refine b_adds (by simp only [List.length_cons,List.length_nil]; lia) ?_
    walk_at "w"
    refine b_adds (by simp only [List.length_append,List.length_cons,List.length_nil]; lia) ?_
    refine s_nil (hK _ _ ⟨i + 1,n'',mk'',v'',_,some y,rfl,W'',by exact Int.le_trans ‹_› ‹_›,ht'',by lia,let ⟨xs,e⟩:=hbx; ⟨xs,list_world (W'.mono E) E'' (E.get e)⟩⟩)
  · obtain ⟨i,n',mk',t',c',v8,rfl,W',hn',ht',hi,hbx⟩:=h
    simp only [List.length_nil,Nat.add_zero] at hi
    subst hi
    have hwn:=nest_wf (row_wf r).1 (lv + 1)
    have hdn:=(row_wf r).2.1
    have hwtn:=(row_wf r).2.2
    have fin : ∀ ds,ds = dueS r (lv + 1) mo→wpSs g (d - 1) (.cons (.ret (.cmp .Eq (.call (.u 331) (.cons (.var 7) (.cons (.var 6) .nil))) (.var 3))) .nil)
        [some (.ref x.w),some (.ref bx),some (.str (rowS r)),some (.str ds),some t,some (.int (1 + (lv:Int))),some (.int (mo:Int)),some t',v8] (fun _ σ'=>Q .none σ') Q σ':=fun ds e=>by
      walk_at "w"
      refine show_aux K 6 (.inl rfl) (by lia) (by exact le_litp ‹_› (by rfl)) hwn.1 (by lia) ht' fun σ₂ E₂=>?_
      walk_at "w"
      rw [e,due_ok hr4 (by lia) (by lia),decide_eq_true rfl]
      exact q σ₂ n' mk' (W'.mono E₂)
    walk_at "w"
    refine if_d (fun hlt=>?_) fun hlt=>?_
    · have hlt : mo < lv + 1:=by lia
      have e1 : ((mo:Int)).toNat = mo:=by rfl
      have hrep : ∀ z:Nat,((List.replicate mo [z]).flatten).length = mo:=fun z=>by simp
      walk_at "w"
      refine b_muls ⟨by assumption,by lia,by decide⟩ ?_
      rw [e1]
      walk_at "w"
      refine b_adds (by rw [hrep]; simp only [List.length_cons,List.length_nil]; lia) ?_
      walk_at "w"
      refine b_muls ⟨by assumption,by lia,by decide⟩ ?_
      rw [e1]
      refine b_adds (by rw [List.length_append,hrep,hrep]; simp only [List.length_cons,List.length_nil]; lia) ?_
      exact fin _ (by unfold dueS; rw [if_pos hlt])
    · refine s_nil ?_
      exact fin _ (by unfold dueS; rw [if_neg (by lia)])
end
abbrev nmKeyError:List Nat:=[75,101,121,69,114,114,111,114]
abbrev nmTypeError:List Nat:=[84,121,112,101,69,114,114,111,114]
theorem names_short : (names.all fun s=>decide (s.length ≤ 100)) = true:=by decide +kernel
theorem name_short {nm:List Nat} (h : nm ∈ names) : nm.length ≤ 100:=by simpa using List.all_eq_true.mp names_short nm h
section
variable {g:G} {x : Wd} {d:Nat} {σ:Sg} {Q:V→Sg→Prop} {n:Int} {mk : Mk} {rd:Bool} {ip:List (List Nat)}
theorem show_mod (K : GK g) (hd : 4 ≤ d) {nm:List Nat} {a:Addr} (W : WI σ x n mk rd ip) (ha : (nm,a) ∈ mk) (q : Q (.str nm) σ) : UCall g d (.ref 331) [.ref a] Q σ:=by
  obtain ⟨dd,fs,e1,e2,F,_⟩:=(W.md _ ha).ex
  refine show_th K (by exact le_lit ‹_› (by rfl)) (.inr ⟨rfl,rfl⟩) e1 e2 rfl fun d' e=>?_
  obtain ⟨d',rfl⟩ : ∃ e,d' = e + 1:=⟨d' - 1,by lia⟩
  refine fnc K (by exact Nat.succ_pos _) rfl [some (.ref a),some (.int 6),none] rfl rfl ?_
  walk_at "w"
  exact full_name_ok K (by lia) e1 e2 F q
theorem show_owned (K : GK g) (hd : 5 ≤ d) {nm s:List Nat} {a m C dd:Addr} {fs:List (Nat × V)} (W : WI σ x n mk rd ip) (hm : (nm,m) ∈ mk) (e1 : σ a = some (.inst C dd)) (e2 : σ dd = some (.idict fs)) (f1 : flk fs 1 = some (.ref m))
    (hc : (C = 181∧((flk fs 22 = some .none∧s = [35,60] ++ nm ++ [58,32] ++ nm ++ [62])∨∃ b bd gs t,flk fs 22 = some (.ref b)∧σ b = some (.inst 62 bd)∧σ bd = some (.idict gs)∧flk gs 6 = some (.str t)∧t.length ≤ 1000∧s = if t = [] then nm else [35,60] ++ nm ++ [58,32] ++ t ++ [62]))∨
      (C = 161∧∃ b,flk fs 20 = some (.bool b)∧s = bif b then [35,60,80,114,111,99,32,40,108,97,109,98,100,97,41,62] else [35,60,80,114,111,99,62])∨(C = 40∧s = [35,60] ++ nm ++ [62]))
    (q : Q (.str s) σ) : UCall g d (.ref 331) [.ref a] Q σ:=by
  obtain ⟨md,ms,m1,m2,F,_⟩:=(W.md _ hm).ex
  have hs : nm.length ≤ 100:=name_short (W.nm _ hm)
  have hb : big = 16777216:=rfl
  rcases hc with ⟨rfl,hc⟩ | ⟨rfl,b,f20,rfl⟩ | ⟨rfl,rfl⟩
  · refine show_th K (by exact le_lit ‹_› (by rfl)) (.inr ⟨rfl,rfl⟩) e1 e2 rfl fun d' e=>?_
    obtain ⟨d',rfl⟩ : ∃ e,d' = e + 1:=⟨d' - 1,by lia⟩
    refine fnc K (by exact Nat.succ_pos _) rfl [some (.ref a),some (.int 6),none] rfl rfl ?_
    walk_at "w"
    refine full_name_ok K (by lia) m1 m2 F ?_
    walk_at "w"
    obtain ⟨d',rfl⟩ : ∃ e,d' = e + 1:=⟨d' - 1,by lia⟩
    refine fnc K (by exact Nat.succ_pos _) rfl [some (.ref a),some (.str nm),some (.int 6),none,none] rfl rfl ?_
    rcases hc with ⟨f22,rfl⟩ | ⟨b,bd,gs,t,f22,b1,b2,g6,ht,rfl⟩
    · walk_at "w"
      refine b_adds (by simp only [List.length_cons,List.length_nil]; lia) ?_
      walk_at "w"
      refine b_adds (by simp only [List.length_append,List.length_cons,List.length_nil]; lia) ?_
      walk_at "w"
      refine b_adds (by simp only [List.length_append,List.length_cons,List.length_nil]; lia) ?_
      walk_at "w"
      refine b_adds (by simp only [List.length_append,List.length_cons,List.length_nil]; lia) ?_
      exact q
    · walk_at "w"
      refine if_d (fun h=>?_) fun h=>?_
      · rw [if_pos h] at q
        walk_at "w"
        exact q
      · rw [if_neg h] at q
        walk_at "w"
        refine b_adds (by simp only [List.length_cons,List.length_nil]; lia) ?_
        walk_at "w"
        refine b_adds (by simp only [List.length_append,List.length_cons,List.length_nil]; lia) ?_
        walk_at "w"
        refine b_adds (by simp only [List.length_append,List.length_cons,List.length_nil]; lia) ?_
        walk_at "w"
        refine b_adds (by simp only [List.length_append,List.length_cons,List.length_nil]; lia) ?_
        exact q
  · refine show_th K (by exact le_lit ‹_› (by rfl)) (.inr ⟨rfl,rfl⟩) e1 e2 rfl fun d' e=>?_
    obtain ⟨d',rfl⟩ : ∃ e,d' = e + 1:=⟨d' - 1,by lia⟩
    refine fnc K (by exact Nat.succ_pos _) rfl [some (.ref a),some (.int 6),none] rfl rfl ?_
    walk_at "w"
    refine full_name_ok K (by lia) m1 m2 F ?_
    walk_at "w"
    cases b <;> (walk_at "w"; exact q)
  · refine show_th K (by exact le_lit ‹_› (by rfl)) (.inr ⟨rfl,rfl⟩) e1 e2 rfl fun d' e=>?_
    obtain ⟨d',rfl⟩ : ∃ e,d' = e + 1:=⟨d' - 1,by lia⟩
    refine fnc K (by exact Nat.succ_pos _) rfl [some (.ref a),some (.int 6),none] rfl rfl ?_
    walk_at "w"
    refine full_name_ok K (by lia) m1 m2 F ?_
    walk_at "w"
    refine b_adds (by simp only [List.length_cons,List.length_nil]; lia) ?_
    walk_at "w"
    refine b_adds (by simp only [List.length_append,List.length_cons,List.length_nil]; lia) ?_
    exact q
theorem strs_dat (σ:Sg) : ∀ ss:List (List Nat),DatIs σ (.tup (ss.map .str)) (.tuple (ss.map fun s=>.str (mkS s)))
  | []=>.tnil
  | s :: r=>.tcons (.str s) (strs_dat σ r)
noncomputable def spoken:List (List Nat):=[[35,60,75,101,121,69,114,114,111,114,58,32,109,10,34,113,62],nmTypeError,[35,60,73,110,100,101,120,69,114,114,111,114,58,32,73,110,100,101,120,69,114,114,111,114,62],nmArray,[35,60,79,98,106,101,99,116,62],[35,60,80,114,111,99,62],[35,60,80,114,111,99,32,40,108,97,109,98,100,97,41,62]]
theorem spoken_shape : PySem.SeqAt.shaped (.list (spoken.map fun s=>.str (mkS s))) = true:=by decide +kernel
theorem named_ok (K : GK g) (hd : 120 ≤ d) (W : WI σ x n mk true []) (q : ∀ σ',Q (.bool true) σ') : UCall g d (.ref 747) [.ref x.w] Q σ:=by
  refine fnc K (by exact le_lit ‹_› (by rfl)) rfl [some (.ref x.w),none,none,none,none,none,none] rfl rfl ?_
  refine s_unp (es_cons (um_b K W rfl rfl rfl (es_cons (e_k (es_cons (e_k (es_nil ?_)))))))
  refine error_ok K (by exact le_litp ‹_› (by rfl)) (by decide +kernel) W fun σ₁ n₁ mk₁ a dd m r b bd u1 u2 W₁ hs1 E₁ hm1 a1 a2 b1 b2=>?_
  refine es_cons (um_b K W₁ rfl rfl rfl (es_cons (e_k (es_cons (e_k (es_nil ?_))))))
  refine error_ok K (by exact le_litp ‹_› (by rfl)) (by decide +kernel) W₁ fun σ₂ n₂ mk₂ a' dd' m' r' b' bd' u1' u2' W₂ hs2 E₂ hm2 a1' a2' b1' b2'=>?_
  refine es_nil ⟨rfl,?_⟩
  have stay : ∀ {σ σ' : Sg} {n:Int} {mk : Mk},WI σ x n mk true []→Ex [x.wd,x.md] σ σ'→∀ {a C dd:Addr} {fs:List (Nat × V)} {v:V} {i:Nat},i < 35→σ a = some (.inst C dd)→σ dd = some (.idict fs)→flk fs i = some v→σ' a = some (.inst C dd)∧σ' dd = some (.idict fs):=fun {σ σ' n mk} W E {a C dd fs v i} hi h1 h2 h3=>by
    obtain ⟨z1,z2,z3,z4⟩:=W.apart hi h1 h2 h3
    exact ⟨E _ _ h1 (by simp [z1,z2]),E _ _ h2 (by simp [z3,z4])⟩
  obtain ⟨a1,a2⟩:=stay W₁ E₂ (i:=0) (by decide) a1 a2 rfl
  obtain ⟨b1,b2⟩:=stay W₁ E₂ (i:=6) (by decide) b1 b2 rfl
  have hm1:=hs2 _ hm1
  refine s_set (um_b K W₂ rfl rfl rfl (es_cons (um_b K W₂ rfl rfl rfl (es_cons (e_k (es_nil ?_))))))
  refine builtin_ok K (by exact le_litp ‹_› (by rfl)) (by decide +kernel) W₂ fun σ₃ n₃ mk₃ mi W₃ hn3 hs3 hm3 E₃=>?_
  obtain ⟨a1,a2⟩:=stay W₂ E₃ (i:=0) (by decide) a1 a2 rfl
  obtain ⟨b1,b2⟩:=stay W₂ E₃ (i:=6) (by decide) b1 b2 rfl
  obtain ⟨a1',a2'⟩:=stay W₂ E₃ (i:=0) (by decide) a1' a2' rfl
  obtain ⟨b1',b2'⟩:=stay W₂ E₃ (i:=6) (by decide) b1' b2' rfl
  refine es_nil (thing_index K (by exact le_litp ‹_› (by rfl)) W₃ hm3 fun σ₄ c cd rc W₄ E₄ c1 c2=>?_)
  obtain ⟨a1,a2⟩:=stay W₃ E₄ (i:=0) (by decide) a1 a2 rfl
  obtain ⟨b1,b2⟩:=stay W₃ E₄ (i:=6) (by decide) b1 b2 rfl
  obtain ⟨a1',a2'⟩:=stay W₃ E₄ (i:=0) (by decide) a1' a2' rfl
  obtain ⟨b1',b2'⟩:=stay W₃ E₄ (i:=6) (by decide) b1' b2' rfl
  have hm1:=hs3 _ hm1
  have hm2:=hs3 _ hm2
  refine s_set (e_lst (es_cons (e_callu (es_cons (e_var rfl (es_nil ?_))))))
  refine show_owned K (by exact le_litp ‹_› (by rfl)) W₄ hm1 a1 a2 rfl (.inl ⟨rfl, .inr ⟨b,bd,_,[109,10,34,113],rfl,b1,b2,rfl,by decide,rfl⟩⟩) ?_
  refine es_cons (e_callu (es_cons (e_var rfl (es_nil ?_))))
  refine show_owned K (by exact le_litp ‹_› (by rfl)) W₄ hm2 a1' a2' rfl (.inl ⟨rfl, .inr ⟨b',bd',_,[],rfl,b1',b2',rfl,by decide,rfl⟩⟩) ?_
  refine es_cons (e_callu (es_cons (e_var rfl (es_nil ?_))))
  refine show_owned K (by exact le_litp ‹_› (by rfl)) W₄ hm3 c1 c2 rfl (.inl ⟨rfl, .inl ⟨rfl,rfl⟩⟩) ?_
  refine es_cons (e_callu (es_cons (um_b K W₄ rfl rfl rfl (es_cons (e_k (es_nil ?_))))))
  refine builtin_ok K (by exact le_litp ‹_› (by rfl)) (by decide +kernel) W₄ fun σ₅ n₅ mk₅ ma W₅ hn5 hs5 hm5 E₅=>?_
  refine es_nil (show_mod K (by exact le_litp ‹_› (by rfl)) W₅ hm5 ?_)
  refine es_cons (e_callu (es_cons (um_b K W₅ rfl rfl rfl (es_cons (um_b K W₅ rfl rfl rfl (es_cons (e_k (es_nil ?_))))))))
  refine builtin_ok K (by exact le_litp ‹_› (by rfl)) (by decide +kernel) W₅ fun σ₆ n₆ mk₆ mo W₆ hn6 hs6 hm6 E₆=>?_
  refine es_nil (thing_object K (by exact le_litp ‹_› (by rfl)) W₆ hm6 fun σ₇ o od ro W₇ E₇ o1 o2=>?_)
  refine es_nil (show_owned K (by exact le_litp ‹_› (by rfl)) W₇ hm6 o1 o2 rfl (.inr (.inr ⟨rfl,rfl⟩)) ?_)
  refine es_nil fun l1 hl1=>?_
  have W₈:=W₇.mono (Ex.new (o:=.list ((spoken.take 5).map .str)) hl1)
  have f8 : (upd σ₇ l1 (.list ((spoken.take 5).map V.str))) l1 = some (.list ((spoken.take 5).map .str)):=upd_same _ _ _
  change wpSs g _ _ _ _ _ (upd σ₇ l1 (.list ((spoken.take 5).map V.str)))
  generalize (upd σ₇ l1 (.list ((spoken.take 5).map V.str))) = σ₈ at *
  refine s_set (um_b K W₈ rfl rfl rfl (es_cons (e_k (es_cons (e_k (es_cons (e_k (es_cons (e_k (es_cons (e_tup (es_nil (es_cons (e_k (es_cons (e_k (es_cons (e_k (es_cons (e_k (es_nil ?_)))))))))))))))))))))
  refine proc_ok K (by exact le_litp ‹_› (by rfl)) W₈ fun σ₉ n₉ mk₉ p pd mp fs W₉ hs9 E₉ hm9 p1 p2 p3 p4=>?_
  have f9:=list_world W₈ E₉ f8
  refine s_set (e_bin (e_var rfl (e_lst (es_cons (e_callu (es_cons (e_var rfl (es_nil ?_))))))))
  refine show_owned K (by exact le_litp ‹_› (by rfl)) W₉ hm9 p1 p2 p3 (.inr (.inl ⟨rfl,false,p4,rfl⟩)) ?_
  refine es_cons (e_callu (es_cons (um_b K W₉ rfl rfl rfl (es_cons (e_k (es_cons (e_k (es_cons (e_k (es_cons (e_k (es_cons (e_tup (es_nil (es_cons (e_k (es_cons (e_k (es_cons (e_k (es_cons (e_k (es_nil ?_)))))))))))))))))))))))
  refine proc_ok K (by exact le_litp ‹_› (by rfl)) W₉ fun σa na mka p' pd' mp' fs' Wa hsa Ea hma q1 q2 q3 q4=>?_
  have fa:=list_world W₉ Ea f9
  refine es_nil (show_owned K (by exact le_litp ‹_› (by rfl)) Wa hma q1 q2 q3 (.inr (.inl ⟨rfl,true,q4,rfl⟩)) ?_)
  refine es_nil fun l2 hl2=>?_
  refine b_addl (upd_old hl2 fa) (upd_same _ _ _) (by simp [big,spoken]) fun l3 hl3=>?_
  generalize hσ : (upd (upd σa l2 _) l3 _:Sg) = σb
  have fb : σb l3 = some (.list (spoken.map .str)):=by rw [← hσ]; exact upd_same _ _ _
  clear hσ
  walk_at "w"
  intro l4 hl4
  have fb4:=upd_old (o':=.list ((spoken.take 6).map .str)) hl4 fb
  have f4 : (upd σb l4 (.list ((spoken.take 6).map V.str))) l4 = some (.list ((spoken.take 6).map .str)):=upd_same _ _ _
  change wpSs g _ _ _ _ _ (upd σb l4 (.list ((spoken.take 6).map V.str)))
  generalize (upd σb l4 (.list ((spoken.take 6).map V.str))) = σc at *
  refine s_ret (e_cmp (e_var rfl (e_bin (e_var rfl (e_lst (es_cons (e_k (es_nil fun l5 hl5=>?_))))))))
  refine b_addl (upd_old hl5 f4) (upd_same _ _ _) (by simp [big,spoken]) fun l6 hl6=>?_
  generalize hσ : (upd (upd σc l5 _) l6 _:Sg) = σd
  have fd : σd l6 = some (.list (spoken.map .str)):=by rw [← hσ]; exact upd_same _ _ _
  have fd3 : σd l3 = some (.list (spoken.map .str)):=by rw [← hσ]; exact upd_old hl6 (upd_old hl5 fb4)
  clear hσ
  refine c_eqd (.list fd3 (strs_dat _ _)) (.list fd (strs_dat _ _)) spoken_shape spoken_shape ?_
  have : PyData.eqv (.list (spoken.map fun s=>.str (mkS s))) (.list (spoken.map fun s=>.str (mkS s))) = true:=PySem.SeqAt.eqv_refl _ (PySem.SeqAt.canLay_of_shaped spoken_shape)
  rw [this]
  exact q σd
end
noncomputable def flatP:P→Bool
  | .int _=>true | .sym _=>true | .nul=>true | .bool _=>true | _=>false
theorem ThgIs.kind {σ:Sg} {T : TE} {p:P} {v:V} {c : Code} (hw : wf p .it) (h : ThgIs σ T p v c) : (flatP p = true∧flat v = true∧∀ σ' T' v' c',ThgIs σ' T' p v' c'→v' = v)∨
    (flatP p = false∧∃ a C dd fs k,v = .ref a∧σ a = some (.inst C dd)∧σ dd = some (.idict fs)∧clsL.contains C = true∧attOk C 0 = true∧NumI fs T k):=by
  cases p with
  | int n=>exact .inl ⟨rfl,by rw [h.1]; rfl,fun _ _ _ _ h'=>by rw [h.1,h'.1]⟩
  | sym n=>exact .inl ⟨rfl,by rw [h.1]; rfl,fun _ _ _ _ h'=>by rw [h.1,h'.1]⟩
  | nul=>exact .inl ⟨rfl,by rw [h.1]; rfl,fun _ _ _ _ h'=>by rw [h.1,h'.1]⟩
  | bool b=>exact .inl ⟨rfl,by rw [h.1]; rfl,fun _ _ _ _ h'=>by rw [h.1,h'.1]⟩
  | text s=>obtain ⟨_,a,fs,k,_,_,rfl,⟨dd,e1,e2⟩,h2,_⟩:=h; exact .inr ⟨rfl,a,62,dd,fs,k,rfl,e1,e2,rfl,rfl,h2⟩
  | range _ _ _=>obtain ⟨a,fs,k,_,_,_,_,rfl,_,⟨dd,e1,e2⟩,h2,_⟩:=h; exact .inr ⟨rfl,a,140,dd,fs,k,rfl,e1,e2,rfl,rfl,h2⟩
  | list _=>obtain ⟨a,fs,k,_,_,_,rfl,_,⟨dd,e1,e2⟩,h2,_⟩:=h; exact .inr ⟨rfl,a,82,dd,fs,k,rfl,e1,e2,rfl,rfl,h2⟩
  | table _=>obtain ⟨a,fs,k,_,_,_,rfl,_,⟨dd,e1,e2⟩,h2,_⟩:=h; exact .inr ⟨rfl,a,120,dd,fs,k,rfl,e1,e2,rfl,rfl,h2⟩
  | nil=>exact absurd rfl hw
  | cons _ _=>cases hw.1
  | row _ _ _=>cases hw.1
theorem flatEq_self {v:V} (h : flat v = true) : flatEq v v = true:=by cases v <;> first | (cases h; done) | simp [flatEq]
theorem flat_tag {p:P} (hw : wf p .it) : (tagOf p ∈ ([sI,sSym,sWord] : List (List Nat))) ↔ flatP p = true:=by
  cases p with
  | nil=>exact absurd rfl hw
  | cons _ _=>cases hw.1
  | row _ _ _=>cases hw.1
  | int _=>exact (by decide : sI ∈ ([sI,sSym,sWord] : List (List Nat)) ↔ true = true)
  | sym _=>exact (by decide : sSym ∈ ([sI,sSym,sWord] : List (List Nat)) ↔ true = true)
  | nul=>exact (by decide : sWord ∈ ([sI,sSym,sWord] : List (List Nat)) ↔ true = true)
  | bool _=>exact (by decide : sWord ∈ ([sI,sSym,sWord] : List (List Nat)) ↔ true = true)
  | text _=>exact (by decide : sText ∈ ([sI,sSym,sWord] : List (List Nat)) ↔ false = true)
  | range _ _ _=>exact (by decide : sRange ∈ ([sI,sSym,sWord] : List (List Nat)) ↔ false = true)
  | list _=>exact (by decide : sList ∈ ([sI,sSym,sWord] : List (List Nat)) ↔ false = true)
  | table _=>exact (by decide : sTable ∈ ([sI,sSym,sWord] : List (List Nat)) ↔ false = true)
theorem codeis_key {lo hi:Int} (p:P) : (∀ c,wf p .it→CodeIs lo hi p c→Key (2 * dep p + 1) c.data)∧(∀ c,wf p .ls→CodeIs lo hi p c→c = .list c.cs∧Keys (2 * dep p + 1) (Code.datas c.cs)):=by
  have flat : ∀ {p:P},noTab p = true→∀ c,wf p .it→c = codeP p→Key (2 * dep p + 1) c.data:=fun {p} hn c hw h=>by rw [h]; exact (code_key p hn).1 hw
  induction p with
  | int n=>exact ⟨flat rfl,fun _ h=>nomatch h.1⟩
  | text s=>exact ⟨flat rfl,fun _ h=>nomatch h.1⟩
  | sym s=>exact ⟨flat rfl,fun _ h=>nomatch h.1⟩
  | nul=>exact ⟨flat rfl,fun _ h=>nomatch h⟩
  | bool b=>exact ⟨flat rfl,fun _ h=>nomatch h⟩
  | nil=>exact ⟨fun _ h=>absurd rfl h,fun c _ h=>by rw [show c = .list [] from h]; exact ⟨rfl, .nil⟩⟩
  | range a b o _ _=>exact ⟨fun c hw h=>flat (range_noTab hw.2) c hw h,fun _ h=>nomatch h.1⟩
  | list l ih=>
    refine ⟨fun c hw h=>?_,fun _ h=>nomatch h.1⟩
    obtain ⟨e,k⟩:=ih.2 c hw.2 h
    rw [e]
    exact .tag (by decide) (.tup k)
  | table l _=>
    refine ⟨fun c hw h=>?_,fun _ h=>nomatch h.1⟩
    obtain ⟨k,rfl,_⟩:=h
    exact (Key.tag (n:=0) (by decide) ⟨rfl,Nat.zero_le _⟩).mono (Nat.le_add_left 1 _)
  | cons h t ih1 ih2=>
    refine ⟨fun _ h=>(nomatch h.1),fun c hw q=>?_⟩
    obtain ⟨d,ds,rfl,h1,h2⟩:=q
    exact ⟨rfl, .cons ((ih1.1 d hw.2.1 h1).mono (twoK (Nat.le_max_left _ _))) ((ih2.2 _ hw.2.2 h2).2.mono (twoK (Nat.le_max_right _ _)))⟩
  | row _ _ _ _ _ _=>exact ⟨fun _ h=>(nomatch h.1),fun _ h=>nomatch h.1⟩
theorem code_shaped {p:P} {c : Code} {lo hi:Int} (hw : wf p .it) (h : CodeIs lo hi p c) (hd : dep p ≤ 10) : PySem.SeqAt.shaped c.data = true:=by
  obtain ⟨l,h⟩:=(codeis_key p).1 c hw h
  exact Bool.and_eq_true_iff.mpr ⟨keyish_lay _ l,decide_eq_true (Nat.le_trans h (Nat.le_trans (twoK hd) (by decide)))⟩
section
variable {g:G} {d:Nat} {σ:Sg} {Q:V→Sg→Prop}
theorem c_eqc {c c' : Code} (h1 : PySem.SeqAt.shaped c.data = true) (h2 : PySem.SeqAt.shaped c'.data = true) (q : ∀ b,(b = true ↔ c = c')→Q (.bool b) σ) : cmpW g .Eq c.toV c'.toV Q σ:=by
  obtain ⟨xs,e⟩:=c.tup
  obtain ⟨ys,e'⟩:=c'.tup
  have d1:=Code.datIs σ c
  have d2:=Code.datIs σ c'
  rw [e] at d1 ⊢; rw [e'] at d2 ⊢
  exact c_eqd d1 d2 h1 h2 (q _ (Code.eqv c c'))
theorem c_nec {c c' : Code} (h1 : PySem.SeqAt.shaped c.data = true) (h2 : PySem.SeqAt.shaped c'.data = true) (q : ∀ b,(b = true ↔ c = c')→Q (.bool (!b)) σ) : cmpW g .NotEq c.toV c'.toV Q σ:=by
  obtain ⟨xs,e⟩:=c.tup
  obtain ⟨ys,e'⟩:=c'.tup
  have d1:=Code.datIs σ c
  have d2:=Code.datIs σ c'
  rw [e] at d1 ⊢; rw [e'] at d2 ⊢
  exact c_ned d1 d2 h1 h2 (q _ (Code.eqv c c'))
theorem same_self (K : GK g) (hd : 2 ≤ d) {T : TE} {p:P} {v:V} {c : Code} (hw : wf p .it) (h : ThgIs σ T p v c) (q : Q (.bool true) σ) : UCall g d (.ref 244) [v,v] Q σ:=by
  rcases h.kind hw with ⟨_,hf,_⟩ | ⟨_,a,C,dd,fs,k,rfl,e1,e2,h3,h4,h5⟩
  · exact same_flat K hd hf hf (by rw [flatEq_self hf]; exact q)
  · exact same_things K hd e1 e2 h3 h4 h5.1 e1 e2 h3 h4 h5.1 (by rw [decide_eq_true rfl]; exact q)
theorem same_two (K : GK g) (hd : 2 ≤ d) {T T' : TE} {p:P} {v v' : V} {c c' : Code} (hw : wf p .it) (h : ThgIs σ T p v c) (h' : ThgIs σ T' p v' c') (hdis : T.hi ≤ T'.lo) (q : Q (.bool (flatP p)) σ) : UCall g d (.ref 244) [v,v'] Q σ:=by
  rcases h.kind hw with ⟨hp,hf,hu⟩ | ⟨hp,a,C,dd,fs,k,rfl,e1,e2,h3,h4,h5⟩
  · have:=hu _ _ _ _ h'
    subst this
    rw [hp] at q
    exact same_flat K hd hf hf (by rw [flatEq_self hf]; exact q)
  · rcases h'.kind hw with ⟨hp',_⟩ | ⟨_,a',C',dd',fs',k',rfl,e1',e2',h3',h4',h5'⟩
    · rw [hp] at hp'; cases hp'
    · rw [hp] at q
      refine same_things K hd e1 e2 h3 h4 h5.1 e1' e2' h3' h4' h5'.1 ?_
      rw [decide_eq_false (by have:=h5.2.2; have:=h5'.2.1; lia)]
      exact q
end
section
variable {g:G} {d:Nat} {σ:Sg} {Q:V→Sg→Prop}
theorem dep5 {deep:Int} {p:P} (h0 : 1 ≤ deep∧deep ≤ 3) (h : dep p ≤ deep.toNat + 2) (hw : wt p ≤ Wf deep.toNat) : dep p ≤ 5∧wt p ≤ 100000:=by
  have : deep.toNat = 1∨deep.toNat = 2∨deep.toNat = 3:=by lia
  rcases this with e | e | e <;> (rw [e] at h hw; refine ⟨by exact le_lit2 ‹_› (by rfl),Nat.le_trans hw (by decide)⟩)
theorem sl60 (ns:List Int) : sliceL none (some 60) (ns.map V.int) = (ns.take 60).map .int:=by
  unfold sliceL clip
  simp only [Int.reduceLT,if_false,Nat.sub_zero,List.drop_zero]
  rw [List.map_take,List.length_map]
  by_cases h : 60 ≤ ns.length
  · rw [Nat.min_eq_left (by assumption)]; rfl
  · have h:=Nat.le_of_not_le h
    rw [(Nat.min_eq_right h : min (Int.toNat 60) ns.length = ns.length),List.take_of_length_le (Nat.le_of_eq (List.length_map ..)),List.take_of_length_le (by rw [List.length_map]; exact h)]
theorem law_ok (K : GK g) (hd : 225 ≤ d) {scr:Addr} {ns:List Int} (hs : g.base scr = some (.list (ns.map .int))) (hn : ns.length ≤ 1000) (q : ∀ σ',Q (.bool true) σ') : UCall g d (.ref 759) [.base scr] Q σ:=by
  refine fnc K (by exact le_lit ‹_› (by rfl)) rfl [some (.base scr),none,none,none,none,none,none,none] rfl rfl ?_
  have hb : big = 16777216:=rfl
  walk_at "w"
  refine sl_b hs rfl rfl (by simp; exact le_lit2 ‹_› (by rfl)) fun l0 hl0=>?_
  rw [sl60]
  walk_at "w"
  refine f_list (upd_same _ _ _) (by simp; lia) fun l1 hl1=>?_
  walk_at "w"
  intro bx hbx
  have g1:=upd_old (o':=.list [.ref l1, .int 0, .int 0]) hbx (upd_same _ l1 (.list ((ns.take 60).map V.int)))
  have B₁ : IsBox _ bx l1 (ns.take 60).length:=⟨ns.take 60,0,0,upd_same _ bx (.list [.ref l1, .int 0, .int 0]),g1,by decide,by decide,by simp; exact Nat.min_le_left _ _,by rfl⟩
  generalize (upd (upd (upd σ l0 _) l1 _) bx _:Sg) = σ₁ at *
  clear g1 hl0 hl1 hbx
  walk_at "w"
  intro na hna
  have B₂:=B₁.pure (Ex.new (o:=.sdict []) hna)
  have fna : (upd σ₁ na (.sdict [])) na = some (.sdict []):=upd_same _ _ _
  generalize (upd σ₁ na (.sdict [])) = σ₂ at *
  walk_at "w"
  refine world_ok K (by exact le_litp ‹_› (by rfl)) fna fun σ₃ x n mk W₃ hn0 E₃=>?_
  have B₃:=B₂.pure E₃
  clear B₁ B₂ fna E₃ hna
  walk_at "w"
  refine ⟨rfl,?_⟩
  refine s_set (e_callu (es_cons (e_var rfl (es_cons (pick_take K (by exact le_litp ‹_› (by rfl)) (vs:=[.int 2, .int 1, .int 3]) rfl rfl (by decide) (by decide) B₃ fun σ₄ v r hv hvx hr0 hr1 _ B₄ E₄=>?_)))))
  obtain ⟨deep,rfl,hdp⟩ : ∃ n:Int,v = .int n∧1 ≤ n∧n ≤ 3:=by
    simp only [List.mem_cons,List.not_mem_nil,or_false] at hv
    rcases hv with rfl | rfl | rfl <;> exact ⟨_,rfl,by decide,by decide⟩
  obtain ⟨xs3,hb3⟩:=B₃.live
  have W₄:=W₃.exL hb3 E₄
  have hR : (ns.take 60).length ≤ 60:=by simp; exact Nat.min_le_left _ _
  refine es_nil (plain_ok K 70 (by lia) hdp.2 (by exact le_litp ‹_› (by rfl)) B₄ fun σ₅ p v R₅ w1 w2 w3 _ _ w6 w7 B₅ E₅=>?_)
  obtain ⟨xs4,hb4⟩:=B₄.live
  have W₅:=W₄.exL hb4 E₅
  have hp:=dep5 hdp w2 w3
  clear W₃ W₄ B₃ B₄ E₄ E₅ hv hvx hb3 w2 w3
  generalize hN : New σ₄ = N at w6
  have hNb : ∀ a,N a→a ≠ bx:=fun a n z=>by rw [← hN] at n; unfold New at n; rw [z,hb4] at n; cases n
  clear hN hb4
  refine s_unp (es_cons (e_callu (es_cons (e_var rfl (es_cons (e_var rfl (es_nil ?_)))))))
  refine thing_all K 5 (by simp +arith [*]) (by exact le_litp ‹_› (by rfl)) w1 (by lia) w6 W₅ B₅.live fun σ₆ n₆ mk₆ t₁ c₁ W₆ hn6 hs6 E₆ ht1=>?_
  have B₆:=B₅.world W₅ E₆
  have w6':=plain_world W₅ E₆ w6
  refine es_cons (e_lst (es_cons (e_callu (es_cons (e_callu (es_cons (e_var rfl (es_cons (e_var rfl (es_nil ?_))))))))))
  refine thing_all K 5 (by simp +arith [*]) (by exact le_litp ‹_› (by rfl)) w1 (by lia) w6' W₆ B₆.live fun σ₇ n₇ mk₇ t₂ c₂ W₇ hn7 hs7 E₇ ht2=>?_
  have B₇:=B₆.world W₆ E₇
  have w6'':=plain_world W₆ E₇ w6'
  have ht1':=ht1.keep (Kp.step (bx:=bx) (lo:=n) W₆ E₇ hs7 hn7)
  refine es_nil (show_aux K 5 (.inr ⟨rfl,rfl⟩) (by simp +arith [*]) (by exact le_litp ‹_› (by rfl)) w1 (by lia) ht2 fun σ₈ E₈=>?_)
  have B₈:=B₇.pure E₈
  have W₈:=W₇.mono E₈
  have ht1'':=ht1'.keep (Kp.pure E₈ _)
  have w68:=w6''.keep (σ':=σ₈) (N':=N) (fun a xs e _=>E₈.get e) fun _ _ _ n=>n
  refine es_cons (e_k (es_nil fun st hst=>es_nil ⟨rfl,?_⟩))
  have hlen:=(shf_len p .it 6 w1).1
  have S₉ : StI (upd σ₈ st (.list [.str (shw p 6), .int 0])) st (shw p 6) (shw p 6 ++ []):=⟨⟨[],by simp,upd_same _ _ _⟩,by show (shf p 6).1.length ≤ 2000000; lia⟩
  have E₉ : Ex [] σ₈ (upd σ₈ st (.list [.str (shw p 6), .int 0])):=Ex.new hst
  generalize (upd σ₈ st (.list [.str (shw p 6), .int 0])) = σ₉ at *
  refine s_ite (e_or (e_or2 (e_cmp (e_callu (es_cons (e_var rfl (es_nil ?_)))))))
  refine read_all K 5 hp.1 (by exact le_litp ‹_› (by rfl)) w1 (by lia) (fun _ _=>.inl rfl) (.inl rfl) S₉ fun σa v₂ Sa Ea hv2=>?_
  have Xa : Ex [] σ₈ σa:=Ex.drop (r:=st) ((E₉.nil (S:=[st])).trans Ea) hst
  have Wa:=W₈.mono Xa
  have Ba:=B₈.pure Xa
  have ht1a:=ht1''.keep (Kp.pure Xa _)
  have w6a:=w68.keep (σ':=σa) (N':=N) (fun a xs e _=>Xa.get e) fun _ _ _ n=>n
  have sh:=(shaped_dat w1 (by lia)).1
  obtain ⟨y1,ey1⟩:=hv2.tag w1
  obtain ⟨y2,ey2⟩:=w6a.tag w1
  have dv:=(plain_dat w1 w6a).1 rfl
  have dv2:=(plain_dat w1 hv2).1 rfl
  rw [ey1] at dv2 ⊢
  refine e_var (v:=v) rfl ?_
  rw [ey2] at dv ⊢
  refine c_ned dv2 dv sh sh ?_
  rw [PySem.SeqAt.eqv_refl _ (dat_lay w1)]
  rw [← ey2] at dv ⊢
  obtain ⟨⟨A,eA,hA⟩,_⟩:=Sa
  rw [List.append_nil] at eA
  walk_at "w"
  refine f_lens (by show (shf p 6).1.length ≤ big; exact le_lit2 ‹_› (by rfl)) ?_
  walk_at "w"
  rw [decide_eq_false (by rw [eA]; simp)]
  walk_at "w"
  clear Ea hv2 dv2 dv ey1 S₉ E₉ hA eA ht1 ht1' ht1'' w6 w6' w6'' w68 B₅ B₆ B₇ B₈ W₅ W₆ W₇ W₈ E₆ E₇ E₈ ht2
  refine plain_ok K 70 (by have : (1:Int).toNat = 1:=rfl; lia) (by decide) (by exact le_litp ‹_› (by rfl)) Ba fun σb p₂ v₃ R₆ u1 u2 u3 _ _ u6 u7 Bb Eb=>?_
  obtain ⟨xsa,hba⟩:=Ba.live
  have Wb:=Wa.exL hba Eb
  have ht1b:=ht1a.keep (Kp.box (T:=⟨mk₇,bx,n,n₇⟩) hba Eb)
  have w6b:=w6a.keep (σ':=σb) (N':=N) (fun a xs e nn=>Eb _ _ e (by
    simpa using hNb a nn)) fun _ _ _ n=>n
  have hp2:=dep5 (deep:=1) ⟨by decide,by decide⟩ u2 u3
  walk_at "w"
  refine thing_all K 5 (by exact le_lit2 ‹_› (by rfl)) (by exact le_litp ‹_› (by rfl)) u1 (by exact le_lit2 ‹_› (by rfl)) u6 Wb Bb.live fun σc n₈ mk₈ t₃ c₃ Wc hn8 hs8 Ec ht3=>?_
  have Bc:=Bb.world Wb Ec
  have w6c:=plain_world Wb Ec w6b
  have u6c:=plain_world Wb Ec u6
  have ht1c:=ht1b.keep (Kp.world Wb Ec hs8 rfl (Int.le_refl _) (Int.le_refl _) : Kp σb σc ⟨mk₇,bx,n,n₇⟩ ⟨mk₈,bx,n,n₇⟩)
  clear Ba Bb Wa Wb ht1a ht1b w6a w6b u6 hba Eb Ec
  have sh1:=code_shaped w1 (ht1c.code w1) (by lia)
  have sh3:=code_shaped u1 (ht3.code u1) (by exact le_lit2 ‹_› (by rfl))
  walk_at "w"
  refine code_aux K 5 (.inr ⟨rfl,rfl⟩) hp.1 (by exact le_litp ‹_› (by rfl)) (by decide) w1 (by lia) ht1c fun σd Ed=>?_
  walk_at "w"
  refine code_aux K 5 (.inr ⟨rfl,rfl⟩) hp2.1 (by exact le_litp ‹_› (by rfl)) (by decide) u1 (by exact le_lit2 ‹_› (by rfl)) (ht3.keep (Kp.pure Ed _)) fun σe Ee=>?_
  refine c_eqc sh1 sh3 fun b hb1=>?_
  have Xe : Ex [] σc σe:=Ed.trans Ee
  walk_at "w"
  refine alike_ok K 5 hp.1 (by lia) (by exact le_lit2 ‹_› (by rfl)) (by lia) (by exact le_lit2 ‹_› (by rfl)) (by exact le_litp ‹_› (by rfl)) w1 u1 (w6c.keep (σ':=σe) (N':=N) (fun a xs e _=>Xe.get e) fun _ _ _ n=>n) (u6c.keep (σ':=σe) (N':=New σa) (fun a xs e _=>Xe.get e) fun _ _ _ n=>n) (ht1c.code w1) (ht3.code u1) (by show n₇ ≤ n₇; simp +arith) fun σf b2 Ef hb2=>?_
  have ebb : b = b2:=Bool.eq_iff_iff.mpr (hb1.trans hb2.symm)
  subst ebb
  refine c_neb ?_
  rw [decide_eq_false (by simp)]
  walk_at "w"
  have Xf : Ex [] σc σf:=Xe.trans Ef
  have ht1f:=ht1c.keep (Kp.pure Xf _)
  refine code_aux K 5 (.inr ⟨rfl,rfl⟩) hp.1 (by exact le_litp ‹_› (by rfl)) (by decide) w1 (by lia) ht1f fun σh Eh=>?_
  walk_at "w"
  refine code_aux K 5 (.inr ⟨rfl,rfl⟩) hp.1 (by exact le_litp ‹_› (by rfl)) (by decide) w1 (by lia) (ht1f.keep (Kp.pure Eh _)) fun σi Ei=>?_
  refine c_nec sh1 sh1 fun b2 hb3=>?_
  rw [hb3.mpr rfl]
  have Xi : Ex [] σc σi:=Xf.trans (Eh.trans Ei)
  have Wi:=Wc.mono Xi
  have Bi:=Bc.pure Xi
  have ht1i:=ht1c.keep (Kp.pure Xi _)
  have w6i:=w6c.keep (σ':=σi) (N':=N) (fun a xs e _=>Xi.get e) fun _ _ _ n=>n
  clear Xi Ei Eh ht1f Xf Xe Ef Ee Ed ht3 u6c
  walk_at "w"
  refine same_self K (by exact le_litp ‹_› (by rfl)) w1 ht1i ?_
  walk_at "w"
  refine thing_all K 5 (by simp +arith [*]) (by exact le_litp ‹_› (by rfl)) w1 (by lia) w6i Wi Bi.live fun σj n₉ mk₉ t₄ c₄ Wj hn9 hs9 Ej ht4=>?_
  have Bj:=Bi.world Wi Ej
  have ht1j:=ht1i.keep (Kp.world Wi Ej hs9 rfl (Int.le_refl _) (Int.le_refl _) : Kp σi σj ⟨mk₈,bx,n,n₇⟩ ⟨mk₉,bx,n,n₇⟩)
  refine same_two K (by exact le_litp ‹_› (by rfl)) w1 ht1j ht4 (by show n₇ ≤ n₈; assumption) ?_
  rw [ey2]
  walk_at "w"
  intro l2 hl2
  refine c_inl (upd_same _ _ _) rfl ?_
  have e1 : decide (tagOf p ∈ ([sI,sSym,sWord] : List (List Nat))) = flatP p:=by
    rw [Bool.eq_iff_iff,decide_eq_true_iff]; exact flat_tag w1
  refine (show cmpW g .NotEq (.bool (flatP p)) (.bool (decide (tagOf p ∈ ([sI,sSym,sWord] : List (List Nat))))) _ _ from ?_)
  rw [e1]
  refine c_neb ?_
  rw [decide_eq_false (by simp)]
  have Ek : Ex [] _ _:=Ex.new (o:=.list [.str sI, .str sSym, .str sWord]) hl2
  have Wk:=Wj.mono Ek
  have Bk:=Bj.pure Ek
  generalize (upd σj l2 (.list [.str sI, .str sSym, .str sWord])) = σk at *
  clear Ek ht1j ht4 Wj Bj hl2 e1 Ej Wi Bi ht1i w6i Wc Bc ht1c w6c hb1 hb2 hb3
  walk_at "w"
  refine same_flat K (by exact le_litp ‹_› (by rfl)) rfl rfl ?_
  walk_at "w"
  refine same_flat K (by exact le_litp ‹_› (by rfl)) rfl rfl ?_
  walk_at "w"
  refine same_flat K (by exact le_litp ‹_› (by rfl)) rfl rfl ?_
  walk_at "w"
  refine code_flat K (c:=.int 1) (by exact le_litp ‹_› (by rfl)) (.inr ⟨rfl,rfl⟩) rfl rfl ?_
  walk_at "w"
  refine code_flat K (c:=.bool true) (by exact le_litp ‹_› (by rfl)) (.inr ⟨rfl,rfl⟩) rfl rfl ?_
  refine c_eqc (show PySem.SeqAt.shaped (Code.data (.int 1)) = true by decide +kernel) (show PySem.SeqAt.shaped (Code.data (.bool true)) = true by decide +kernel) fun b4 hb4=>?_
  rw [show b4 = false by cases b4; rfl; exact absurd (hb4.mp rfl) (by simp)]
  walk_at "w"
  refine code_flat K (c:=.sym [97]) (by exact le_litp ‹_› (by rfl)) (.inr ⟨rfl,rfl⟩) rfl rfl ?_
  walk_at "w"
  refine um_w K Wk rfl rfl ?_
  walk_at "w"
  refine text_ok K (by exact le_litp ‹_› (by rfl)) Wk fun σl n10 mk10 a dd m r Wl hnl hsl El hml hal hdd f1 f2=>?_
  have ht5 : ThgIs σl ⟨mk10,bx,n₉,n10⟩ (.text [97]) (.ref a) (.text [97]):=⟨rfl,a,_,n₉ + 1,m,false,rfl,⟨dd,f1,f2⟩,⟨rfl,by show n₉ < n₉ + 1; simp +arith,hnl⟩,rfl,rfl,rfl,hml⟩
  have Bl:=Bk.world Wk El
  refine code_text K (by exact le_litp ‹_› (by rfl)) (.inr ⟨rfl,rfl⟩) ht5 ?_
  refine c_eqc (show PySem.SeqAt.shaped (Code.data (.sym [97])) = true by decide +kernel) (show PySem.SeqAt.shaped (Code.data (.text [97])) = true by decide +kernel) fun b5 hb5=>?_
  rw [show b5 = false by cases b5; rfl; exact absurd (hb5.mp rfl) (by simp)]
  walk_at "w"
  refine levels_ok K (by exact le_litp ‹_› (by rfl)) Wl Bl fun σm n11 mk11 Wm=>?_
  walk_at "w"
  refine named_ok K (by exact le_litp ‹_› (by rfl)) Wm fun σn=>?_
  walk_at "w"
  exact q _
end
noncomputable abbrev pP : Program:=PySem.Challenge.pw_nu0282_01
noncomputable abbrev tT:=Fast.tw14364793385576792824
noncomputable def zP:Pos:=⟨0,0,0,0⟩
noncomputable def bE:List Stmt:=behindTheImports pP
noncomputable def eE:Env:={ scope:=pP.main.scope,locals:=mainNs,globals:=mainNs,cells:=[],code:=.ref 13,frame:=some 14 }
noncomputable def cE : PySem.Code:=.body bE eE
noncomputable def s0 (w:World) (os:OsState):Shared:=⟨boot_heap w.params, #[],boot_drawn,boot_toks,os⟩
noncomputable def rA (w:World) (os:OsState):=Fast.tw15667345088766844465 tT pP w 11 (some (.ref 6)) 12 (s0 w os) (topStub pP)
noncomputable def sA (w:World) (os:OsState):Shared:=match rA w os with | some (s,_)=>s | none=>s0 w os
noncomputable def mkBT:List Obj→Nat→BT→BT
  | [],_,t=>t
  | o :: r,i,t=>mkBT r (i + 1) (t.ins i o)
noncomputable def tA (w:World) (os:OsState):SharedT:=match sA w os with
  | ⟨h,gens,drawn,toks,os⟩=>⟨mkBT h.objs.toList 0 .nil,h.objs.size,h.life,gens,drawn,toks,os⟩
theorem pre (w:World) (os:OsState) : rA w os = some (sA w os,⟨Fast.tw11892475500146522536 tT cE,cE,zP,[topFrame zP]⟩):=by kernel_rfl
theorem tA_abs (w:World) (os:OsState) : (tA w os).abs = sA w os:=by kernel_rfl
theorem size0 (w:World) : ((boot_heap w.params).isNs mainGlobals && (#[] : Array GenState).size == 0,(boot_heap w.params).objs.size,(boot_heap w.params).nsMap mainGlobals "__annotations__") = (true,11,some (.ref 6)):=by kernel_rfl
theorem block (w:World) (os:OsState) : Fast.tw14374325043358763698 tT pP w 11 (some (.ref 6)) 1 1 (sA w os) (blockOf bE eE cE zP [topFrame zP]) = some (.next,sA w os,cE,zP):=by kernel_rfl
noncomputable def rM (n:Nat) (k:Nat) (w:World) (os:OsState):=Fast.tw10110043849684766642 tT pP w 11 (some (.ref 6)) 1 n (tA w os) (piecesOf (bE.take k) eE cE zP [topFrame zP])
noncomputable def keepL:List Nat:=[57]
noncomputable def qP : Program:=view pP keepL
noncomputable def looseL:List Str:=[Str.ofString "_wall",Str.ofString "__name__",Str.ofString "SIMPLE_ESCAPES",Str.ofString "OPERATORS",Str.ofString "DEEPEST_KEY",Str.ofString "Thing",Str.ofString "Text",Str.ofString "ListThing",Str.ofString "TableThing",Str.ofString "RangeThing",Str.ofString "ProcThing",Str.ofString "ErrorThing",Str.ofString "FiberThing",Str.ofString "ModuleThing",Str.ofString "sort_of",Str.ofString "same",Str.ofString "code_of",Str.ofString "is_word",Str.ofString "is_label",Str.ofString "is_plain_symbol",Str.ofString "full_name",Str.ofString "show_letter",Str.ofString "show_text",Str.ofString "show_symbol",Str.ofString "show_pair",Str.ofString "show_range",Str.ofString "show_thing",Str.ofString "show_error",Str.ofString "show",Str.ofString "GemError",Str.ofString "ValueError",Str.ofString "Raised",Str.ofString "raise_version",Str.ofString "own_module",Str.ofString "MODULES",Str.ofString "BUILTINS",Str.ofString "MIXED",Str.ofString "UNMADE",Str.ofString "World",Str.ofString "_law_take",Str.ofString "_law_letters",Str.ofString "_law_symbol",Str.ofString "_law_plain",Str.ofString "_law_thing",Str.ofString "_law_at",Str.ofString "_law_quoted",Str.ofString "_law_run",Str.ofString "_law_name",Str.ofString "_law_read",Str.ofString "_law_one",Str.ofString "_law_pairs",Str.ofString "_law_levels_right",Str.ofString "_law_named_right",Str.ofString "_law_alike"]
noncomputable def xt:Shared→Bool:=fun s=>xlAt qP [] s && recOk (RowW.records PySem.Challenge.rw_nu0282_01.row.toRowW) s
noncomputable def pEnd:Pos:=⟨613,0,627,68⟩
noncomputable def look (w:World) (s:Shared):=
  (staticsOk (importedModules pP.main.body) (boot_heap w.params) s.heap && namesBound pP s.heap && gensDone s && laidKept (boot_heap w.params) s.heap,Fast.tw4187177175401517315 qP looseL (importedModules pP.main.body) xt true s)
noncomputable def fin (w:World) (S:SharedT):=Fast.tw14082659384304107361 tT pP w 11 (some (.ref 6)) 2 S.abs ⟨doneF .next,cE,pEnd,[topFrame zP]⟩
noncomputable def dictOf (o:Obj):Option (Array DictEntry × Nat):=match o.data with
  | .dict es ep=>some (es,ep)
  | _=>none
theorem dictOf_is {o:Obj} {es : Array DictEntry} {ep:Nat} (h : dictOf o = some (es,ep)) : o.data = .dict es ep:=by
  unfold dictOf at h
  cases hd : o.data with
  | dict es' ep'=>rw [hd] at h; cases h; rfl
  | _=>rw [hd] at h; cases h
noncomputable def dEs (K:Frag) (a:Addr):List DictEntry:=(((K.lookup a).bind dictOf).map fun p=>p.1.toList).getD []
noncomputable def dOk (K:Frag) (a:Addr):Bool:=match K.lookup a with
  | some o=>o.cls == .type "dict" && o.dict.isNone && o.slots.isEmpty && (dictOf o).isSome
  | none=>false
noncomputable def dRow (K:Frag) (e : DictEntry):Option (List Nat × V):=match e.key with
  | .str x _=>(valV K e.val).map fun v=>(x.cps.toList,v)
  | _=>none
noncomputable def hs (P:Params) (T:List (List Nat × V)):List Int:=T.map fun kv=>PyData.keyHash P (mkS kv.1)
noncomputable def keyStr (e : DictEntry):Str:=match e.key with | .str x _=>x | _=>mkS []
inductive BaseR (prog : Program) (w:World) (h:Heap) (es:List DictEntry) (kvs:List (List Nat × V)):Prop
  | mk (i1 : ∀ e ∈ es, ∃ k,(strKind prog w).is k e.key = true∧e.hash = (strKind prog w).hash k) (i2 : Pairs (strKind prog w) es (es.map fun e=>(keyStr e,e.val))) (i3 : SPairs h (es.map fun e=>(keyStr e,e.val)) kvs) (i4 : (es.map keyStr).map (fun s=>s.cps.toList) = kvs.map (·.1))
theorem base_rows {K:Frag} {prog : Program} {w:World} {h:Heap} (X : K.In h) {es:List DictEntry} : ∀ {kvs:List (List Nat × V)},es.map (·.hash) = hs w.params kvs→es.map (dRow K) = kvs.map some→BaseR prog w h es kvs:=by
  induction es with
  | nil=>
    intro kvs _ h2
    cases kvs with
    | nil=>exact ⟨fun _ h=>(nomatch h), .nil, .nil,rfl⟩
    | cons=>cases h2
  | cons e es ih=>
    intro kvs h1 h2
    cases kvs with
    | nil=>cases h2
    | cons kv kvs=>
      obtain ⟨h1,h1'⟩:=List.cons.inj h1
      obtain ⟨h2,h2'⟩:=List.cons.inj h2
      obtain ⟨i1,i2,i3,i4⟩:=ih h1' h2'
      unfold dRow at h2
      cases hk : e.key with
      | str x t=>
        rw [hk] at h2
        obtain ⟨v,hv,rfl⟩:=Option.map_eq_some_iff.mp h2
        have hh : e.hash = PyData.keyHash w.params x:=h1
        have ks : keyStr e = x:=by unfold keyStr; rw [hk]
        refine ⟨?_,?_,?_,?_⟩
        · intro e' he
          cases he with
          | head=>exact ⟨x,by rw [hk]; exact strKind_is prog w x t,hh⟩
          | tail _ he=>exact i1 e' he
        · exact .cons (show (PySem.strKind prog w).is (keyStr e) e.key = true by rw [hk,ks]; exact strKind_is prog w x t) rfl i2
        · rw [List.map_cons,ks]; exact .cons (valV_is X hv) i3
        · rw [List.map_cons,List.map_cons,List.map_cons,ks,i4]
      | _=>rw [hk] at h2; cases h2
theorem base_is {K:Frag} {g:G} {h:Heap} (X : K.In h) {a:Addr} {kvs:List (List Nat × V)} (ok : dOk K a = true) (e1 : (dEs K a).map (·.hash) = hs g.w.params kvs) (e2 : (dEs K a).map (dRow K) = kvs.map some) (nd : (kvs.map (·.1)).Nodup) : ObjIs g h a (.sdict kvs):=by
  obtain ⟨i1,i2,i3,i4⟩:=base_rows (prog:=g.prog) (w:=g.w) X e1 e2
  refine ⟨_,?_,i3⟩
  unfold dOk at ok
  cases ho : K.lookup a with
  | none=>rw [ho] at ok; cases ok
  | some o=>
    rw [ho] at ok
    simp only [Bool.and_eq_true] at ok
    obtain ⟨⟨⟨o1,o2⟩,o3⟩,o4⟩:=ok
    obtain ⟨⟨es,ep⟩,hq⟩:=Option.isSome_iff_exists.mp o4
    have hd:=dictOf_is hq
    have hE : dEs K a = es.toList:=by unfold dEs; rw [ho]; show ((dictOf o).map fun p=>p.1.toList).getD [] = _; rw [hq]; rfl
    rw [hE] at i1 i2 i4 ⊢
    refine ⟨o,es,ep,X _ _ ho,⟨by simpa using o1,by simpa using o2,by simpa using o3⟩,hd,fun e he=>i1 e (Array.mem_toList_iff.mpr he),i2,?_⟩
    have : ((es.toList.map keyStr).map fun s=>s.cps.toList).Nodup:=by rw [i4]; exact nd
    have:=List.Pairwise.of_map (S:=(· ≠ ·)) (f:=fun s:Str=>s.cps.toList) (fun x y n e=>n (congrArg (fun s:Str=>s.cps.toList) e)) this
    rw [List.map_map]
    exact this
noncomputable def attChk (K:Frag):Bool:=clsL.all fun C=>(List.range nmTab.length).all fun i=>match methTab C i with
  | none=>fieldOk K C (nm i)
  | some f=>methOk K C (nm i) f
noncomputable def mkChk (K:Frag) (C:Addr):Bool:=match initOf C with
  | some i=>makesIn K C && findIn K (.ref C) "__init__" == some (some (.ref i)) && typeIn K (.ref i) == some (.type "function")
  | none=>true
noncomputable def fnA:List Nat:=(List.range 760).filter fun a=>(irOf a).isSome
theorem left_of_run {p q : Program} {loose:List Str} {Xt:Shared→Bool} {α : Type} {Yf:Shared→α} {Ya:World→α} {N:Nat} {g0:Bool} {H₀:Params→Heap} {gs₀ : Array GenState} {d₀ : Drawn} {k₀:Nat} {m₀:Nat} {ann:Option Value} {M:Nat}
    (open_ : ∀ w:World,(fencedOpening treeTable p w N).map (fun s=>(s.heap,s.gens,s.drawn,s.toks)) = some (H₀ w.params,gs₀,d₀,k₀))
    (size : ∀ w:World,((H₀ w.params).isNs mainGlobals && gs₀.size == 0,(H₀ w.params).objs.size,(H₀ w.params).nsMap mainGlobals "__annotations__") = (true,m₀,ann))
    (run : ∀ (w:World) (os:OsState), ∃ r:Shared,topRun treeTable p w m₀ ann M ⟨H₀ w.params,gs₀,d₀,k₀,os⟩ (topStub p) = some r∧
      (staticsOk (importedModules p.main.body) (H₀ w.params) r.heap && namesBound p r.heap && gensDone r && laidKept (H₀ w.params) r.heap) = true∧openSeen q loose (importedModules p.main.body) Xt g0 r = openGood q loose∧Yf r = Ya w)
    (le:Nat.ble M N = true) : LeftO p q loose Xt Yf Ya N g0:=fun w=>by
  obtain ⟨⟨h,gs,d,k,os⟩,e,e'⟩:=Option.map_eq_some_iff.mp (open_ w)
  obtain ⟨rfl,rfl,rfl,rfl⟩ : h = H₀ w.params∧gs = gs₀∧d = d₀∧k = k₀:=by simpa using e'
  obtain ⟨z1,z2,z3⟩ : _∧_∧_:=by simpa only [Prod.mk.injEq] using size w
  obtain ⟨r₂,r1,l1,l2,l3⟩:=run w os
  have r:=topRun_mono (N - M) _ _ _ _ r1
  rw [Nat.add_sub_of_le (Nat.le_of_ble_eq_true le)] at r
  have t : topFrom treeTable p w N ⟨H₀ w.params,gs,d,k,os⟩ = some r₂:=by
    unfold topFrom
    dsimp only
    rw [z1,z2,z3,r]
    show (match staticsOk (importedModules p.main.body) (H₀ w.params) r₂.heap && namesBound p r₂.heap && gensDone r₂ && laidKept (H₀ w.params) r₂.heap with | true=>_ | false=>_) = _
    rw [l1]
  unfold openEnds
  rw [e]
  show (topFrom treeTable p w N _).map _ = _
  rw [t]
  exact congrArg some (Prod.ext l2 l3)
noncomputable def kT (p:Nat→Bool) (n:Nat) (t : BT) : (Nat→Nat)→Frag:=
  t.rec (fun _=>[]) fun o _ _ l r f=>bif Nat.blt (f 0) n && (o.alive && p (f 0)) then (f 0,o) :: (l (fun j=>f (2 * j + 1)) ++ r (fun j=>f (2 * j + 2))) else l (fun j=>f (2 * j + 1)) ++ r (fun j=>f (2 * j + 2))
inductive AtT (n:Nat) (t : BT) (f:Nat→Nat) (i:Nat) (o:Obj):Prop
  | mk (j:Nat) (e : i = f j) (g : t.get j = some o) (k : i < n) (al : o.alive = true)
theorem half1 (j:Nat) : (2 * j + 1) / 2 = j:=by omega
theorem half2 (j:Nat) : (2 * j + 2) / 2 - 1 = j:=by omega
theorem kT_get {p:Nat→Bool} {n:Nat} (t : BT) : ∀ (f:Nat→Nat) (i:Nat) (o:Obj),(kT p n t f).lookup i = some o→AtT n t f i o:=by
  induction t with
  | nil=>intro f i o h; cases h
  | node v l r ihl ihr=>
    intro f i o h
    have rest : (kT p n l (fun j=>f (2 * j + 1)) ++ kT p n r (fun j=>f (2 * j + 2))).lookup i = some o→AtT n (.node v l r) f i o:=by
      intro h
      rw [List.lookup_append] at h
      cases hl : (kT p n l (fun j=>f (2 * j + 1))).lookup i with
      | some o'=>
        rw [hl] at h
        obtain ⟨j,e,g,k,al⟩:=ihl _ _ _ (hl.trans h)
        refine ⟨2 * j + 1,e,?_,k,al⟩
        rw [BT.get_node,if_neg (Nat.succ_ne_zero _),if_pos (Nat.mul_add_mod 2 j 1),half1]; exact g
      | none=>
        rw [hl] at h
        obtain ⟨j,e,g,k,al⟩:=ihr _ _ _ h
        refine ⟨2 * j + 2,e,?_,k,al⟩
        rw [BT.get_node,if_neg (Nat.succ_ne_zero _),if_neg (by rw [Nat.mul_add_mod]; decide),half2]; exact g
    have h : (bif Nat.blt (f 0) n && (v.alive && p (f 0)) then (f 0,v) :: (kT p n l (fun j=>f (2 * j + 1)) ++ kT p n r (fun j=>f (2 * j + 2))) else kT p n l (fun j=>f (2 * j + 1)) ++ kT p n r (fun j=>f (2 * j + 2))).lookup i = some o:=h
    cases q:Nat.blt (f 0) n && (v.alive && p (f 0)) with
    | false=>rw [q] at h; exact rest h
    | true=>
      rw [q] at h
      obtain ⟨q1,q2⟩:=Bool.and_eq_true_iff.mp q
      by_cases e : i = f 0
      · subst e
        have h : some v = some o:=by rw [← h]; exact (List.lookup_cons_self).symm
        cases h
        exact ⟨0,rfl,by rw [BT.get_node,if_pos rfl],Nat.le_of_ble_eq_true q1,(Bool.and_eq_true_iff.mp q2).1⟩
      · refine rest ?_
        rw [← h]
        show _ = List.lookup i ((f 0,v) :: _)
        rw [List.lookup_cons,beq_eq_false_iff_ne.mpr e]
theorem kT_at (p:Nat→Bool) (S:SharedT) : (kT p S.n S.tree fun j=>j).In S.abs.heap:=fun i o h=>by
  obtain ⟨j,e,g,k,al⟩:=kT_get S.tree _ i o h
  subst e
  refine (Heap.get?_eq_some _ _ _).mpr ⟨?_,al⟩
  show (absHeap S.tree S.n S.life).objs[i]? = some o
  rw [absHeap_at,if_pos k,g]; rfl
noncomputable def hotP (a:Nat):Bool:=Nat.testBit 4585046358820105843229207588002348976969493731036232511442528437467718774395302823390769305190426590934306458619681685883153296812351621136707405819431844097701346632788289261468410294618359312612343732801549491348275082588848155 a
noncomputable def kK (S:SharedT):Frag:=kT hotP S.n S.tree (fun j=>j) ++ kT (fun _=>true) S.n S.tree fun j=>j
theorem kT_in (S:SharedT) : (kK S).In S.abs.heap:=fun i o h=>by
  unfold kK at h
  rw [List.lookup_append] at h
  cases hl : (kT hotP S.n S.tree fun j=>j).lookup i with
  | some o'=>rw [hl] at h; exact kT_at _ S i o (hl.trans h)
  | none=>rw [hl] at h; exact kT_at _ S i o h
theorem fin_is (w:World) (S:SharedT) : fin w S = some S.abs:=by kernel_rfl
noncomputable abbrev Cin:=Str × Pos × List Str × List Stmt
noncomputable def cinf : Stmt→Cin
  | .ClassDef n _ _ body _ _ _ _ _ st p=>(n,p,st,body)
  | _=>(mkS [],zP,[],[])
structure Bd where
  (t : BT) (n k:Nat) (m:Value) (me:List DictEntry) (mf:List Value)
noncomputable def Bd.al (s : Bd) (o:Obj) : Bd:={ s with t:=s.t.ins s.n o,n:=s.n + 1 }
noncomputable def Bd.tk (s : Bd) (j:Nat) : Bd:={ s with k:=s.k + j }
noncomputable def tupO (l:List Value):Obj:=⟨.type "tuple",none, .seq ⟨l⟩ 0, #[]⟩
noncomputable def fldO (c:Value) (l:List Value):Obj:=⟨c,none, .fields ⟨l⟩, #[]⟩
noncomputable def dicO (l:List DictEntry) (e:Nat):Obj:=⟨.type "dict",none, .dict ⟨l⟩ e, #[]⟩
noncomputable def tks:List Str→Nat→List Value
  | [],_=>[]
  | x :: r,k=>.str x k :: tks r (k + 1)
noncomputable def nI (n:Nat):Value:=.int (.ofNat n) 0
noncomputable def flS:Str:="/claim/cut.py"
noncomputable def en (P:Params) (x:Str) (k:Nat) (v:Value) : DictEntry:=⟨PyData.keyHash P x, .str x k,v⟩
noncomputable def codO (n q:Str) (k m L ac fg:Nat) (fr:Nat) (b:Bool) (vs:List Value):Obj:=
  fldO (.type "code") ([.str n k, .str q (k + 1), .str flS (k + 2),nI L,nI ac,nI 0,nI 0,nI fg, .ref fr, .bool b,nI 181, .ref (fr + 1), .none] ++ vs ++ [nI (k + 3 + m),nI L, .str flS (k + 4 + m)])
noncomputable def vnOf (x:DefRec):List Str:=x.params.args.map (·.arg) ++ x.scope.names.filterMap fun p=>if (x.params.args.map (·.arg)).contains p.1 then none else if p.2 == .local then some p.1 else none
noncomputable def fnB (s : Bd) (q:Str) (x:DefRec) (dv:Value) (sm:Bool) : Bd:=
  let a:=s.n
  let vn:=bif sm then vnOf x else []
  let s1:=(s.al (tupO [])).al (fldO .none [])
  let s2:=bif sm then (s1.al (tupO (tks vn (s.k + 3)))).al (tupO []) else s1
  let f:=s2.n
  let fd:FuncData:=⟨x.name,q,x.params, .stmts x.body,x.scope,0,[], .none, .none, .none, .none,none, .none, .none,0⟩
  let vs:List Value:=bif sm then [.ref (a + 2), .ref (a + 3), .ref f] else [.none, .none, .ref f]
  (((s2.al ⟨.none,none, .func fd, #[]⟩).al (codO x.name q s.k vn.length x.pos.line x.params.args.length 3 a true vs)).al
    ⟨.type "function",none, .func { fd with globals:=3,defaults:=dv,pyModule:=s.m,code:=.ref (f + 1) }, #[]⟩).tk (5 + vn.length)
noncomputable def dvS (s : Bd):List V→List Value→Bd × List Value
  | [],acc=>(s,acc.reverse)
  | .str l :: r,acc=>dvS (s.tk 1) r (.str (mkS l) s.k :: acc)
  | .int i :: r,acc=>dvS (s.tk 1) r (.int i s.k :: acc)
  | .bool b :: r,acc=>dvS s r (.bool b :: acc)
  | .tup _ :: r,acc=>dvS (s.al (tupO [])) r (.ref s.n :: acc)
  | .base _ :: r,acc=>dvS s r (.int 12 258 :: acc)
  | _ :: r,acc=>dvS s r (.none :: acc)
noncomputable def dfn (s : Bd) (q:Str) (x:DefRec) (d:List V) (sm:Bool) : Bd:=
  bif d.isEmpty then fnB s q x .none sm else let p:=dvS s d []
  fnB (p.1.al (tupO p.2)) q x (.ref p.1.n) sm
noncomputable def defM (P:Params) (s : Bd) (x:DefRec) (d:List V) (sm:Bool) : Bd:=
  let s:=dfn s x.name x d sm
  { s with me:=en P x.name s.k (.ref (s.n - 1)) :: s.me,k:=s.k + 1,mf:=.ref (s.n - 2) :: nI x.pos.col :: nI x.pos.line :: s.mf }
noncomputable def metB (P:Params) (c:Str):List (DefRec × List V × Bool)→Bd→List DictEntry→List Value→Bd × List DictEntry × List Value
  | [],s,es,fs=>(s,es.reverse,fs.reverse)
  | (x,d,sm) :: l,s,es,fs=>
    let s:=dfn s (c ++ ("." : Str) ++ x.name) x d sm
    metB P c l (s.tk 1) (en P x.name s.k (.ref (s.n - 1)) :: es) (.ref (s.n - 2) :: nI x.pos.col :: nI x.pos.line :: fs)
noncomputable def upd1 (s : Bd) (i:Nat) (o:Obj) : Bd:={ s with t:=s.t.set i fun _=>o }
noncomputable def subO (v:Value) (o:Obj):Obj:=match o.data with
  | .cls c=>⟨o.cls,o.dict, .cls { c with subclasses:=c.subclasses ++ [v] },o.slots⟩
  | _=>o
noncomputable def clsM (P:Params) (s : Bd) (x : Cin) (bs mro:List Value) (gs:Nat) (nw : String) (ds:List (List V × Bool)) : Bd:=
  let a:=s.n
  let k:=s.k
  let z:=tupO []
  let L:=x.2.1.line
  let s1:=((((((s.al (tupO bs)).al (fldO (.type "builtin_function_or_method") [.builtin "type.__prepare__", .type "type"])).al z).al z).al z).al (codO x.1 x.1 (k + 2) 0 L 0 0 (a + 3) false [.none, .none, .none])).al
    ⟨.type "frame",none, .plain, #[some (.ref (a + 5)),some (.ref 3),some (.ref (a + 2)),none,some s.m,none,some (.ref 0)]⟩
  let p:=metB P x.1 ((x.2.2.2.filterMap DefRec.ofStmt?).zip ds) { s1 with k:=k + 12 } [] []
  let s2:=p.1
  let st:=s2.n
  let j:=x.2.2.1.length
  let c:=st + 2
  let e0:=en P "__module__" (k + 7) s.m
  let e1:=en P "__firstlineno__" (k + 11) (.int (.ofNat L) (k + 10))
  let e2:=en P "__static_attributes__" (s2.k + j) (.ref st)
  let q:=s2.k + j + 1
  let ge:=bif Nat.beq gs 2 then [en P "__dict__" (q + 1) (.ref (c + 1)),en P "__weakref__" (q + 3) (.ref (c + 2))] else bif Nat.beq gs 1 then [en P "__weakref__" (q + 1) (.ref (c + 1))] else []
  let s3:=((s2.al (tupO (tks x.2.2.1 s2.k))).al (dicO (e0 :: e1 :: p.2.1 ++ e2 :: ge ++ [en P "__doc__" (q + 2 * gs) .none]) (2 + gs))).al
    ⟨.type "type",none, .cls { name:=x.1,bases:=bif bs.isEmpty then [.type "object"] else bs,mro:=.ref c :: mro,ns:=st + 1,qualname:=x.1 }, #[bif bs.isEmpty then none else some (.ref a),none,some (.str x.1 k),some (.str x.1 (k + 8)),some (.builtin nw),some (.bool true)]⟩
  let s4:=bif Nat.beq gs 2 then s3.al (fldO (.type "getset_descriptor") [.str "__dict__" q, .ref c, .builtin "function.__dict__", .builtin "function.__dict__#set"]) else s3
  let s5:=bif Nat.beq gs 0 then s4 else s4.al (fldO (.type "getset_descriptor") [.str "__weakref__" (q + 2 * gs - 2), .ref c, .builtin "ExceptionGroup.__weakref__", .none])
  let s6:=(s5.al (fldO (.type "super") [.ref c, .ref c, .ref c])).al (fldO (.type "builtin_function_or_method") [.builtin "object.__init_subclass__", .ref c])
  let s7:=upd1 (upd1 (upd1 s6 (a + 2) (dicO (e0 :: en P "__qualname__" (k + 9) (.str x.1 (k + 8)) :: e1 :: p.2.1 ++ [e2]) (4 + p.2.1.length))) (a + 3) z) (a + 4) (fldO .none p.2.2)
  { s7 with k:=q + 2 * gs + 3,me:=en P x.1 (q + 2 * gs + 2) (.ref c) :: s7.me,mf:=.ref (a + 5) :: nI 0 :: nI L :: s7.mf }
noncomputable def clsS (P:Params) (s : Bd) (x : Cin) (b:Nat) (mro:List Value) (nw : String) (ds:List (List V × Bool)) : Bd:=
  let s:=clsM P s x [.ref b] (.ref b :: mro) 0 nw ds
  { s with t:=s.t.set b (subO (.ref (s.n - 3))) }
noncomputable def setN (P:Params) (s : Bd) (x:Str) : Bd:={ s with m:=.str x s.k,k:=s.k + 2 }
noncomputable def asgV (P:Params) (s : Bd) (x:Str) (v:Value) : Bd:={ s with me:=en P x s.k v :: s.me,k:=s.k + 1 }
noncomputable def asgT (P:Params) (s : Bd) (x:Str) (l:List Str) : Bd:=asgV P ((s.al (tupO (tks l s.k))).tk l.length) x (.ref s.n)
noncomputable def dEn (P:Params) (g:Nat):List (List Nat × V)→Nat→List DictEntry
  | [],_=>[]
  | (x, .str y) :: r,k=>en P (mkS x) k (.str (mkS y) (k + 1)) :: dEn P g r (k + 2 + g)
  | (x,_) :: r,k=>en P (mkS x) k .none :: dEn P g r (k + 1 + g)
noncomputable def mEn (P:Params):List (List Nat × List (List Nat))→Nat→Nat→List DictEntry
  | [],_,_=>[]
  | (x,_) :: r,k,a=>en P (mkS x) k (.ref a) :: mEn P r (k + 2) (a + 1)
noncomputable def mTu:List (List Nat × List (List Nat))→Nat→Bd→Bd
  | [],_,s=>s
  | (_,l) :: r,k,s=>mTu r (k + 2) (s.al (tupO (tks (l.map mkS) k)))
noncomputable def XI (i:Nat) : Cin:=cinf (bE.getD i (.Pass zP))
noncomputable def oT:List Value:=[.type "object"]
noncomputable def vT:List Value:=[.type "ValueError", .type "Exception", .type "BaseException", .type "object"]
noncomputable def oN : String:="object.__new__"
noncomputable def dfT:List V × Bool:=([],true)
noncomputable def dfF:List V × Bool:=([],false)
noncomputable def sD (P:Params) (i:Nat) (d:List V × Bool) (s : Bd) : Bd:=(DefRec.ofStmt? (bE.getD i (.Pass zP))).elim s fun x=>defM P s x d.1 d.2
noncomputable def sT (P:Params) (i:Nat) (ds:List (List V × Bool)) (s : Bd) : Bd:=clsS P s (XI i) 40 oT oN ds
noncomputable def steps (P:Params):List (Bd→Bd):=[sD P 0 dfT,(setN P · "gemrows.things"),fun s=>asgV P ((s.al (dicO (dEn P 0 escT s.k) 11)).tk 33) "SIMPLE_ESCAPES" (.ref s.n),(asgT P · "OPERATORS" (opsT.map mkS)),fun s=>asgV P (s.tk 1) "DEEPEST_KEY" (.int 12 s.k),
  fun s=>clsM P s (XI 5) [] oT 2 oN [dfT],sT P 6 [([.str []],true)],sT P 7 [([.none],true)],sT P 8 [dfT,dfT,dfT,dfF],sT P 9 [([.none, .none, .bool false],true)],sT P 10 [([.none, .none, .none, .none, .tup [], .none, .none, .bool false, .none],true)],
  sT P 11 [([.none],true)],sT P 12 [([.none],true)],sT P 13 [([.none, .bool false, .none, .none],true),dfT],
  sD P 14 dfT,sD P 15 dfT,sD P 16 ([.base 0],false),sD P 17 dfT,sD P 18 dfT,sD P 19 dfT,sD P 20 dfT,sD P 21 dfT,sD P 22 dfF,sD P 23 dfT,sD P 24 dfT,sD P 25 dfT,sD P 26 dfF,sD P 27 dfT,sD P 28 ([.int 6],true),
  (setN P · "gemrows.errors"),fun s=>clsM P s (XI 30) [.type "ValueError"] vT 1 "ValueError.__new__" [([.str []],true)],fun s=>clsS P s (XI 31) 349 vT "ValueError.__new__" [dfT],(setN P · "gemrows.lines"),sD P 33 dfT,sD P 34 dfT,(setN P · "gemrows.world"),(asgT P · "MODULES" (modT.map mkS)),
  fun s=>let e:=dEn P 1 (btT.take 34) s.k; let f:=dEn P 0 (btT.drop 34) (s.k + 98)
    asgV P ((((s.al (dicO (e ++ f) 40)).al (dicO (e.drop 17) 17)).al (dicO f 6)).tk 116) "BUILTINS" (.ref s.n),
  fun s=>asgV P ((mTu mtab (s.k + 1) (s.al (dicO (mEn P mtab s.k (s.n + 1)) 7))).tk 21) "MIXED" (.ref s.n),(asgT P · "UNMADE" (unmT.map mkS)),
  fun s=>clsM P s (XI 40) [] oT 2 oN [([.none, .none, .int 20000],true),dfT,dfT,dfT,dfT,dfT,dfT,dfF,dfT,([.none, .none, .none],true),dfT,dfT,dfT,dfT,dfT,dfT,dfT,dfT,dfT,dfT,dfT,dfT,dfT,dfT,dfT,dfT,dfT,dfT,dfT,dfT,dfT,dfT,dfT,dfT,dfT],(setN P · "law_nu0282_01")] ++ ((List.range' 42 16).zip [dfT,dfF,dfT,dfF,dfF,dfT,dfF,dfT,dfT,dfT,dfT,dfT,dfT,dfT,dfF,dfT]).map fun p=>sD P p.1 p.2
noncomputable def bd0 (w:World) (os:OsState) : Bd:=⟨(tA w os).tree,(tA w os).n,(tA w os).toks, .str "__main__" 164,[],[]⟩
noncomputable def bld (c:Nat) (w:World) (os:OsState):SharedT:=
  let s:=((steps w.params).take c).foldl (fun s f=>f s) (bd0 w os)
  let z:=(((tA w os).tree.get 3).bind dictOf).elim [] fun p=>p.1.toList
  let z:=match z with
    | e :: r=>{ e with val:=s.m } :: r
    | []=>[]
  { tA w os with tree:=(s.t.set 3 fun _=>dicO (z ++ s.me.reverse) (z.length + s.me.length)).set 12 (fun _=>fldO .none s.mf.reverse),n:=s.n,toks:=s.k }
noncomputable def adrs:List Nat:=[0,37,59,79,98,105,0,117,137,158,178,0,218,225,237,244,250,257,264,271,278,285,290,297,304,311,316,323,331,0,0,0,0,413,0,0,434,0,0,455,460,467,0,482,0,0,503,0,517,524,531,538,545,552,559,566,0,580,0,0,0,0,0,0,0,0,0,0,664,669,676,681,686,693,698,705,712,719,726,733,740,747,752,759]
noncomputable def tabF:List (Nat × Row):=(adrs.zip ((bE.flatMap fun s=>s :: (cinf s).2.2.2).filterMap fun s=>(DefRec.ofStmt? s).map fun x=>(x.params,x.scope,x.body))).filter fun p=>Nat.blt 0 p.1
noncomputable def factsA (K:Frag):=(nsIn K mainGlobals "law",
  (clsL.all fun C=>clsOk2 K C && clsOk K C) && (isiOk K clsL subsL && (attChk K && (clsL.all (mkChk K) && (dOk K 22 && (dOk K 387 && (dOk K 390 && (K.lookup sysModules).isSome)))))),
  (dEs K 22).map (dRow K),(dEs K 387).map (dRow K),(dEs K 390).map (dRow K),tabF.map (fun p=>fdRow K p.1),gtab.map (fun p=>lookG K p.1),clsOne K)
noncomputable def goodA:=(some (some (Value.ref 759)),true,escT.map some,btT.map some,mtT.map some,tabF.map (fun p=>(irOf p.1).map fun q=>(p.2,q.2.dfl)),gtab.map fun p=>some p.2,some (CFound.val (.ref 37)),true)
noncomputable def certs {g:G} (H : GOk g) (O : Tabs g.K):List (Option FnD):=tabF.map fun t=>(irOf t.1).bind fun p=>(certB H O p.1 t.2 p.2.dfl).map fun c=>rowFn t.2 p.2.dfl c.b
theorem fnA_is : fnA = tabF.map (·.1):=by kernel_rfl
theorem certs_ok {g:G} (H : GOk g) (O : Tabs g.K) : certs H O = tabF.map (fun t=>(irOf t.1).map (·.2)):=by kernel_rfl
abbrev FK (K:Frag):Prop:=factsA K = goodA
noncomputable def hOf (h:Heap) (a:Addr):List Int:=((((h.get? a).bind dictOf).map fun p=>p.1.toList).getD []).map (·.hash)
theorem hOf_eq {K:Frag} {h:Heap} (X : K.In h) {a:Addr} (ok : dOk K a = true) : (dEs K a).map (·.hash) = hOf h a:=by
  unfold dOk at ok
  unfold dEs hOf
  cases ho : K.lookup a with
  | none=>rw [ho] at ok; cases ok
  | some o=>rw [X _ _ ho]
theorem FK.ok {K:Frag} (f : FK K) : dOk K 22 = true∧dOk K 387 = true∧dOk K 390 = true:=by
  have e2:=congrArg (fun x=>x.2.1) f
  have e2 : (_ && _) = true:=e2
  simp only [Bool.and_eq_true] at e2
  exact ⟨e2.2.2.2.2.1,e2.2.2.2.2.2.1,e2.2.2.2.2.2.2.1⟩
noncomputable def saysG (w:World) (h:Heap):Prop:=∃ K:Frag,K.In h∧FK K∧(dEs K 22).map (·.hash) = hs w.params escT∧(dEs K 387).map (·.hash) = hs w.params btT∧(dEs K 390).map (·.hash) = hs w.params mtT
noncomputable def hookG : Hook:=⟨(List Int × List Int × List Int) × Prop,fun s=>((hOf s.heap 22,hOf s.heap 387,hOf s.heap 390), ∃ K:Frag,K.In s.heap∧FK K),
  fun w=>((hs w.params escT,hs w.params btT,hs w.params mtT),True),saysG,
  fun w s e=>by
    obtain ⟨e1,e2⟩:=Prod.mk.inj e
    obtain ⟨e3,e4⟩:=Prod.mk.inj e1
    obtain ⟨e4,e5⟩:=Prod.mk.inj e4
    obtain ⟨K,X,f⟩:=of_eq_true e2
    exact ⟨K,X,f,(hOf_eq X f.ok.1).trans e3,(hOf_eq X f.ok.2.1).trans e4,(hOf_eq X f.ok.2.2).trans e5⟩,
  fun w h h' ⟨K,X,e⟩ k=>⟨K,X.keeps k,e⟩⟩
noncomputable def pc (a b:Nat) (p q:Pos) (w:World) (os:OsState):Prop:=Fast.tw10110043849684766642 tT pP w 11 (some (.ref 6)) 1 1500 (bld a w os) (piecesOf ((bE.drop a).take (b - a)) eE cE p [topFrame zP]) = some (.next,bld b w os,cE,q)
noncomputable def lookG' (w:World) (S:SharedT):=(look w S.abs,(hOf S.abs.heap 22,hOf S.abs.heap 387,hOf S.abs.heap 390))
noncomputable abbrev wRow (w:World) (b:Bool):World:=w.withFollow "special-get-raises" b
theorem q1f (w:World) (os:OsState) : pc 0 5 zP ⟨7,0,7,11⟩ (wRow w false) os:=by
  unfold pc
  kernel_rfl
theorem q1t (w:World) (os:OsState) : pc 0 5 zP ⟨7,0,7,11⟩ (wRow w true) os:=by
  unfold pc
  kernel_rfl
theorem q1 (w:World) (os:OsState) : pc 0 5 zP ⟨7,0,7,11⟩ w os:=byRow2 "special-get-raises" (P:=fun w=>pc 0 5 zP ⟨7,0,7,11⟩ w os) (fun w=>q1f w os) (fun w=>q1t w os) w
theorem q2 (w:World) (os:OsState) : pc 5 9 ⟨7,0,7,11⟩ ⟨27,0,46,63⟩ w os:=by
  unfold pc
  kernel_rfl
theorem q3 (w:World) (os:OsState) : pc 9 14 ⟨27,0,46,63⟩ ⟨81,0,98,40⟩ w os:=by
  unfold pc
  kernel_rfl
theorem q4 (w:World) (os:OsState) : pc 14 29 ⟨81,0,98,40⟩ ⟨198,0,208,21⟩ w os:=by
  unfold pc
  kernel_rfl
theorem q5 (w:World) (os:OsState) : pc 29 37 ⟨198,0,208,21⟩ ⟨239,0,239,7⟩ w os:=by
  unfold pc
  kernel_rfl
theorem q6f (w:World) (os:OsState) : pc 37 38 ⟨239,0,239,7⟩ ⟨240,0,240,8⟩ (wRow w false) os:=by
  unfold pc
  kernel_rfl
theorem q6t (w:World) (os:OsState) : pc 37 38 ⟨239,0,239,7⟩ ⟨240,0,240,8⟩ (wRow w true) os:=by
  unfold pc
  kernel_rfl
theorem q6 (w:World) (os:OsState) : pc 37 38 ⟨239,0,239,7⟩ ⟨240,0,240,8⟩ w os:=byRow2 "special-get-raises" (P:=fun w=>pc 37 38 ⟨239,0,239,7⟩ ⟨240,0,240,8⟩ w os) (fun w=>q6f w os) (fun w=>q6t w os) w
theorem q7f (w:World) (os:OsState) : pc 38 39 ⟨240,0,240,8⟩ ⟨241,0,241,5⟩ (wRow w false) os:=by
  unfold pc
  kernel_rfl
theorem q7t (w:World) (os:OsState) : pc 38 39 ⟨240,0,240,8⟩ ⟨241,0,241,5⟩ (wRow w true) os:=by
  unfold pc
  kernel_rfl
theorem q7 (w:World) (os:OsState) : pc 38 39 ⟨240,0,240,8⟩ ⟨241,0,241,5⟩ w os:=byRow2 "special-get-raises" (P:=fun w=>pc 38 39 ⟨240,0,240,8⟩ ⟨241,0,241,5⟩ w os) (fun w=>q7f w os) (fun w=>q7t w os) w
theorem q8 (w:World) (os:OsState) : pc 39 41 ⟨241,0,241,5⟩ ⟨243,0,447,17⟩ w os:=by
  unfold pc
  kernel_rfl
theorem q9 (w:World) (os:OsState) : pc 41 58 ⟨243,0,447,17⟩ pEnd w os:=by
  unfold pc
  kernel_rfl
theorem bld0 (w:World) (os:OsState) : bld 0 w os = tA w os:=by kernel_rfl
theorem looks1 (w:World) (os:OsState) : lookG' w (bld 58 w os) = ((true,openGood qP looseL),hs w.params escT,hs w.params btT,hs w.params mtT):=by kernel_rfl
theorem facts1 (w:World) (os:OsState) : factsA (kK (bld 58 w os)) = goodA:=by kernel_rfl
theorem tTe : tT = treeTable:=Fast.te14364793385576792824.symm
noncomputable abbrev tRun (w:World) (N:Nat) (s:Shared) (t : Thread):=topRun treeTable pP w 11 (some (.ref 6)) N s t
theorem pc_app {a b:Nat} {p q:Pos} {w:World} {os:OsState} {N:Nat} {rest:List Stmt} {r:Shared} (h : pc a b p q w os) (k : tRun w N (bld b w os).abs (restOf rest eE cE q [topFrame zP]) = some r) :
    tRun w (1500 + N) (bld a w os).abs (restOf ((bE.drop a).take (b - a) ++ rest) eE cE p [topFrame zP]) = some r:=by
  unfold pc at h
  rw [tTe, ← Fast.te10110043849684766642] at h
  exact piece_app (segRun_of h) k
inductive TopAll (w:World) (os:OsState):Prop
  | mk (r:Shared) (e : tRun w (12 + (1 + (1500 + (1500 + (1500 + (1500 + (1500 + (1500 + (1500 + (1500 + (1500 + (2)))))))))))) ⟨boot_heap w.params, #[],boot_drawn,boot_toks,os⟩ (topStub pP) = some r)
    (l : look w r = (true,openGood qP looseL)) (h : (hOf r.heap 22,hOf r.heap 387,hOf r.heap 390) = (hs w.params escT,hs w.params btT,hs w.params mtT)) (k : ∃ K:Frag,K.In r.heap∧FK K)
theorem top_all (w:World) (os:OsState) : TopAll w os:=by
  obtain ⟨e1,e2⟩:=Prod.mk.inj (looks1 w os)
  refine ⟨(bld 58 w os).abs,?_,e1,e2,kK (bld 58 w os),kT_in _,facts1 w os⟩
  have p1:=pre w os
  have p2:=block w os
  have e3:=fin_is w (bld 58 w os)
  unfold rA at p1
  unfold fin at e3
  rw [tTe, ← Fast.te15667345088766844465, ← Fast.te11892475500146522536] at p1
  rw [tTe, ← Fast.te14374325043358763698] at p2
  rw [tTe, ← Fast.te14082659384304107361] at e3
  refine go_top p1 (piece_block p2 ?_)
  have k:=pc_app (q1 w os) (pc_app (q2 w os) (pc_app (q3 w os) (pc_app (q4 w os) (pc_app (q5 w os) (pc_app (q6 w os) (pc_app (q7 w os) (pc_app (q8 w os) ((pc_app (rest:=[]) (q9 w os) (N:=2) e3)))))))))
  rw [bld0,tA_abs] at k
  have g : ∀ {N:Nat} {r:Shared} (L:List Stmt),L = bE→tRun w N (sA w os) (restOf L eE cE zP [topFrame zP]) = some r→tRun w N (sA w os) (restOf bE eE cE zP [topFrame zP]) = some r:=fun L h k=>h ▸ k
  exact g _ (by kernel_rfl) k
theorem left : LeftO pP qP looseL xt hookG.obs hookG.val 20000:=left_of_run (boot_open rfl rfl fun _=>rfl) size0 (fun w os=>by
  obtain ⟨r,h1,h2,h3,h4⟩:=top_all w os
  obtain ⟨h2,h5⟩:=Prod.mk.inj h2
  rw [← Fast.te4187177175401517315] at h5
  exact ⟨r,h1,h2,h5,Prod.ext h3 (eq_true h4)⟩) rfl
noncomputable def bsT (l:Addr) (ns:List Int):Addr→Option AObj:=fun a=>
  if a = 22 then some (.sdict escT) else if a = 387 then some (.sdict btT) else if a = 390 then some (.sdict mtT) else if a = l then some (.list (ns.map .int)) else none
noncomputable def gT (K:Frag) (w:World) (s:Shared) (l:Addr) (ns:List Int):G:=⟨pP,w,K,s.heap,s.os,bsT l ns⟩
structure KF (P:Params) (K:Frag):Prop where
  law : nsIn K mainGlobals "law" = some (some (.ref 759))
  cls : (clsL.all fun C=>clsOk2 K C && clsOk K C) = true
  isi : isiOk K clsL subsL = true
  att : attChk K = true
  mkk : clsL.all (mkChk K) = true
  d1 : dOk K 22 = true
  d2 : dOk K 387 = true
  d3 : dOk K 390 = true
  sys : (K.lookup sysModules).isSome = true
  h1 : (dEs K 22).map (·.hash) = hs P escT
  r1 : (dEs K 22).map (dRow K) = escT.map some
  h2 : (dEs K 387).map (·.hash) = hs P btT
  r2 : (dEs K 387).map (dRow K) = btT.map some
  h3 : (dEs K 390).map (·.hash) = hs P mtT
  r3 : (dEs K 390).map (dRow K) = mtT.map some
  fn : tabF.map (fun p=>fdRow K p.1) = tabF.map (fun p=>(irOf p.1).map fun q=>(p.2,q.2.dfl))
  tb : Tabs K
theorem kf_of {P:Params} {K:Frag} (f : FK K) (h1 : (dEs K 22).map (·.hash) = hs P escT) (h2 : (dEs K 387).map (·.hash) = hs P btT) (h3 : (dEs K 390).map (·.hash) = hs P mtT) : KF P K:=by
  obtain ⟨e1,e⟩:=Prod.mk.inj f
  obtain ⟨e2,e⟩:=Prod.mk.inj e
  obtain ⟨e3,e⟩:=Prod.mk.inj e
  obtain ⟨e4,e⟩:=Prod.mk.inj e
  obtain ⟨e5,e⟩:=Prod.mk.inj e
  obtain ⟨e6,e⟩:=Prod.mk.inj e
  simp only [Bool.and_eq_true] at e2
  obtain ⟨a1,a2,a3,a4,a5,a6,a7,a8⟩:=e2
  exact ⟨e1,a1,a2,a3,a4,a5,a6,a7,a8,h1,e3,h2,e4,h3,e5,e6,⟨(Prod.mk.inj e).1,(Prod.mk.inj e).2⟩⟩
theorem bif_some {α : Type} {b:Bool} {x:Option α} {y : α} (h : (bif b then x else none) = some y) : b = true:=by
  cases b with
  | true=>rfl
  | false=>cases h
theorem irOf_in {a:Nat} {p:Bool × FnD} (h : irOf a = some p) : a ∈ fnA:=List.mem_filter.mpr ⟨List.mem_range.mpr (Nat.le_of_ble_eq_true (bif_some h)),by rw [h]; rfl⟩
theorem map_at {α β : Type} {f g : α→β} {l:List α} (h : l.map f = l.map g) (a : α) (m : a ∈ l) : f a = g a:=by
  induction l with
  | nil=>cases m
  | cons b r ih=>
    have h:=List.cons.inj h
    cases m with
    | head=>exact h.1
    | tail _ m=>exact ih h.2 m
theorem gok {K:Frag} {w:World} {s:Shared} {l:Addr} {ns:List Int} {p loose mg mb} (F : KF w.params K) (KX : K.In s.heap) (T : TopRead p loose mg mb s.heap) (hl : ObjIs (gT K w s l ns) s.heap l (.list (ns.map .int))) (hln : (l == sysModules) = false) : GOk (gT K w s l ns) where
  top:=⟨_,_,_,_,T⟩
  isi:=F.isi
  cls2:=fun C hC=>(Bool.and_eq_true_iff.mp (List.all_eq_true.mp F.cls C hC)).1
  kin:=KX
  cls:=fun C hC=>(Bool.and_eq_true_iff.mp (List.all_eq_true.mp F.cls C hC)).2
  fld:=fun C hC i hi hm=>by
    have:=List.all_eq_true.mp (List.all_eq_true.mp F.att C hC) i (List.mem_range.mpr hi)
    rw [show methTab C i = none from hm] at this
    exact this
  mth:=fun C hC i f hm=>by
    have hi : i < nmTab.length:=Nat.le_of_ble_eq_true (bif_some hm)
    have:=List.all_eq_true.mp (List.all_eq_true.mp F.att C hC) i (List.mem_range.mpr hi)
    rw [show methTab C i = some f from hm] at this
    exact this
  sysm:=by
    obtain ⟨o,e⟩:=Option.isSome_iff_exists.mp F.sys
    exact ⟨o,KX _ _ e⟩
  nolimit:=T.nolimit
  base:=fun a o e=>by
    have e : bsT l ns a = some o:=e
    unfold bsT at e
    by_cases h1 : a = 22
    · rw [if_pos h1] at e; obtain rfl:=Option.some.inj e; subst h1; exact ⟨base_is (g:=gT K w s l ns) KX F.d1 F.h1 F.r1 (by decide +kernel),by decide⟩
    rw [if_neg h1] at e
    by_cases h2 : a = 387
    · rw [if_pos h2] at e; obtain rfl:=Option.some.inj e; subst h2; exact ⟨base_is (g:=gT K w s l ns) KX F.d2 F.h2 F.r2 (by decide +kernel),by decide⟩
    rw [if_neg h2] at e
    by_cases h3 : a = 390
    · rw [if_pos h3] at e; obtain rfl:=Option.some.inj e; subst h3; exact ⟨base_is (g:=gT K w s l ns) KX F.d3 F.h3 F.r3 (by decide +kernel),by decide⟩
    rw [if_neg h3] at e
    by_cases h4 : a = l
    · rw [if_pos h4] at e; obtain rfl:=Option.some.inj e; subst h4; exact ⟨hl,hln⟩
    · rw [if_neg h4] at e; cases e
theorem gk {K:Frag} {w:World} {s:Shared} {l:Addr} {ns:List Int} {p loose mg mb} (F : KF w.params K) (KX : K.In s.heap) (T : TopRead p loose mg mb s.heap) (hl : ObjIs (gT K w s l ns) s.heap l (.list (ns.map .int))) (hln : (l == sysModules) = false) : GK (gT K w s l ns) where
  H:=gok F KX T hl hln
  esc:=rfl
  bt:=rfl
  mt:=rfl
  fn:=fun a cd Fd h=>by
    obtain ⟨⟨b,r⟩,hm,rfl⟩:=List.mem_map.mp (fnA_is ▸ irOf_in h)
    have e1:=map_at F.fn _ hm
    have e2:=map_at (certs_ok (gok F KX T hl hln) F.tb) _ hm
    dsimp only at e1 e2 h
    rw [h] at e1 e2
    obtain ⟨c,_,e3⟩:=Option.map_eq_some_iff.mp e2
    exact Eq.mp (congrArg (fun F=>FnOk (gT K w s l ns) b F cd) e3) (fn_row e1 c)
  mkd:=fun C i e=>by
    have hC : C ∈ clsL:=List.contains_iff_mem.mp (bif_some e)
    have:=List.all_eq_true.mp F.mkk C hC
    unfold mkChk at this
    rw [e] at this
    simp only [Bool.and_eq_true,beq_iff_eq] at this
    exact ⟨this.1.1,this.1.2,this.2⟩
theorem k_ne {K:Frag} {h:Heap} {l:Addr} {items : Array Value} {a:Addr} (KX : K.In h) (hL : h.IsList l items) (ok : dOk K a = true) : l ≠ a:=by
  rintro rfl
  unfold dOk at ok
  cases ho : K.lookup l with
  | none=>rw [ho] at ok; cases ok
  | some o=>
    rw [ho] at ok
    simp only [Bool.and_eq_true] at ok
    obtain ⟨o',e,c,_⟩:=hL
    rw [KX _ _ ho] at e
    cases e
    have:=ok.1.1.1
    rw [c] at this
    exact absurd this (by decide)
theorem k_l {K:Frag} {w:World} {s:Shared} {l:Addr} {ns:List Int} {items : Array Value} (F : KF w.params K) (KX : K.In s.heap) (hL : s.heap.IsList l items) : (gT K w s l ns).base l = some (.list (ns.map .int)):=by
  show bsT l ns l = _
  unfold bsT
  rw [if_neg (k_ne KX hL F.d1),if_neg (k_ne KX hL F.d2),if_neg (k_ne KX hL F.d3),if_pos rfl]
theorem ints_vis {h:Heap} {vs:List Value} {ns:List Int} (r : IntsAre vs ns) : VIss h vs (ns.map .int):=by
  induction r with
  | nil=>exact .nil
  | cons i t _ ih=>exact .cons (.int _ _) ih
end Mine
set_option tactic.hygienic true
theorem PySem.Challenge.cw_nu0282_01_holds : PySem.Challenge.rw_nu0282_01.Holds := by
  refine holds_law Mine.law_said fun said => ?_
  refine holds_open (q := Mine.qP) (loose := Mine.looseL) (Xt := Mine.xt) (XP := XL Mine.qP []) (Yf := Hook.obs Mine.hookG) (Ya := Hook.val Mine.hookG) (YP := Hook.says Mine.hookG) (N := 20000) Mine.left (Hook.of Mine.hookG) (Hook.keeps Mine.hookG)
    (fun s e => xl_of s (Bool.and_eq_true_iff.mp e).1) XL.keeps (by rfl) (by rfl) (by rfl) (fun s e => recFacts_of (Bool.and_eq_true_iff.mp e).2) (by rfl) said (by decide +kernel) ⟨rfl, rfl, rfl, rfl, rfl, by decide +kernel⟩ ?hw ?hc
  case hw => w_witness2
  intro w s₀ s₁ mg mb G Y fa o pm cd doc dV kV ho hd' hcd hD hmg hg args vals as hpre hlay hrd hwl hlo
  obtain ⟨K, KX, e, h1, h2, h3⟩ := Y
  have F := Mine.kf_of e h1 h2 h3
  clear h1 h2 h3
  clear ho hd' hcd hD
  have hlo2 := hlo
  wrow_args hpre hlay hrd hwl hlo
  rename_i ns _ _ _ _ _ _ _ l vs _ hL _ w1 r0 hI _ hlen _
  have hsys : (l == sysModules) = false := hlo2 l (by cases r0 with | list _ _ _ _ => simp)
  obtain ⟨o1, o2⟩ := (show ∃ o1, s₁.heap.get? l = some o1 ∧ o1.dict = none by cases w1 with | list h1 _ => exact ⟨_, h1, rfl⟩)
  have Kg : Mine.GK (Mine.gT K w s₁ l ns) := Mine.gk F KX (topRead_of G.T) ⟨⟨_, hL, Mine.ints_vis hI⟩, fun ob e => by rw [o2.1] at e; cases e; exact o2.2⟩ hsys
  have e759 : fa = 759 := by
    have := mg_of KX G.T.g F.law
    rw [show mg _ = some (.ref fa) from hmg] at this
    cases this; rfl
  subst e759
  refine enter_call ?_
  have U := Mine.law_ok (σ := fun _ => none) (Q := fun v _ => v = .bool true) (d := 230) Kg (by omega) (scr := l) (ns := ns) (Mine.k_l F KX hL) (by omega) fun _ => rfl
  refine codeAny_mono (U.h callerA s₁ [.ref l] ⟨rfl, by decide, by decide⟩ ⟨fun _ _ h => h, hg, rfl, fun _ _ h => (nomatch h), fun _ _ h => (nomatch h)⟩ (.cons (.base _) .nil)) ?_
  intro r s' h
  obtain ⟨v, rfl, h⟩ := Mine.endC_is h
  · obtain ⟨x, σ', hv, R', S', rfl⟩ := h
    cases hv
    refine GoodW.toG ⟨.inl ⟨_, .bool true, [], rfl, ?_, .bool _, ?_, fun _ => ⟨List.nodup_nil, fun _ h => nomatch h⟩⟩, R'.keep, R'.os, R'.gens⟩
    · exact fun _ => rfl
    · exact postW_of (by wrow_shape) (by wtm_val) (by str_meet; first | done | w_fin)
