import PyProof.Rows.All
import Wide.All
import OpenK.AllK
import Wide.FinOn
import Lean
import PySem.Challenge.RW_ok0162_01
set_option Elab.async false
set_option linter.all false
set_option tactic.hygienic false
set_option genInjectivity false
set_option genSizeOf false
section
open PySem PySem.W PyProof.Rows
set_option maxRecDepth 100000
set_option maxHeartbeats 8000000
namespace Mine
theorem three {A B C D:Prop} (_:A) (_:B) (_:C) (d:D):D:=d
theorem hd (f:False):PySem.Challenge.rw_ok0162_01.Holds:=by
  w_on
  refine holds_law f.elim fun said => ?_
  refine' three ?hl ?hw ?hc ?main
  case main => k_head
  all_goals exact f.elim
noncomputable abbrev PR:Program:=PySem.Challenge.rw_ok0162_01.row.prog
noncomputable abbrev LS:List Str:=[Str.ofString "GateError", Str.ofString "unpack_classic"]
theorem boot_ok:opening PR = plainProg PR.main.scope.names:=by kernel_rfl
theorem fence_ok:∀ s, fenceModules? PR s = some s:=fun s => by kernel_rfl
noncomputable abbrev asK:List Addr:=[2,3,15,22,23,25,26,28,29,30,32,33,35,36,37,38,39,40,43,50,51,52,55,62,63,64,67,70,71,72,74,75,77,78,86,88,89,91,92,93,95,96,98,99,100,101,102,103,104,107,109,110,112,113,114,116,117,119,120,121,123,124,126,127,128,130,131,133,134,135,137,138,140,141,142,144,145,147,148,149,151,152,154,155,156,158,159,161,162,163,165,166,168,169,170,172,173,175,176,177,179,180,182,183,184,186,187,189,190,191,192,194,195,197,198,199,202,203,204,206,207,209,210,211,213,214,216,217,218,220,221,223,224,225,227,228,230,231,232,234,235,237,238,239,241,242,244,245,246,248,249,251,252,253,255,256,258,259,260,262,263,265,266,267,269,270,272,273,274,276,277,279,280,281,283,284,286,287,288,290,291,293,294,295,297,298,300,301,302,304,305,307,308,309,311,312,314,315,316,318,319,321,322,323,325,326,328,329,330,332,333,335,336,337,340,341,342,344,345,347,348,349,352,353,354,357,358,359,361,362,364,365,366,368,369,371,372,373,375,376,378,379,380,383,384,385,388,389,390,393,394,395,397,398,400,401,402,405,406,407,410,411,412,415,416]
theorem asK_ok:∀ P, asK = (hd.heap_1 P).map (·.1):=fun _ => by kernel_rfl
noncomputable abbrev HK:Hook:=kmHook hd.heap_1 asK asK_ok [408, 403]
noncomputable abbrev XT (s:Shared):Bool:=xlAt hd.view_1 [] s && recOk PySem.Challenge.rw_ok0162_01.row.records s
noncomputable abbrev S0 (w:World) (os:OsState):Shared:=⟨boot_heap w.params, Array.mk [], boot_drawn, boot_toks, os⟩
theorem left_gen {α β₁ β₂ β₃ β₄ β₅:Type} {p:Program} {Yf:Shared → α} {Ya:World → α} {N:Nat} {h:Params → Heap} {gs:Array GenState} {d:Drawn} {k:Nat} {F:Shared → β₁ × β₂ × β₃ × β₄ × β₅} {g₁:β₁} {g₂:β₂} {g₃:β₃} {g₄:β₄} {g₅:β₅}
    (hb:∀ w:World, (fencedOpening treeTable p w N).map (fun s => (s.heap, s.gens, s.drawn, s.toks)) = some (h w.params, gs, d, k))
    (h1:∀ w os, (topFrom treeTable p w N ⟨h w.params, gs, d, k, os⟩).map (fun s => ((F s).1, (F s).2.1, (F s).2.2.2.2)) = some (g₁, g₂, g₅))
    (h2:∀ w os, (topFrom treeTable p w N ⟨h w.params, gs, d, k, os⟩).map (fun s => (F s).2.2.1) = some g₃)
    (h3:∀ w os, (topFrom treeTable p w N ⟨h w.params, gs, d, k, os⟩).map (fun s => ((F s).2.2.2.1, Yf s)) = some (g₄, Ya w)):∀ w, (openEnds treeTable p w N).map (fun s => (F s, Yf s)) = some ((g₁, g₂, g₃, g₄, g₅), Ya w):=fun w => by
  obtain ⟨⟨h', gs', d', k', os⟩, e, e'⟩:=Option.map_eq_some_iff.mp (hb w)
  cases e'
  unfold openEnds
  rw [e, Option.bind_some]
  obtain ⟨s, es, e1⟩:=Option.map_eq_some_iff.mp (h1 w os)
  have e2:=h2 w os
  have e3:=h3 w os
  rw [es] at e2 e3 ⊢
  exact congrArg some (Prod.ext (Prod.ext (congrArg (·.1) e1) (Prod.ext (congrArg (·.2.1) e1) (Prod.ext (Option.some.inj e2) (Prod.ext (congrArg (·.1) (Option.some.inj e3)) (congrArg (·.2.2) e1))))) (congrArg (·.2) (Option.some.inj e3)))
theorem hA1 (w:World) (os:OsState):(topFrom treeTable PR w 5356 ⟨boot_heap w.params, Array.mk [], boot_drawn, boot_toks, os⟩).map (fun s => ((openSeen hd.view_1 LS (importedModules PR.main.body) XT true s).1, (openSeen hd.view_1 LS (importedModules PR.main.body) XT true s).2.1, (openSeen hd.view_1 LS (importedModules PR.main.body) XT true s).2.2.2.2)) = some (expectedOf hd.view_1, bltViewBooted, pinGoodD (drecsOf hd.view_1), plainGoodE hd.view_1 (looseW hd.view_1 LS), plainGoodD hd.view_1 LS, wideGood hd.view_1, clsGoodW hd.view_1 LS):=by
  unfold topFrom
  rw [PySem.W.Fast.te14082659384304107361, PySem.W.Fast.te14364793385576792824, PySem.W.Fast.te4187177175401517315]
  kernel_rfl
theorem hA2 (w:World) (os:OsState):(topFrom treeTable PR w 5356 ⟨boot_heap w.params, Array.mk [], boot_drawn, boot_toks, os⟩).map (fun s => (openSeen hd.view_1 LS (importedModules PR.main.body) XT true s).2.2.1) = some true:=by
  unfold topFrom
  rw [PySem.W.Fast.te14082659384304107361, PySem.W.Fast.te14364793385576792824, PySem.W.Fast.te4187177175401517315]
  kernel_rfl
noncomputable def liv (o:Option Obj):Option Obj:=Heap.get?.match_1 (fun J => Option Obj) o (fun J J J => none) (fun o => o)
noncomputable def pk (gs:List Nat):List Obj → List (Option Obj):=List.rec (fun J => []) (fun g J ih l => liv (l.drop g).head? :: ih (l.drop g).tail) gs
noncomputable def adr (gs:List Nat):Nat → List Addr:=List.rec (fun J => []) (fun g J ih i => (i + g) :: ih (i + g + 1)) gs
theorem pk_eq (gs:List Nat):∀ (L:List Obj) (i:Nat), pk gs (L.drop i) = (adr gs i).map fun a => liv L[a]?:=by
  induction gs with
  | nil => intro L i; rfl
  | cons g gs ih =>
    intro L i
    show liv ((L.drop i).drop g).head? :: pk gs ((L.drop i).drop g).tail = _
    rw [List.drop_drop, List.tail_drop, ih, List.head?_drop]
    rfl
noncomputable abbrev gsK:List Nat:=[2,0,11,6,0,1,0,1,0,0,1,0,1,0,0,0,0,0,2,6,0,0,2,6,0,0,2,2,0,0,1,0,1,0,7,1,0,1,0,0,1,0,1,0,0,0,0,0,0,2,1,0,1,0,0,1,0,1,0,0,1,0,1,0,0,1,0,1,0,0,1,0,1,0,0,1,0,1,0,0,1,0,1,0,0,1,0,1,0,0,1,0,1,0,0,1,0,1,0,0,1,0,1,0,0,1,0,1,0,0,0,1,0,1,0,0,2,0,0,1,0,1,0,0,1,0,1,0,0,1,0,1,0,0,1,0,1,0,0,1,0,1,0,0,1,0,1,0,0,1,0,1,0,0,1,0,1,0,0,1,0,1,0,0,1,0,1,0,0,1,0,1,0,0,1,0,1,0,0,1,0,1,0,0,1,0,1,0,0,1,0,1,0,0,1,0,1,0,0,1,0,1,0,0,1,0,1,0,0,1,0,1,0,0,2,0,0,1,0,1,0,0,2,0,0,2,0,0,1,0,1,0,0,1,0,1,0,0,1,0,1,0,0,2,0,0,2,0,0,2,0,0,1,0,1,0,0,2,0,0,2,0,0,2,0]
theorem hB' (w:World) (os:OsState):(topFrom treeTable PR w 5356 ⟨boot_heap w.params, Array.mk [], boot_drawn, boot_toks, os⟩).map (fun s => ((openSeen hd.view_1 LS (importedModules PR.main.body) XT true s).2.2.2.1, pk gsK s.heap.objs.toList, [408, 403].map s.heap.get?)) = some (true, HK.val w):=by
  unfold topFrom
  rw [PySem.W.Fast.te14082659384304107361, PySem.W.Fast.te14364793385576792824, PySem.W.Fast.te4187177175401517315]
  kernel_rfl
theorem obs_eq:HK.obs = fun s => (pk gsK s.heap.objs.toList, [408, 403].map s.heap.get?):=funext fun s => by
  refine congrArg (fun l => (l, [408, 403].map s.heap.get?)) (?_:asK.map s.heap.get? = pk gsK s.heap.objs.toList)
  have h:=pk_eq gsK s.heap.objs.toList 0
  rw [List.drop_zero] at h
  refine Eq.trans ?_ h.symm
  rw [show adr gsK 0 = asK from by kernel_rfl]
  exact List.map_congr_left fun a J => show liv s.heap.objs[a]? = liv s.heap.objs.toList[a]? from congrArg liv Array.getElem?_toList.symm
theorem hB (w:World) (os:OsState):(topFrom treeTable PR w 5356 ⟨boot_heap w.params, Array.mk [], boot_drawn, boot_toks, os⟩).map (fun s => ((openSeen hd.view_1 LS (importedModules PR.main.body) XT true s).2.2.2.1, HK.obs s)) = some (true, HK.val w):=by
  rw [obs_eq]; exact hB' w os
theorem said_ok:PySem.Challenge.rw_ok0162_01.wellSaid = true:=by
  unfold OpenLaw.wellSaid OpenRow.wellSaid
  with_reducible repeat' refine look_both ?_ ?_
  all_goals try unfold OpenRow.partSaid
  with_reducible all_goals repeat' refine look_both ?_ ?_
  all_goals try delta looksOpen
  with_reducible all_goals repeat' refine look_both ?_ ?_
  all_goals try rw [PySem.W.Fast.te8326940854005059898]
  all_goals try rw [PySem.W.Fast.te17119622794617984870]
  all_goals try rw [PySem.W.Fast.te8377067652309620493]
  all_goals decide +kernel
theorem left:LeftO PR hd.view_1 LS XT HK.obs HK.val 5356:=left_gen (boot_open (p:=PR) (N:=5356) boot_ok (by decide +kernel) fence_ok) hA1 hA2 hB
end Mine
end
section
open PySem PySem.W PySem.Spec PySem.Calls PyProof.Rows
set_option maxRecDepth 10000
namespace Mine
noncomputable abbrev PRG:Program:=PySem.Challenge.rw_ok0162_01.row.prog
noncomputable abbrev MD (w:World):Model:=model PRG w
noncomputable abbrev ASet:=Addr → Prop
inductive PV where
  | none
  | bool (b:Bool)
  | int (i:Int)
  | str (x:Str)
  | bytes (b:Array UInt8)
  | tup (l:List PV)
  | lst (l:List PV)
  | ord (c jt jf k:Int)
  | exc (C:Addr) (what:Str) (at_:Option Int)
  | loc (a:Addr)
  | con (v:Value)
  | rng (a b c:Int)
  | fn (fd:FuncData)
inductive MO where
  | list (l:List PV)
  | dict (m:List (Int × Int))
  | raw (o:Obj)
  | ns (l:List (Str × PV))
  | tab (q:Str)
structure PExc where
  C:Addr
  what:Str
  at_:Option Int
noncomputable abbrev Store:=Addr → Option MO
noncomputable abbrev Slots:=List (Option PV)
noncomputable def valOfOpt (v:Value):Option Int → Prop
  | none => v = .none
  | some i => ∃ t, v = .int i t
structure OrdAt (h:Heap) (a dx:Addr) (c jt jf k:Int):Prop where
  at_:∃ ox, h.get? a = some ox ∧ ox.cls = .ref 102 ∧ ox.dict = some dx ∧ notCls ox = true ∧ ∀ v, ox.data ≠ .cell v
  dict:∃ es n, h.get? dx = some (dictOf es n) ∧ (∃ t, getL "code" es = some (some (.int c t))) ∧ (∃ t, getL "jt" es = some (some (.int jt t))) ∧
    (∃ t, getL "jf" es = some (some (.int jf t))) ∧ (∃ t, getL "k" es = some (some (.int k t))) ∧ getL "told" es = some none
structure ExcDict (h:Heap) (dx:Addr) (what:Str) (at_:Option Int):Prop where
  dict:∃ es n, h.get? dx = some (dictOf es n) ∧ (∃ t, getL "what" es = some (some (.str what t))) ∧ (∃ v, getL "at" es = some (some v) ∧ valOfOpt v at_) ∧ getL "told" es = some none
mutual
inductive Rel (md:ASet) (h:Heap):Value → PV → Prop
  | none:Rel md h .none .none
  | bool (b:Bool):Rel md h (.bool b) (.bool b)
  | int (i:Int) (t:Tok):Rel md h (.int i t) (.int i)
  | str (x:Str) (t:Tok):Rel md h (.str x t) (.str x)
  | bytes (b:Array UInt8) (t:Tok):Rel md h (.bytes b t) (.bytes b)
  | con (v:Value):Rel md h v (.con v)
  | loc (a:Addr):Rel md h (.ref a) (.loc a)
  | tup {a:Addr} {vs:List Value} {l:List PV}:¬ md a → IsTup h a vs.toArray → RelL md h vs l → Rel md h (.ref a) (.tup l)
  | lst {a:Addr} {vs:List Value} {l:List PV}:¬ md a → h.PlainList a vs.toArray → RelL md h vs l → Rel md h (.ref a) (.lst l)
  | ord {a dx:Addr} {c jt jf k:Int}:¬ md a → ¬ md dx → OrdAt h a dx c jt jf k → Rel md h (.ref a) (.ord c jt jf k)
  | exc {a dx C:Addr} {what:Str} {at_:Option Int} {oe:Obj} {fs:Array Value}:¬ md a → ¬ md dx → h.get? a = some oe → oe.cls = .ref C → oe.dict = some dx → oe.data = .fields fs → ExcDict h dx what at_ → Rel md h (.ref a) (.exc C what at_)
  | rng {r:Addr} {a b c:Int} {t u v:Tok}:¬ md r → IsRange h r a b c t u v → Rel md h (.ref r) (.rng a b c)
  | fn {a c:Addr} {o oc:Obj} {fd:FuncData} {fs:Array Value} {t:Tok}:¬ md a → h.get? a = some o → o.cls = .type "function" → o.data = .func fd → fd.code = .ref c → ¬ md c → h.get? c = some oc → oc.data = .fields fs → fs[1]? = some (.str fd.qualname t) → Rel md h (.ref a) (.fn fd)
inductive RelL (md:ASet) (h:Heap):List Value → List PV → Prop
  | nil:RelL md h [] []
  | cons {v:Value} {vs:List Value} {p:PV} {ps:List PV}:Rel md h v p → RelL md h vs ps → RelL md h (v :: vs) (p :: ps)
end
structure Kp (md:ASet) (h:Heap) (md':ASet) (h':Heap):Prop where
  keep:∀ a o, ¬ md a → h.get? a = some o → h'.get? a = some o
  fresh:∀ a o, h.get? a = some o → md' a → md a
theorem Kp.not {md md':ASet} {h h':Heap} (k:Kp md h md' h') {a:Addr} {o:Obj} (e:h.get? a = some o) (n:¬ md a):¬ md' a:=fun q => n (k.fresh a o e q)
theorem Rel.map {md md':ASet} {h h':Heap} (k:∀ a o, ¬ md a → h.get? a = some o → (∀ v, o.data ≠ .cell v) → ¬ md' a ∧ h'.get? a = some o) {v:Value} {p:PV} (r:Rel md h v p):Rel md' h' v p :=
  Rel.rec (motive_1:=fun v p J => Rel md' h' v p) (motive_2:=fun v p J => RelL md' h' v p) .none .bool .int .str .bytes .con .loc
    (fun n t J x => t.elim fun o q => let z:=k _ _ n q.1 fun v e => q.2.2.elim fun J d => nomatch d.symm.trans e; .tup z.1 ⟨o, z.2, q.2⟩ x) (fun n t J x => t.elim fun m q => let z:=k _ _ n q fun v e => nomatch e; .lst z.1 ⟨m, z.2⟩ x)
    (fun n n2 t => t.at_.elim fun o q => t.dict.elim fun es d => d.elim fun m d => let z:=k _ _ n q.1 q.2.2.2.2; let y:=k _ _ n2 d.1 fun v e => nomatch e; .ord z.1 y.1 ⟨⟨o, z.2, q.2⟩, ⟨es, m, y.2, d.2⟩⟩)
    (fun n n2 q e1 e2 e3 t => t.dict.elim fun es d => d.elim fun m d => let z:=k _ _ n q fun v e => nomatch e3.symm.trans e; let y:=k _ _ n2 d.1 fun v e => nomatch e; .exc z.1 y.1 z.2 e1 e2 e3 ⟨es, m, y.2, d.2⟩)
    (fun n e => let z:=k _ _ n e fun v e => nomatch e; .rng z.1 z.2) (fun n e d0 d d1 n2 e2 d2 d3 => let z:=k _ _ n e fun v e => nomatch d.symm.trans e; let y:=k _ _ n2 e2 fun v e => nomatch d2.symm.trans e; .fn z.1 z.2 d0 d d1 y.1 y.2 d2 d3)
    .nil (fun J J x y => .cons x y) r
theorem Rel.mono {md md':ASet} {h h':Heap} (k:Kp md h md' h') {v:Value} {p:PV} (r:Rel md h v p):Rel md' h' v p:=r.map fun J J n e J => ⟨k.not e n, k.keep _ _ n e⟩
theorem RelL.ind {md:ASet} {h:Heap} {P:List Value → List PV → Prop} (n:P [] []) (c:∀ {v vs p ps}, Rel md h v p → RelL md h vs ps → P vs ps → P (v :: vs) (p :: ps)) {vs:List Value} {ps:List PV} (r:RelL md h vs ps):P vs ps :=
  RelL.rec (motive_1:=fun J J J => True) (motive_2:=fun v p J => P v p) ⟨⟩ (fun J => ⟨⟩) (fun J J => ⟨⟩) (fun J J => ⟨⟩) (fun J J => ⟨⟩) (fun J => ⟨⟩) (fun J => ⟨⟩) (fun J J J J => ⟨⟩) (fun J J J J => ⟨⟩) (fun J J J => ⟨⟩) (fun J J J J J J J => ⟨⟩) (fun J J => ⟨⟩) (fun J J J J J J J J J => ⟨⟩) n (fun a b J y => c a b y) r
theorem RelL.mono {md md':ASet} {h h':Heap} (k:Kp md h md' h') {v:List Value} {p:List PV} (r:RelL md h v p):RelL md' h' v p:=r.ind (P:=RelL md' h') .nil fun a J x => .cons (a.mono k) x
noncomputable def RelV (md:ASet) (h:Heap) (v:Value):PV → Prop
  | .none => v = .none
  | .bool b => v = .bool b
  | .int i => ∃ t, v = .int i t
  | .str x => ∃ t, v = .str x t
  | .bytes b => ∃ t, v = .bytes b t
  | .con u => v = u
  | .loc a => v = .ref a
  | .tup l => ∃ a vs, v = .ref a ∧ ¬ md a ∧ IsTup h a vs.toArray ∧ RelL md h vs l
  | .lst l => ∃ a vs, v = .ref a ∧ ¬ md a ∧ h.PlainList a vs.toArray ∧ RelL md h vs l
  | .ord c jt jf k => ∃ a dx, v = .ref a ∧ ¬ md a ∧ ¬ md dx ∧ OrdAt h a dx c jt jf k
  | .exc C what at_ => ∃ a dx oe fs, v = .ref a ∧ ¬ md a ∧ ¬ md dx ∧ h.get? a = some oe ∧ oe.cls = .ref C ∧ oe.dict = some dx ∧ oe.data = .fields fs ∧ ExcDict h dx what at_
  | .rng a b c => ∃ r t u w, v = .ref r ∧ ¬ md r ∧ IsRange h r a b c t u w
  | .fn fd => ∃ a c o oc fs t, v = .ref a ∧ ¬ md a ∧ h.get? a = some o ∧ o.cls = .type "function" ∧ o.data = .func fd ∧ fd.code = .ref c ∧ ¬ md c ∧ h.get? c = some oc ∧ oc.data = .fields fs ∧ fs[1]? = some (.str fd.qualname t)
theorem Rel.inv {md:ASet} {h:Heap} {v:Value} {p:PV} (r:Rel md h v p):RelV md h v p :=
  Rel.casesOn (motive_1:=fun v p J => RelV md h v p) r rfl (fun J => rfl) (fun J t => ⟨t, rfl⟩) (fun J t => ⟨t, rfl⟩) (fun J t => ⟨t, rfl⟩) (fun J => rfl) (fun J => rfl) (fun n t l => ⟨_, _, rfl, n, t, l⟩) (fun n t l => ⟨_, _, rfl, n, t, l⟩)
    (fun a b c => ⟨_, _, rfl, a, b, c⟩) (fun a b c d e f g => ⟨_, _, _, _, rfl, a, b, c, d, e, f, g⟩) (fun n t => ⟨_, _, _, _, rfl, n, t⟩) (fun a b c d e f g i j => ⟨_, _, _, _, _, _, rfl, a, b, c, d, e, f, g, i, j⟩)
section
variable {P:List Value → Prop} {vs:List Value}
theorem len0 (h:vs.length = 0) (k:P []):P vs:=by
  cases vs with
  | nil => exact k
  | cons _ _ => cases h
theorem lenS {n:Nat} (h:vs.length = n + 1) (k:∀ v vs, vs.length = n → P (v :: vs)):P vs:=by
  cases vs with
  | nil => cases h
  | cons v vs => exact k v vs (Nat.succ.inj h)
theorem len1 (h:vs.length = 1) (k:∀ a, P [a]):P vs:=lenS h fun a J h => len0 (P:=fun q => P (a :: q)) h (k a)
theorem len2 (h:vs.length = 2) (k:∀ a b, P [a, b]):P vs:=lenS h fun a J h => len1 (P:=fun q => P (a :: q)) h (k a)
theorem len3 (h:vs.length = 3) (k:∀ a b c, P [a, b, c]):P vs:=lenS h fun a J h => len2 (P:=fun q => P (a :: q)) h (k a)
theorem len4 (h:vs.length = 4) (k:∀ a b c d, P [a, b, c, d]):P vs:=lenS h fun a J h => len3 (P:=fun q => P (a :: q)) h (k a)
theorem len5 (h:vs.length = 5) (k:∀ a b c d e, P [a, b, c, d, e]):P vs:=lenS h fun a J h => len4 (P:=fun q => P (a :: q)) h (k a)
end
section
variable {md:ASet} {h:Heap} {v:Value} {P:Value → Prop}
theorem Rel.iNone (r:Rel md h v .none) (k:P .none):P v:=(show v = .none from r.inv) ▸ k
theorem Rel.iBool {b:Bool} (r:Rel md h v (.bool b)) (k:P (.bool b)):P v:=(show v = .bool b from r.inv) ▸ k
theorem Rel.iInt {i:Int} (r:Rel md h v (.int i)) (k:∀ t, P (.int i t)):P v:=r.inv.elim fun t e => e ▸ k t
theorem Rel.iStr {i:Str} (r:Rel md h v (.str i)) (k:∀ t, P (.str i t)):P v:=r.inv.elim fun t e => e ▸ k t
theorem Rel.iBytes {i:Array UInt8} (r:Rel md h v (.bytes i)) (k:∀ t, P (.bytes i t)):P v:=r.inv.elim fun t e => e ▸ k t
theorem Rel.iLoc {a:Addr} (r:Rel md h v (.loc a)) (k:P (.ref a)):P v:=(show v = .ref a from r.inv) ▸ k
theorem Rel.iTup {l:List PV} (r:Rel md h v (.tup l)) (k:∀ a vs, ¬ md a → IsTup h a vs.toArray → RelL md h vs l → P (.ref a)):P v:=r.inv.elim fun a q => q.elim fun vs q => q.1 ▸ k a vs q.2.1 q.2.2.1 q.2.2.2
theorem Rel.iLst {l:List PV} (r:Rel md h v (.lst l)) (k:∀ a vs, ¬ md a → h.PlainList a vs.toArray → RelL md h vs l → P (.ref a)):P v:=r.inv.elim fun a q => q.elim fun vs q => q.1 ▸ k a vs q.2.1 q.2.2.1 q.2.2.2
theorem Rel.iOrd {c jt jf kk:Int} (r:Rel md h v (.ord c jt jf kk)) (k:∀ a dx, ¬ md a → ¬ md dx → OrdAt h a dx c jt jf kk → P (.ref a)):P v:=r.inv.elim fun a q => q.elim fun dx q => q.1 ▸ k a dx q.2.1 q.2.2.1 q.2.2.2
variable {P:List Value → Prop} {vs:List Value} {p p₂ p₃:PV} {ps:List PV}
theorem RelL.i0 (r:RelL md h vs []) (k:P []):P vs:=RelL.ind (P:=fun vs ps => ps = [] → P [] → P vs) (fun J k => k) (fun J J J e => nomatch e) r rfl k
theorem RelL.i1 (r:RelL md h vs (p :: ps)) (k:∀ v vs, Rel md h v p → RelL md h vs ps → P (v :: vs)):P vs :=
  RelL.ind (P:=fun vs qs => qs = p :: ps → P vs) (fun e => nomatch e) (fun {v vs _ _} a b _ e => k v vs ((List.cons.inj e).1 ▸ a) ((List.cons.inj e).2 ▸ b)) r rfl
theorem RelL.e1 (r:RelL md h vs [p]) (k:∀ v, Rel md h v p → P [v]):P vs:=r.i1 fun v J a r => r.i0 (P:=fun q => P (v :: q)) (k v a)
theorem RelL.e2 (r:RelL md h vs [p, p₂]) (k:∀ v v₂, Rel md h v p → Rel md h v₂ p₂ → P [v, v₂]):P vs:=r.i1 fun v J a r => r.e1 (P:=fun q => P (v :: q)) fun v₂ b => k v v₂ a b
theorem RelL.e3 (r:RelL md h vs [p, p₂, p₃]) (k:∀ v v₂ v₃, Rel md h v p → Rel md h v₂ p₂ → Rel md h v₃ p₃ → P [v, v₂, v₃]):P vs:=r.i1 fun v J a r => r.e2 (P:=fun q => P (v :: q)) fun v₂ v₃ b c => k v v₂ v₃ a b c
end
theorem RelL.length {md:ASet} {h:Heap} {v:List Value} {p:List PV} (r:RelL md h v p):v.length = p.length:=r.ind (P:=fun v p => v.length = p.length) rfl fun J J x => congrArg Nat.succ x
theorem RelL.get {md:ASet} {h:Heap} {vs:List Value} {ps:List PV} (r:RelL md h vs ps):∀ {i:Nat} {p:PV}, ps[i]? = some p → ∃ v, vs[i]? = some v ∧ Rel md h v p :=
  r.ind (P:=fun vs ps => ∀ {i:Nat} {p:PV}, ps[i]? = some p → ∃ v, vs[i]? = some v ∧ Rel md h v p) (fun e => nomatch e) fun {v _ p' _} a _ x i p e => Nat.casesOn (motive:=fun i => (p' :: _)[i]? = some p → ∃ v', (v :: _)[i]? = some v' ∧ Rel md h v' p) i (fun e => ⟨v, rfl, Option.some.inj e ▸ a⟩) (fun J e => x e) e
theorem RelL.get' {md:ASet} {h:Heap} {vs:List Value} {ps:List PV} (r:RelL md h vs ps):∀ {i:Nat} {v:Value}, vs[i]? = some v → ∃ p, ps[i]? = some p ∧ Rel md h v p :=
  r.ind (P:=fun vs ps => ∀ {i:Nat} {v:Value}, vs[i]? = some v → ∃ p, ps[i]? = some p ∧ Rel md h v p) (fun e => nomatch e) fun {v _ p' _} a _ x i v' e => Nat.casesOn (motive:=fun i => (v :: _)[i]? = some v' → ∃ p, (p' :: _)[i]? = some p ∧ Rel md h v' p) i (fun e => ⟨p', rfl, Option.some.inj e ▸ a⟩) (fun J e => x e) e
theorem RelL.append {md:ASet} {h:Heap} {vs:List Value} {ps:List PV} (r:RelL md h vs ps) {ws:List Value} {qs:List PV} (q:RelL md h ws qs):RelL md h (vs ++ ws) (ps ++ qs):=r.ind (P:=fun a b => RelL md h (a ++ ws) (b ++ qs)) q fun a J x => .cons a x
theorem RelL.snoc {md:ASet} {h:Heap} {vs:List Value} {ps:List PV} {v:Value} {p:PV} (r:RelL md h vs ps) (q:Rel md h v p):RelL md h (vs ++ [v]) (ps ++ [p]):=r.append (.cons q .nil)
theorem RelL.take {md:ASet} {h:Heap} {vs:List Value} {ps:List PV} (r:RelL md h vs ps):∀ n, RelL md h (vs.take n) (ps.take n) :=
  r.ind (P:=fun vs ps => ∀ n, RelL md h (vs.take n) (ps.take n)) (fun n => Nat.casesOn (motive:=fun n => RelL md h (List.take n []) (List.take n [])) n .nil fun J => .nil) fun a J x n => Nat.casesOn (motive:=fun n => RelL md h (List.take n (_ :: _)) (List.take n (_ :: _))) n .nil fun n => .cons a (x n)
theorem RelL.set {md:ASet} {h:Heap} {v:Value} {p:PV} (q:Rel md h v p) {vs:List Value} {ps:List PV} (r:RelL md h vs ps):∀ n, RelL md h (vs.set n v) (ps.set n p) :=
  r.ind (P:=fun vs ps => ∀ n, RelL md h (vs.set n v) (ps.set n p)) (fun J => .nil) fun a b x n => Nat.casesOn (motive:=fun n => RelL md h (List.set (_ :: _) n v) (List.set (_ :: _) n p)) n (.cons q b) fun n => .cons a (x n)
inductive KvAll:List (Int × Value) → List (Int × Int) → Prop
  | nil:KvAll [] []
  | cons {k i:Int} {t:Tok} {l:List (Int × Value)} {m:List (Int × Int)}:KvAll l m → KvAll ((k, .int i t) :: l) ((k, i) :: m)
inductive NsRel (md:ASet) (h:Heap):List DictEntry → List (Str × PV) → Prop
  | nil:NsRel md h [] []
  | cons {hsh:Int} {t:Tok} {x:Str} {v:Value} {pv:PV} {es:List DictEntry} {l:List (Str × PV)}:Rel md h v pv → NsRel md h es l → NsRel md h (⟨hsh, .str x t, v⟩ :: es) ((x, pv) :: l)
theorem NsRel.mono {md md':ASet} {h h':Heap} (k:Kp md h md' h') {es:List DictEntry} {l:List (Str × PV)} (r:NsRel md h es l):NsRel md' h' es l:=by
  induction r with
  | nil => exact .nil
  | cons a _ ih => exact .cons (a.mono k) ih
noncomputable def MoAt (w:World) (md:ASet) (h:Heap) (a:Addr):MO → Prop
  | .list l => ∃ vs:List Value, h.PlainList a vs.toArray ∧ RelL md h vs l
  | .dict m => ∃ kvs, h.DictOf (intKind PRG w) a kvs ∧ KvAll kvs m
  | .raw o => h.get? a = some o
  | .ns l => ∃ es n, h.get? a = some (dictOf es n) ∧ NsRel md h es l
  | .tab q => ∃ ps, h.get? a = some (tabObj ps) ∧ TriplesOk ps.toList ∧ ∀ pos cv, codeAmong pos ps.toList = some cv → ∃ c oc fs t, cv = .ref c ∧ ¬ md c ∧ h.get? c = some oc ∧ oc.data = .fields fs ∧ fs[1]? = some (.str q t)
noncomputable def isFr (stk:List Env) (a:Addr):Prop:=∃ env ∈ stk, env.frame = some a
inductive FFat (H₀:Heap) (h:Heap) (env:Env):Prop
  | mk (k:env.scope.kind ≠ .module) (L:Addr) (o:Obj) (f:env.frame = some L) (n:H₀.get? L = none) (g:h.get? L = some o) (d:∀ vs, o.data ≠ .fields vs)
noncomputable def FF (H₀:Heap) (stk:List Env) (h:Heap):Prop:=∀ env ∈ stk, FFat H₀ h env
theorem FF.fun {H₀:Heap} {stk:List Env} {h:Heap} (x:FF H₀ stk h):h.FunFrames H₀ stk:=by
  induction stk with
  | nil => trivial
  | cons env r ih =>
    obtain ⟨k, y⟩:=x env (.head _)
    exact ⟨k, ⟨_, _, by assumption, by assumption, by assumption, by assumption⟩, ih fun e he => x e (.tail _ he)⟩
structure Glb (w:World) (H₀:Heap):Prop where
  X:(hd.heap_1 w.params).In H₀
  T:∃ p loose mg mb, TopRead p loose mg mb H₀
  TT:∃ p loose mean mg mb, Top p loose mean mg mb H₀
  cd:CodeHd H₀ 405 403 ∧ CodeHd H₀ 410 408
theorem Glb.keeps {w:World} {H₀ H₁:Heap} (g:Glb w H₀) (k:∀ b o, H₀.get? b = some o → H₁.get? b = some o):Glb w H₁:=by
  obtain ⟨p, loose, mg, mb, T⟩:=g.T
  obtain ⟨p', loose', mean', mg', mb', T'⟩:=g.TT
  exact ⟨g.X.keeps k, ⟨p, loose, mg, mb, T.keeps k⟩, ⟨p', loose', mean', mg', mb', T'.keeps k⟩, g.cd.1.keeps k, g.cd.2.keeps k⟩
structure Inv (w:World) (H₀:Heap) (stk:List Env) (md:ASet) (σ:Store) (h:Heap):Prop where
  gl:Glb w H₀
  base:∀ b o, H₀.get? b = some o → h.get? b = some o
  off:∀ a, md a → H₀.get? a = none
  al:∀ a, md a → ∃ o, h.get? a = some o
  sto:∀ a m, σ a = some m → md a ∧ MoAt w md h a m
  ff:FF H₀ stk h
  frmd:∀ a, isFr stk a → md a ∧ σ a = none
structure Stp (fr own tr md:ASet) (h:Heap) (md':ASet) (h':Heap):Prop where
  keep:∀ a o, ¬ own a → ¬ fr a → h.get? a = some o → h'.get? a = some o
  slots:∀ a o, ¬ own a → h.get? a = some o → ∃ sl, h'.get? a = some { o with slots:=sl }
  alive:∀ a o, h.get? a = some o → ∃ o', h'.get? a = some o'
  grow:∀ a o, md a → ¬ tr a → h.get? a = some o → md' a
  fresh:∀ a o, h.get? a = some o → md' a → md a
noncomputable def NoTr:ASet:=fun J => False
theorem Stp.refl (fr own tr md:ASet) (h:Heap):Stp fr own tr md h md h :=
  ⟨fun J J J J e => e, fun J o J e => ⟨o.slots, e⟩, fun J o e => ⟨o, e⟩, fun J J m J J => m, fun J J J m => m⟩
theorem Stp.trans {fr own own' tr tr' md md₁ md₂:ASet} {h h₁ h₂:Heap} (x:Stp fr own tr md h md₁ h₁) (y:Stp fr own' tr' md₁ h₁ md₂ h₂) (ho:∀ a, own' a → own a ∨ h.get? a = none) (ht:∀ a, tr' a → tr a ∨ h.get? a = none):Stp fr own tr md h md₂ h₂:=by
  have no:∀ a o, ¬ own a → h.get? a = some o → ¬ own' a:=fun a o n e q => by
    rcases ho a q with r | r
    · exact n r
    · rw [e] at r; cases r
  refine ⟨fun a o n f e => y.keep a o (no a o n e) f (x.keep a o n f e), fun a o n e => ?_, fun a o e => ?_, fun a o m nt e => ?_, fun a o e m => ?_⟩
  · obtain ⟨sl, e₁⟩:=x.slots a o n e
    obtain ⟨sl₂, e₂⟩:=y.slots a _ (no a o n e) e₁
    exact ⟨sl₂, e₂⟩
  · obtain ⟨o₁, e₁⟩:=x.alive a o e
    exact y.alive a o₁ e₁
  · obtain ⟨o₁, e₁⟩:=x.alive a o e
    exact y.grow a o₁ (x.grow a o m nt e) (fun q => (ht a q).elim nt fun q => by rw [e] at q; cases q) e₁
  · obtain ⟨o₁, e₁⟩:=x.alive a o e
    exact x.fresh a o e (y.fresh a o₁ e₁ m)
theorem Stp.kp {fr own tr md md':ASet} {h h':Heap} (x:Stp fr own tr md h md' h') (ho:∀ a, own a → md a) (hf:∀ a, fr a → md a):Kp md h md' h' :=
  ⟨fun a o n e => x.keep a o (fun q => n (ho a q)) (fun q => n (hf a q)) e, fun a o e m => x.fresh a o e m⟩
theorem Stp.own_mono {fr own own' tr tr' md md':ASet} {h h':Heap} (x:Stp fr own tr md h md' h') (ho:∀ a, own a → own' a) (ht:∀ a, tr a → tr' a):Stp fr own' tr' md h md' h' :=
  ⟨fun a o n f e => x.keep a o (fun q => n (ho a q)) f e, fun a o n e => x.slots a o (fun q => n (ho a q)) e, x.alive, fun a o m nt e => x.grow a o m (fun q => nt (ht a q)) e, x.fresh⟩
theorem Stp.gone {fr own tr md md':ASet} {h h':Heap} (x:Stp fr own tr md h md' h') {a:Addr} (e:h'.get? a = none):h.get? a = none:=by
  cases q:h.get? a with
  | none => rfl
  | some o => obtain ⟨o', e'⟩:=x.alive a o q; rw [e] at e'; cases e'
noncomputable def dom (σ:Store):ASet:=fun a => σ a ≠ none
structure Bx (w:World) (H₀:Heap) (n:Nat) (A:Around) (stk:List Env) (md:ASet) (σ:Store) (h:Heap):Prop where
  frames:A.frames = some stk
  ne:∃ e r, stk = e :: r
  depth:A.depth + n < recursionLimit
  units:A.units + 16 * n + 64 < cLine
  handled:4 ≤ n → A.handled = none
  inv:Inv w H₀ stk md σ h
inductive Tb where
  | new
  | flew (l:Option Addr)
noncomputable def Xa (stk:List Env) (md:ASet) (σ:Store) (h₁:Heap) (a:Addr):Prop:=h₁.get? a = none ∧ md a ∧ σ a = none ∧ ¬ isFr stk a
noncomputable def flightOf:Option Addr → Value
  | none => .none
  | some l => rawInt l
noncomputable def TbIs (stk:List Env) (md:ASet) (σ:Store) (h₁ h:Heap) (ea:Addr) (fs:Array Value):Tb → Prop
  | .new => fs[1]? = some .none
  | .flew l => ∃ T oT ts, fs[1]? = some (.ref T) ∧ h.get? T = some oT ∧ oT.data = .fields ts ∧ T ≠ ea ∧ ts[3]? = some (flightOf l) ∧ Xa stk md σ h₁ T
inductive Thr (stk:List Env) (md:ASet) (σ:Store) (h₁ h:Heap) (st:Tb) (v:Value) (pe:PExc):Prop
  | mk (ea dx:Addr) (oe:Obj) (fs:Array Value) (e:v = .ref ea) (g:h.get? ea = some oe) (c:oe.cls = .ref pe.C) (d:oe.dict = some dx) (da:oe.data = .fields fs) (sz:1 < fs.size) (nm:¬ md dx) (x:ExcDict h dx pe.what pe.at_) (xa:Xa stk md σ h₁ ea) (tb:TbIs stk md σ h₁ h ea fs st)
structure Fx where
  sc:Scope
  ns:List Str
  oc:List Str
  pe:Env → Prop
noncomputable abbrev Fx.mk3 (sc:Scope) (ns oc:List Str):Fx:=⟨sc, ns, oc, fun J => True⟩
structure LocOk (S:Fx) (env:Env) (ow md:ASet) (σ:Store) (vs:Slots) (h:Heap):Prop where
  sc:env.scope = S.sc
  gl:env.globals = mainGlobals
  bl:env.builtins = builtinsNs
  ns:∃ m, h.Ns env.locals m ∧ ∀ (i:Nat) (x:Str) (pv:PV), S.ns[i]? = some x → vs[i]? = some (some pv) → S.sc.names.lookup x = some .local → ∃ v, m x = some v ∧ Rel md h v pv
  lown:ow env.locals
  cel:∀ x c, env.cells.lookup x = some c → σ c = none ∧ c ≠ env.locals ∧ ∃ v0, h.IsCell c v0 ∧ ∀ (i:Nat) (pv:PV), S.ns[i]? = some x → vs[i]? = some (some pv) → ∃ v, v0 = some v ∧ Rel md h v pv
  ck:∀ x c, env.cells.lookup x = some c → S.sc.names.lookup x = some .cell ∨ S.sc.names.lookup x = some .free
  hasc:∀ x, (S.sc.names.lookup x = some .cell ∨ S.sc.names.lookup x = some .free) → ∃ c, env.cells.lookup x = some c
  cown:∀ x c, x ∈ S.oc → env.cells.lookup x = some c → ow c
  apart:(env.cells.Pairwise fun x y => x.2 ≠ y.2) ∧ S.pe env
  owmd:∀ a, ow a → md a ∧ σ a = none ∧ ∃ o, h.get? a = some o
structure Cx (w:World) (H₀:Heap) (S:Fx) (n:Nat) (A:Around) (env:Env) (stk:List Env) (ow md:ASet) (σ:Store) (vs:Slots) (h:Heap):Prop where
  bx:Bx w H₀ n A stk md σ h
  head:∃ e r, stk = e :: r ∧ e.frame = env.frame
  loc:LocOk S env ow md σ vs h
  owfr:∀ a, ow a → ¬ isFr stk.tail a
  cellfr:∀ x c, env.cells.lookup x = some c → ¬ isFr stk c
noncomputable def Owns (ow:ASet) (σ:Store):ASet:=fun a => ow a ∨ dom σ a
structure Go (stk:List Env) (ow:ASet) (σ:Store) (md:ASet) (h:Heap) (σ':Store) (md':ASet) (h':Heap):Prop where
  st:Stp (isFr stk) (Owns ow σ) (dom σ) md h md' h'
  d:∀ a, σ' a ≠ none → σ a ≠ none ∨ h.get? a = none
theorem Go.refl (stk:List Env) (ow:ASet) (σ:Store) (md:ASet) (h:Heap):Go stk ow σ md h σ md h:=⟨.refl .., fun J q => .inl q⟩
theorem Go.trans {stk:List Env} {ow:ASet} {σ σ₁ σ₂:Store} {md md₁ md₂:ASet} {h h₁ h₂:Heap} (x:Go stk ow σ md h σ₁ md₁ h₁) (y:Go stk ow σ₁ md₁ h₁ σ₂ md₂ h₂):Go stk ow σ md h σ₂ md₂ h₂ :=
  ⟨x.st.trans y.st (fun a q => q.elim (fun q => .inl (.inl q)) fun q => (x.d a q).imp (fun r => .inr r) id) x.d, fun a q => (y.d a q).elim (x.d a) fun q => .inr (x.st.gone q)⟩
theorem Go.ow {stk:List Env} {ow ow':ASet} {σ σ':Store} {md md':ASet} {h h':Heap} (x:Go stk ow σ md h σ' md' h') (k:∀ a, ow a → ow' a):Go stk ow' σ md h σ' md' h':=⟨x.st.own_mono (fun a q => q.imp (k a) id) fun J q => q, x.d⟩
inductive POk (w:World) (H₀:Heap) (stk:List Env) (md:ASet) (σ:Store) (s:Shared) (K:PV → Store → Prop) (v:Value) (s':Shared):Prop
  | mk (pv:PV) (σ':Store) (md':ASet) (h':Heap) (tk:Nat) (e:s' = { s with heap:=h', toks:=tk }) (k:K pv σ') (r:Rel md' h' v pv) (i:Inv w H₀ stk md' σ' h') (g:Go stk (fun J => False) σ md s.heap σ' md' h')
inductive PEx (w:World) (H₀:Heap) (stk:List Env) (md:ASet) (σ:Store) (s:Shared) (X:PExc → Store → Prop) (v:Value) (s':Shared):Prop
  | mk (pe:PExc) (σ':Store) (md':ASet) (h':Heap) (tk:Nat) (e:s' = { s with heap:=h', toks:=tk }) (x:X pe σ') (i:Inv w H₀ stk md' σ' h') (g:Go stk (fun J => False) σ md s.heap σ' md' h') (st:Tb) (hs:st = .new ∨ st = .flew none) (t:Thr stk md' σ' s.heap h' st v pe)
noncomputable def Prim (w:World) (H₀:Heap) (n:Nat) (args:List PV) (σ:Store) (t:List Value → Sem Value) (K:PV → Store → Prop) (X:PExc → Store → Prop):Prop :=
  ∀ A stk md s vals, Bx w H₀ n A stk md σ s.heap → RelL md s.heap vals args → wpAny (MD w) A (t vals) (POk w H₀ stk md σ s K) (PEx w H₀ stk md σ s X) s
inductive GOk {α β:Type} (R:ASet → Heap → α → β → Prop) (w:World) (H₀:Heap) (S:Fx) (n:Nat) (A:Around) (env:Env) (stk:List Env) (ow md:ASet) (σ:Store) (s:Shared) (K:β → Slots → Store → Prop) (v:α) (s':Shared):Prop
  | mk (pv:β) (vs':Slots) (σ':Store) (md':ASet) (h':Heap) (tk:Nat) (e:s' = { s with heap:=h', toks:=tk }) (k:K pv vs' σ') (r:R md' h' v pv) (c:Cx w H₀ S n A env stk ow md' σ' vs' h') (g:Go stk ow σ md s.heap σ' md' h')
inductive GEx (w:World) (H₀:Heap) (S:Fx) (n:Nat) (A:Around) (env:Env) (stk:List Env) (ow md:ASet) (σ:Store) (s:Shared) (X:PExc → Slots → Store → Prop) (v:Value) (s':Shared):Prop
  | mk (pe:PExc) (vs':Slots) (σ':Store) (md':ASet) (h':Heap) (tk:Nat) (e:s' = { s with heap:=h', toks:=tk }) (x:X pe vs' σ') (c:Cx w H₀ S n A env stk ow md' σ' vs' h') (g:Go stk ow σ md s.heap σ' md' h') (st:Tb) (hs:st = .new ∨ st = .flew none ∨ st = .flew env.frame) (t:Thr stk md' σ' s.heap h' st v pe)
theorem POk.el {w:World} {H₀:Heap} {stk:List Env} {md:ASet} {σ:Store} {s:Shared} {K:PV → Store → Prop} {v:Value} {s':Shared} {P:Shared → Prop} (x:POk w H₀ stk md σ s K v s')
    (k:∀ pv σ' md' h' tk, K pv σ' → Rel md' h' v pv → Inv w H₀ stk md' σ' h' → Go stk (fun J => False) σ md s.heap σ' md' h' → P { s with heap:=h', toks:=tk }):P s':=by
  obtain ⟨pv, σ', md', h', tk, rfl, a, b, c, d⟩:=x
  exact k _ _ _ _ _ a b c d
theorem PEx.el {w:World} {H₀:Heap} {stk:List Env} {md:ASet} {σ:Store} {s:Shared} {X:PExc → Store → Prop} {v:Value} {s':Shared} {P:Shared → Prop} (x:PEx w H₀ stk md σ s X v s')
    (k:∀ pe σ' md' h' tk, X pe σ' → Inv w H₀ stk md' σ' h' → Go stk (fun J => False) σ md s.heap σ' md' h' → ∀ st, (st = .new ∨ st = .flew none) → Thr stk md' σ' s.heap h' st v pe → P { s with heap:=h', toks:=tk }):P s':=by
  obtain ⟨pv, σ', md', h', tk, rfl, a, b, c, d, e, f⟩:=x
  exact k _ _ _ _ _ a b c d e f
theorem GOk.el {α β:Type} {R:ASet → Heap → α → β → Prop} {w:World} {H₀:Heap} {S:Fx} {n:Nat} {A:Around} {env:Env} {stk:List Env} {ow md:ASet} {σ:Store} {s:Shared} {K:β → Slots → Store → Prop} {v:α} {s':Shared} {P:Shared → Prop} (x:GOk R w H₀ S n A env stk ow md σ s K v s')
    (k:∀ pv vs' σ' md' h' tk, K pv vs' σ' → R md' h' v pv → Cx w H₀ S n A env stk ow md' σ' vs' h' → Go stk ow σ md s.heap σ' md' h' → P { s with heap:=h', toks:=tk }):P s':=by
  obtain ⟨pv, vs', σ', md', h', tk, rfl, a, b, c, d⟩:=x
  exact k _ _ _ _ _ _ a b c d
theorem GEx.el {w:World} {H₀:Heap} {S:Fx} {n:Nat} {A:Around} {env:Env} {stk:List Env} {ow md:ASet} {σ:Store} {s:Shared} {X:PExc → Slots → Store → Prop} {v:Value} {s':Shared} {P:Shared → Prop} (x:GEx w H₀ S n A env stk ow md σ s X v s')
    (k:∀ pe vs' σ' md' h' tk, X pe vs' σ' → Cx w H₀ S n A env stk ow md' σ' vs' h' → Go stk ow σ md s.heap σ' md' h' → ∀ st, (st = .new ∨ st = .flew none ∨ st = .flew env.frame) → Thr stk md' σ' s.heap h' st v pe → P { s with heap:=h', toks:=tk }):P s':=by
  obtain ⟨pv, vs', σ', md', h', tk, rfl, a, b, c, d, e, f⟩:=x
  exact k _ _ _ _ _ _ a b c d e f
structure Tr {α β:Type} (R:ASet → Heap → α → β → Prop) (w:World) (H₀:Heap) (S:Fx) (n:Nat) (t:Env → Sem α) (vs:Slots) (σ:Store) (K:β → Slots → Store → Prop) (X:PExc → Slots → Store → Prop):Prop where
  run:∀ A env stk ow md s, Cx w H₀ S n A env stk ow md σ vs s.heap → wpAny (MD w) A (t env) (GOk R w H₀ S n A env stk ow md σ s K) (GEx w H₀ S n A env stk ow md σ s X) s
noncomputable abbrev EvE (w:World) (H₀:Heap) (S:Fx) (n:Nat) (e:Expr) (vs:Slots) (σ:Store) (K:PV → Slots → Store → Prop) (X:PExc → Slots → Store → Prop):Prop:=Tr Rel w H₀ S n (eval e) vs σ K X
noncomputable def EqR {α:Type}:ASet → Heap → α → α → Prop:=fun J J a b => a = b
noncomputable abbrev EvT (w:World) (H₀:Heap) (S:Fx) (n:Nat) (e:Expr) (vs:Slots) (σ:Store) (K:Bool → Slots → Store → Prop) (X:PExc → Slots → Store → Prop):Prop:=Tr EqR w H₀ S n (fun env => isTrue e env (eval e env)) vs σ K X
noncomputable abbrev EvL (w:World) (H₀:Heap) (S:Fx) (n:Nat) (es:List Expr) (vs:Slots) (σ:Store) (K:List PV → Slots → Store → Prop) (X:PExc → Slots → Store → Prop):Prop :=
  ∀ p, Tr RelL w H₀ S n (fun env => spliced (backTo p (starEach es env))) vs σ K X
inductive PF where
  | next
  | ret (v:PV)
noncomputable def RelF (md:ASet) (h:Heap):Flow → PF → Prop
  | .next, .next => True
  | .ret v, .ret p => Rel md h v p
  | _, _ => False
noncomputable abbrev ExS (w:World) (H₀:Heap) (S:Fx) (n:Nat) (st:Stmt) (vs:Slots) (σ:Store) (K:PF → Slots → Store → Prop) (X:PExc → Slots → Store → Prop):Prop:=Tr RelF w H₀ S n (exec st) vs σ K X
noncomputable abbrev ExB (w:World) (H₀:Heap) (S:Fx) (n:Nat) (st:List Stmt) (vs:Slots) (σ:Store) (K:PF → Slots → Store → Prop) (X:PExc → Slots → Store → Prop):Prop:=Tr RelF w H₀ S n (execs st) vs σ K X
section
variable {w:World} {H₀:Heap} {S:Fx} {n:Nat} {A:Around} {env:Env} {stk:List Env} {ow md md':ASet} {σ σ':Store} {vs:Slots} {s:Shared} {h h':Heap}
theorem Thr.since {md:ASet} {σ:Store} {h₀ h₁:Heap} {st:Tb} {v:Value} {pe:PExc} (t:Thr stk md σ h₁ h st v pe) (al:∀ a o, h₀.get? a = some o → ∃ o', h₁.get? a = some o'):Thr stk md σ h₀ h st v pe:=by
  have xa:∀ a, Xa stk md σ h₁ a → Xa stk md σ h₀ a:=fun a x => by
    refine ⟨?_, x.2⟩
    cases q:h₀.get? a with
    | none => rfl
    | some o => obtain ⟨o', e'⟩:=al a o q; rw [x.1] at e'; cases e'
  obtain ⟨ea, dx, oe, fs, a1, a2, a3, a4, a5, a6, a7, a8, a9, a10⟩:=t
  refine ⟨ea, dx, oe, fs, a1, a2, a3, a4, a5, a6, a7, a8, xa _ a9, ?_⟩
  cases st with
  | new => exact a10
  | flew l =>
    obtain ⟨T, oT, ts, b1, b2, b3, b4, b5, b6⟩:=a10
    exact ⟨T, oT, ts, b1, b2, b3, b4, b5, xa _ b6⟩
theorem MoAt.mono {a:Addr} {m:MO} (k:Kp md h md' h') (e:∀ o, h.get? a = some o → h'.get? a = some o) (x:MoAt w md h a m):MoAt w md' h' a m:=by
  cases m with
  | list l =>
    obtain ⟨vs, ⟨n, ho⟩, r⟩:=x
    exact ⟨vs, ⟨n, e _ ho⟩, r.mono k⟩
  | dict m =>
    obtain ⟨kvs, hd, r⟩:=x
    exact ⟨kvs, Heap.DictOf.at hd e, r⟩
  | raw o => exact e _ x
  | ns l =>
    obtain ⟨es, nn, hd, r⟩:=x
    exact ⟨es, nn, e _ hd, r.mono k⟩
  | tab q =>
    obtain ⟨ps, hp, ht, r⟩:=x
    refine ⟨ps, e _ hp, ht, fun pos cv hc => ?_⟩
    obtain ⟨c, oc, fs, t, e1, e2, e3, e4, e5⟩:=r pos cv hc
    exact ⟨c, oc, fs, t, e1, k.not e3 e2, k.keep _ _ e2 e3, e4, e5⟩
theorem LocOk.step {own tr:ASet} (l:LocOk S env ow md σ vs h) (x:Stp (isFr stk) own tr md h md' h') (ntr:∀ a, σ a = none → ¬ tr a) (no:∀ a, ow a → ¬ own a) (nc:∀ a, own a → md a)
    (hcell:∀ y c, env.cells.lookup y = some c → ¬ own c ∧ ¬ isFr stk c) (hfr:∀ a, isFr stk a → md a) (hσ:∀ a, (∃ o, h.get? a = some o) → σ a = none → σ' a = none):LocOk S env ow md' σ' vs h':=by
  have kp:Kp md h md' h':=x.kp nc hfr
  refine ⟨l.sc, l.gl, l.bl, ?_, l.lown, ?_, l.ck, l.hasc, l.cown, l.apart, ?_⟩
  · obtain ⟨m, ⟨o, es, ep, ho, hd, r⟩, f⟩:=l.ns
    obtain ⟨sl, ho'⟩:=x.slots _ _ (no _ l.lown) ho
    refine ⟨m, ⟨_, es, ep, ho', hd, r⟩, fun i y pv a b c => ?_⟩
    obtain ⟨v, hv, hr⟩:=f i y pv a b c
    exact ⟨v, hv, hr.mono kp⟩
  · intro y c hc
    obtain ⟨a2, a3, v0, ⟨o, ho, hd⟩, f⟩:=l.cel y c hc
    have n1:=hcell y c hc
    refine ⟨hσ _ ⟨o, ho⟩ a2, a3, v0, ⟨o, x.keep _ _ n1.1 n1.2 ho, hd⟩, fun i pv a b => ?_⟩
    obtain ⟨v, hv, hr⟩:=f i pv a b
    exact ⟨v, hv, hr.mono kp⟩
  · intro a ha
    obtain ⟨m1, m2, o, ho⟩:=l.owmd a ha
    exact ⟨x.grow _ _ m1 (ntr _ m2) ho, hσ a ⟨o, ho⟩ m2, x.alive _ _ ho⟩
theorem Bx.with (b:Bx w H₀ n A stk md σ h) (i:Inv w H₀ stk md' σ' h'):Bx w H₀ n A stk md' σ' h':=⟨b.frames, b.ne, b.depth, b.units, b.handled, i⟩
theorem Inv.dm (i:Inv w H₀ stk md σ h):∀ a, dom σ a → md a:=fun a q => by
  cases e:σ a with
  | none => exact absurd e q
  | some m => exact (i.sto a m e).1
theorem Cx.step {σ':Store} (c:Cx w H₀ S n A env stk ow md σ vs h) (i:Inv w H₀ stk md' σ' h') (g:Go stk (fun J => False) σ md h σ' md' h'):Cx w H₀ S n A env stk ow md' σ' vs h':=by
  have no:∀ a, σ a = none → ¬ Owns (fun J => False) σ a:=fun a e q => q.elim id fun q => q e
  refine ⟨c.bx.with i, c.head, c.loc.step g.st (fun a e q => q e) (fun a q => no a (c.loc.owmd a q).2.1) (fun a q => q.elim False.elim (c.bx.inv.dm a)) (fun y k e => ⟨no _ (c.loc.cel y k e).1, c.cellfr y k e⟩) (fun a q => (c.bx.inv.frmd a q).1) fun a ⟨o, ho⟩ e => ?_, c.owfr, c.cellfr⟩
  cases q:σ' a with
  | none => rfl
  | some m =>
    rcases g.d a (by rw [q]; exact fun z => nomatch z) with r | r
    · exact absurd e r
    · rw [ho] at r; cases r
theorem Cx.kp {σ':Store} (c:Cx w H₀ S n A env stk ow md σ vs h) (x:Go stk ow σ md h σ' md' h'):Kp md h md' h' :=
  x.st.kp (fun a q => q.elim (fun q => (c.loc.owmd a q).1) (c.bx.inv.dm a)) fun a q => (c.bx.inv.frmd a q).1
theorem Prim.in {args:List PV} {vals:List Value} {t:List Value → Sem Value} {K:PV → Slots → Store → Prop} {X:PExc → Slots → Store → Prop} (P:Prim w H₀ n args σ t (fun p => K p vs) (fun p => X p vs))
    (c:Cx w H₀ S n A env stk ow md σ vs s.heap) (r:RelL md s.heap vals args):wpAny (MD w) A (t vals) (GOk Rel w H₀ S n A env stk ow md σ s K) (GEx w H₀ S n A env stk ow md σ s X) s:=by
  refine wpAny_mono (P A stk md s vals c.bx r) (fun v s' x => ?_) fun v s' x => ?_
  · apply x.el; intro pv σ' md' h' tk k r' i g
    exact ⟨pv, vs, σ', md', h', tk, rfl, k, r', c.step i g, g.ow fun J q => q.elim⟩
  · apply x.el; intro pe σ' md' h' tk k i g st e t
    exact ⟨pe, vs, σ', md', h', tk, rfl, k, c.step i g, g.ow fun J q => q.elim, st, e.imp id .inl, t⟩
section
variable {α β α₁ β₁:Type} {R:ASet → Heap → α → β → Prop} {R₁:ASet → Heap → α₁ → β₁ → Prop} {K:β → Slots → Store → Prop} {K₁:β₁ → Slots → Store → Prop} {X:PExc → Slots → Store → Prop}
  {md₁:ASet} {σ₁:Store} {h₁:Heap} {tk:Nat}
theorem GOk.lift (g:Go stk ow σ md s.heap σ₁ md₁ h₁) {v:α} {s':Shared} (x:GOk R w H₀ S n A env stk ow md₁ σ₁ { s with heap:=h₁, toks:=tk } K v s'):GOk R w H₀ S n A env stk ow md σ s K v s':=by
  apply x.el; intro pv vs' σ' md' h' tk' k r c g'
  exact ⟨pv, vs', σ', md', h', tk', rfl, k, r, c, g.trans g'⟩
theorem GEx.lift (g:Go stk ow σ md s.heap σ₁ md₁ h₁) {v:Value} {s':Shared} (x:GEx w H₀ S n A env stk ow md₁ σ₁ { s with heap:=h₁, toks:=tk } X v s'):GEx w H₀ S n A env stk ow md σ s X v s':=by
  apply x.el; intro pe vs' σ' md' h' tk' k c g' st e t
  exact ⟨pe, vs', σ', md', h', tk', rfl, k, c, g.trans g', st, e, t.since g.st.alive⟩
theorem GOk.of (g:Go stk ow σ md s.heap σ₁ md₁ h₁) {v:α} {pv:β} (c:Cx w H₀ S n A env stk ow md₁ σ₁ vs h₁) (k:K pv vs σ₁) (r:R md₁ h₁ v pv):GOk R w H₀ S n A env stk ow md σ s K v { s with heap:=h₁, toks:=tk } :=
  ⟨pv, vs, σ₁, md₁, h₁, tk, rfl, k, r, c, g⟩
theorem GOk.here {v:α} {pv:β} (c:Cx w H₀ S n A env stk ow md σ vs s.heap) (k:K pv vs σ) (r:R md s.heap v pv):GOk R w H₀ S n A env stk ow md σ s K v { s with toks:=tk } :=
  ⟨pv, vs, σ, md, s.heap, tk, rfl, k, r, c, .refl ..⟩
theorem Tr.at {t:Env → Sem α₁} (he:Tr R₁ w H₀ S n t vs σ K₁ X) (c:Cx w H₀ S n A env stk ow md σ vs s.heap) {f:α₁ → Shared → Prop} {E:Value → Shared → Prop}
    (hE:∀ v s', GEx w H₀ S n A env stk ow md σ s X v s' → E v s')
    (hf:∀ v pv vs₁ σ₁ md₁ h₁ tk, K₁ pv vs₁ σ₁ → R₁ md₁ h₁ v pv → Cx w H₀ S n A env stk ow md₁ σ₁ vs₁ h₁ → Kp md s.heap md₁ h₁ → Go stk ow σ md s.heap σ₁ md₁ h₁ → f v { s with heap:=h₁, toks:=tk }):wpAny (MD w) A (t env) f E s:=by
  refine wpAny_mono (he.run A env stk ow md s c) (fun v s' x => ?_) hE
  apply x.el; intro pv vs' σ' md' h' tk k r c' g
  exact hf v pv vs' σ' md' h' tk k r c' (c.kp g) g
theorem Tr.mono {t:Env → Sem α} {K':β → Slots → Store → Prop} {X':PExc → Slots → Store → Prop} (he:Tr R w H₀ S n t vs σ K X) (hk:∀ p vs' σ', K p vs' σ' → K' p vs' σ') (hx:∀ p vs' σ', X p vs' σ' → X' p vs' σ'):Tr R w H₀ S n t vs σ K' X':=by
  refine ⟨fun A env stk ow md s c => ?_⟩
  refine wpAny_mono (he.run A env stk ow md s c) (fun v s' x => ?_) fun v s' x => ?_
  · obtain ⟨pv, vs', σ', md', h', tk, e, k, r, c, g⟩:=x; exact ⟨pv, vs', σ', md', h', tk, e, hk _ _ _ k, r, c, g⟩
  · obtain ⟨pv, vs', σ', md', h', tk, e, k, c, g, st, hs, t⟩:=x; exact ⟨pv, vs', σ', md', h', tk, e, hx _ _ _ k, c, g, st, hs, t⟩
end
noncomputable def p1 (f:Value → Sem Value):List Value → Sem Value
  | [a] => f a
  | _ => .unsupported ""
noncomputable def p2 (f:Value → Value → Sem Value):List Value → Sem Value
  | [a, b] => f a b
  | _ => .unsupported ""
section
variable {K:PV → Slots → Store → Prop} {X:PExc → Slots → Store → Prop}
theorem EvE.bin {a b:Expr} {op:Operator} {p:Pos} (h:EvE w H₀ S n a vs σ (fun x vs₁ σ₁ => EvE w H₀ S n b vs₁ σ₁ (fun y vs₂ σ₂ => Prim w H₀ n [x, y] σ₂ (p2 (binaryOp op)) (fun p => K p vs₂) (fun p => X p vs₂)) X) X):EvE w H₀ S n (.BinOp a op b p) vs σ K X:=by
  refine ⟨fun A env stk ow md s c => ?_⟩
  refine wpAny_BinOp (h.at c (fun J J e => e) fun v x vs₁ σ₁ md₁ h₁ tk k r c₁ kp₁ g₁ => ?_)
  refine k.at c₁ (fun J J e => e.lift g₁) fun v₂ y vs₂ σ₂ md₂ h₂ tk₂ k₂ r₂ c₂ kp₂ g₂ => ?_
  refine wpAny_mono (Prim.in (t:=p2 (binaryOp op)) (vals:=[v, v₂]) k₂ c₂ (.cons (r.mono kp₂) (.cons r₂ .nil))) (fun J J e => (e.lift g₂).lift g₁) fun J J e => (e.lift g₂).lift g₁
theorem EvE.cmp {a b:Expr} {op:CmpOp} {p:Pos} (h:EvE w H₀ S n a vs σ (fun x vs₁ σ₁ => EvE w H₀ S n b vs₁ σ₁ (fun y vs₂ σ₂ => Prim w H₀ n [x, y] σ₂ (p2 (compareOp op)) (fun p => K p vs₂) (fun p => X p vs₂)) X) X)
    (hm:behindInMarks op b = false:=by rfl):EvE w H₀ S n (.Compare a [op] [b] p) vs σ K X:=by
  refine ⟨fun A env stk ow md s c => ?_⟩
  refine wpAny_Compare1 (h.at c (fun J J e => e) fun v x vs₁ σ₁ md₁ h₁ tk k r c₁ kp₁ g₁ => ?_) hm
  refine k.at c₁ (fun J J e => e.lift g₁) fun v₂ y vs₂ σ₂ md₂ h₂ tk₂ k₂ r₂ c₂ kp₂ g₂ => ?_
  refine wpAny_mono (Prim.in (t:=p2 (compareOp op)) (vals:=[v, v₂]) k₂ c₂ (.cons (r.mono kp₂) (.cons r₂ .nil))) (fun J J e => (e.lift g₂).lift g₁) fun J J e => (e.lift g₂).lift g₁
end
end
section
variable {w:World} {H₀:Heap} {S:Fx} {n:Nat} {A:Around} {env:Env} {stk:List Env} {ow md md':ASet} {σ σ':Store} {vs:Slots} {s:Shared} {h h':Heap}
  {K:PV → Slots → Store → Prop} {X:PExc → Slots → Store → Prop}
theorem EvE.cint {i:Int} {k:Nat} {p:Pos} (hk:K (.int i) vs σ):EvE w H₀ S n (.Constant (.int i) k p) vs σ K X:=⟨fun A env stk ow md s c =>
  wpAny_Constant_int (.here c hk (.int ..))⟩
theorem EvE.cstr {x:Str} {k:Nat} {p:Pos} (hk:K (.str x) vs σ):EvE w H₀ S n (.Constant (.str x) k p) vs σ K X:=⟨fun A env stk ow md s c =>
  wpAny_Constant_str (.here c hk (.str ..))⟩
theorem EvE.cbool {b:Bool} {k:Nat} {p:Pos} (hk:K (.bool b) vs σ):EvE w H₀ S n (.Constant (.bool b) k p) vs σ K X:=⟨fun A env stk ow md s c =>
  wpAny_Constant_bool (.here (tk:=s.toks) c hk (.bool ..))⟩
theorem EvE.cnone {k:Nat} {p:Pos} (hk:K .none vs σ):EvE w H₀ S n (.Constant .none k p) vs σ K X:=⟨fun A env stk ow md s c =>
  wpAny_Constant_none (.here (tk:=s.toks) c hk .none)⟩
theorem EvE.cbytes {b:List UInt8} {k:Nat} {p:Pos} (hk:K (.bytes b.toArray) vs σ):EvE w H₀ S n (.Constant (.bytes b) k p) vs σ K X:=⟨fun A env stk ow md s c => by
  refine (?_:wpAny _ _ (mkTextBytes b.toArray) _ _ _)
  unfold mkTextBytes
  exact wpAny_bind (wpAny_fresh (wpAny_pure (.here c hk (.bytes ..))))⟩
theorem EvE.name {x:Str} {p:Pos} {i:Nat} {pv:PV} (hn:S.ns[i]? = some x) (hs:(S.sc.kind == .function && (S.sc.names.lookup x == some .local || S.sc.names.lookup x == some .cell || S.sc.names.lookup x == some .free) && !(x == ("__debug__":Str)) && !(x == ("__classdict__":Str))) = true)
    (hv:vs[i]? = some (some pv)) (hk:K pv vs σ):EvE w H₀ S n (.Name x p) vs σ K X:=by
  refine ⟨fun A env stk ow md s c => ?_⟩
  simp only [Bool.and_eq_true, Bool.not_eq_true', Bool.or_eq_true, beq_iff_eq] at hs
  obtain ⟨⟨⟨hkind, hl⟩, hd⟩, hcd⟩:=hs
  have hkind':env.scope.kind = .function:=by rw [c.loc.sc]; exact hkind
  refine wpAny_Name ?_ hd
  rcases hl with (hl | hl) | hl
  · obtain ⟨m, hns, f⟩:=c.loc.ns
    obtain ⟨v, hm, hr⟩:=f i x pv hn hv hl
    exact wpAny_loadName_local hkind' (by unfold Env.kindOf; rw [c.loc.sc]; exact hl) hns hm (.here (tk:=s.toks) c hk hr)
  · obtain ⟨ca, hca⟩:=c.loc.hasc x (.inl hl)
    obtain ⟨_, _, v0, hcell, f⟩:=c.loc.cel x ca hca
    obtain ⟨v, rfl, hr⟩:=f i pv hn hv
    exact wpAny_loadName_cell hkind' (by unfold Env.kindOf; rw [c.loc.sc]; exact hl) hca hcell (.here (tk:=s.toks) c hk hr)
  · obtain ⟨ca, hca⟩:=c.loc.hasc x (.inr hl)
    obtain ⟨_, _, v0, hcell, f⟩:=c.loc.cel x ca hca
    obtain ⟨v, rfl, hr⟩:=f i pv hn hv
    exact wpAny_loadName_free hkind' (by unfold Env.kindOf; rw [c.loc.sc]; exact hl) hca hcell (.here (tk:=s.toks) c hk hr) hcd
theorem EvE.glob {x:Str} {p:Pos} {v:Value} {pv:PV} (e:nsIn (hd.heap_1 w.params) mainGlobals x = some (some v)) (hr:∀ md h, Rel md h v pv)
    (hs:(S.sc.kind == .function && S.sc.names.lookup x == some .globalImplicit && !(x == ("__debug__":Str))) = true) (hk:K pv vs σ):EvE w H₀ S n (.Name x p) vs σ K X:=by
  refine ⟨fun A env stk ow md s c => ?_⟩
  simp only [Bool.and_eq_true, Bool.not_eq_true', beq_iff_eq] at hs
  obtain ⟨⟨hkind, hl⟩, hd⟩:=hs
  obtain ⟨p', loose, mg, mb, T⟩:=c.bx.inv.gl.T
  refine Name_function_global (by rw [c.loc.sc]; exact hkind) (by unfold Env.kindOf; rw [c.loc.sc]; exact hl) ?_ hd
  exact loadGlobal_global (mg:=mg) (by rw [c.loc.gl]; exact T.g.keeps c.bx.inv.base) (mg_of c.bx.inv.gl.X T.g e) (.here (tk:=s.toks) c hk (hr ..))
theorem EvE.blt {x:Str} {p:Pos} {v:Value} {pv:PV} (e:nsIn (hd.heap_1 w.params) mainGlobals x = some none) (hv:bootBuiltins x = some v) (hr:∀ md h, Rel md h v pv)
    (hs:(S.sc.kind == .function && S.sc.names.lookup x == some .globalImplicit && !(x == ("__debug__":Str)) && !(x == ("__name__":Str))) = true) (hk:K pv vs σ):EvE w H₀ S n (.Name x p) vs σ K X:=by
  refine ⟨fun A env stk ow md s c => ?_⟩
  simp only [Bool.and_eq_true, Bool.not_eq_true', beq_iff_eq, beq_eq_false_iff_ne] at hs
  obtain ⟨⟨⟨hkind, hl⟩, hd⟩, hn⟩:=hs
  obtain ⟨p', loose, mg, mb, T⟩:=c.bx.inv.gl.T
  refine Name_function_global (by rw [c.loc.sc]; exact hkind) (by unfold Env.kindOf; rw [c.loc.sc]; exact hl) ?_ (by simpa using hd)
  exact loadGlobal_builtin (mg:=mg) (mb:=mb) (by rw [c.loc.gl]; exact T.g.keeps c.bx.inv.base) (mg_none_of c.bx.inv.gl.X T.g e) (by rw [c.loc.bl]; exact T.b.keeps c.bx.inv.base) ((T.builtins x hn).trans hv) (.here (tk:=s.toks) c hk (hr ..))
noncomputable def truthOf (p:PV):Option Bool :=
  PV.casesOn (motive_1:=fun J => Option Bool) p (some false) (fun b => some b) (fun J => none) (fun J => none) (fun J => none) (fun J => none) (fun J => none) (fun J J J J => none) (fun J J J => none) (fun J => none) (fun J => none) (fun J J J => none) (fun J => none)
theorem wpAny_truth {v:Value} {pv:PV} {b:Bool} {M:Model} {Q:Bool → Shared → Prop} {E:Value → Shared → Prop} (r:Rel md h v pv) (e:truthOf pv = some b) (hq:Q b s):wpAny M A (truthy v) Q E s:=by
  cases r <;> try exact nomatch (show (Option.none:Option Bool) = some b from e)
  · cases Option.some.inj e; exact truthy_none hq
  · cases Option.some.inj e; exact wpAny_truthy_bool hq
theorem EvT.val {e:Expr} {KB:Bool → Slots → Store → Prop} (he:∀ env whole, isTrue e env whole = (do let v ← whole; standAt e.pos; holding [v] (truthy v)))
    (hh:EvE w H₀ S n e vs σ (fun p vs₁ σ₁ => ∃ b, truthOf p = some b ∧ KB b vs₁ σ₁) X):EvT w H₀ S n e vs σ KB X:=by
  refine ⟨fun A env stk ow md s c => ?_⟩
  refine isTrue_plain (hh.at c (fun J J e => e) fun v p vs₁ σ₁ md₁ h₁ tk k r c₁ kp₁ g₁ => ?_) (he env _)
  obtain ⟨b, eb, k⟩:=k
  exact wpAny_truth r eb (.of g₁ c₁ k rfl)
theorem EvT.not {e:Expr} {p:Pos} {KB:Bool → Slots → Store → Prop} (hh:EvT w H₀ S n e vs σ (fun b => KB (!b)) X):EvT w H₀ S n (.UnaryOp .Not e p) vs σ KB X:=by
  refine ⟨fun A env stk ow md s c => ?_⟩
  refine isTrue_not (wpAny_mono (hh.run A env stk ow md s c) (fun b s' x => ?_) fun J J x => x)
  obtain ⟨pv, vs', σ', md', h', tk, e, k, rfl, c, g⟩:=x
  exact ⟨_, vs', σ', md', h', tk, e, k, rfl, c, g⟩
theorem EvT.and0 {p:Pos} {KB:Bool → Slots → Store → Prop} (hk:KB true vs σ):EvT w H₀ S n (.BoolOp .And [] p) vs σ KB X:=⟨fun A env stk ow md s c => isTrue_and_nil (.here (tk:=s.toks) c hk rfl)⟩
theorem EvT.or0 {p:Pos} {KB:Bool → Slots → Store → Prop} (hk:KB false vs σ):EvT w H₀ S n (.BoolOp .Or [] p) vs σ KB X:=⟨fun A env stk ow md s c => isTrue_or_nil (.here (tk:=s.toks) c hk rfl)⟩
theorem EvT.and {e:Expr} {es:List Expr} {p:Pos} {KB:Bool → Slots → Store → Prop} (hh:EvT w H₀ S n e vs σ (fun b vs₁ σ₁ => if b = true then EvT w H₀ S n (.BoolOp .And es p) vs₁ σ₁ KB X else KB false vs₁ σ₁) X):EvT w H₀ S n (.BoolOp .And (e :: es) p) vs σ KB X:=by
  refine ⟨fun A env stk ow md s c => ?_⟩
  refine isTrue_and (hh.at c (fun J J e => e) fun b b' vs₁ σ₁ md₁ h₁ tk k r c₁ kp₁ g₁ => ?_)
  have r:b = b':=r
  subst r
  cases b
  · exact .of g₁ c₁ k rfl
  · exact wpAny_mono (k.run A env stk ow md₁ _ c₁) (fun J J x => x.lift g₁) fun J J x => x.lift g₁
theorem EvT.or {e:Expr} {es:List Expr} {p:Pos} {KB:Bool → Slots → Store → Prop} (hh:EvT w H₀ S n e vs σ (fun b vs₁ σ₁ => if b = true then KB true vs₁ σ₁ else EvT w H₀ S n (.BoolOp .Or es p) vs₁ σ₁ KB X) X):EvT w H₀ S n (.BoolOp .Or (e :: es) p) vs σ KB X:=by
  refine ⟨fun A env stk ow md s c => ?_⟩
  refine isTrue_or (hh.at c (fun J J e => e) fun b b' vs₁ σ₁ md₁ h₁ tk k r c₁ kp₁ g₁ => ?_)
  have r:b = b':=r
  subst r
  cases b
  · exact wpAny_mono (k.run A env stk ow md₁ _ c₁) (fun J J x => x.lift g₁) fun J J x => x.lift g₁
  · exact .of g₁ c₁ k rfl
theorem EvT.cmp {a b:Expr} {op:CmpOp} {p:Pos} {KB:Bool → Slots → Store → Prop} (hh:EvE w H₀ S n a vs σ (fun x vs₁ σ₁ => EvE w H₀ S n b vs₁ σ₁ (fun y vs₂ σ₂ => Prim w H₀ n [x, y] σ₂ (p2 (compareOp op)) (fun p σ₃ => ∃ b, truthOf p = some b ∧ KB b vs₂ σ₃) (fun p => X p vs₂)) X) X)
    (hm:behindInMarks op b = false:=by rfl):EvT w H₀ S n (.Compare a [op] [b] p) vs σ KB X:=by
  refine ⟨fun A env stk ow md s c => ?_⟩
  refine wpAny_isTrue_Compare1 (hh.at c (fun J J e => e) fun v x vs₁ σ₁ md₁ h₁ tk k r c₁ kp₁ g₁ => ?_) hm
  refine k.at c₁ (fun J J e => e.lift g₁) fun v₂ y vs₂ σ₂ md₂ h₂ tk₂ k₂ r₂ c₂ kp₂ g₂ => ?_
  refine wpAny_mono (Prim.in (K:=fun p vs₃ σ₃ => ∃ b, truthOf p = some b ∧ KB b vs₃ σ₃) (t:=p2 (compareOp op)) (vals:=[v, v₂]) k₂ c₂ (.cons (r.mono kp₂) (.cons r₂ .nil))) (fun v₃ s₃ e => ?_) fun J J e => (e.lift g₂).lift g₁
  apply e.el; intro pv vs' σ' md' h' tk' w7 r' c' g'
  obtain ⟨bb, eb, k⟩:=w7
  exact wpAny_truth r' eb (.of (g₁.trans (g₂.trans g')) c' k rfl)
theorem wpA_release {M:Model} {E:Value → Shared → Prop} {Q:Unit → Shared → Prop} {l k:List Value} (hq:Q () s):wpAny M A (release l k) Q E s:=fun Γ p J => by rw [Sem.wp_release]; exact hq
theorem wpAny_isTrue_Compare2 {l r₁ r₂:Expr} {o₁ o₂:CmpOp} {pos:Pos} {M:Model} {E:Value → Shared → Prop} {Q:Bool → Shared → Prop}
    (hm:behindInMarks o₂ r₂ = false)
    (hh:wpAny M A (eval l env) (fun a s₁ => wpAny M A (eval r₁ env) (fun b s₂ => wpAny M A (compareOp o₁ a b) (fun c s₃ => wpAny M A (truthy c) (fun t s₄ => if t = true then
      wpAny M A (eval r₂ env) (fun d s₅ => wpAny M A (compareOp o₂ b d) (fun e s₆ => wpAny M A (truthy e) Q E s₆) E s₅) E s₄ else Q false s₄) E s₃) E s₂) E s₁) E s) {whole:Sem Value} :
    wpAny M A (isTrue (.Compare l [o₁, o₂] [r₁, r₂] pos) env whole) Q E s:=by
  refine (?_:wpAny M A (do testChain pos (← eval l env) [o₁, o₂] [eval r₁ env, markedBehindIn o₂ r₂ (eval r₂ env)]) Q E s)
  rw [markedBehindIn_of_false hm]
  refine wpAny_bind (wpAny_mono hh (fun a s₁ h₁ => ?_) fun J J x => x)
  show wpAny M A (do
    let rv ← holding [a] (eval r₁ env)
    standAt pos
    let c ← holding [a, rv] (compareOp o₁ a rv)
    release [a, rv] [c]
    if ← holding [c, rv] (truthy c) then testChain pos rv [o₂] [eval r₂ env] else pure false) Q E s₁
  refine wpAny_bind (wpAny_holding (wpAny_mono h₁ (fun b s₂ h₂ => wpAny_bind (wpAny_standAt (wpAny_bind (wpAny_holding (wpAny_mono h₂ (fun c s₃ h₃ => ?_) fun J J x => x)))) ) fun J J x => x))
  refine wpAny_bind (wpA_release ?_)
  refine wpAny_bind (wpAny_holding (wpAny_mono h₃ (fun t s₄ h₄ => ?_) fun J J x => x))
  cases t with
  | false => exact wpAny_pure h₄
  | true =>
    show wpAny M A (do
      let rv ← holding [b] (eval r₂ env)
      standAt pos
      let c ← operate [b, rv] (compareOp o₂ b rv)
      holding [c] (truthy c)) Q E s₄
    refine wpAny_bind (wpAny_holding (wpAny_mono h₄ (fun d s₅ h₅ => wpAny_bind (wpAny_standAt (wpAny_bind (fun Γ p hΓ => ?_)))) fun J J x => x))
    rw [Sem.wp_operate]
    exact (wpAny_mono h₅ (fun e s₆ h₆ => wpAny_holding h₆) fun J J x => x) Γ p hΓ
theorem EvT.cmp2 {a b d:Expr} {o₁ o₂:CmpOp} {p:Pos} {KB:Bool → Slots → Store → Prop}
    (hh:EvE w H₀ S n a vs σ (fun x vs₁ σ₁ => EvE w H₀ S n b vs₁ σ₁ (fun y vs₂ σ₂ => Prim w H₀ n [x, y] σ₂ (p2 (compareOp o₁)) (fun p σ₃ => ∃ b, truthOf p = some b ∧
      if b = true then EvE w H₀ S n d vs₂ σ₃ (fun z vs₃ σ₃ => Prim w H₀ n [y, z] σ₃ (p2 (compareOp o₂)) (fun p σ₄ => ∃ b, truthOf p = some b ∧ KB b vs₃ σ₄) (fun p => X p vs₃)) X else KB false vs₂ σ₃) (fun p => X p vs₂)) X) X)
    (hm:behindInMarks o₂ d = false:=by rfl):EvT w H₀ S n (.Compare a [o₁, o₂] [b, d] p) vs σ KB X:=by
  refine ⟨fun A env stk ow md s c => ?_⟩
  refine wpAny_isTrue_Compare2 hm (hh.at c (fun J J e => e) fun v x vs₁ σ₁ md₁ h₁ tk k r c₁ kp₁ g₁ => ?_)
  refine k.at c₁ (fun J J e => e.lift g₁) fun v₂ y vs₂ σ₂ md₂ h₂ tk₂ k₂ r₂ c₂ kp₂ g₂ => ?_
  refine wpAny_mono (Prim.in (K:=fun p vs₃ σ₃ => ∃ b, truthOf p = some b ∧ if b = true then EvE w H₀ S n d vs₃ σ₃ (fun z vs₃ σ₃ => Prim w H₀ n [y, z] σ₃ (p2 (compareOp o₂)) (fun p σ₄ => ∃ b, truthOf p = some b ∧ KB b vs₃ σ₄) (fun p => X p vs₃)) X else KB false vs₃ σ₃)
    (t:=p2 (compareOp o₁)) (vals:=[v, v₂]) k₂ c₂ (.cons (r.mono kp₂) (.cons r₂ .nil))) (fun v₃ s₃ e => ?_) fun J J e => (e.lift g₂).lift g₁
  apply e.el; intro pv vs' σ' md' h' tk' w7 r' c' g'
  obtain ⟨bb, eb, k⟩:=w7
  refine wpAny_truth r' eb ?_
  have g0:=g₁.trans (g₂.trans g')
  cases bb
  · exact .of g0 c' k rfl
  · rw [if_pos rfl] at k ⊢
    refine Tr.at (s:=⟨h', s.gens, s.drawn, tk', s.os⟩) k c' (fun J J e => e.lift g0) fun v₄ z vs₄ σ₄ md₄ h₄ tk₄ k₄ r₄ c₄ kp₄ g₄ => ?_
    refine wpAny_mono (Prim.in (K:=fun p vs₃ σ₃ => ∃ b, truthOf p = some b ∧ KB b vs₃ σ₃) (t:=p2 (compareOp o₂)) (vals:=[v₂, v₄]) k₄ c₄ (.cons ((r₂.mono (c₂.kp g')).mono kp₄) (.cons r₄ .nil))) (fun v₅ s₅ e => ?_) fun J J e => (e.lift g₄).lift g0
    apply e.el; intro pv5 vs5 σ5 md5 h5 tk5 w7 r5 c5 g5
    obtain ⟨b5, eb5, k5⟩:=w7
    exact wpAny_truth r5 eb5 (.of (g0.trans (g₄.trans g5)) c5 k5 rfl)
end
section
variable {w:World} {H₀:Heap} {S:Fx} {n:Nat} {A:Around} {env:Env} {stk:List Env} {ow md md':ASet} {σ σ':Store} {vs:Slots} {s:Shared} {h h':Heap}
  {K:PV → Slots → Store → Prop} {X:PExc → Slots → Store → Prop}
theorem EvE.neg {e:Expr} {p:Pos} (hh:EvE w H₀ S n e vs σ (fun q vs₁ σ₁ => ∃ i, q = .int i ∧ K (.int (-i)) vs₁ σ₁) X):EvE w H₀ S n (.UnaryOp .USub e p) vs σ K X:=by
  refine ⟨fun A env stk ow md s c => ?_⟩
  refine UnaryOp_ (hh.at c (fun J J e => e) fun v x vs₁ σ₁ md₁ h₁ tk k r c₁ kp₁ g₁ => ?_)
  obtain ⟨i, rfl, k⟩:=k
  apply r.iInt; intro _
  exact PySem.P.neg_int (.of g₁ c₁ k (.int ..))
theorem EvE.ifexp {t a b:Expr} {p:Pos} (hh:EvT w H₀ S n t vs σ (fun c vs₁ σ₁ => if c = true then EvE w H₀ S n a vs₁ σ₁ K X else EvE w H₀ S n b vs₁ σ₁ K X) X):EvE w H₀ S n (.IfExp t a b p) vs σ K X:=by
  refine ⟨fun A env stk ow md s c => ?_⟩
  refine IfExp_ (hh.at c (fun J J e => e) fun v b' vs₁ σ₁ md₁ h₁ tk k r c₁ kp₁ g₁ => ?_)
  have r:v = b':=r
  subst r
  cases v
  · exact wpAny_mono (k.run A env stk ow md₁ _ c₁) (fun J J x => x.lift g₁) fun J J x => x.lift g₁
  · exact wpAny_mono (k.run A env stk ow md₁ _ c₁) (fun J J x => x.lift g₁) fun J J x => x.lift g₁
theorem EvE.bool1 {e:Expr} {o:BoolOp} {p:Pos} (hh:EvE w H₀ S n e vs σ K X):EvE w H₀ S n (.BoolOp o [e] p) vs σ K X:=⟨fun A env stk ow md s c => BoolOp_one (hh.run A env stk ow md s c)⟩
theorem EvE.and {e e₂:Expr} {es:List Expr} {p:Pos} (hh:EvE w H₀ S n e vs σ (fun q vs₁ σ₁ => ∃ b, truthOf q = some b ∧ if b = true then EvE w H₀ S n (.BoolOp .And (e₂ :: es) p) vs₁ σ₁ K X else K q vs₁ σ₁) X):EvE w H₀ S n (.BoolOp .And (e :: e₂ :: es) p) vs σ K X:=by
  refine ⟨fun A env stk ow md s c => ?_⟩
  refine BoolOp_and (hh.at c (fun J J e => e) fun v x vs₁ σ₁ md₁ h₁ tk k r c₁ kp₁ g₁ => ?_)
  obtain ⟨b, eb, k⟩:=k
  refine wpAny_truth r eb ?_
  cases b
  · exact .of g₁ c₁ k r
  · exact wpAny_mono (k.run A env stk ow md₁ _ c₁) (fun J J x => x.lift g₁) fun J J x => x.lift g₁
theorem EvE.or {e e₂:Expr} {es:List Expr} {p:Pos} (hh:EvE w H₀ S n e vs σ (fun q vs₁ σ₁ => ∃ b, truthOf q = some b ∧ if b = true then K q vs₁ σ₁ else EvE w H₀ S n (.BoolOp .Or (e₂ :: es) p) vs₁ σ₁ K X) X):EvE w H₀ S n (.BoolOp .Or (e :: e₂ :: es) p) vs σ K X:=by
  refine ⟨fun A env stk ow md s c => ?_⟩
  refine BoolOp_or (hh.at c (fun J J e => e) fun v x vs₁ σ₁ md₁ h₁ tk k r c₁ kp₁ g₁ => ?_)
  obtain ⟨b, eb, k⟩:=k
  refine wpAny_truth r eb ?_
  cases b
  · exact wpAny_mono (k.run A env stk ow md₁ _ c₁) (fun J J x => x.lift g₁) fun J J x => x.lift g₁
  · exact .of g₁ c₁ k r
theorem wpAny_Compare2 {l r₁ r₂:Expr} {o₁ o₂:CmpOp} {pos:Pos} {M:Model} {E:Value → Shared → Prop} {Q:Value → Shared → Prop}
    (hm:behindInMarks o₂ r₂ = false)
    (hh:wpAny M A (eval l env) (fun a s₁ => wpAny M A (eval r₁ env) (fun b s₂ => wpAny M A (compareOp o₁ a b) (fun c s₃ => wpAny M A (truthy c) (fun t s₄ => if t = true then
      wpAny M A (eval r₂ env) (fun d s₅ => wpAny M A (compareOp o₂ b d) Q E s₅) E s₄ else Q c s₄) E s₃) E s₂) E s₁) E s) :
    wpAny M A (eval (.Compare l [o₁, o₂] [r₁, r₂] pos) env) Q E s:=by
  refine (?_:wpAny M A (do compareChain pos (← eval l env) [o₁, o₂] [eval r₁ env, markedBehindIn o₂ r₂ (eval r₂ env)]) Q E s)
  rw [markedBehindIn_of_false hm]
  refine wpAny_bind (wpAny_mono hh (fun a s₁ h₁ => ?_) fun J J x => x)
  show wpAny M A (do
    let rv ← holding [a] (eval r₁ env)
    standAt pos
    let c ← holding [a, rv] (compareOp o₁ a rv)
    release [a, rv] [c]
    if ← holding [c, rv] (truthy c) then compareChain pos rv [o₂] [eval r₂ env] else pure c) Q E s₁
  refine wpAny_bind (wpAny_holding (wpAny_mono h₁ (fun b s₂ h₂ => wpAny_bind (wpAny_standAt (wpAny_bind (wpAny_holding (wpAny_mono h₂ (fun c s₃ h₃ => ?_) fun J J x => x)))) ) fun J J x => x))
  refine wpAny_bind (wpA_release ?_)
  refine wpAny_bind (wpAny_holding (wpAny_mono h₃ (fun t s₄ h₄ => ?_) fun J J x => x))
  cases t with
  | false => exact wpAny_pure h₄
  | true =>
    show wpAny M A (do
      let rv ← holding [b] (eval r₂ env)
      standAt pos
      operate [b, rv] (compareOp o₂ b rv)) Q E s₄
    refine wpAny_bind (wpAny_holding (wpAny_mono h₄ (fun d s₅ h₅ => wpAny_bind (wpAny_standAt (fun Γ p hΓ => ?_))) fun J J x => x))
    rw [Sem.wp_operate]
    exact h₅ Γ p hΓ
theorem EvE.cmp2 {a b d:Expr} {o₁ o₂:CmpOp} {p:Pos}
    (hh:EvE w H₀ S n a vs σ (fun x vs₁ σ₁ => EvE w H₀ S n b vs₁ σ₁ (fun y vs₂ σ₂ => Prim w H₀ n [x, y] σ₂ (p2 (compareOp o₁)) (fun p σ₃ => ∃ b, truthOf p = some b ∧
      if b = true then EvE w H₀ S n d vs₂ σ₃ (fun z vs₃ σ₃ => Prim w H₀ n [y, z] σ₃ (p2 (compareOp o₂)) (fun p σ₄ => K p vs₃ σ₄) (fun p => X p vs₃)) X else K p vs₂ σ₃) (fun p => X p vs₂)) X) X)
    (hm:behindInMarks o₂ d = false:=by rfl):EvE w H₀ S n (.Compare a [o₁, o₂] [b, d] p) vs σ K X:=by
  refine ⟨fun A env stk ow md s c => ?_⟩
  refine wpAny_Compare2 hm (hh.at c (fun J J e => e) fun v x vs₁ σ₁ md₁ h₁ tk k r c₁ kp₁ g₁ => ?_)
  refine k.at c₁ (fun J J e => e.lift g₁) fun v₂ y vs₂ σ₂ md₂ h₂ tk₂ k₂ r₂ c₂ kp₂ g₂ => ?_
  refine wpAny_mono (Prim.in (K:=fun p vs₃ σ₃ => ∃ b, truthOf p = some b ∧ if b = true then EvE w H₀ S n d vs₃ σ₃ (fun z vs₃ σ₃ => Prim w H₀ n [y, z] σ₃ (p2 (compareOp o₂)) (fun p σ₄ => K p vs₃ σ₄) (fun p => X p vs₃)) X else K p vs₃ σ₃)
    (t:=p2 (compareOp o₁)) (vals:=[v, v₂]) k₂ c₂ (.cons (r.mono kp₂) (.cons r₂ .nil))) (fun v₃ s₃ e => ?_) fun J J e => (e.lift g₂).lift g₁
  apply e.el; intro pv vs' σ' md' h' tk' w7 r' c' g'
  obtain ⟨bb, eb, k⟩:=w7
  refine wpAny_truth r' eb ?_
  have g0:=g₁.trans (g₂.trans g')
  cases bb
  · exact .of g0 c' k r'
  · rw [if_pos rfl] at k ⊢
    refine Tr.at (s:=⟨h', s.gens, s.drawn, tk', s.os⟩) k c' (fun J J e => e.lift g0) fun v₄ z vs₄ σ₄ md₄ h₄ tk₄ k₄ r₄ c₄ kp₄ g₄ => ?_
    exact wpAny_mono (Prim.in (K:=K) (t:=p2 (compareOp o₂)) (vals:=[v₂, v₄]) k₄ c₄ (.cons ((r₂.mono (c₂.kp g')).mono kp₄) (.cons r₄ .nil))) (fun v₅ s₅ e => (e.lift g₄).lift g0) fun J J e => (e.lift g₄).lift g0
theorem EvE.item {a b:Expr} {p:Pos} (hh:EvE w H₀ S n a vs σ (fun x vs₁ σ₁ => EvE w H₀ S n b vs₁ σ₁ (fun y vs₂ σ₂ => Prim w H₀ n [x, y] σ₂ (p2 (subscriptTail a b)) (fun p => K p vs₂) (fun p => X p vs₂)) X) X):EvE w H₀ S n (.Subscript a b p) vs σ K X:=by
  refine ⟨fun A env stk ow md s c => ?_⟩
  refine Subscript_ (hh.at c (fun J J e => e) fun v x vs₁ σ₁ md₁ h₁ tk k r c₁ kp₁ g₁ => ?_)
  refine k.at c₁ (fun J J e => e.lift g₁) fun v₂ y vs₂ σ₂ md₂ h₂ tk₂ k₂ r₂ c₂ kp₂ g₂ => ?_
  exact wpAny_mono (Prim.in (t:=p2 (subscriptTail a b)) (vals:=[v, v₂]) k₂ c₂ (.cons (r.mono kp₂) (.cons r₂ .nil))) (fun J J e => (e.lift g₂).lift g₁) fun J J e => (e.lift g₂).lift g₁
theorem EvE.attr {a:Expr} {x:Str} {p:Pos} (hh:EvE w H₀ S n a vs σ (fun q vs₁ σ₁ => Prim w H₀ n [q] σ₁ (p1 fun v => getAttr v x true) (fun p => K p vs₁) (fun p => X p vs₁)) X)
    (he:∀ env, attributeBase a x env (eval a env) = eval a env):EvE w H₀ S n (.Attribute a x p) vs σ K X:=by
  refine ⟨fun A env stk ow md s c => ?_⟩
  rw [arm_eval_Attribute, he]
  refine wpAny_bind (hh.at c (fun J J e => e) fun v q vs₁ σ₁ md₁ h₁ tk k r c₁ kp₁ g₁ => wpAny_bind (wpAny_standAt (wpAny_bind (wpAny_holding ?_))))
  exact wpAny_mono (Prim.in (t:=p1 fun v => getAttr v x true) (vals:=[v]) k c₁ (.cons r .nil)) (fun J J e => wpAny_bind (wpAny_letTemporaryGo (wpAny_pure (e.lift g₁)))) fun J J e => e.lift g₁
theorem EvL.nil {KL:List PV → Slots → Store → Prop} (hk:KL [] vs σ):EvL w H₀ S n [] vs σ KL X:=fun p => ⟨fun A env stk ow md s c => wpAny_items_nil (.here (tk:=s.toks) c hk .nil)⟩
theorem EvL.cons {e:Expr} {es:List Expr} {KL:List PV → Slots → Store → Prop} (hh:EvE w H₀ S n e vs σ (fun q vs₁ σ₁ => EvL w H₀ S n es vs₁ σ₁ (fun l => KL (q :: l)) X) X)
    (he:∀ env, starEach (e :: es) env = (false, eval e env) :: starEach es env:=by intro _; rfl):EvL w H₀ S n (e :: es) vs σ KL X:=by
  refine fun p => ⟨fun A env stk ow md s c => ?_⟩
  refine wpAny_items_cons (hh.at c (fun J J e => e) fun v q vs₁ σ₁ md₁ h₁ tk k r c₁ kp₁ g₁ => ?_) (he env)
  refine (k p).at c₁ (fun J J e => e.lift g₁) fun v₂ y vs₂ σ₂ md₂ h₂ tk₂ k₂ r₂ c₂ kp₂ g₂ => ?_
  exact .of (g₁.trans g₂) c₂ k₂ (.cons (r.mono kp₂) r₂)
theorem none_size (h:Heap):h.get? h.objs.size = none:=by
  cases e:h.get? h.objs.size with
  | none => rfl
  | some o => exact absurd (Heap.lt_size e) (Nat.lt_irrefl _)
theorem Inv.push {o:Obj} (i:Inv w H₀ stk md σ h):Inv w H₀ stk md σ (h.push o):=by
  have kp:Kp md h md (h.push o):=⟨fun a o' J q => Heap.get?_push_of_some _ q, fun J J J m => m⟩
  refine ⟨i.gl, fun b o' q => Heap.get?_push_of_some _ (i.base b o' q), i.off, fun a m => ?_, fun a m q => ⟨(i.sto a m q).1, (i.sto a m q).2.mono kp fun o' q => Heap.get?_push_of_some _ q⟩, fun e he => ?_, i.frmd⟩
  · obtain ⟨o', q⟩:=i.al a m
    exact ⟨o', Heap.get?_push_of_some _ q⟩
  · obtain ⟨a, L, o', b, c, d, f⟩:=i.ff e he
    exact ⟨a, L, o', b, c, Heap.get?_push_of_some _ d, f⟩
theorem Stp.push {fr own tr md:ASet} {h:Heap} {o:Obj}:Stp fr own tr md h md (h.push o) :=
  ⟨fun J J J J q => Heap.get?_push_of_some _ q, fun J o' J q => ⟨o'.slots, Heap.get?_push_of_some _ q⟩, fun J o' q => ⟨o', Heap.get?_push_of_some _ q⟩, fun J J m J J => m, fun J J J m => m⟩
theorem Go.push {o:Obj}:Go stk ow σ md h σ md (h.push o):=⟨.push, fun J q => .inl q⟩
theorem Inv.notmd (i:Inv w H₀ stk md σ h):¬ md h.objs.size:=fun m => by
  obtain ⟨o, q⟩:=i.al _ m
  rw [none_size] at q; cases q
noncomputable def adj (md:ASet) (a:Addr):ASet:=fun b => md b ∨ b = a
theorem Kp.pushmd {o:Obj}:Kp md h (adj md h.objs.size) (h.push o) :=
  ⟨fun a o' J q => Heap.get?_push_of_some _ q, fun b o' q m => m.elim id fun z => by subst z; rw [none_size] at q; cases q⟩
theorem Inv.pushmd {o:Obj} (i:Inv w H₀ stk md σ h) (hf:o.isFreed = false:=by rfl):Inv w H₀ stk (adj md h.objs.size) σ (h.push o):=by
  have p:=i.push (o:=o)
  refine ⟨i.gl, p.base, fun b m => m.elim (i.off b) fun z => ?_, fun b m => m.elim (p.al b) fun z => ⟨o, by subst z; exact Heap.get?_push_size _ hf⟩, fun b m q => ⟨.inl (i.sto b m q).1, (i.sto b m q).2.mono .pushmd fun J q => Heap.get?_push_of_some _ q⟩, p.ff, fun b q => ⟨.inl (i.frmd b q).1, (i.frmd b q).2⟩⟩
  subst z
  cases q:H₀.get? h.objs.size with
  | none => rfl
  | some o => have:=i.base _ o q; rw [none_size] at this; cases this
theorem Go.pushmd {o:Obj}:Go stk ow σ md h σ (adj md h.objs.size) (h.push o) :=
  ⟨⟨fun J J J J q => Heap.get?_push_of_some _ q, fun J o' J q => ⟨o'.slots, Heap.get?_push_of_some _ q⟩, fun J o' q => ⟨o', Heap.get?_push_of_some _ q⟩, fun J J m J J => .inl m, fun b o' q m => m.elim id fun z => by subst z; rw [none_size] at q; cases q⟩, fun J q => .inl q⟩
noncomputable def upd (σ:Store) (a:Addr) (m:Option MO):Store:=fun b => if b = a then m else σ b
theorem upd_same (σ:Store) (a:Addr) (m:Option MO):upd σ a m a = m:=if_pos rfl
theorem upd_ne (σ:Store) {a b:Addr} (m:Option MO) (e:b ≠ a):upd σ a m b = σ b:=if_neg e
theorem Prim.new {args:List PV} {t:List Value → Sem Value} {KP:PV → Store → Prop} {XP:PExc → Store → Prop} {o:List Value → Obj} {pv:PV}
    (ht:∀ vals A s (Q:Value → Shared → Prop) (E:Value → Shared → Prop), vals.length = args.length → Q (.ref s.heap.objs.size) { s with heap:=s.heap.push (o vals) } → wpAny (MD w) A (t vals) Q E s)
    (hr:∀ md h vals, RelL md h vals args → ¬ md h.objs.size → Rel md (h.push (o vals)) (.ref h.objs.size) pv) (hk:KP pv σ) :
    Prim w H₀ n args σ t KP XP:=by
  intro A stk md s vals b r
  exact ht vals A s _ _ r.length ⟨pv, σ, md, _, s.toks, rfl, hk, hr _ _ _ r b.inv.notmd, b.inv.push, .push⟩
end
section
variable {w:World} {H₀:Heap} {S:Fx} {n:Nat} {A:Around} {env:Env} {stk:List Env} {ow md md':ASet} {σ σ':Store} {vs:Slots} {s:Shared} {h h':Heap}
  {K:PV → Store → Prop} {X:PExc → Store → Prop}
theorem POk.here {v:Value} {pv:PV} {tk:Nat} (b:Bx w H₀ n A stk md σ s.heap) (k:K pv σ) (r:Rel md s.heap v pv):POk w H₀ stk md σ s K v { s with toks:=tk } :=
  ⟨pv, σ, md, s.heap, tk, rfl, k, r, b.inv, .refl ..⟩
theorem Prim.ii {f:Value → Value → Sem Value} {a b r:Int} (hf:∀ {A s t u} {Q:Value → Shared → Prop} {E:Value → Shared → Prop}, Q (.int r s.toks) { s with toks:=s.toks + 1 } → wpAny (MD w) A (f (.int a t) (.int b u)) Q E s)
    (k:K (.int r) σ):Prim w H₀ n [.int a, .int b] σ (p2 f) K X:=by
  intro A stk md s vals bx r
  apply r.e2; intro _ _ r₁ r₂
  apply r₁.iInt; intro _
  apply r₂.iInt; intro _
  exact hf (.here bx k (.int ..))
theorem Prim.ib {f:Value → Value → Sem Value} {a b:Int} {r:Bool} (hf:∀ {A s t u} {Q:Value → Shared → Prop} {E:Value → Shared → Prop}, Q (.bool r) s → wpAny (MD w) A (f (.int a t) (.int b u)) Q E s)
    (k:K (.bool r) σ):Prim w H₀ n [.int a, .int b] σ (p2 f) K X:=by
  intro A stk md s vals bx r
  apply r.e2; intro _ _ r₁ r₂
  apply r₁.iInt; intro _
  apply r₂.iInt; intro _
  exact hf (.here (tk:=s.toks) bx k (.bool ..))
theorem p_add {a b:Int} (k:K (.int (a + b)) σ):Prim w H₀ n [.int a, .int b] σ (p2 (binaryOp .Add)) K X:=.ii (fun q => add_int q) k
theorem p_sub {a b:Int} (k:K (.int (a - b)) σ):Prim w H₀ n [.int a, .int b] σ (p2 (binaryOp .Sub)) K X:=.ii (fun q => sub_int q) k
theorem p_mul {a b:Int} (hm:IntMulOk a b) (k:K (.int (a * b)) σ):Prim w H₀ n [.int a, .int b] σ (p2 (binaryOp .Mult)) K X:=.ii (fun q => mul_int q hm) k
theorem p_div {a b:Int} (h0:b ≠ 0) (hd:Builtin.divisionGoesByPylong a b = false) (k:K (.int (a.fdiv b)) σ):Prim w H₀ n [.int a, .int b] σ (p2 (binaryOp .FloorDiv)) K X:=.ii (fun q => floordiv_int h0 q (.inl hd)) k
theorem p_mod {a b:Int} (h0:b ≠ 0) (k:K (.int (a.fmod b)) σ):Prim w H₀ n [.int a, .int b] σ (p2 (binaryOp .Mod)) K X:=.ii (fun q => mod_int' h0 q) k
theorem p_pow {a b:Int} (h0:0 ≤ b) (hb:((Builtin.Int.intBits a:Nat):Int) * b ≤ 2 ^ 27) (k:K (.int (a ^ b.toNat)) σ):Prim w H₀ n [.int a, .int b] σ (p2 (binaryOp .Pow)) K X:=.ii (fun q => pow_int h0 hb q) k
theorem p_shl {a b:Int} (h0:0 ≤ b) (h1:b ≤ 1000000) (ha:a.natAbs < 2 ^ 64) (k:K (.int (a * 2 ^ b.toNat)) σ):Prim w H₀ n [.int a, .int b] σ (p2 (binaryOp .LShift)) K X:=.ii (fun q => lshift_int_small h0 h1 ha q) k
theorem p_shr {a b:Int} (h0:0 ≤ b) (k:K (.int (a.fdiv (2 ^ b.toNat))) σ):Prim w H₀ n [.int a, .int b] σ (p2 (binaryOp .RShift)) K X:=.ii (fun q => rshift_int h0 q) k
theorem p_band {a b:Int} (k:K (.int (Builtin.bitAnd a b)) σ):Prim w H₀ n [.int a, .int b] σ (p2 (binaryOp .BitAnd)) K X:=.ii (fun q => and_int q) k
theorem p_bor {a b:Int} (k:K (.int (Builtin.bitOr a b)) σ):Prim w H₀ n [.int a, .int b] σ (p2 (binaryOp .BitOr)) K X:=.ii (fun q => or_int q) k
theorem p_eq {a b:Int} (k:K (.bool (a == b)) σ):Prim w H₀ n [.int a, .int b] σ (p2 (compareOp .Eq)) K X:=.ib (fun q => eq_int q) k
theorem p_ne {a b:Int} (k:K (.bool (a != b)) σ):Prim w H₀ n [.int a, .int b] σ (p2 (compareOp .NotEq)) K X:=.ib (fun q => ne_int q) k
theorem p_lt {a b:Int} (k:K (.bool (decide (a < b))) σ):Prim w H₀ n [.int a, .int b] σ (p2 (compareOp .Lt)) K X:=.ib (fun q => lt_int q) k
theorem p_le {a b:Int} (k:K (.bool (decide (a ≤ b))) σ):Prim w H₀ n [.int a, .int b] σ (p2 (compareOp .LtE)) K X:=.ib (fun q => le_int q) k
theorem p_gt {a b:Int} (k:K (.bool (decide (b < a))) σ):Prim w H₀ n [.int a, .int b] σ (p2 (compareOp .Gt)) K X:=.ib (fun q => gt_int q) k
theorem p_ge {a b:Int} (k:K (.bool (decide (b ≤ a))) σ):Prim w H₀ n [.int a, .int b] σ (p2 (compareOp .GtE)) K X:=.ib (fun q => ge_int q) k
theorem p_eqS {x y:Str} (k:K (.bool (x == y)) σ):Prim w H₀ n [.str x, .str y] σ (p2 (compareOp .Eq)) K X:=by
  intro A stk md s vals bx r
  apply r.e2; intro _ _ r₁ r₂
  apply r₁.iStr; intro _
  apply r₂.iStr; intro _
  exact eq_str (.here (tk:=s.toks) bx k (.bool ..))
theorem p_neS {x y:Str} (k:K (.bool (x != y)) σ):Prim w H₀ n [.str x, .str y] σ (p2 (compareOp .NotEq)) K X:=by
  intro A stk md s vals bx r
  apply r.e2; intro _ _ r₁ r₂
  apply r₁.iStr; intro _
  apply r₂.iStr; intro _
  exact ne_str (.here (tk:=s.toks) bx k (.bool ..))
theorem p_eqB {x y:Bool} (k:K (.bool (x == y)) σ):Prim w H₀ n [.bool x, .bool y] σ (p2 (compareOp .Eq)) K X:=by
  intro A stk md s vals bx r
  apply r.e2; intro _ _ r₁ r₂
  apply r₁.iBool
  apply r₂.iBool
  exact eq_bool (.here (tk:=s.toks) bx k (.bool ..))
noncomputable def PV.isNone (p:PV):Option Bool :=
  PV.casesOn (motive_1:=fun J => Option Bool) p (some true) (fun J => some false) (fun J => some false) (fun J => some false) (fun J => some false) (fun J => some false) (fun J => some false) (fun J J J J => some false) (fun J J J => some false) (fun J => some false) (fun J => Option.none) (fun J J J => some false) (fun J => some false)
theorem rel_isNone {v:Value} {p:PV} {b:Bool} (r:Rel md h v p) (e:p.isNone = some b):(v == .none) = b:=by
  cases r <;> first | exact Option.some.inj e | exact nomatch (show (Option.none:Option Bool) = some b from e)
theorem p_is {p:PV} {b:Bool} (e:p.isNone = some b) (k:K (.bool b) σ):Prim w H₀ n [p, .none] σ (p2 (compareOp .Is)) K X:=by
  intro A stk md s vals bx r
  apply r.e2; intro _ _ r₁ r₂
  apply r₂.iNone
  exact PySem.is_none (by rw [rel_isNone r₁ e]; exact .here (tk:=s.toks) bx k (.bool ..))
theorem p_isnot {p:PV} {b:Bool} (e:p.isNone = some b) (k:K (.bool (!b)) σ):Prim w H₀ n [p, .none] σ (p2 (compareOp .IsNot)) K X:=by
  intro A stk md s vals bx r
  apply r.e2; intro _ _ r₁ r₂
  apply r₂.iNone
  exact PySem.isNot_none (by rw [rel_isNone r₁ e]; exact .here (tk:=s.toks) bx k (.bool ..))
noncomputable def pvI (l:List Int):List PV:=l.map .int
noncomputable def pvS (l:List Str):List PV:=l.map .str
theorem intsAre {l:List Int} {vals:List Value} (r:RelL md h vals (pvI l)):IntsAre vals l:=by
  induction l generalizing vals with
  | nil => exact r.i0 (P:=fun v => IntsAre v _) .nil
  | cons i l ih => exact r.i1 (P:=fun v => IntsAre v _) fun J J a b => a.iInt (P:=fun v => IntsAre (v :: _) _) fun J => .cons _ _ (ih b)
theorem strsAre {l:List Str} {vals:List Value} (r:RelL md h vals (pvS l)):StrsAre vals l:=by
  induction l generalizing vals with
  | nil => exact r.i0 (P:=fun v => StrsAre v _) .nil
  | cons i l ih => exact r.i1 (P:=fun v => StrsAre v _) fun J J a b => a.iStr (P:=fun v => StrsAre (v :: _) _) fun J => .cons _ _ (ih b)
theorem p_inL {i:Int} {l:List Int} (k:K (.bool (l.any (· == i))) σ):Prim w H₀ n [.int i, .lst (pvI l)] σ (p2 (compareOp .In)) K X:=by
  intro A stk md s vals bx r
  apply r.e2; intro _ _ r₁ r₂
  apply r₁.iInt; intro _
  apply r₂.iLst; intro _ _ n hl q
  exact in_list_ints hl.isList (intsAre q) (.here (tk:=s.toks) bx k (.bool ..))
theorem p_ninL {i:Int} {l:List Int} (k:K (.bool (!(l.any (· == i)))) σ):Prim w H₀ n [.int i, .lst (pvI l)] σ (p2 (compareOp .NotIn)) K X:=by
  intro A stk md s vals bx r
  apply r.e2; intro _ _ r₁ r₂
  apply r₁.iInt; intro _
  apply r₂.iLst; intro _ _ n hl q
  exact notin_list_ints hl.isList (intsAre q) (.here (tk:=s.toks) bx k (.bool ..))
theorem p_inT {i:Int} {l:List Int} (k:K (.bool (l.any (· == i))) σ):Prim w H₀ n [.int i, .tup (pvI l)] σ (p2 (compareOp .In)) K X:=by
  intro A stk md s vals bx r
  apply r.e2; intro _ _ r₁ r₂
  apply r₁.iInt; intro _
  apply r₂.iTup; intro _ _ n hl q
  exact in_tuple_ints hl (by simpa using intsAre q) (.here (tk:=s.toks) bx k (.bool ..))
theorem p_ninT {i:Int} {l:List Int} (k:K (.bool (!(l.any (· == i)))) σ):Prim w H₀ n [.int i, .tup (pvI l)] σ (p2 (compareOp .NotIn)) K X:=by
  intro A stk md s vals bx r
  apply r.e2; intro _ _ r₁ r₂
  apply r₁.iInt; intro _
  apply r₂.iTup; intro _ _ n hl q
  exact notin_tuple_ints hl (by simpa using intsAre q) (.here (tk:=s.toks) bx k (.bool ..))
theorem p_ninS {i:Str} {l:List Str} (k:K (.bool (!(l.any (· == i)))) σ):Prim w H₀ n [.str i, .lst (pvS l)] σ (p2 (compareOp .NotIn)) K X:=by
  intro A stk md s vals bx r
  apply r.e2; intro _ _ r₁ r₂
  apply r₁.iStr; intro _
  apply r₂.iLst; intro _ _ n hl q
  exact notin_list_strs hl.isList (strsAre q) (.here (tk:=s.toks) bx k (.bool ..))
theorem p_itemL {value slice:Expr} {i:Int} {l:List PV} {p:PV} (h0:0 ≤ i) (hx:l[i.toNat]? = some p) (hi:i < 2 ^ 63) (k:K p σ)
    (hs:∀ a u, subscripted slice false (.ref a) (.int i u) = operate [.ref a, .int i u] (getItem (.ref a) (.int i u))):Prim w H₀ n [.lst l, .int i] σ (p2 (subscriptTail value slice)) K X:=by
  intro A stk md s vals bx r
  apply r.e2; intro _ _ r₁ r₂
  apply r₂.iInt; intro _
  apply r₁.iLst; intro _ _ nn hl q
  obtain ⟨v, hv, rv⟩:=q.get hx
  exact tail_any hl.isList.typeIs slot_list_getitem.lookup (wpAny_getItem_list hl.isList h0 hi (by simpa using hv) (.here (tk:=s.toks) bx k rv)) (hs _ _)
theorem p_itemM {value slice:Expr} {a:Addr} {i:Int} {l:List PV} {p:PV} (hσ:σ a = some (.list l)) (h0:0 ≤ i) (hx:l[i.toNat]? = some p) (hi:i < 2 ^ 63) (k:K p σ)
    (hs:∀ a u, subscripted slice false (.ref a) (.int i u) = operate [.ref a, .int i u] (getItem (.ref a) (.int i u))):Prim w H₀ n [.loc a, .int i] σ (p2 (subscriptTail value slice)) K X:=by
  intro A stk md s vals bx r
  apply r.e2; intro _ _ r₁ r₂
  apply r₂.iInt; intro _
  apply r₁.iLoc
  obtain ⟨_, vs, ⟨nn, hl⟩, q⟩:=bx.inv.sto a _ hσ
  obtain ⟨v, hv, rv⟩:=q.get hx
  have hL:s.heap.IsList a vs.toArray:=⟨_, hl, rfl, _, rfl⟩
  exact tail_any hL.typeIs slot_list_getitem.lookup (wpAny_getItem_list hL h0 hi (by simpa using hv) (.here (tk:=s.toks) bx k rv)) (hs _ _)
theorem p_itemT {value slice:Expr} {i:Int} {j:Nat} {l:List PV} {p:PV} (hj:seqIndex? i l.length = some j) (hx:l[j]? = some p) (hlo:-(2 ^ 63) ≤ i) (hi:i < 2 ^ 63) (k:K p σ)
    (hs:∀ a u, subscripted slice false (.ref a) (.int i u) = operate [.ref a, .int i u] (getItem (.ref a) (.int i u))):Prim w H₀ n [.tup l, .int i] σ (p2 (subscriptTail value slice)) K X:=by
  intro A stk md s vals bx r
  apply r.e2; intro _ _ r₁ r₂
  apply r₂.iInt; intro _
  apply r₁.iTup; intro _ _ nn hl q
  obtain ⟨v, hv, rv⟩:=q.get hx
  exact item_tupleT hl hlo hi (by rw [q.length]; exact hj) hv (.here (tk:=s.toks) bx k rv) (hs _ _)
theorem sizeOk_le {m:Nat} (e:m ≤ 1000):m ≤ sizeLine:=by rw [sizeLine_eq]; lia
theorem p_tup {args:List PV} (hz:args.length ≤ 1000) (k:K (.tup args) σ):Prim w H₀ n args σ newTuple K X :=
  .new (o:=fun vals => { cls:=.type "tuple", data:=.seq vals.toArray }) (fun vals A s Q E e q => wpAny_newObj_type q (by show vals.toArray.size ≤ sizeLine; rw [List.size_toArray, e]; exact sizeOk_le hz))
    (fun md h vals r hm => .tup hm ⟨_, Heap.get?_push_size _ rfl, rfl, _, rfl⟩ (r.mono ⟨fun J J J q => Heap.get?_push_of_some _ q, fun J J J m => m⟩)) k
theorem p_lst {args:List PV} (hz:args.length ≤ 1000) (k:K (.lst args) σ):Prim w H₀ n args σ newList K X :=
  .new (o:=fun vals => { cls:=.type "list", data:=.seq vals.toArray }) (fun vals A s Q E e q => wpAny_newObj_type q (by show vals.toArray.size ≤ sizeLine; rw [List.size_toArray, e]; exact sizeOk_le hz))
    (fun md h vals r hm => .lst hm ⟨_, Heap.get?_push_size _ rfl⟩ (r.mono ⟨fun J J J q => Heap.get?_push_of_some _ q, fun J J J m => m⟩)) k
theorem p_lstM {args:List PV} (hz:args.length ≤ 1000) (k:∀ a, σ a = none → K (.loc a) (upd σ a (some (.list args)))):Prim w H₀ n args σ newList K X:=by
  intro A stk md s vals bx r
  have hz':vals.toArray.size ≤ sizeLine:=by rw [List.size_toArray, r.length]; exact sizeOk_le hz
  refine wpAny_newObj_type (data:=.seq vals.toArray) ?_ hz'
  have hn:σ s.heap.objs.size = none:=by
    cases q:σ s.heap.objs.size with
    | none => rfl
    | some m => exact absurd (bx.inv.sto _ m q).1 bx.inv.notmd
  refine ⟨_, _, adj md s.heap.objs.size, _, s.toks, rfl, k _ hn, .loc _, ?_, ?_⟩
  · have i:=bx.inv.pushmd (o:={ cls:=.type "list", data:=.seq vals.toArray })
    refine ⟨i.gl, i.base, i.off, i.al, fun a m q => ?_, i.ff, fun a q => ⟨(i.frmd a q).1, ?_⟩⟩
    · by_cases e:a = s.heap.objs.size
      · subst e
        rw [upd_same] at q
        cases q
        exact ⟨.inr rfl, vals, ⟨_, Heap.get?_push_size _ rfl⟩, r.mono .pushmd⟩
      · rw [upd_ne _ _ e] at q
        exact i.sto a m q
    · have e:a ≠ s.heap.objs.size:=fun z => by
        obtain ⟨en, he, hfe⟩:=q
        obtain ⟨_, L, o', e1, _, e2, _⟩:=bx.inv.ff en he
        rw [hfe] at e1; cases e1
        rw [z, none_size] at e2; cases e2
      rw [upd_ne _ _ e]; exact (i.frmd a q).2
  · refine ⟨Go.pushmd.st, fun a q => ?_⟩
    by_cases e:a = s.heap.objs.size
    · exact .inr (by rw [e]; exact none_size _)
    · rw [upd_ne _ _ e] at q; exact .inl q
end
section
variable {w:World} {H₀:Heap} {S:Fx} {n:Nat} {σ:Store} {vs:Slots} {K:PV → Slots → Store → Prop} {X:PExc → Slots → Store → Prop}
theorem EvE.tuple {es:List Expr} {k:Nat} {p:Pos} (hh:EvL w H₀ S n es vs σ (fun l vs₁ σ₁ => Prim w H₀ n l σ₁ newTuple (fun q => K q vs₁) (fun q => X q vs₁)) X):EvE w H₀ S n (.Tuple es k p) vs σ K X:=by
  refine ⟨fun A env stk ow md s c => ?_⟩
  refine Tuple_ ((hh p).at c (fun J J e => e) fun v l vs₁ σ₁ md₁ h₁ tk k r c₁ kp₁ g₁ => ?_)
  exact wpAny_mono (Prim.in (t:=newTuple) k c₁ r) (fun J J e => e.lift g₁) fun J J e => e.lift g₁
theorem EvE.list {es:List Expr} {p:Pos} (hh:EvL w H₀ S n es vs σ (fun l vs₁ σ₁ => Prim w H₀ n l σ₁ newList (fun q => K q vs₁) (fun q => X q vs₁)) X):EvE w H₀ S n (.List es p) vs σ K X:=by
  refine ⟨fun A env stk ow md s c => ?_⟩
  refine List_ ((hh p).at c (fun J J e => e) fun v l vs₁ σ₁ md₁ h₁ tk k r c₁ kp₁ g₁ => ?_)
  exact wpAny_mono (Prim.in (t:=newList) k c₁ r) (fun J J e => e.lift g₁) fun J J e => e.lift g₁
theorem wpA_evalArgs {M:Model} {A:Around} {E:Value → Shared → Prop} {s:Shared} {f:Value} {Q:Args → Shared → Prop}:∀ {l:List (Bool × Sem Value)}, l.any (·.1) = false →
    wpAny M A (spliced l) (fun vals s' => Q ⟨vals, []⟩ s') E s → wpAny M A (evalArgs f true l []) Q E s
  | [], _, hh => by
    unfold evalArgs
    refine (?_:wpAny M A (spliced [] >>= _) Q E s)
    refine wpAny_bind (wpAny_mono hh (fun vals s' q => wpAny_bind (wpAny_pure ?_)) fun J J x => x)
    refine wpAny_holding ?_
    exact wpAny_bind (wpAny_pure (wpAny_bind (wpAny_pure (wpAny_pure q))))
  | (true, x) :: r, e, hh => by simp at e
  | (false, x) :: r, e, hh => Calls.evalArgs_plain hh
theorem wpA_callWith {M:Model} {A:Around} {E:Value → Shared → Prop} {s:Shared} {env:Env} {pos:Pos} {f:Value} {first:List Value} {es:List Expr} {Q:Value → Shared → Prop} (hp:(backTo pos (starEach es env)).any (·.1) = false)
    (hh:wpAny M A (spliced (backTo pos (starEach es env))) (fun vals s₁ => (∃ k, (k = Keeper.frame ∨ k = Keeper.machine ∨ k = Keeper.boundFrame) ∧ Looks M s₁.heap (keeperOf f) k) ∧ wpAny M A (call f (first ++ vals)) Q E s₁) E s) :
    wpAny M A (callWith pos f first (backTo pos (starEach es env)) []) Q E s:=by
  refine callWith_of (P:=fun h => ∃ k, (k = Keeper.frame ∨ k = Keeper.machine ∨ k = Keeper.boundFrame) ∧ Looks M h (keeperOf f) k) (by rw [hp]; rfl) (fun h q => q) (wpA_evalArgs hp (wpAny_mono hh (fun vals s₁ h₁ => ?_) fun J J x => x))
  exact h₁
noncomputable def Kept (w:World) (fv:Value):Prop:=∀ h:Heap, (hd.heap_1 w.params).In h → ∃ k, (k = Keeper.frame ∨ k = Keeper.machine ∨ k = Keeper.boundFrame) ∧ Looks (MD w) h (keeperOf fv) k
theorem Kept.ofK {f:Value} (e:keepIn (hd.heap_1 w.params) f = true):Kept w f:=fun h X => keeps_K e h X
theorem Kept.builtin {i:String}:Kept w (.builtin i):=fun h X => ⟨.machine, .inr (.inl rfl), Looks.of_pure rfl⟩
theorem Kept.type {i:String}:Kept w (.type i):=fun h X => ⟨.machine, .inr (.inl rfl), Looks.of_pure rfl⟩
theorem EvE.call {f:Expr} {es:List Expr} {p:Pos} (he:∀ env, eval (.Call f es [] p) env = (do callWith p (← eval f env) [] (backTo p (starEach es env)) (backToKw p (keywordEach [] env))))
    (hp:∀ env, (backTo p (starEach es env)).any (·.1) = false)
    (hh:EvE w H₀ S n f vs σ (fun q vs₁ σ₁ => ∃ fv, q = .con fv ∧ Kept w fv ∧ EvL w H₀ S n es vs₁ σ₁ (fun l vs₂ σ₂ => Prim w H₀ n l σ₂ (fun vals => PySem.call fv vals) (fun q => K q vs₂) (fun q => X q vs₂)) X) X):EvE w H₀ S n (.Call f es [] p) vs σ K X:=by
  refine ⟨fun A env stk ow md s c => ?_⟩
  rw [he]
  refine wpAny_bind (hh.at c (fun J J e => e) fun v q vs₁ σ₁ md₁ h₁ tk k r c₁ kp₁ g₁ => ?_)
  obtain ⟨fv, rfl, hk, k⟩:=k
  obtain rfl:v = fv:=r.inv
  refine wpA_callWith (hp env) ((k p).at c₁ (fun J J e => e.lift g₁) fun lv l vs₂ σ₂ md₂ h₂ tk₂ k₂ r₂ c₂ kp₂ g₂ => ⟨hk _ (c₂.bx.inv.gl.X.keeps c₂.bx.inv.base), ?_⟩)
  exact wpAny_mono (Prim.in (t:=fun vals => PySem.call v vals) k₂ c₂ r₂) (fun J J e => (e.lift g₂).lift g₁) fun J J e => (e.lift g₂).lift g₁
theorem EvE.meth {o:Expr} {x:Str} {ap p:Pos} {es:List Expr} (hb:∀ env, attributeBase o x env (eval o env) = eval o env) (hp:∀ env, (backTo p (starEach es env)).any (·.1) = false)
    (hl:(ap.endLine == p.line) = true) (hn:es.length < 29)
    (hh:EvE w H₀ S n o vs σ (fun q vs₁ σ₁ => ∃ fv, Kept w fv ∧
      (∀ A stk md h v, Bx w H₀ n A stk md σ₁ h → Rel md h v q → ∀ (pl:Sem Bool) (s:Shared) (Q:Value × List Value → Shared → Prop) (E:Value → Shared → Prop), s.heap = h → Q (fv, [v]) s → wpAny (MD w) A (getMethod v x pl) Q E s) ∧
      EvL w H₀ S n es vs₁ σ₁ (fun l vs₂ σ₂ => Prim w H₀ n (q :: l) σ₂ (fun vals => PySem.call fv vals) (fun q => K q vs₂) (fun q => X q vs₂)) X) X):EvE w H₀ S n (.Call (.Attribute o x ap) es [] p) vs σ K X:=by
  refine ⟨fun A env stk ow md s c => ?_⟩
  rw [arm_eval_Call, hb]
  refine wpAny_bind (hh.at c (fun J J e => e) fun v q vs₁ σ₁ md₁ h₁ tk k r c₁ kp₁ g₁ => wpAny_bind (wpAny_standAt ?_))
  obtain ⟨fv, hk, hm, k⟩:=k
  have hform:methodCallForm (es.length + ([]:List Keyword).length) (backTo p (starEach es env)) (backToKw p (keywordEach [] env)) = true:=by
    have hp':=hp env
    unfold methodCallForm
    simp only [Bool.and_eq_true, List.all_eq_true, decide_eq_true_eq]
    refine ⟨⟨fun y hy => ?_, fun y hy => by cases hy⟩, ?_⟩
    · rw [List.any_eq_false] at hp'
      simpa using hp' y hy
    · refine (?_:es.length + 0 + 0 < 30)
      lia
  have hpos:methodCallPos true o env ap p = pure p:=by unfold methodCallPos; simp [hl]
  unfold methodCall
  rw [hform]
  refine wpAny_bind (wpAny_holding (hm A stk md₁ h₁ v c₁.bx r _ _ _ _ rfl ?_))
  refine wpAny_bind (wpAny_of_eq hpos ?_)
  refine wpA_callWith (hp env) ((k p).at c₁ (fun J J e => e.lift g₁) fun v₂ l vs₂ σ₂ md₂ h₂ tk₂ k₂ r₂ c₂ kp₂ g₂ => ⟨hk _ (c₂.bx.inv.gl.X.keeps c₂.bx.inv.base), ?_⟩)
  exact wpAny_mono (Prim.in (t:=fun vals => PySem.call fv vals) k₂ c₂ (.cons (r.mono kp₂) r₂)) (fun J J e => (e.lift g₂).lift g₁) fun J J e => (e.lift g₂).lift g₁
end
theorem bindL_out {kd:Str → Option NameKind} {l:List (Str × Value)} {m:Str → Option Value} {x:Str} (hx:x ∉ l.map (·.1)):bindL kd l m x = m x:=by
  induction l generalizing m with
  | nil =>
    exact rfl
  | cons p r ih =>
    obtain ⟨y, v⟩:=p
    simp only [List.map_cons, List.mem_cons, not_or] at hx
    unfold bindL
    rw [ih hx.2]
    split
    · exact if_neg hx.1
    · rfl
theorem bindC_out {kd:Str → Option NameKind} {l:List (Str × Value)} {m:Str → Option Value} {x:Str} (hx:x ∉ l.map (·.1)):bindC kd l m x = m x:=by
  induction l generalizing m with
  | nil =>
    exact rfl
  | cons p r ih =>
    obtain ⟨y, v⟩:=p
    simp only [List.map_cons, List.mem_cons, not_or] at hx
    unfold bindC
    rw [ih hx.2]
    split
    · rfl
    · exact if_neg hx.1
theorem bindL_in {kd:Str → Option NameKind} {l:List (Str × Value)} {m:Str → Option Value} {x:Str} {v:Value} (hm:(x, v) ∈ l) (hn:(l.map (·.1)).Nodup) (hk:kd x = some .local):bindL kd l m x = some v:=by
  induction l generalizing m with
  | nil => cases hm
  | cons p r ih =>
    obtain ⟨y, u⟩:=p
    rw [List.map_cons, List.nodup_cons] at hn
    unfold bindL
    rcases List.mem_cons.mp hm with e | hm
    · cases e
      rw [if_pos hk, bindL_out hn.1, if_pos rfl]
    · exact ih hm hn.2
theorem bindC_in {kd:Str → Option NameKind} {l:List (Str × Value)} {m:Str → Option Value} {x:Str} {v:Value} (hm:(x, v) ∈ l) (hn:(l.map (·.1)).Nodup) (hk:kd x ≠ some .local):bindC kd l m x = some v:=by
  induction l generalizing m with
  | nil => cases hm
  | cons p r ih =>
    obtain ⟨y, u⟩:=p
    rw [List.map_cons, List.nodup_cons] at hn
    unfold bindC
    rcases List.mem_cons.mp hm with e | hm
    · cases e
      rw [if_neg hk, bindC_out hn.1, if_pos rfl]
    · exact ih hm hn.2
structure Def where
  params:List Str
  body:List Stmt
  fx:Fx
inductive IsDef (w:World) (f:Addr) (d:Def):Prop
  | intro (oc od name qual pars dV kV doc pm cdv ct an osl:_) (lk:(hd.heap_1 w.params).lookup f = some ⟨oc, od, .func (fnOf name qual pars d.body d.fx.sc dV kV doc pm an cdv ct), osl⟩) (cd:codeIn (hd.heap_1 w.params) cdv qual = true)
    (bd:∀ vals:List Value, vals.length = d.params.length → bindArgs (fnOf name qual pars d.body d.fx.sc dV kV doc pm an cdv ct) ⟨vals, []⟩ = pure (d.params.zip vals)) (pe:∀ a, d.fx.pe (callEnvC (fnOf name qual pars d.body d.fx.sc dV kV doc pm an cdv ct) a f))
noncomputable def Def.ok (d:Def):Bool :=
  d.fx.sc.kind == .function && !d.fx.sc.isCoroutine && !d.fx.sc.isGenerator && decide d.params.Nodup && decide d.fx.ns.Nodup && (d.fx.ns.take d.params.length == d.params) &&
  d.params.all (fun x => d.fx.sc.names.lookup x == some .local || (d.fx.sc.names.lookup x == some .cell && ((cellsFrom 0 d.fx.sc.names []).lookup x).isSome)) &&
  decide ((cellsFrom 0 d.fx.sc.names []).map (·.1)).Nodup &&
  d.fx.sc.names.all (fun x => x.2 != .free && (x.2 != .cell || d.fx.sc.names.lookup x.1 == some .cell))
theorem cellsFrom_names' (names:List (Str × NameKind)) (n m:Nat) (a b:List (Str × Addr)) (e:a.map (·.1) = b.map (·.1)):(cellsFrom n names a).map (·.1) = (cellsFrom m names b).map (·.1):=by
  induction names generalizing n m a b with
  | nil =>
    exact e
  | cons p r ih =>
    obtain ⟨x, k⟩:=p
    unfold cellsFrom
    split
    · exact ih _ _ _ _ (by simp [e])
    · exact ih _ _ _ _ e
theorem lookup_isSome_iff {α:Type} {l:List (Str × α)} {x:Str}:(l.lookup x).isSome = true ↔ x ∈ l.map (·.1):=by
  induction l with
  | nil => simp
  | cons p r ih =>
    obtain ⟨y, v⟩:=p
    rw [List.lookup_cons, List.map_cons, List.mem_cons]
    cases e:x == y with
    | true => simp [beq_iff_eq.mp e]
    | false =>
      have:x ≠ y:=fun q => by simp [q] at e
      simp [this, ih]
theorem cellsFrom_has {names:List (Str × NameKind)} {x:Str} {n:Nat} {acc:List (Str × Addr)} (h:(x, .cell) ∈ names ∨ x ∈ acc.map (·.1)):x ∈ (cellsFrom n names acc).map (·.1):=by
  induction names generalizing n acc with
  | nil =>
    rcases h with h | h
    · cases h
    · exact h
  | cons p r ih =>
    obtain ⟨y, k⟩:=p
    unfold cellsFrom
    split
    · rename_i hk
      refine ih ?_
      rcases h with h | h
      · rcases List.mem_cons.mp h with e | h
        · cases e; exact .inr (by simp)
        · exact .inl h
      · exact .inr (by simp [h])
    · rename_i hk
      refine ih ?_
      rcases h with h | h
      · rcases List.mem_cons.mp h with e | h
        · cases e; exact absurd rfl hk
        · exact .inl h
      · exact .inr h
theorem cellsFrom_only {names:List (Str × NameKind)} {x:Str} {n:Nat} {acc:List (Str × Addr)} (h:x ∈ (cellsFrom n names acc).map (·.1)):(x, .cell) ∈ names ∨ x ∈ acc.map (·.1):=by
  induction names generalizing n acc with
  | nil =>
    exact .inr h
  | cons p r ih =>
    obtain ⟨y, k⟩:=p
    unfold cellsFrom at h
    split at h
    · rename_i hk
      rcases ih h with h | h
      · exact .inl (List.mem_cons_of_mem _ h)
      · rw [List.map_cons, List.mem_cons] at h
        rcases h with h | h
        · rw [h, ← beq_iff_eq.mp hk]; exact .inl (List.mem_cons_self)
        · exact .inr h
    · rcases ih h with h | h
      · exact .inl (List.mem_cons_of_mem _ h)
      · exact .inr h
section
variable {w:World} {H₀:Heap} {n:Nat} {A:Around} {env:Env} {stk:List Env} {ow md md':ASet} {σ σ':Store} {vs:Slots} {s:Shared} {h h':Heap}
noncomputable def ownOf (env:Env):ASet:=fun a => a = env.locals ∨ ∃ x, env.cells.lookup x = some a
noncomputable def newMd (md:ASet) (env:Env):ASet:=fun a => md a ∨ ownOf env a
noncomputable def slots0 (d:Def) (args:List PV):Slots:=args.map some ++ List.replicate (d.fx.ns.length - args.length) none
theorem enter {d:Def} {fd:FuncData} {f:Addr} {s₁:Shared} {args:List PV} {vals:List Value} (hok:d.ok = true) (hsc:fd.scope = d.fx.sc) (hgl:fd.globals = mainGlobals) (hbl:fd.builtins = builtinsNs) (hpe:d.fx.pe (callEnvC fd s.heap.objs.size f))
    (b:Bx w H₀ (n + 1) A stk md σ s.heap) (r:RelL md s.heap vals args) (hlen:vals.length = d.params.length)
    (x:InCallC s (callEnvC fd s.heap.objs.size f).locals (bindL (callEnvC fd s.heap.objs.size f).kindOf (d.params.zip vals) fun J => none) (callEnvC fd s.heap.objs.size f).cells
        (bindC (callEnvC fd s.heap.objs.size f).kindOf (d.params.zip vals) fun J => none) s₁) :
    Cx w H₀ d.fx n (A.deeper (callEnvC fd s.heap.objs.size f)) (callEnvC fd s.heap.objs.size f) (callEnvC fd s.heap.objs.size f :: stk) (ownOf (callEnvC fd s.heap.objs.size f)) (newMd md (callEnvC fd s.heap.objs.size f)) σ (slots0 d args) s₁.heap ∧
    (∀ a, ownOf (callEnvC fd s.heap.objs.size f) a → s.heap.get? a = none) ∧ ∃ h₁ tk, s₁ = { s with heap:=h₁, toks:=tk } ∧ ∀ a o, s.heap.get? a = some o → h₁.get? a = some o:=by
  obtain ⟨h₁, tk, rfl, hk⟩:=x.done
  generalize hE:callEnvC fd s.heap.objs.size f = env at *
  have hloc:env.locals = s.heap.objs.size:=by rw [← hE]; rfl
  have hcs:env.cells = cellsFrom (s.heap.objs.size + 1) d.fx.sc.names []:=by rw [← hE, ← hsc]; rfl
  have hesc:env.scope = d.fx.sc:=by rw [← hE, ← hsc]; rfl
  have hfr:env.frame = some env.locals:=by rw [← hE]; rfl
  simp only [Def.ok, Bool.and_eq_true, Bool.not_eq_true', decide_eq_true_eq, beq_iff_eq, List.all_eq_true, Bool.or_eq_true, bne_iff_ne] at hok
  obtain ⟨⟨⟨⟨⟨⟨⟨⟨hkind, _⟩, _⟩, hpn⟩, hnn⟩, htake⟩, hpk⟩, hcn⟩, hfree⟩:=hok
  have hge:∀ a, ownOf env a → s.heap.objs.size ≤ a:=fun a q => by
    rcases q with q | ⟨y, q⟩
    · rw [q, hloc]; exact Nat.le_refl _
    · have:=x.above y a (mem_of_lookup q)
      rw [hloc] at this; exact Nat.le_of_lt this
  have hno:∀ a, ownOf env a → s.heap.get? a = none:=fun a q => by
    cases e:s.heap.get? a with
    | none => rfl
    | some o => exact absurd (Heap.lt_size e) (Nat.not_lt.mpr (hge a q))
  have hno₀:∀ a, ownOf env a → H₀.get? a = none:=fun a q => by
    cases e:H₀.get? a with
    | none => rfl
    | some o => have:=b.inv.base a o e; rw [hno a q] at this; cases this
  have hσn:∀ a, ownOf env a → σ a = none:=fun a q => by
    cases e:σ a with
    | none => rfl
    | some m => obtain ⟨o, e'⟩:=b.inv.al a (b.inv.sto a m e).1; rw [hno a q] at e'; cases e'
  have hal:∀ a, ownOf env a → ∃ o, h₁.get? a = some o:=fun a q => by
    rcases q with q | ⟨y, q⟩
    · obtain ⟨o, _, _, e, _⟩:=x.toInCall.ns
      exact ⟨o, by rw [q]; exact e⟩
    · obtain ⟨o, e, _⟩:=x.cell y a q
      exact ⟨o, e⟩
  have kp:Kp md s.heap (newMd md env) h₁:=⟨fun a o J e => hk a o e, fun a o e m => m.elim id fun q => by rw [hno a q] at e; cases e⟩
  have hkd:∀ y, env.kindOf y = d.fx.sc.names.lookup y:=fun y => by unfold Env.kindOf; rw [hesc]
  have hff:FF H₀ (env :: stk) h₁:=by
    intro e he
    rcases List.mem_cons.mp he with rfl | he
    · obtain ⟨o, es, ep, ho, hd', _⟩:=x.toInCall.ns
      exact ⟨by rw [hesc, hkind]; decide, e.locals, o, hfr, hno₀ _ (.inl rfl), ho, fun q z => by rw [hd'] at z; cases z⟩
    · obtain ⟨a1, L, o, a2, a3, a4, a5⟩:=b.inv.ff e he
      exact ⟨a1, L, o, a2, a3, hk _ _ a4, a5⟩
  have inv:Inv w H₀ (env :: stk) (newMd md env) σ h₁:=by
    refine ⟨b.inv.gl, fun c o e => hk c o (b.inv.base c o e), fun a m => m.elim (b.inv.off a) (hno₀ a), fun a m => m.elim (fun m => ?_) (hal a), fun a m e => ⟨.inl (b.inv.sto a m e).1, (b.inv.sto a m e).2.mono kp (hk a)⟩, hff, fun a q => ?_⟩
    · obtain ⟨o, e⟩:=b.inv.al a m
      exact ⟨o, hk a o e⟩
    · obtain ⟨e, he, hf⟩:=q
      rcases List.mem_cons.mp he with rfl | he
      · rw [hfr] at hf; cases hf
        exact ⟨.inr (.inl rfl), hσn _ (.inl rfl)⟩
      · have:=b.inv.frmd a ⟨e, he, hf⟩
        exact ⟨.inl this.1, this.2⟩
  have hzip:∀ (i:Nat) (y:Str) (pv:PV), d.fx.ns[i]? = some y → (slots0 d args)[i]? = some (some pv) → ∃ v, (y, v) ∈ d.params.zip vals ∧ Rel (newMd md env) h₁ v pv:=by
    intro i y pv e1 e2
    have hla:args.length = d.params.length:=by rw [← r.length, hlen]
    have hi:i < args.length:=by
      refine Nat.lt_of_not_le fun q => ?_
      unfold slots0 at e2
      rw [List.getElem?_append_right (by simpa using q), List.getElem?_replicate] at e2
      split at e2 <;> simp at e2
    unfold slots0 at e2
    rw [List.getElem?_append_left (by simpa using hi), List.getElem?_map] at e2
    obtain ⟨p', e3, e4⟩:=Option.map_eq_some_iff.mp e2
    cases e4
    obtain ⟨v, hv, hr⟩:=r.get e3
    refine ⟨v, ?_, hr.mono kp⟩
    have e5:d.params[i]? = some y:=by
      rw [← htake, List.getElem?_take, if_pos (by lia)]; exact e1
    exact List.mem_of_getElem? (i:=i) (List.getElem?_zip_eq_some.mpr ⟨e5, hv⟩)
  have hkeys:((d.params.zip vals).map (·.1)).Nodup:=by
    rw [List.map_fst_zip (by lia)]; exact hpn
  refine ⟨⟨⟨Around.frames_deeper b.frames, ⟨_, _, rfl⟩, ?_, ?_, fun q => b.handled (Nat.le_succ_of_le q), inv⟩, ⟨_, _, rfl, rfl⟩, ⟨hesc, ?_, ?_, ⟨_, x.toInCall.ns, fun i y pv e1 e2 e3 => ?_⟩, .inl rfl, fun y c e => ?_, fun y c e => ?_, fun y e => ?_, fun y c J e => .inr ⟨y, e⟩, ⟨x.apart, hpe⟩, fun a q => ⟨.inr q, hσn a q, hal a q⟩⟩, fun a q z => ?_, fun y c e z => ?_⟩, hno, h₁, tk, rfl, hk⟩
  · have:=b.depth
    refine (?_:A.depth + 1 + n < _)
    lia
  · have:=b.units
    refine (?_:A.units + 3 + 16 * n + 64 < _)
    lia
  · rw [← hE]; exact hgl
  · rw [← hE]; exact hbl
  · obtain ⟨v, hm, hr⟩:=hzip i y pv e1 e2
    exact ⟨v, bindL_in hm hkeys (by rw [hkd]; exact e3), hr⟩
  · refine ⟨hσn _ (.inr ⟨y, e⟩), fun z => ?_, _, x.cell y c e, fun i pv e1 e2 => ?_⟩
    · have:=x.above y c (mem_of_lookup e)
      rw [z] at this; exact Nat.lt_irrefl _ this
    · obtain ⟨v, hm, hr⟩:=hzip i y pv e1 e2
      refine ⟨v, bindC_in hm hkeys fun q => ?_, hr⟩
      rw [hkd] at q
      have hy:y ∈ (cellsFrom (s.heap.objs.size + 1) d.fx.sc.names []).map (·.1):=by
        rw [← hcs]; exact lookup_isSome_iff.mp (by rw [e]; rfl)
      rw [cellsFrom_names' _ _ 0 [] [] rfl] at hy
      rcases cellsFrom_only hy with hy | hy
      · rcases (hfree _ hy).2 with z | z
        · exact z rfl
        · have z:d.fx.sc.names.lookup y = some .cell:=z
          rw [z] at q; cases q
      · cases hy
  · have hy:y ∈ (cellsFrom (s.heap.objs.size + 1) d.fx.sc.names []).map (·.1):=by
      rw [← hcs]; exact lookup_isSome_iff.mp (by rw [e]; rfl)
    rcases cellsFrom_only hy with hy | hy
    · rcases (hfree _ hy).2 with z | z
      · exact absurd rfl z
      · exact .inl z
    · cases hy
  · rcases e with e | e
    · have:=cellsFrom_has (n:=s.heap.objs.size + 1) (acc:=[]) (.inl (mem_of_lookup e))
      rw [← hcs] at this
      exact Option.isSome_iff_exists.mp (lookup_isSome_iff.mpr this)
    · exact absurd rfl (hfree _ (mem_of_lookup e)).1
  · obtain ⟨o, e⟩:=b.inv.al a (b.inv.frmd a z).1
    rw [hno a q] at e; cases e
  · obtain ⟨en, he, hf⟩:=z
    rcases List.mem_cons.mp he with rfl | he
    · rw [hfr] at hf; cases hf
      have:=x.above y _ (mem_of_lookup e)
      exact Nat.lt_irrefl _ this
    · obtain ⟨o, e'⟩:=b.inv.al c (b.inv.frmd c ⟨en, he, hf⟩).1
      rw [hno c (.inr ⟨y, e⟩)] at e'; cases e'
end
section
variable {w:World} {H₀:Heap} {n:Nat} {A:Around} {env:Env} {r stk:List Env} {ow md md':ASet} {σ σ':Store} {vs:Slots} {s:Shared} {h h' hs:Heap} {E:Value → Shared → Prop} {L:Addr} {v:Value} {pe:PExc} {st:Tb}
noncomputable def Xown (md:ASet) (σ:Store) (hs:Heap):ASet:=fun a => md a ∧ hs.get? a = none ∧ σ a = none
theorem mapFields_free {o:Obj} {fs:Array Value} {f:Array Value → Array Value} (e:o.data = .fields fs):(o.mapFields f).isFreed = false:=Obj.isFreed_of_fields (Obj.data_mapFields e f)
theorem mapFields_dict (o:Obj) (f:Array Value → Array Value):(o.mapFields f).dict = o.dict:=by obtain ⟨c, d, dt, sl⟩:=o; cases dt <;> rfl
theorem xset {a:Addr} {o:Obj} {fs:Array Value} {f:Array Value → Array Value} (i:Inv w H₀ stk md σ h) (xa:Xa stk md σ hs a) (ho:h.get? a = some o) (hd:o.data = .fields fs) :
    Inv w H₀ stk md σ (h.update a (Obj.mapFields f)) ∧ Stp (isFr stk) (Xown md σ hs) NoTr md h md (h.update a (Obj.mapFields f)) ∧ (h.update a (Obj.mapFields f)).get? a = some (o.mapFields f) ∧ ∀ b, b ≠ a → (h.update a (Obj.mapFields f)).get? b = h.get? b:=by
  have ha:(h.update a (Obj.mapFields f)).get? a = some (o.mapFields f):=Heap.get?_update_self _ ho (mapFields_free hd)
  have hb:∀ b, b ≠ a → (h.update a (Obj.mapFields f)).get? b = h.get? b:=fun b q => Heap.get?_update_other _ _ (Ne.symm q)
  obtain ⟨x1, x2, x3, x4⟩:=xa
  have kp:Kp md h md (h.update a (Obj.mapFields f)):=⟨fun c o' nm q => (hb c fun z => nm (by rw [z]; exact x2)).trans q, fun J J J m => m⟩
  refine ⟨⟨i.gl, fun c o' q => (hb c fun z => ?_).trans (i.base c o' q), i.off, fun c m => ?_, fun c m q => ⟨(i.sto c m q).1, (i.sto c m q).2.mono kp fun o' q' => (hb c fun z => ?_).trans q'⟩, fun e he => ?_, i.frmd⟩, ⟨fun c o' no nf q => (hb c fun z => no ?_).trans q, fun c o' no q => ⟨o'.slots, (hb c fun z => no ?_).trans q⟩, fun c o' q => ?_, fun J J m J J => m, fun J J J m => m⟩, ha, hb⟩
  · have:=i.off a x2; rw [← z, q] at this; cases this
  · by_cases z:c = a
    · exact ⟨_, by rw [z]; exact ha⟩
    · obtain ⟨o', q⟩:=i.al c m
      exact ⟨o', (hb c z).trans q⟩
  · rw [z, x3] at q; cases q
  · obtain ⟨a1, L', o', a2, a3, a4, a5⟩:=i.ff e he
    exact ⟨a1, L', o', a2, a3, (hb L' fun z => x4 ⟨e, he, z ▸ a2⟩).trans a4, a5⟩
  · subst z; exact ⟨x2, x1, x3⟩
  · subst z; exact ⟨x2, x1, x3⟩
  · by_cases z:c = a
    · exact ⟨_, by rw [z]; exact ha⟩
    · exact ⟨o', (hb c z).trans q⟩
theorem Stp.transX {md₁ md₂:ASet} {h₁ h₂:Heap} (x:Stp (isFr stk) (Xown md σ hs) NoTr md h md₁ h₁) (y:Stp (isFr stk) (Xown md₁ σ hs) NoTr md₁ h₁ md₂ h₂):Stp (isFr stk) (Xown md σ hs) NoTr md h md₂ h₂ :=
  x.trans y (fun a q => by
    cases e:h.get? a with
    | none => exact .inr rfl
    | some o => exact .inl ⟨x.fresh a o e q.1, q.2⟩) fun J q => .inl q
theorem ExcDict.keep {dx:Addr} {x:Str} {a:Option Int} (e:ExcDict h dx x a) (k:∀ o, h.get? dx = some o → h'.get? dx = some o):ExcDict h' dx x a:=by
  obtain ⟨es, m, q, r⟩:=e
  exact ⟨es, m, k _ q, r⟩
theorem wpA_entry {ea dx:Addr} {oe:Obj} {fs:Array Value} {head:Value} {hadNext:Bool} (hA:A.frames = some (env :: r)) (hf:env.frame = some L) (i:Inv w H₀ (env :: r) md σ s.heap)
    (he:s.heap.get? ea = some oe) (hc:oe.cls = .ref pe.C) (hdx:oe.dict = some dx) (hd:oe.data = .fields fs) (hz:1 < fs.size) (nd:¬ md dx) (ed:ExcDict s.heap dx pe.what pe.at_) (xa:Xa (env :: r) md σ hs ea) (hle:∀ a o, hs.get? a = some o → ∃ o', s.heap.get? a = some o')
    {Q:Unit → Shared → Prop} (hQ:∀ md' h', Inv w H₀ (env :: r) md' σ h' → Stp (isFr (env :: r)) (Xown md σ hs) NoTr md s.heap md' h' → Thr (env :: r) md' σ hs h' (.flew (some L)) (.ref ea) pe → Q () { s with heap:=h' }) :
    wpAny (MD w) A (do setField (.ref ea) 1 (← EntryCells.newEntry head (← frameOf env) .none (rawInt L) .none (← entryPlaceOf L hadNext))) Q E s:=by
  refine wpAny_bind (wpAny_frameOf_fun (base:=H₀) hA i.ff.fun hf fun h₁ hs₁ => ?_)
  refine wpAny_bind (wpAny_entryPlaceOf fun pl hpl => ?_)
  unfold EntryCells.newEntry newFields
  refine wpAny_bind (wpAny_newObj_type ?_ (hpl.sizeOk5 _ _ _ _ _))
  have frin:∀ a, a ∈ (env :: r).filterMap (·.frame) → isFr (env :: r) a:=fun a q => by
    obtain ⟨e, h1, h2⟩:=List.mem_filterMap.mp q
    exact ⟨e, h1, h2⟩
  have other:∀ a, ¬ isFr (env :: r) a → h₁.get? a = s.heap.get? a:=fun a q => hs₁.2.1 a fun z => q (frin a z)
  have st₁:Stp (isFr (env :: r)) (Xown md σ hs) NoTr md s.heap md h₁:=⟨fun a o J nf q => (other a nf).trans q, fun a o J q => hs₁.2.2 a o q, fun a o q => let ⟨sl, e⟩:=hs₁.2.2 a o q; ⟨_, e⟩, fun J J m J J => m, fun J J J m => m⟩
  have i₁:Inv w H₀ (env :: r) md σ h₁:=by
    have nfr:∀ a, ¬ md a → ¬ isFr (env :: r) a:=fun a q z => q (i.frmd a z).1
    refine ⟨i.gl, fun b o q => (other b fun z => ?_).trans (i.base b o q), i.off, fun a m => ?_, fun a m q => ⟨(i.sto a m q).1, (i.sto a m q).2.mono ⟨fun b o nm q' => (other b (nfr b nm)).trans q', fun J J J m => m⟩ fun o q' => (other a fun z => ?_).trans q'⟩, fun e he => ?_, i.frmd⟩
    · have:=i.off b (i.frmd b z).1; rw [q] at this; cases this
    · obtain ⟨o, q⟩:=i.al a m
      obtain ⟨sl, q'⟩:=hs₁.2.2 a o q
      exact ⟨_, q'⟩
    · have:=(i.frmd a z).2; rw [q] at this; cases this
    · obtain ⟨a1, L', o', a2, a3, a4, a5⟩:=i.ff e he
      obtain ⟨sl, q'⟩:=hs₁.2.2 L' o' a4
      exact ⟨a1, L', _, a2, a3, q', a5⟩
  have he₁:h₁.get? ea = some oe:=(other ea xa.2.2.2).trans he
  generalize hT:({ cls:=.type "traceback", dict:=none, data:=.fields ([head, .ref L, .none, rawInt L, .none] ++ (if pl.isEmpty then List.replicate 6 Value.none else pl)).toArray }:Obj) = oT
  have hTf:oT.isFreed = false:=by rw [← hT]; rfl
  have i₂:=i₁.pushmd (o:=oT) hTf
  have st₂:Stp (isFr (env :: r)) (Xown md σ hs) NoTr md h₁ (adj md h₁.objs.size) (h₁.push oT):=(Go.pushmd (ow:=Xown md σ hs) (σ:=fun J => none) (stk:=env :: r) (o:=oT)).st.own_mono (fun a q => q.elim id fun q => absurd rfl q) fun a q => absurd rfl q
  have he₂:(h₁.push oT).get? ea = some oe:=Heap.get?_push_of_some _ he₁
  have xa₂:Xa (env :: r) (adj md h₁.objs.size) σ hs ea:=⟨xa.1, .inl xa.2.1, xa.2.2⟩
  have hne:ea ≠ h₁.objs.size:=Nat.ne_of_lt (Heap.lt_size he₁)
  refine wpAny_setField he₂ hd hz ?_
  obtain ⟨i₃, st₃, hea, hoth⟩:=xset (f:=(·.setIfInBounds 1 (Value.ref h₁.objs.size))) i₂ xa₂ he₂ hd
  have hTg:((h₁.push oT).update ea (Obj.mapFields (·.setIfInBounds 1 (Value.ref h₁.objs.size)))).get? h₁.objs.size = some oT:=(hoth _ (Ne.symm hne)).trans (Heap.get?_push_size _ hTf)
  have hd':=Obj.data_mapFields hd (·.setIfInBounds 1 (Value.ref h₁.objs.size))
  have xT:Xa (env :: r) (adj md h₁.objs.size) σ hs h₁.objs.size:=by
    have nn:h₁.get? h₁.objs.size = none:=none_size _
    refine ⟨?_, .inr rfl, ?_, fun z => ?_⟩
    · cases q:hs.get? h₁.objs.size with
      | none => rfl
      | some o =>
        obtain ⟨o', q'⟩:=hle _ _ q
        obtain ⟨o'', q''⟩:=st₁.alive _ _ q'
        rw [nn] at q''; cases q''
    · cases q:σ h₁.objs.size with
      | none => rfl
      | some m => obtain ⟨o, q'⟩:=i₁.al _ (i₁.sto _ m q).1; rw [nn] at q'; cases q'
    · obtain ⟨o, q'⟩:=i₁.al _ (i₁.frmd _ z).1; rw [nn] at q'; cases q'
  refine hQ _ _ i₃ (st₁.transX (st₂.trans st₃ (fun a q => ?_) fun J q => .inl q)) ⟨ea, dx, _, _, rfl, hea, (Obj.cls_mapFields _ _).trans hc, (mapFields_dict _ _).trans hdx, hd', by simpa using hz, fun q => ?_, ?_, xa₂, ?_⟩
  · cases e:h₁.get? a with
    | none => exact .inr rfl
    | some o => exact .inl ⟨st₂.fresh a o e q.1, q.2⟩
  · rcases q with q | q
    · exact nd q
    · obtain ⟨es, m, q', _⟩:=ed
      obtain ⟨o', q''⟩:=st₁.alive _ _ q'
      rw [q, none_size] at q''; cases q''
  · refine ed.keep fun o q => ?_
    have nfr:¬ isFr (env :: r) dx:=fun z => nd (i.frmd dx z).1
    have ne2:dx ≠ ea:=fun z => nd (z ▸ xa.2.1)
    exact (hoth dx ne2).trans (Heap.get?_push_of_some _ ((other dx nfr).trans q))
  · refine ⟨h₁.objs.size, oT, ([head, .ref L, .none, rawInt L, .none] ++ (if pl.isEmpty then List.replicate 6 Value.none else pl)).toArray, by simp [hz], hTg, by rw [← hT], Ne.symm hne, by simp [flightOf], xT⟩
theorem wpA_note (hA:A.frames = some (env :: r)) (hf:env.frame = some L) (i:Inv w H₀ (env :: r) md σ s.heap) (t:Thr (env :: r) md σ hs s.heap st v pe) (hst:st = .new ∨ st = .flew none ∨ st = .flew (some L)) (hle:∀ a o, hs.get? a = some o → ∃ o', s.heap.get? a = some o')
    {Q:Unit → Shared → Prop} (hQ:∀ md' h', Inv w H₀ (env :: r) md' σ h' → Stp (isFr (env :: r)) (Xown md σ hs) NoTr md s.heap md' h' → Thr (env :: r) md' σ hs h' (.flew (some L)) v pe → Q () { s with heap:=h' }) :
    wpAny (MD w) A (noteFrame v env) Q E s:=by
  obtain ⟨ea, dx, oe, fs, rfl, he, hc, hdx, hd, hz, nd, ed, xa, tb⟩:=id t
  unfold noteFrame
  simp only [hf]
  rcases hst with rfl | rfl | rfl
  · refine wpAny_bind (wpAny_field he hd tb ?_)
    rw [if_neg (by decide)]
    exact wpA_entry hA hf i he hc hdx hd hz nd ed xa hle hQ
  · obtain ⟨T, oT, ts, b1, b2, b3, b4, b5, b6⟩:=tb
    refine wpAny_bind (wpAny_field he hd b1 ?_)
    rw [if_pos (show (Value.ref T != Value.none) = true from by simp)]
    refine wpAny_bind (wpAny_field b2 b3 b5 ?_)
    rw [if_neg (show ¬ ((flightOf none == rawInt L) = true) from by simp [rawInt, flightOf])]
    refine wpAny_bind (wpAny_setField b2 b3 (Array.getElem?_eq_some_iff.mp b5).1 ?_)
    obtain ⟨i₁, st₁, hT, hoth⟩:=xset (f:=(·.setIfInBounds 3 Value.none)) i b6 b2 b3
    refine wpA_entry (s:={ s with heap:=s.heap.update T (Obj.mapFields (·.setIfInBounds 3 Value.none)) }) hA hf i₁ ((hoth ea (Ne.symm b4)).trans he) hc hdx hd hz nd (ed.keep fun o q => (hoth dx fun z => nd (z ▸ b6.2.1)).trans q) xa (fun a o q => let ⟨o', q'⟩:=hle a o q; st₁.alive a o' q') fun md' h' i' st' t' => hQ md' h' i' (st₁.transX st') t'
  · obtain ⟨T, oT, ts, b1, b2, b3, b4, b5, b6⟩:=tb
    refine wpAny_bind (wpAny_field he hd b1 ?_)
    rw [if_pos (show (Value.ref T != Value.none) = true from by simp)]
    refine wpAny_bind (wpAny_field b2 b3 b5 ?_)
    rw [if_pos (show ((flightOf (some L) == rawInt L) = true) from by simp [flightOf])]
    exact wpAny_pure (hQ md s.heap i (.refl ..) t)
theorem wpA_setFlight {l l':Option Addr} (i:Inv w H₀ stk md σ s.heap) (t:Thr stk md σ hs s.heap (.flew l) v pe)
    {Q:Unit → Shared → Prop} (hQ:∀ h', Inv w H₀ stk md σ h' → Stp (isFr stk) (Xown md σ hs) NoTr md s.heap md h' → Thr stk md σ hs h' (.flew l') v pe → Q () { s with heap:=h' }) :
    wpAny (MD w) A (setFlight v l') Q E s:=by
  obtain ⟨ea, dx, oe, fs, rfl, he, hc, hdx, hd, hz, nd, ed, xa, T, oT, ts, b1, b2, b3, b4, b5, b6⟩:=t
  unfold setFlight
  refine wpAny_bind (wpAny_field he hd b1 ?_)
  rw [if_pos (show (Value.ref T != Value.none) = true from by simp)]
  have e:l'.elim Value.none (fun f => rawInt f) = flightOf l':=by cases l' <;> rfl
  rw [e]
  refine wpAny_setField b2 b3 (Array.getElem?_eq_some_iff.mp b5).1 ?_
  obtain ⟨i₁, st₁, hT, hoth⟩:=xset (f:=(·.setIfInBounds 3 (flightOf l'))) i b6 b2 b3
  refine hQ _ i₁ st₁ ⟨ea, dx, oe, fs, rfl, (hoth ea (Ne.symm b4)).trans he, hc, hdx, hd, hz, nd, ed.keep fun o q => (hoth dx fun z => nd (z ▸ b6.2.1)).trans q, xa, T, _, _, b1, hT, Obj.data_mapFields b3 _, b4, ?_, b6⟩
  have:=(Array.getElem?_eq_some_iff.mp b5).1
  simp [this]
theorem wpA_leaving (hA:A.frames = some (env :: r)) (hf:env.frame = some L) (i:Inv w H₀ (env :: r) md σ s.heap) (t:Thr (env :: r) md σ hs s.heap st v pe) (hst:st = .new ∨ st = .flew none ∨ st = .flew (some L)) (hle:∀ a o, hs.get? a = some o → ∃ o', s.heap.get? a = some o')
    {Q:Unit → Shared → Prop} (hQ:∀ md' h', Inv w H₀ (env :: r) md' σ h' → Stp (isFr (env :: r)) (Xown md σ hs) NoTr md s.heap md' h' → Thr (env :: r) md' σ hs h' (.flew none) v pe → Q () { s with heap:=h' }) :
    wpAny (MD w) A (leaving env v) Q E s:=by
  unfold leaving
  refine wpAny_bind (wpA_note hA hf i t hst hle fun md' h' i' st' t' => ?_)
  refine wpA_setFlight (s:={ s with heap:=h' }) i' t' fun h'' i'' st'' t'' => hQ md' h'' i'' (st'.transX st'') t''
end
section
variable {w:World} {H₀:Heap} {n:Nat} {A:Around} {env:Env} {r stk:List Env} {ow md md' md'':ASet} {σ σ':Store} {vs:Slots} {s:Shared} {h h₁ h' hs:Heap} {E:Value → Shared → Prop} {L:Addr} {v:Value} {pe:PExc} {st:Tb}
theorem Inv.pop (i:Inv w H₀ (env :: stk) md σ h):Inv w H₀ stk md σ h:=⟨i.gl, i.base, i.off, i.al, i.sto, fun e he => i.ff e (.tail _ he), fun a ⟨e, he, q⟩ => i.frmd a ⟨e, .tail _ he, q⟩⟩
theorem Stp.out {own own' tr tr':ASet} (x:Stp (isFr (env :: stk)) own' tr' (newMd md env) h₁ md'' h') (hno:∀ a, ownOf env a → h.get? a = none) (hk:∀ a o, h.get? a = some o → h₁.get? a = some o) (hf:env.frame = some env.locals)
    (ho:∀ a, own' a → own a ∨ h.get? a = none) (ht:∀ a, tr' a → tr a ∨ h.get? a = none):Stp (isFr stk) own tr md h md'' h':=by
  have no:∀ a o, ¬ own a → h.get? a = some o → ¬ own' a:=fun a o q e z => (ho a z).elim q fun z => by rw [z] at e; cases e
  have nf:∀ a o, ¬ isFr stk a → h.get? a = some o → ¬ isFr (env :: stk) a:=fun a o q e ⟨en, he, hfe⟩ => by
    rcases List.mem_cons.mp he with rfl | he
    · rw [hf] at hfe; cases hfe
      rw [hno _ (.inl rfl)] at e; cases e
    · exact q ⟨en, he, hfe⟩
  exact ⟨fun a o q f e => x.keep a o (no a o q e) (nf a o f e) (hk a o e), fun a o q e => x.slots a o (no a o q e) (hk a o e), fun a o e => x.alive a o (hk a o e), fun a o m nt e => x.grow a o (.inl m) (fun q => (ht a q).elim nt fun q => by rw [e] at q; cases q) (hk a o e),
    fun a o e m => (x.fresh a o (hk a o e) m).elim id fun q => by rw [hno a q] at e; cases e⟩
theorem Go.out (x:Go (env :: stk) (ownOf env) σ (newMd md env) h₁ σ' md'' h') (hno:∀ a, ownOf env a → h.get? a = none) (hk:∀ a o, h.get? a = some o → h₁.get? a = some o) (hf:env.frame = some env.locals) :
    Go stk (fun J => False) σ md h σ' md'' h':=by
  refine ⟨x.st.out hno hk hf (fun a q => q.elim (fun q => .inr (hno a q)) fun q => .inl (.inr q)) fun J q => .inl q, fun a q => (x.d a q).imp id fun q => ?_⟩
  cases e:h.get? a with
  | none => rfl
  | some o => rw [hk a o e] at q; cases q
theorem Thr.pop {hs₀:Heap} (t:Thr (env :: stk) md σ hs h st v pe) (hk:∀ a o, hs₀.get? a = some o → ∃ o', hs.get? a = some o'):Thr stk md σ hs₀ h st v pe:=by
  have xa:∀ a, Xa (env :: stk) md σ hs a → Xa stk md σ hs₀ a:=fun a x => by
    refine ⟨?_, x.2.1, x.2.2.1, fun ⟨e, he, q⟩ => x.2.2.2 ⟨e, .tail _ he, q⟩⟩
    cases q:hs₀.get? a with
    | none => rfl
    | some o => obtain ⟨o', e'⟩:=hk a o q; rw [x.1] at e'; cases e'
  obtain ⟨ea, dx, oe, fs, a1, a2, a3, a4, a5, a6, a7, a8, a9, a10⟩:=t
  refine ⟨ea, dx, oe, fs, a1, a2, a3, a4, a5, a6, a7, a8, xa _ a9, ?_⟩
  cases st with
  | new => exact a10
  | flew l =>
    obtain ⟨T, oT, ts, b1, b2, b3, b4, b5, b6⟩:=a10
    exact ⟨T, oT, ts, b1, b2, b3, b4, b5, xa _ b6⟩
noncomputable def PrimC (w:World) (H₀:Heap) (n:Nat) (args:List PV) (σ:Store) (f:Value) (K:PV → Store → Prop) (X:PExc → Store → Prop):Prop :=
  ∀ A stk md s vals, Bx w H₀ n A stk md σ s.heap → RelL md s.heap vals args → codeAny (MD w) A (.call f ⟨vals, []⟩) (fun r s' => match r with | .ok (.ret v) => POk w H₀ stk md σ s K v s' | .ok _ => False | .error e => PEx w H₀ stk md σ s X e s') s
theorem PrimC.prim {args:List PV} {f:Value} {K:PV → Store → Prop} {X:PExc → Store → Prop} (h:PrimC w H₀ n args σ f K X):Prim w H₀ n args σ (fun vals => PySem.call f vals) K X :=
  fun A stk md s vals b r => wpAny_call (h A stk md s vals b r)
theorem PrimC.fn {d:Def} {f:Addr} {args:List PV} {K:PV → Store → Prop} {X:PExc → Store → Prop} (hd:IsDef w f d) (hok:d.ok = true) (hl:args.length = d.params.length)
    (hb:ExB w H₀ d.fx n d.body (slots0 d args) σ (fun pf J σ' => match pf with | .ret p => K p σ' | .next => K .none σ') (fun pe J σ' => X pe σ')):PrimC w H₀ (n + 1) args σ (.ref f) K X:=by
  intro A stk md s vals b r
  obtain ⟨oc, od, name, qual, pars, dV, kV, doc, pm, cdv, ct, an, osl, ho, hcd, hbind, hpe⟩:=hd
  have X₀:=b.inv.gl.X
  have hX:=X₀.keeps b.inv.base
  obtain ⟨p', loose, mg, mb, T⟩:=b.inv.gl.T
  have hlim:s.heap.NoLimit:=T.nolimit.keeps b.inv.base
  have hvl:vals.length = d.params.length:=by rw [r.length]; exact hl
  have hok':=hok
  simp only [Def.ok, Bool.and_eq_true, Bool.not_eq_true', decide_eq_true_eq, beq_iff_eq, List.all_eq_true, Bool.or_eq_true, bne_iff_ne] at hok'
  obtain ⟨⟨⟨⟨⟨⟨⟨⟨hkind, hco⟩, hgen⟩, hpn⟩, hnn⟩, htake⟩, hpk⟩, hcn⟩, hfree⟩:=hok'
  refine (codeAny_call_cells (fd:=fnOf name qual pars d.body d.fx.sc dV kV doc pm an cdv ct) (body:=d.body) (Nat.lt_of_le_of_lt (Nat.le_add_right _ _) b.depth) (hX _ _ ho) rfl hlim (codeRec_of hX hcd) rfl (hbind vals hvl) rfl ?_ ?_ hco hgen hkind)
  · intro x hx
    have hx1:x.1 ∈ d.params:=(List.of_mem_zip hx).1
    rcases hpk _ hx1 with q | q
    · exact .inl q
    · refine .inr ⟨q.1, ?_⟩
      rw [lookup_isSome_iff, cellsFrom_names' _ _ 0 [] [] rfl, ← lookup_isSome_iff]; exact q.2
  · intro s₁ x
    obtain ⟨c, hno, h₁, tk, rfl, hk⟩:=enter hok (fd:=fnOf name qual pars d.body d.fx.sc dV kV doc pm an cdv ct) rfl rfl rfl (hpe _) b r hvl x
    generalize hE:callEnvC (fnOf name qual pars d.body d.fx.sc dV kV doc pm an cdv ct) s.heap.objs.size f = env at *
    have hfr:env.frame = some env.locals:=by rw [← hE]; rfl
    refine wpAny_mono (hb.run _ _ _ _ _ _ c) (fun fl s' x => ?_) fun v s' x => ?_
    · apply x.el; intro pf vs' σ' md' h' tk' k rf c' g
      have g':=g.out hno hk hfr
      cases fl with
      | next =>
        cases pf with
        | next => exact ⟨.none, σ', md', h', tk', rfl, k, .none, c'.bx.inv.pop, g'⟩
        | ret p => exact rf.elim
      | ret v =>
        cases pf with
        | next => exact rf.elim
        | ret p => exact ⟨p, σ', md', h', tk', rfl, k, rf, c'.bx.inv.pop, g'⟩
      | brk => cases pf <;> exact rf.elim
      | cont => cases pf <;> exact rf.elim
    · apply x.el; intro pe vs' σ' md' h' tk' k c' g st hst t
      rw [hfr] at hst
      refine wpA_leaving (s:=⟨h', s.gens, s.drawn, tk', s.os⟩) c'.bx.frames hfr c'.bx.inv t hst g.st.alive fun md'' h'' i'' st'' t'' => ?_
      have alive:∀ a o, s.heap.get? a = some o → ∃ o', h₁.get? a = some o':=fun a o q => ⟨o, hk a o q⟩
      refine ⟨pe, σ', md'', h'', tk', rfl, k, i''.pop, ⟨?_, (g.out hno hk hfr).d⟩, .flew none, .inr rfl, t''.pop alive⟩
      have:=g.st.trans st'' (fun a q => .inr q.2.1) fun J q => q.elim
      exact this.out hno hk hfr (fun a q => q.elim (fun q => .inr (hno a q)) fun q => .inl (.inr q)) fun J q => .inl q
end
section
variable {w:World} {H₀:Heap} {S:Fx} {n:Nat} {σ:Store} {vs:Slots} {K:PF → Slots → Store → Prop} {X:PExc → Slots → Store → Prop}
theorem ExB.nil (k:K .next vs σ):ExB w H₀ S n [] vs σ K X:=⟨fun A env stk ow md s c => wpAny_execs_nil (.here (tk:=s.toks) c k trivial)⟩
theorem ExB.cons {st:Stmt} {rest:List Stmt} (hh:ExS w H₀ S n st vs σ (fun pf vs₁ σ₁ => match pf with | .next => ExB w H₀ S n rest vs₁ σ₁ K X | .ret p => K (.ret p) vs₁ σ₁) X):ExB w H₀ S n (st :: rest) vs σ K X:=by
  refine ⟨fun A env stk ow md s c => ?_⟩
  refine wpAny_execs_cons (hh.at c (fun J J e => e) fun fl pf vs₁ σ₁ md₁ h₁ tk k r c₁ kp₁ g₁ => ?_)
  cases fl with
  | next =>
    cases pf with
    | next => exact wpAny_mono (k.run A env stk ow md₁ _ c₁) (fun J J x => x.lift g₁) fun J J x => x.lift g₁
    | ret p => exact r.elim
  | ret v =>
    cases pf with
    | next => exact r.elim
    | ret p => exact .of g₁ c₁ k r
  | brk => cases pf <;> exact r.elim
  | cont => cases pf <;> exact r.elim
theorem ExS.ret {e:Expr} {p:Pos} (hh:EvE w H₀ S n e vs σ (fun q vs₁ σ₁ => K (.ret q) vs₁ σ₁) X):ExS w H₀ S n (.Return (some e) p) vs σ K X:=by
  refine ⟨fun A env stk ow md s c => ?_⟩
  exact wpAny_Return_some (hh.at c (fun J J e => e) fun v q vs₁ σ₁ md₁ h₁ tk k r c₁ kp₁ g₁ => .of g₁ c₁ k r)
theorem ExS.ite {t:Expr} {a b:List Stmt} {p:Pos} (hh:EvT w H₀ S n t vs σ (fun c vs₁ σ₁ => if c = true then ExB w H₀ S n a vs₁ σ₁ K X else ExB w H₀ S n b vs₁ σ₁ K X) X):ExS w H₀ S n (.If t a b p) vs σ K X:=by
  refine ⟨fun A env stk ow md s c => ?_⟩
  refine wpAny_If (hh.at c (fun J J e => e) fun v b' vs₁ σ₁ md₁ h₁ tk k r c₁ kp₁ g₁ => ?_)
  have r:v = b':=r
  subst r
  cases v
  · exact wpAny_mono (k.run A env stk ow md₁ _ c₁) (fun J J x => x.lift g₁) fun J J x => x.lift g₁
  · exact wpAny_mono (k.run A env stk ow md₁ _ c₁) (fun J J x => x.lift g₁) fun J J x => x.lift g₁
end
section
variable {w:World} {H₀:Heap} {S:Fx} {n:Nat} {A:Around} {env:Env} {stk:List Env} {ow md md':ASet} {σ σ':Store} {vs:Slots} {s:Shared} {h h':Heap}
noncomputable def Fx.st (S:Fx) (x:Str) (i:Nat):Bool :=
  S.sc.kind == .function && (S.ns[i]? == some x) && decide S.ns.Nodup && (S.sc.names.lookup x == some .local || (S.sc.names.lookup x == some .cell && S.oc.contains x)) && S.sc.names.all (fun y => y.2 != .cell || S.sc.names.lookup y.1 == some .cell)
theorem Inv.same {a:Addr} (i:Inv w H₀ stk md σ h) (ha:md a) (hσ:σ a = none) (hs:Heap.SameBut a h h') (al:∃ o, h'.get? a = some o)
    (hff:∀ o, h.get? a = some o → isFr stk a → ∃ o', h'.get? a = some o' ∧ ∀ vs, o'.data ≠ .fields vs):Inv w H₀ stk md σ h':=by
  have kp:Kp md h md h':=⟨fun b o nm e => (hs.2 b fun z => nm (by rw [z]; exact ha)).trans e, fun J J J m => m⟩
  refine ⟨i.gl, fun b o e => (hs.2 b fun z => ?_).trans (i.base b o e), i.off, fun b m => ?_, fun b m e => ⟨(i.sto b m e).1, (i.sto b m e).2.mono kp fun o q => (hs.2 b fun z => ?_).trans q⟩, fun e he => ?_, i.frmd⟩
  · have:=i.off a ha; rw [← z, e] at this; cases this
  · by_cases z:b = a
    · rw [z]; exact al
    · obtain ⟨o, q⟩:=i.al b m
      exact ⟨o, (hs.2 b z).trans q⟩
  · rw [z, hσ] at e; cases e
  · obtain ⟨a1, L, o, a2, a3, a4, a5⟩:=i.ff e he
    by_cases z:L = a
    · subst z
      obtain ⟨o', q1, q2⟩:=hff o a4 ⟨e, he, a2⟩
      exact ⟨a1, L, o', a2, a3, q1, q2⟩
    · exact ⟨a1, L, o, a2, a3, (hs.2 L z).trans a4, a5⟩
theorem Go.same {a:Addr} (ha:ow a) (hs:Heap.SameBut a h h') (al:∃ o, h'.get? a = some o):Go stk ow σ md h σ md h':=by
  refine ⟨⟨fun b o no J e => (hs.2 b fun z => no (by rw [z]; exact .inl ha)).trans e, fun b o no e => ⟨o.slots, (hs.2 b fun z => no (by rw [z]; exact .inl ha)).trans e⟩, fun b o e => ?_, fun J J m J J => m, fun J J J m => m⟩, fun J q => .inl q⟩
  by_cases z:b = a
  · rw [z]; exact al
  · exact ⟨o, (hs.2 b z).trans e⟩
theorem nodup_at {α:Type}:∀ {l:List α} {i j:Nat} {x:α}, l.Nodup → l[i]? = some x → l[j]? = some x → i = j
  | y :: l, 0, 0, _, _, _, _ => rfl
  | y :: l, i + 1, 0, x, hn, e1, e2 => by
    rw [List.nodup_cons] at hn
    simp at e1 e2
    subst e2
    exact absurd (List.mem_of_getElem? e1) hn.1
  | y :: l, 0, j + 1, x, hn, e1, e2 => by
    rw [List.nodup_cons] at hn
    simp at e1 e2
    subst e1
    exact absurd (List.mem_of_getElem? e2) hn.1
  | y :: l, i + 1, j + 1, x, hn, e1, e2 => by
    rw [List.nodup_cons] at hn
    simp at e1 e2
    rw [nodup_at hn.2 e1 e2]
theorem Cx.store {x:Str} {i:Nat} {v:Value} {pv:PV} {Q:Unit → Shared → Prop} {E:Value → Shared → Prop} (c:Cx w H₀ S n A env stk ow md σ vs s.heap) (hs:S.st x i = true) (r:Rel md s.heap v pv)
    (hQ:∀ h' tk, Cx w H₀ S n A env stk ow md σ (vs.set i (some pv)) h' → Go stk ow σ md s.heap σ md h' → Q () { s with heap:=h', toks:=tk }):wpAny (MD w) A (storeName env x v) Q E s:=by
  simp only [Fx.st, Bool.and_eq_true, decide_eq_true_eq, beq_iff_eq, Bool.or_eq_true, List.contains_iff_mem, List.all_eq_true, bne_iff_ne] at hs
  obtain ⟨⟨⟨⟨hk, hi⟩, hnd⟩, hl⟩, hcells⟩:=hs
  have hkind:env.scope.kind = .function:=by rw [c.loc.sc]; exact hk
  have hkd:∀ y, env.kindOf y = S.sc.names.lookup y:=fun y => by unfold Env.kindOf; rw [c.loc.sc]
  have nex:∀ (j:Nat) (y:Str), S.ns[j]? = some y → j ≠ i → y ≠ x:=fun j y e q z => by
    subst z
    exact q (nodup_at hnd e hi)
  have slot:∀ (j:Nat) (pv':PV), (vs.set i (some pv))[j]? = some (some pv') → (j = i ∧ pv' = pv) ∨ (j ≠ i ∧ vs[j]? = some (some pv')):=fun j pv' e => by
    by_cases z:j = i
    · subst z
      rw [List.getElem?_set] at e
      simp only [if_true] at e
      split at e
      · cases e; exact .inl ⟨rfl, rfl⟩
      · cases e
    · rw [List.getElem?_set_ne (Ne.symm z)] at e
      exact .inr ⟨z, e⟩
  rcases hl with hl | ⟨hl, hoc⟩
  · obtain ⟨m, hns, f⟩:=c.loc.ns
    refine wpAny_storeName_local (by rw [hkd]; exact hl) hns (fun h' hn' hs' => ?_) (by rw [hkind]; rfl)
    have al':∃ o, h'.get? env.locals = some o:=let ⟨o, _, _, e, _⟩:=hn'; ⟨o, e⟩
    have g:Go stk ow σ md s.heap σ md h':=.same c.loc.lown hs' al'
    have kp:=c.kp g
    have hlm:=c.loc.owmd _ c.loc.lown
    refine hQ h' _ ⟨c.bx.with (c.bx.inv.same hlm.1 hlm.2.1 hs' al' fun o J J => ?_), c.head, ⟨c.loc.sc, c.loc.gl, c.loc.bl, ⟨_, hn', fun j y pv' e1 e2 e3 => ?_⟩, c.loc.lown, fun y ca e => ?_, c.loc.ck, c.loc.hasc, c.loc.cown, c.loc.apart, fun a q => ⟨(c.loc.owmd a q).1, (c.loc.owmd a q).2.1, ?_⟩⟩, c.owfr, c.cellfr⟩ g
    · obtain ⟨o', es, ep, e, d, _⟩:=hn'
      exact ⟨o', e, fun q z => by rw [d] at z; cases z⟩
    · rcases slot j pv' e2 with ⟨z, rfl⟩ | ⟨z, e2⟩
      · subst z
        rw [hi] at e1; cases e1
        exact ⟨v, if_pos rfl, r.mono kp⟩
      · obtain ⟨u, hu, hr⟩:=f j y pv' e1 e2 e3
        exact ⟨u, by rw [if_neg (nex j y e1 z)]; exact hu, hr.mono kp⟩
    · obtain ⟨a2, a3, v0, hc, fc⟩:=c.loc.cel y ca e
      refine ⟨a2, a3, v0, hc.sameBut hs' a3, fun j pv' e1 e2 => ?_⟩
      rcases slot j pv' e2 with ⟨z, rfl⟩ | ⟨z, e2⟩
      · subst z
        rw [hi] at e1; cases e1
        rcases c.loc.ck x ca e with q | q <;> rw [hl] at q <;> cases q
      · obtain ⟨u, hu, hr⟩:=fc j pv' e1 e2
        exact ⟨u, hu, hr.mono kp⟩
    · exact g.st.alive _ _ (c.loc.owmd a q).2.2.choose_spec
  · obtain ⟨ca, hca⟩:=c.loc.hasc x (.inl hl)
    obtain ⟨a2, a3, v0, hc, fc⟩:=c.loc.cel x ca hca
    have hown:=c.loc.cown x ca hoc hca
    have a1:=(c.loc.owmd _ hown).1
    refine wpAny_storeName_cell hkind (by rw [hkd]; exact hl) hca hc fun h' hc' hs' => ?_
    have al':∃ o, h'.get? ca = some o:=let ⟨o, e, _⟩:=hc'; ⟨o, e⟩
    have g:Go stk ow σ md s.heap σ md h':=.same hown hs' al'
    have kp:=c.kp g
    refine hQ h' _ ⟨c.bx.with (c.bx.inv.same a1 a2 hs' al' fun o J q => absurd q (c.cellfr x ca hca)), c.head, ⟨c.loc.sc, c.loc.gl, c.loc.bl, ?_, c.loc.lown, fun y cb e => ?_, c.loc.ck, c.loc.hasc, c.loc.cown, c.loc.apart, fun a q => ⟨(c.loc.owmd a q).1, (c.loc.owmd a q).2.1, ?_⟩⟩, c.owfr, c.cellfr⟩ g
    · obtain ⟨m, hns, f⟩:=c.loc.ns
      refine ⟨m, hns.sameBut hs' (Ne.symm a3), fun j y pv' e1 e2 e3 => ?_⟩
      rcases slot j pv' e2 with ⟨z, rfl⟩ | ⟨z, e2⟩
      · subst z
        rw [hi] at e1; cases e1
        rw [hl] at e3; cases e3
      · obtain ⟨u, hu, hr⟩:=f j y pv' e1 e2 e3
        exact ⟨u, hu, hr.mono kp⟩
    · obtain ⟨b2, b3, u0, hcb, fb⟩:=c.loc.cel y cb e
      by_cases z:y = x
      · subst z
        rw [hca] at e; cases e
        refine ⟨a2, a3, _, hc', fun j pv' e1 e2 => ?_⟩
        rcases slot j pv' e2 with ⟨_, rfl⟩ | ⟨z, e2⟩
        · exact ⟨v, rfl, r.mono kp⟩
        · exact absurd (nodup_at hnd e1 hi) z
      · have ne:cb ≠ ca:=fun q => z (name_of_addr c.loc.apart.1 (mem_of_lookup e) (q ▸ mem_of_lookup hca))
        refine ⟨b2, b3, u0, hcb.sameBut hs' ne, fun j pv' e1 e2 => ?_⟩
        rcases slot j pv' e2 with ⟨q, rfl⟩ | ⟨q, e2⟩
        · subst q
          rw [hi] at e1; cases e1
          exact absurd rfl z
        · obtain ⟨u, hu, hr⟩:=fb j pv' e1 e2
          exact ⟨u, hu, hr.mono kp⟩
    · exact g.st.alive _ _ (c.loc.owmd a q).2.2.choose_spec
variable {K:PF → Slots → Store → Prop} {X:PExc → Slots → Store → Prop}
theorem ExS.drop {e:Expr} {p:Pos} (hi:∀ env:Env, env.scope = S.sc → interactive env = false) (hsw:∀ env, swapsWith e none p.line env = pure false)
    (hh:EvE w H₀ S n e vs σ (fun q vs₁ σ₁ => q = .none ∧ K .next vs₁ σ₁) X):ExS w H₀ S n (.Expr e p) vs σ K X:=by
  refine ⟨fun A env stk ow md s c => ?_⟩
  refine wpAny_Expr (hh.at c (fun J J e => e) fun v q vs₁ σ₁ md₁ h₁ tk k r c₁ kp₁ g₁ => ?_) (hi env c.loc.sc) (hsw env)
  obtain ⟨rfl, k⟩:=k
  obtain rfl:v = .none:=r.inv
  exact .of g₁ c₁ k trivial
end
section
variable {w:World} {H₀:Heap} {S:Fx} {n:Nat} {σ:Store} {vs:Slots} {K:PV → Slots → Store → Prop} {X:PExc → Slots → Store → Prop}
theorem IsDef.mk {f:Addr} {oc:Value} {od:Option Addr} {osl:_} {name qual:Str} {pars:Arguments} {body:List Stmt} {sc:Scope} {dV kV doc pm an cdv ct:_} {params ns oc':List Str}
    (hl:(hd.heap_1 w.params).lookup f = some ⟨oc, od, .func (fnOf name qual pars body sc dV kV doc pm an cdv ct), osl⟩) (hc:codeIn (hd.heap_1 w.params) cdv qual = true)
    (hb:∀ vals:List Value, vals.length = params.length → bindArgs (fnOf name qual pars body sc dV kV doc pm an cdv ct) ⟨vals, []⟩ = pure (params.zip vals)):IsDef w f ⟨params, body, (.mk3 sc ns oc')⟩ :=
  ⟨oc, od, name, qual, pars, dV, kV, doc, pm, cdv, ct, an, osl, hl, hc, hb, fun J => trivial⟩
end
section
variable {w:World} {H₀:Heap} {S:Fx} {n:Nat} {A:Around} {env:Env} {stk:List Env} {ow md md':ASet} {σ σ':Store} {vs:Slots} {s:Shared} {h h':Heap}
theorem Inv.ext (i:Inv w H₀ stk md σ h) (k:∀ b o, h.get? b = some o → h'.get? b = some o):Inv w H₀ stk md σ h':=by
  have kp:Kp md h md h':=⟨fun a o' J q => k _ _ q, fun J J J m => m⟩
  refine ⟨i.gl, fun b o' q => k _ _ (i.base b o' q), i.off, fun a m => ?_, fun a m q => ⟨(i.sto a m q).1, (i.sto a m q).2.mono kp fun o' q => k _ _ q⟩, fun e he => ?_, i.frmd⟩
  · obtain ⟨o', q⟩:=i.al a m
    exact ⟨o', k _ _ q⟩
  · obtain ⟨a, L, o', b, c, d, f⟩:=i.ff e he
    exact ⟨a, L, o', b, c, k _ _ d, f⟩
theorem Go.ext (k:∀ b o, h.get? b = some o → h'.get? b = some o):Go stk ow σ md h σ md h' :=
  ⟨⟨fun J J J J q => k _ _ q, fun J o J q => ⟨o.slots, k _ _ q⟩, fun J o q => ⟨o, k _ _ q⟩, fun J J m J J => m, fun J J J m => m⟩, fun J q => .inl q⟩
theorem Cx.ext (c:Cx w H₀ S n A env stk ow md σ vs h) (k:∀ b o, h.get? b = some o → h'.get? b = some o):Cx w H₀ S n A env stk ow md σ vs h':=c.step (c.bx.inv.ext k) (.ext k)
noncomputable def AsT (w:World) (H₀:Heap) (S:Fx) (n:Nat) (t:Expr) (pv:PV) (vs:Slots) (σ:Store) (K:Slots → Store → Prop) (X:PExc → Slots → Store → Prop):Prop :=
  ∀ A env stk ow md s v, Cx w H₀ S n A env stk ow md σ vs s.heap → Rel md s.heap v pv → wpAny (MD w) A (assign t env v) (GOk EqR w H₀ S n A env stk ow md σ s fun J => K) (GEx w H₀ S n A env stk ow md σ s X) s
noncomputable def AsL (w:World) (H₀:Heap) (S:Fx) (n:Nat) (ts:List Expr) (l:List PV) (vs:Slots) (σ:Store) (K:Slots → Store → Prop) (X:PExc → Slots → Store → Prop):Prop :=
  ∀ A env stk ow md s vals, Cx w H₀ S n A env stk ow md σ vs s.heap → RelL md s.heap vals l → wpAny (MD w) A (assignInOrder ((assignEach ts env).map (·.2)) vals) (GOk EqR w H₀ S n A env stk ow md σ s fun J => K) (GEx w H₀ S n A env stk ow md σ s X) s
noncomputable def AsB (w:World) (H₀:Heap) (S:Fx) (n:Nat) (ns:List Str) (l:List PV) (vs:Slots) (σ:Store) (K:Slots → Store → Prop) (X:PExc → Slots → Store → Prop):Prop :=
  ∀ A env stk ow md s vals, Cx w H₀ S n A env stk ow md σ vs s.heap → RelL md s.heap vals l → wpAny (MD w) A (assignInOrder (ns.map fun n => bindName env n) vals) (GOk EqR w H₀ S n A env stk ow md σ s fun J => K) (GEx w H₀ S n A env stk ow md σ s X) s
variable {K:Slots → Store → Prop} {X:PExc → Slots → Store → Prop}
theorem AsT.name {x:Str} {i:Nat} {px:Pos} {pv:PV} (hs:S.st x i = true) (k:K (vs.set i (some pv)) σ):AsT w H₀ S n (.Name x px) pv vs σ K X:=by
  intro A env stk ow md s v c r
  exact assign_Name (c.store hs r fun h' tk' c' g' => .of g' c' k rfl)
theorem AsL.nil (k:K vs σ):AsL w H₀ S n [] [] vs σ K X:=by
  intro A env stk ow md s v c r
  exact wpAny_pure (.here (tk:=s.toks) c k rfl)
theorem AsL.cons {t:Expr} {ts:List Expr} {p:PV} {l:List PV} (k:AsT w H₀ S n t p vs σ (fun vs₁ σ₁ => AsL w H₀ S n ts l vs₁ σ₁ K X) X) (he:∀ env, assignEach (t :: ts) env = (false, assign t env) :: assignEach ts env:=by intro _; rfl) :
    AsL w H₀ S n (t :: ts) (p :: l) vs σ K X:=by
  intro A env stk ow md s vals c r
  rw [he]
  apply r.i1; intro _ _ r₁ r
  refine assignInOrder_cons (wpAny_mono (k A env stk ow md s _ c r₁) (fun J s' x => ?_) fun J J x => x)
  apply x.el; intro pv vs' σ' md' h' tk' k _ c' g
  exact wpAny_mono (k A env stk ow md' _ _ c' (r.mono (c.kp g))) (fun J J e => e.lift g) fun J J e => e.lift g
theorem AsB.nil (k:K vs σ):AsB w H₀ S n [] [] vs σ K X:=by
  intro A env stk ow md s v c r
  exact wpAny_pure (.here (tk:=s.toks) c k rfl)
theorem AsB.cons {x:Str} {i:Nat} {ts:List Str} {p:PV} {l:List PV} (hs:S.st x i = true) (k:AsB w H₀ S n ts l (vs.set i (some p)) σ K X) :
    AsB w H₀ S n (x :: ts) (p :: l) vs σ K X:=by
  intro A env stk ow md s vals c r
  apply r.i1; intro _ _ r₁ r
  refine assignInOrder_cons (bindName_ (c.store hs r₁ fun h' tk' c' g' => ?_))
  exact wpAny_mono (k A env stk ow md _ _ c' (r.mono (c.kp g'))) (fun J J e => e.lift g') fun J J e => e.lift g'
theorem RelL.reverse {l:List PV} {vals:List Value} (r:RelL md h vals l):RelL md h vals.reverse l.reverse :=
  r.ind (P:=fun vals l => RelL md h vals.reverse l.reverse) .nil fun a J x => by rw [List.reverse_cons, List.reverse_cons]; exact x.snoc a
theorem AsT.tup {elts:List Expr} {k:Nat} {pos:Pos} {l:List PV} (hn:∀ env, (assignEach elts env).length = l.length) (hstar:∀ env, (assignEach elts env).findIdx? (·.1) = none)
    (kk:AsL w H₀ S n elts l vs σ K X) (hN:4 ≤ n:=by first | exact Nat.le_add_left 4 _ | assumption):AsT w H₀ S n (.Tuple elts k pos) (.tup l) vs σ K X:=by
  intro A env stk ow md s v c r
  apply r.iTup; intro _ _ nm ht r
  refine assign_Tuple_tuple (c.bx.handled hN) ht (by rw [hn, List.size_toArray, r.length]) (hstar env) fun h' he => ?_
  have ke:∀ b o, s.heap.get? b = some o → h'.get? b = some o:=fun b o e => he b o (fun z => by rw [z, none_size] at e; cases e) e
  have g:Go stk ow σ md s.heap σ md h':=.ext ke
  exact wpAny_mono (kk A env stk ow md _ _ (c.ext ke) (by simpa using r.mono (c.kp g))) (fun J J e => GOk.lift (tk:=s.toks) g e) fun J J e => GEx.lift (tk:=s.toks) g e
end
section
variable {w:World} {H₀:Heap} {S:Fx} {n:Nat} {σ:Store} {vs:Slots} {K:PF → Slots → Store → Prop} {X:PExc → Slots → Store → Prop}
theorem ExS.assignT {elts:List Expr} {k:Nat} {tpos p:Pos} {e:Expr} (hh:EvE w H₀ S n e vs σ (fun q vs₁ σ₁ => AsT w H₀ S n (.Tuple elts k tpos) q vs₁ σ₁ (fun vs₂ σ₂ => K .next vs₂ σ₂) X) X)
    (hs:∀ env, swapsWithSole [.Tuple elts k tpos] e p.line env = pure false:=by intro _; rfl)
    (hw:∀ env, swappedStores [.Tuple elts k tpos] e env = pure none:=by intro _; rfl):ExS w H₀ S n (.Assign [.Tuple elts k tpos] e p) vs σ K X:=by
  refine ⟨fun A env stk ow md s c => ?_⟩
  refine Assign_Tuple (hh.at c (fun J J e => e) fun v q vs₁ σ₁ md₁ h₁ tk k r c₁ kp₁ g₁ => ?_) (hs env) (hw env)
  refine wpAny_mono (k A env stk ow md₁ _ v c₁ r) (fun J s' x => ?_) fun J J e => e.lift g₁
  apply x.el; intro pv vs' σ' md' h' tk' k _ c' g
  exact .of (g₁.trans g) c' k trivial
theorem ExS.assignW {elts:List Expr} {k:Nat} {tpos p:Pos} {e:Expr} {names:List Str} 
    (hh:EvE w H₀ S n e vs σ (fun q vs₁ σ₁ => ∃ l, q = .tup l ∧ l.length = names.length ∧ AsB w H₀ S n names.reverse l.reverse vs₁ σ₁ (fun vs₂ σ₂ => K .next vs₂ σ₂) X) X)
    (hs:∀ env, swapsWithSole [.Tuple elts k tpos] e p.line env = pure false:=by intro _; rfl)
    (hw:∀ env:Env, env.scope = S.sc → swappedStores [.Tuple elts k tpos] e env = pure (some names)) (hN:4 ≤ n:=by first | exact Nat.le_add_left 4 _ | assumption):ExS w H₀ S n (.Assign [.Tuple elts k tpos] e p) vs σ K X:=by
  refine ⟨fun A env stk ow md s c => ?_⟩
  refine Assign_Tuple_swapped (hh.at c (fun J J e => e) fun v q vs₁ σ₁ md₁ h₁ tk k r c₁ kp₁ g₁ => ?_) (hs env) (hw env c.loc.sc)
  obtain ⟨l, rfl, hlen, k⟩:=k
  apply r.iTup; intro a vals nm ht r
  have hz:names.length = vals.toArray.size:=by rw [List.size_toArray, r.length, hlen]
  rw [hz]
  refine unpackItems_tuple (c₁.bx.handled hN) ht fun h' he => ?_
  have ke:∀ b o, h₁.get? b = some o → h'.get? b = some o:=fun b o e => he b o (fun z => by rw [z] at e; have:=none_size h₁; rw [e] at this; cases this) e
  have g:Go stk ow σ₁ md₁ h₁ σ₁ md₁ h':=.ext ke
  refine wpAny_mono (k A env stk ow md₁ ⟨h', s.gens, s.drawn, tk, s.os⟩ vals.reverse (c₁.ext ke) (r.mono (c₁.kp g)).reverse) (fun J s' x => ?_) fun J J e => GEx.lift (tk:=tk) (g₁.trans g) e
  apply x.el; intro pv vs' σ' md' h'' tk' k _ c' g'
  exact .of (g₁.trans (g.trans g')) c' k trivial
end
section
variable {w:World} {H₀:Heap} {S:Fx} {n:Nat} {σ:Store} {vs vs':Slots} {X:PExc → Slots → Store → Prop}
theorem AsT.nm {K:Slots → Store → Prop} {x:Str} {i:Nat} {px:Pos} {pv:PV} (hs:S.st x i = true) (hv:vs.set i (some pv) = vs') (k:K vs' σ):AsT w H₀ S n (.Name x px) pv vs σ K X:=.name hs (hv ▸ k)
theorem AsB.nm {K:Slots → Store → Prop} {x:Str} {i:Nat} {ts:List Str} {p:PV} {l:List PV} (hs:S.st x i = true) (hv:vs.set i (some p) = vs') (k:AsB w H₀ S n ts l vs' σ K X):AsB w H₀ S n (x :: ts) (p :: l) vs σ K X:=.cons hs (hv ▸ k)
end
section
variable {w:World} {H₀:Heap} {n:Nat} {σ:Store}
theorem PrimC.fnS {d:Def} {f:Addr} {args:List PV} {vs:Slots} {K:PV → Store → Prop} {X:PExc → Store → Prop} (hd:IsDef w f d) (hok:d.ok = true) (hl:args.length = d.params.length)
    (hs:slots0 d args = vs)
    (hb:ExB w H₀ d.fx n d.body vs σ (fun pf J σ' => match pf with | .ret p => K p σ' | .next => K .none σ') (fun pe J σ' => X pe σ')):PrimC w H₀ (n + 1) args σ (.ref f) K X :=
  .fn hd hok hl (hs ▸ hb)
end
section
variable {w:World} {H₀:Heap} {S:Fx} {n:Nat} {σ:Store} {vs:Slots} {K:PF → Slots → Store → Prop} {X:PExc → Slots → Store → Prop}
theorem ExS.assignW2 {k:Nat} {tpos p pa pb:Pos} {e:Expr} {a b:Str}
    (hw:∀ env:Env, env.scope = S.sc → swappedStores [.Tuple [.Name a pa, .Name b pb] k tpos] e env = pure (some [a, b]))
    (hh:EvE w H₀ S n e vs σ (fun q vs₁ σ₁ => ∃ x y, q = .tup [x, y] ∧ AsB w H₀ S n [b, a] [y, x] vs₁ σ₁ (fun vs₂ σ₂ => K .next vs₂ σ₂) X) X)
    (hs:∀ env, swapsWithSole [.Tuple [.Name a pa, .Name b pb] k tpos] e p.line env = pure false:=by intro _; rfl) (hN:4 ≤ n:=by first | exact Nat.le_add_left 4 _ | assumption):ExS w H₀ S n (.Assign [.Tuple [.Name a pa, .Name b pb] k tpos] e p) vs σ K X :=
  .assignW (names:=[a, b]) (hh.mono (fun p _ _ ⟨x, y, e, k⟩ => ⟨[x, y], e, rfl, k⟩) fun J J J x => x) hs hw
theorem ExS.assignW3 {k:Nat} {tpos p pa pb pc:Pos} {e:Expr} {a b c:Str}
    (hw:∀ env:Env, env.scope = S.sc → swappedStores [.Tuple [.Name a pa, .Name b pb, .Name c pc] k tpos] e env = pure (some [a, b, c]))
    (hh:EvE w H₀ S n e vs σ (fun q vs₁ σ₁ => ∃ x y z, q = .tup [x, y, z] ∧ AsB w H₀ S n [c, b, a] [z, y, x] vs₁ σ₁ (fun vs₂ σ₂ => K .next vs₂ σ₂) X) X)
    (hs:∀ env, swapsWithSole [.Tuple [.Name a pa, .Name b pb, .Name c pc] k tpos] e p.line env = pure false:=by intro _; rfl) (hN:4 ≤ n:=by first | exact Nat.le_add_left 4 _ | assumption):ExS w H₀ S n (.Assign [.Tuple [.Name a pa, .Name b pb, .Name c pc] k tpos] e p) vs σ K X :=
  .assignW (names:=[a, b, c]) (hh.mono (fun p _ _ ⟨x, y, z, e, k⟩ => ⟨[x, y, z], e, rfl, k⟩) fun J J J x => x) hs hw
end
noncomputable def hs (x:Str):Nat:=x.cps.toList.foldl (fun a c => a * 2097152 + c + 1) 0
noncomputable def hnd:List Nat → Bool
  | [] => true
  | a :: l => l.all (fun b => !(Nat.beq a b)) && hnd l
theorem hnd_sound {l:List Str} (h:hnd (l.map hs) = true):l.Nodup:=by
  induction l with
  | nil =>
    exact List.nodup_nil
  | cons a l ih =>
    simp only [List.map_cons, hnd, Bool.and_eq_true, List.all_eq_true, Bool.not_eq_true'] at h
    rw [List.nodup_cons]
    refine ⟨fun m => ?_, ih h.2⟩
    have:=h.1 (hs a) (List.mem_map.mpr ⟨a, m, rfl⟩)
    rw [Nat.beq_refl] at this
    cases this
noncomputable def special:List Str:=["__debug__", "__classdict__", "__name__"]
structure Fx.Good (S:Fx) (ns oc:List Str) (ks:List NameKind) (gs:List Str):Prop where
  ns:S.ns = ns
  oc:S.oc = oc
  kind:S.sc.kind = .function
  nodup:S.ns.Nodup
  nm:∀ (i:Nat) (x:Str) (k:NameKind), S.ns[i]? = some x → ks[i]? = some k → S.sc.names.lookup x = some k ∧ x ∉ special
  gl:∀ (j:Nat) (x:Str), gs[j]? = some x → S.sc.names.lookup x = some .globalImplicit ∧ x ∉ special
  cells:S.sc.names.all (fun y => y.2 != .cell || S.sc.names.lookup y.1 == some .cell) = true
noncomputable def tagged (ns:List Str) (ks:List NameKind) (gs:List Str):List (Str × NameKind):=ns.zip ks ++ gs.map fun g => (g, .globalImplicit)
theorem lookup_at {α:Type} {l:List (Str × α)} {x:Str} {k:α} (hm:(x, k) ∈ l) (hn:(l.map (·.1)).Nodup):l.lookup x = some k:=by
  induction l with
  | nil => cases hm
  | cons p r ih =>
    obtain ⟨y, u⟩:=p
    rw [List.map_cons, List.nodup_cons] at hn
    rw [List.lookup_cons]
    rcases List.mem_cons.mp hm with e | hm
    · cases e; simp
    · have:x ≠ y:=fun e => hn.1 (e ▸ List.mem_map.mpr ⟨_, hm, rfl⟩)
      have e:(x == y) = false:=by simpa using this
      rw [e]; exact ih hm hn.2
theorem tagged_map {ns:List Str} {ks:List NameKind} {gs:List Str} (h:ns.length = ks.length):(tagged ns ks gs).map (·.1) = ns ++ gs:=by
  unfold tagged
  rw [List.map_append, List.map_map, List.map_fst_zip (by lia)]
  congr 1
  induction gs with | nil => rfl | cons a l ih => rw [List.map_cons, ih]; rfl
theorem tagged_nm {ns:List Str} {ks:List NameKind} {gs:List Str} {i:Nat} {x:Str} {k:NameKind} (h1:ns[i]? = some x) (h2:ks[i]? = some k):(x, k) ∈ tagged ns ks gs :=
  List.mem_append_left _ (List.mem_of_getElem? (i:=i) (List.getElem?_zip_eq_some.mpr ⟨h1, h2⟩))
theorem tagged_gl {ns:List Str} {ks:List NameKind} {gs:List Str} {x:Str} (h:x ∈ gs):(x, .globalImplicit) ∈ tagged ns ks gs :=
  List.mem_append_right _ (List.mem_map.mpr ⟨x, h, rfl⟩)
theorem Fx.Good.of {S:Fx} {ns oc:List Str} {ks:List NameKind} {gs:List Str} (en:S.ns = ns) (eo:S.oc = oc) (hk:S.sc.kind = .function) (ht:S.sc.names = tagged S.ns ks gs) (hl:S.ns.length = ks.length) (hn:hnd ((S.ns ++ gs ++ special).map hs) = true):S.Good ns oc ks gs:=by
  have nd:=hnd_sound hn
  rw [List.nodup_append] at nd
  obtain ⟨n1, n2, n3⟩:=nd
  have nl:(S.sc.names.map (·.1)).Nodup:=by rw [ht, tagged_map hl]; exact n1
  refine ⟨en, eo, hk, (List.nodup_append.mp n1).1, fun i x k h1 h2 => ⟨lookup_at (by rw [ht]; exact tagged_nm h1 h2) nl, fun h => n3 x (List.mem_append_left _ (List.mem_of_getElem? h1)) x h rfl⟩,
    fun j x h => ⟨lookup_at (by rw [ht]; exact tagged_gl (List.mem_of_getElem? h)) nl, fun h' => n3 x (List.mem_append_right _ (List.mem_of_getElem? h)) x h' rfl⟩, ?_⟩
  rw [List.all_eq_true]
  rintro ⟨y, k⟩ hy
  cases k <;> simp
  exact lookup_at hy nl
inductive NAt:List Str → List NameKind → Slots → Str → NameKind → PV → Prop
  | head {x:Str} {ns:List Str} {k:NameKind} {ks:List NameKind} {pv:PV} {vs:Slots}:NAt (x :: ns) (k :: ks) (some pv :: vs) x k pv
  | tail {x y:Str} {ns:List Str} {k c:NameKind} {ks:List NameKind} {pv:PV} {o:Option PV} {vs:Slots}:NAt ns ks vs x k pv → NAt (y :: ns) (c :: ks) (o :: vs) x k pv
inductive SAt:List Str → List NameKind → Slots → Str → NameKind → PV → Slots → Prop
  | head {x:Str} {ns:List Str} {k:NameKind} {ks:List NameKind} {pv:PV} {o:Option PV} {vs:Slots}:SAt (x :: ns) (k :: ks) (o :: vs) x k pv (some pv :: vs)
  | tail {x y:Str} {ns:List Str} {k c:NameKind} {ks:List NameKind} {pv:PV} {o:Option PV} {vs vs':Slots}:SAt ns ks vs x k pv vs' → SAt (y :: ns) (c :: ks) (o :: vs) x k pv (o :: vs')
inductive KAt:List Str → List NameKind → Str → NameKind → Nat → Prop
  | head {x:Str} {ns:List Str} {k:NameKind} {ks:List NameKind}:KAt (x :: ns) (k :: ks) x k 0
  | tail {x y:Str} {ns:List Str} {k c:NameKind} {ks:List NameKind} {i:Nat}:KAt ns ks x k i → KAt (y :: ns) (c :: ks) x k (i + 1)
theorem NAt.at {ns:List Str} {ks:List NameKind} {vs:Slots} {x:Str} {k:NameKind} {pv:PV} (h:NAt ns ks vs x k pv):∃ i:Nat, ns[i]? = some x ∧ ks[i]? = some k ∧ vs[i]? = some (some pv):=by
  induction h with
  | head => exact ⟨0, rfl, rfl, rfl⟩
  | tail _ ih => obtain ⟨i, a, b, c⟩:=ih; exact ⟨i + 1, by simpa using a, by simpa using b, by simpa using c⟩
theorem SAt.at {ns:List Str} {ks:List NameKind} {vs vs':Slots} {x:Str} {k:NameKind} {pv:PV} (h:SAt ns ks vs x k pv vs'):∃ i:Nat, ns[i]? = some x ∧ ks[i]? = some k ∧ vs.set i (some pv) = vs':=by
  induction h with
  | head => exact ⟨0, rfl, rfl, rfl⟩
  | tail _ ih => obtain ⟨i, a, b, c⟩:=ih; exact ⟨i + 1, by simpa using a, by simpa using b, by simpa using c⟩
theorem KAt.at {ns:List Str} {ks:List NameKind} {x:Str} {k:NameKind} {i:Nat} (h:KAt ns ks x k i):ns[i]? = some x ∧ ks[i]? = some k:=by
  induction h with
  | head => exact ⟨rfl, rfl⟩
  | tail _ ih => exact ⟨by simpa using ih.1, by simpa using ih.2⟩
noncomputable def Sto (ns:List Str) (ks:List NameKind) (oc:List Str) (x:Str) (vs:Slots) (pv:PV) (vs':Slots):Prop:=∃ k, SAt ns ks vs x k pv vs' ∧ (k = .local ∨ (k = .cell ∧ x ∈ oc))
theorem Sto.l {ns:List Str} {ks:List NameKind} {oc:List Str} {x:Str} {vs vs':Slots} {pv:PV} (h:SAt ns ks vs x .local pv vs'):Sto ns ks oc x vs pv vs':=⟨_, h, .inl rfl⟩
theorem Sto.c {ns:List Str} {ks:List NameKind} {oc:List Str} {x:Str} {vs vs':Slots} {pv:PV} (h:SAt ns ks vs x .cell pv vs') (hm:x ∈ oc):Sto ns ks oc x vs pv vs':=⟨_, h, .inr ⟨rfl, hm⟩⟩
section
variable {w:World} {H₀:Heap} {S:Fx} {n:Nat} {σ:Store} {vs vs':Slots} {X:PExc → Slots → Store → Prop} {ns oc:List Str} {ks:List NameKind} {gs:List Str}
theorem Fx.Good.notsp {x:Str} (h:x ∉ special):(x == ("__debug__":Str)) = false ∧ (x == ("__classdict__":Str)) = false ∧ (x == ("__name__":Str)) = false:=by
  simp only [special, List.mem_cons, List.not_mem_nil, or_false, not_or] at h
  refine ⟨beq_eq_false_iff_ne.mpr h.1, beq_eq_false_iff_ne.mpr h.2.1, beq_eq_false_iff_ne.mpr h.2.2⟩
theorem EvE.nam {K:PV → Slots → Store → Prop} {x:Str} {p:Pos} {k:NameKind} {pv:PV} (G:S.Good ns oc ks gs) (h:NAt ns ks vs x k pv) (hkk:(k == .local || k == .cell || k == .free) = true) (hk:K pv vs σ):EvE w H₀ S n (.Name x p) vs σ K X:=by
  obtain ⟨i, hi, hks, hv⟩:=h.at
  rw [← G.ns] at hi
  obtain ⟨a, b⟩:=G.nm i x k hi hks
  obtain ⟨b1, b2, b3⟩:=Fx.Good.notsp b
  refine .name hi ?_ hv hk
  rw [G.kind, a, b1, b2]
  simpa using hkk
theorem Fx.Good.sto {x:Str} {pv:PV} (G:S.Good ns oc ks gs) (h:Sto ns ks oc x vs pv vs'):∃ i, S.st x i = true ∧ vs.set i (some pv) = vs':=by
  obtain ⟨k, h, hk⟩:=h
  obtain ⟨i, hi, hks, hv⟩:=h.at
  rw [← G.ns] at hi
  obtain ⟨a, b⟩:=G.nm i x k hi hks
  refine ⟨i, ?_, hv⟩
  unfold Fx.st
  rw [G.kind, hi, a, G.cells]
  simp only [G.nodup, beq_self_eq_true, decide_true, Bool.and_true, Bool.true_and]
  rcases hk with rfl | ⟨rfl, hm⟩
  · rfl
  · rw [G.oc]; simpa using hm
theorem AsT.nam {K:Slots → Store → Prop} {x:Str} {px:Pos} {pv:PV} (G:S.Good ns oc ks gs) (h:Sto ns ks oc x vs pv vs') (kk:K vs' σ):AsT w H₀ S n (.Name x px) pv vs σ K X:=by
  obtain ⟨i, a, b⟩:=G.sto h
  exact .nm a b kk
theorem AsB.nam {K:Slots → Store → Prop} {x:Str} {ts:List Str} {p:PV} {l:List PV} (G:S.Good ns oc ks gs) (h:Sto ns ks oc x vs p vs') (kk:AsB w H₀ S n ts l vs' σ K X):AsB w H₀ S n (x :: ts) (p :: l) vs σ K X:=by
  obtain ⟨i, a, b⟩:=G.sto h
  exact .nm a b kk
theorem ExS.asn {K:PF → Slots → Store → Prop} {x:Str} {e:Expr} {px p:Pos} (G:S.Good ns oc ks gs) (hh:EvE w H₀ S n e vs σ (fun q vs₁ σ₁ => ∃ vs', Sto ns ks oc x vs₁ q vs' ∧ K .next vs' σ₁) X)
    (hsw:∀ env, swapsWith e (some (.Name x px)) p.line env = pure false:=by intro _; rfl):ExS w H₀ S n (.Assign [.Name x px] e p) vs σ K X:=by
  refine ⟨fun A env stk ow md s c => ?_⟩
  refine wpAny_Assign_Name (hh.at c (fun J J e => e) fun v q vs₁ σ₁ md₁ h₁ tk k r c₁ kp₁ g₁ => ?_) (hsw env)
  obtain ⟨vs', h, k⟩:=k
  obtain ⟨i, a, b⟩:=G.sto h
  exact c₁.store a r fun h' tk' c' g' => .of (g₁.trans g') (b ▸ c') k trivial
theorem EvE.gl {K:PV → Slots → Store → Prop} {x:Str} {p:Pos} {v:Value} {pv:PV} (e:nsIn (hd.heap_1 w.params) mainGlobals x = some (some v)) (hr:∀ md h, Rel md h v pv) (G:S.Good ns oc ks gs) (hj:x ∈ gs) (hk:K pv vs σ):EvE w H₀ S n (.Name x p) vs σ K X:=by
  obtain ⟨j, hj⟩:=List.getElem?_of_mem hj
  obtain ⟨a, b⟩:=G.gl j x hj
  obtain ⟨b1, b2, b3⟩:=Fx.Good.notsp b
  refine .glob e hr ?_ hk
  rw [G.kind, a, b1]; rfl
theorem EvE.bl {K:PV → Slots → Store → Prop} {x:Str} {p:Pos} {v:Value} {pv:PV} (e:nsIn (hd.heap_1 w.params) mainGlobals x = some none) (hv:bootBuiltins x = some v) (hr:∀ md h, Rel md h v pv) (G:S.Good ns oc ks gs) (hj:x ∈ gs) (hk:K pv vs σ):EvE w H₀ S n (.Name x p) vs σ K X:=by
  obtain ⟨j, hj⟩:=List.getElem?_of_mem hj
  obtain ⟨a, b⟩:=G.gl j x hj
  obtain ⟨b1, b2, b3⟩:=Fx.Good.notsp b
  refine .blt e hv hr ?_ hk
  rw [G.kind, a, b1, b3]; rfl
noncomputable def starred (e:Expr):Bool:=PySem.swappedStores.match_5 (fun _ => Bool) e (fun _ _ => true) (fun _ => false)
section
variable {env:Env} {ts vs:List Expr} {k kv:Nat} {tp vp:Pos}
theorem bkFn (hb:env.scope.kind = .function):env.blockKind = .function:=by unfold Env.blockKind; rw [hb]; rfl
theorem swap_core {ns:List Str} {line:Nat} {b:Bool} (hb:env.scope.kind = .function) (hz:(!(ts.length == 2 || ts.length == 3) || vs.length != ts.length) = false) (hs:vs.any starred = false) (hl:(Option.map (fun x => x.pos.line) ts.head?).getD 0 = line)
    (hn:List.filterMap (fun x => PySem.swappedStores.match_8 (fun _ => Option Str) x (fun id pos => if (env.kindOf id == some NameKind.local && pos.line == line) = true then some id else none) (fun _ => none)) ts = ns)
    (hd:(ns.length != ts.length || ns.eraseDups.length != ns.length) = b) (hf:b = false → vs.all (foldedForSure 8) = false ∧ vs.all (constantsAlone 8) = false) :
    swappedStores [.Tuple ts k tp] (.Tuple vs kv vp) env = if b = true then pure none else pure (some ns):=by
  subst hl hn
  refine (if_neg (by rw [hz, bkFn hb]; decide)).trans ((if_neg (fun e => Bool.false_ne_true (hs.symm.trans e))).trans ?_)
  cases b
  · exact (if_neg (fun e => Bool.false_ne_true (hd.symm.trans e))).trans ((if_neg (fun e => Bool.false_ne_true ((hf rfl).1.symm.trans e))).trans (if_neg (fun e => Bool.false_ne_true ((hf rfl).2.symm.trans e))))
  · exact if_pos hd
theorem nmIn {a:Str} {line line':Nat} (h:env.kindOf a = some .local) (hl:(line' == line) = true):(if (env.kindOf a == some NameKind.local && line' == line) = true then some a else none) = some a:=if_pos (by rw [h, hl]; rfl)
theorem nmOut {a:Str} {line line':Nat} (h:env.kindOf a = some .cell):(if (env.kindOf a == some NameKind.local && line' == line) = true then some a else none) = none:=if_neg (by rw [h]; exact Bool.false_ne_true)
theorem lineSelf {l:Nat}:(l == l) = true:=beq_self_eq_true l
theorem fm_cons {α β:Type} {f:α → Option β} {x:α} {b:β} {l:List α} {l':List β} (h:f x = some b) (t:l.filterMap f = l'):(x :: l).filterMap f = b :: l':=by subst t; exact List.filterMap_cons_some h
theorem fm_none {α β:Type} {f:α → Option β} {x:α} {l:List α} {l':List β} (h:f x = none) (t:l.filterMap f = l'):(x :: l).filterMap f = l':=by subst t; exact List.filterMap_cons_none h
theorem anyS2 {e₁ e₂:Expr} (hs₁:starred e₁ = false) (hs₂:starred e₂ = false):[e₁, e₂].any starred = false:=by
  show (starred e₁ || (starred e₂ || false)) = false
  rw [hs₁, hs₂]; rfl
theorem swapped2 {a b:Str} {pa pb tp vp:Pos} {k kv:Nat} {e₁ e₂:Expr} (hb:env.scope.kind = .function) (h1:env.kindOf a = some .local) (h2:env.kindOf b = some .local) (hne:a ≠ b) (hl:(pb.line == pa.line) = true)
    (hs₁:starred e₁ = false) (hs₂:starred e₂ = false) (hf:[e₁, e₂].all (foldedForSure 8) = false) (hc:[e₁, e₂].all (constantsAlone 8) = false) :
    swappedStores [.Tuple [.Name a pa, .Name b pb] k tp] (.Tuple [e₁, e₂] kv vp) env = pure (some [a, b]) :=
  swap_core (b:=false) (ns:=[a, b]) hb rfl (anyS2 hs₁ hs₂) rfl (fm_cons (nmIn h1 lineSelf) (fm_cons (nmIn h2 hl) rfl))
    (by rw [List.eraseDups_cons]; simp [hne.symm, List.eraseDups_cons]) fun J => ⟨hf, hc⟩
theorem swapped3 {a b c:Str} {pa pb pc tp vp:Pos} {k kv:Nat} {e₁ e₂ e₃:Expr} (hb:env.scope.kind = .function) (h1:env.kindOf a = some .local) (h2:env.kindOf b = some .local) (h3:env.kindOf c = some .local) (hab:a ≠ b) (hac:a ≠ c) (hbc:b ≠ c) (hl:(pb.line == pa.line) = true) (hl3:(pc.line == pa.line) = true)
    (hs₁:starred e₁ = false) (hs₂:starred e₂ = false) (hs₃:starred e₃ = false) (hf:[e₁, e₂, e₃].all (foldedForSure 8) = false) (hc:[e₁, e₂, e₃].all (constantsAlone 8) = false) :
    swappedStores [.Tuple [.Name a pa, .Name b pb, .Name c pc] k tp] (.Tuple [e₁, e₂, e₃] kv vp) env = pure (some [a, b, c]) :=
  swap_core (b:=false) (ns:=[a, b, c]) hb rfl (by show (starred e₁ || [e₂, e₃].any starred) = false; rw [hs₁, anyS2 hs₂ hs₃]; rfl) rfl (fm_cons (nmIn h1 lineSelf) (fm_cons (nmIn h2 hl) (fm_cons (nmIn h3 hl3) rfl)))
    (by rw [List.eraseDups_cons]; simp [hab.symm, hac.symm, hbc.symm, List.eraseDups_cons]) fun J => ⟨hf, hc⟩
theorem swapped_cell {a b:Str} {pa pb tp vp:Pos} {k kv:Nat} {e₁ e₂:Expr} (h1:env.kindOf a = some .cell) (hs₁:starred e₁ = false) (hs₂:starred e₂ = false) (hb:env.scope.kind = .function) :
    swappedStores [.Tuple [.Name a pa, .Name b pb] k tp] (.Tuple [e₁, e₂] kv vp) env = pure none:=by
  by_cases h:(env.kindOf b == some .local && pb.line == pa.line) = true
  · exact swap_core (b:=true) (ns:=[b]) hb rfl (anyS2 hs₁ hs₂) rfl (fm_none (nmOut h1) (fm_cons (if_pos h) rfl)) rfl fun e => Bool.noConfusion e
  · exact swap_core (b:=true) (ns:=[]) hb rfl (anyS2 hs₁ hs₂) rfl (fm_none (nmOut h1) (fm_none (if_neg h) rfl)) rfl fun e => Bool.noConfusion e
end
end
section
variable {w:World} {H₀:Heap} {S:Fx} {n:Nat} {σ:Store} {vs vs':Slots} {K:PF → Slots → Store → Prop} {X:PExc → Slots → Store → Prop} {ns oc:List Str} {ks:List NameKind} {gs:List Str}
theorem Fx.Good.kd (G:S.Good ns oc ks gs) {env:Env} (he:env.scope = S.sc) {i:Nat} {x:Str} {k:NameKind} (h:KAt ns ks x k i):env.kindOf x = some k:=by
  unfold Env.kindOf; rw [he]; exact (G.nm i x k (by rw [G.ns]; exact h.at.1) h.at.2).1
theorem Fx.Good.ne (G:S.Good ns oc ks gs) {i j:Nat} {x y:Str} {k c:NameKind} (hi:KAt ns ks x k i) (hj:KAt ns ks y c j) (h:(Nat.beq i j) = false):x ≠ y:=fun e => by
  subst e
  have:=nodup_at G.nodup (by rw [G.ns]; exact hi.at.1) (by rw [G.ns]; exact hj.at.1)
  rw [this, Nat.beq_refl] at h; cases h
theorem ExS.sw2 {k:Nat} {tpos p pa pb vp:Pos} {kv:Nat} {e₁ e₂:Expr} {a b:Str} {i j:Nat} (G:S.Good ns oc ks gs) (hi:KAt ns ks a .local i) (hj:KAt ns ks b .local j)
    (hc:(!Nat.beq i j && pb.line == pa.line && !starred e₁ && !starred e₂ && ![e₁, e₂].all (foldedForSure 8) && ![e₁, e₂].all (constantsAlone 8)) = true)
    (hh:EvE w H₀ S n (.Tuple [e₁, e₂] kv vp) vs σ (fun q vs₁ σ₁ => ∃ x y, q = .tup [x, y] ∧ AsB w H₀ S n [b, a] [y, x] vs₁ σ₁ (fun vs₂ σ₂ => K .next vs₂ σ₂) X) X) (hN:4 ≤ n:=by first | exact Nat.le_add_left 4 _ | assumption) :
    ExS w H₀ S n (.Assign [.Tuple [.Name a pa, .Name b pb] k tpos] (.Tuple [e₁, e₂] kv vp) p) vs σ K X:=by
  simp only [Bool.and_eq_true, Bool.not_eq_true'] at hc
  obtain ⟨⟨⟨⟨⟨c1, c2⟩, c3⟩, c4⟩, c5⟩, c6⟩:=hc
  exact .assignW2 (fun env he => swapped2 (by rw [he]; exact G.kind) (G.kd he hi) (G.kd he hj) (G.ne hi hj c1) c2 c3 c4 c5 c6) hh
theorem ExS.sw3 {k:Nat} {tpos p pa pb pc vp:Pos} {kv:Nat} {e₁ e₂ e₃:Expr} {a b c:Str} {i j l:Nat} (G:S.Good ns oc ks gs) (hi:KAt ns ks a .local i) (hj:KAt ns ks b .local j) (hl:KAt ns ks c .local l)
    (hc:(!Nat.beq i j && !Nat.beq i l && !Nat.beq j l && pb.line == pa.line && pc.line == pa.line && !starred e₁ && !starred e₂ && !starred e₃ && ![e₁, e₂, e₃].all (foldedForSure 8) && ![e₁, e₂, e₃].all (constantsAlone 8)) = true)
    (hh:EvE w H₀ S n (.Tuple [e₁, e₂, e₃] kv vp) vs σ (fun q vs₁ σ₁ => ∃ x y z, q = .tup [x, y, z] ∧ AsB w H₀ S n [c, b, a] [z, y, x] vs₁ σ₁ (fun vs₂ σ₂ => K .next vs₂ σ₂) X) X) (hN:4 ≤ n:=by first | exact Nat.le_add_left 4 _ | assumption) :
    ExS w H₀ S n (.Assign [.Tuple [.Name a pa, .Name b pb, .Name c pc] k tpos] (.Tuple [e₁, e₂, e₃] kv vp) p) vs σ K X:=by
  simp only [Bool.and_eq_true, Bool.not_eq_true'] at hc
  obtain ⟨⟨⟨⟨⟨⟨⟨⟨⟨c1, c2⟩, c3⟩, c4⟩, c5⟩, c6⟩, c7⟩, c8⟩, c9⟩, c10⟩:=hc
  exact .assignW3 (fun env he => swapped3 (by rw [he]; exact G.kind) (G.kd he hi) (G.kd he hj) (G.kd he hl) (G.ne hi hj c1) (G.ne hi hl c2) (G.ne hj hl c3) c4 c5 c6 c7 c8 c9 c10) hh
theorem ExS.dropE {e:Expr} {p:Pos} (G:S.Good ns oc ks gs) (hsw:∀ env, swapsWith e none p.line env = pure false)
    (hh:EvE w H₀ S n e vs σ (fun q vs₁ σ₁ => q = .none ∧ K .next vs₁ σ₁) X):ExS w H₀ S n (.Expr e p) vs σ K X :=
  .drop (fun env he => by unfold interactive; rw [he, G.kind]; rfl) hsw hh
end
section
variable {w:World} {H₀:Heap} {n:Nat} {σ:Store}
theorem PrimC.fnG {f:Addr} {oc:Value} {od:Option Addr} {osl:_} {name qual:Str} {pars:Arguments} {body:List Stmt} {sc:Scope} {dV kV doc pm an cdv ct:_} {params ns oc' gs:List Str} {ks:List NameKind}
    {args:List PV} {vs:Slots} {K:PV → Store → Prop} {X:PExc → Store → Prop}
    (hl:(hd.heap_1 w.params).lookup f = some ⟨oc, od, .func (fnOf name qual pars body sc dV kV doc pm an cdv ct), osl⟩) (hc:codeIn (hd.heap_1 w.params) cdv qual = true)
    (hb:∀ vals:List Value, vals.length = params.length → bindArgs (fnOf name qual pars body sc dV kV doc pm an cdv ct) ⟨vals, []⟩ = pure (params.zip vals))
    (hn:sc.names = tagged ns ks gs) (hk:sc.kind = .function) (hL:ns.length = ks.length) (hz:hnd ((ns ++ gs ++ special).map hs) = true) (hok:Def.ok ⟨params, body, (.mk3 sc ns oc')⟩ = true) (hlen:args.length = params.length)
    (hs:slots0 ⟨params, body, (.mk3 sc ns oc')⟩ args = vs)
    (hB:∀ S:Fx, S.Good ns oc' ks gs → ExB w H₀ S n body vs σ (fun pf J σ' => match pf with | .ret p => K p σ' | .next => K .none σ') (fun pe J σ' => X pe σ')):PrimC w H₀ (n + 1) args σ (.ref f) K X :=
  .fnS (.mk hl hc hb) hok hlen hs (hB _ (.of rfl rfl hk hn hL hz))
end
section
variable {w:World} {H₀:Heap} {S:Fx} {n:Nat} {σ:Store} {vs vs':Slots} {X:PExc → Slots → Store → Prop} {ns oc:List Str} {ks:List NameKind} {gs:List Str} {K:PV → Slots → Store → Prop} {p:Pos}
theorem G_U32 (G:S.Good ns oc ks gs) (hj:Str.ofString "U32" ∈ gs) (hk:K (.int 4294967295) vs σ):EvE w H₀ S n (.Name (Str.ofString "U32") p) vs σ K X:=.gl (v:=.int 4294967295 189) (by kernel_rfl) (fun J J => .int ..) G hj hk
theorem G_LD (G:S.Good ns oc ks gs) (hj:Str.ofString "LD" ∈ gs) (hk:K (.int 0) vs σ):EvE w H₀ S n (.Name (Str.ofString "LD") p) vs σ K X:=.gl (v:=.int 0 278) (by kernel_rfl) (fun J J => .int ..) G hj hk
theorem G_LDX (G:S.Good ns oc ks gs) (hj:Str.ofString "LDX" ∈ gs) (hk:K (.int 1) vs σ):EvE w H₀ S n (.Name (Str.ofString "LDX") p) vs σ K X:=.gl (v:=.int 1 280) (by kernel_rfl) (fun J J => .int ..) G hj hk
theorem G_ST (G:S.Good ns oc ks gs) (hj:Str.ofString "ST" ∈ gs) (hk:K (.int 2) vs σ):EvE w H₀ S n (.Name (Str.ofString "ST") p) vs σ K X:=.gl (v:=.int 2 282) (by kernel_rfl) (fun J J => .int ..) G hj hk
theorem G_STX (G:S.Good ns oc ks gs) (hj:Str.ofString "STX" ∈ gs) (hk:K (.int 3) vs σ):EvE w H₀ S n (.Name (Str.ofString "STX") p) vs σ K X:=.gl (v:=.int 3 284) (by kernel_rfl) (fun J J => .int ..) G hj hk
theorem G_ALU (G:S.Good ns oc ks gs) (hj:Str.ofString "ALU" ∈ gs) (hk:K (.int 4) vs σ):EvE w H₀ S n (.Name (Str.ofString "ALU") p) vs σ K X:=.gl (v:=.int 4 286) (by kernel_rfl) (fun J J => .int ..) G hj hk
theorem G_JMP (G:S.Good ns oc ks gs) (hj:Str.ofString "JMP" ∈ gs) (hk:K (.int 5) vs σ):EvE w H₀ S n (.Name (Str.ofString "JMP") p) vs σ K X:=.gl (v:=.int 5 288) (by kernel_rfl) (fun J J => .int ..) G hj hk
theorem G_RET (G:S.Good ns oc ks gs) (hj:Str.ofString "RET" ∈ gs) (hk:K (.int 6) vs σ):EvE w H₀ S n (.Name (Str.ofString "RET") p) vs σ K X:=.gl (v:=.int 6 290) (by kernel_rfl) (fun J J => .int ..) G hj hk
theorem G_MISC (G:S.Good ns oc ks gs) (hj:Str.ofString "MISC" ∈ gs) (hk:K (.int 7) vs σ):EvE w H₀ S n (.Name (Str.ofString "MISC") p) vs σ K X:=.gl (v:=.int 7 292) (by kernel_rfl) (fun J J => .int ..) G hj hk
theorem G_BY_X (G:S.Good ns oc ks gs) (hj:Str.ofString "BY_X" ∈ gs) (hk:K (.int 8) vs σ):EvE w H₀ S n (.Name (Str.ofString "BY_X") p) vs σ K X:=.gl (v:=.int 8 294) (by kernel_rfl) (fun J J => .int ..) G hj hk
theorem G_RETURN_A (G:S.Good ns oc ks gs) (hj:Str.ofString "RETURN_A" ∈ gs) (hk:K (.int 16) vs σ):EvE w H₀ S n (.Name (Str.ofString "RETURN_A") p) vs σ K X:=.gl (v:=.int 16 296) (by kernel_rfl) (fun J J => .int ..) G hj hk
theorem G_TXA (G:S.Good ns oc ks gs) (hj:Str.ofString "TXA" ∈ gs) (hk:K (.int 128) vs σ):EvE w H₀ S n (.Name (Str.ofString "TXA") p) vs σ K X:=.gl (v:=.int 128 298) (by kernel_rfl) (fun J J => .int ..) G hj hk
theorem G_MSH_CODE (G:S.Good ns oc ks gs) (hj:Str.ofString "MSH_CODE" ∈ gs) (hk:K (.int 177) vs σ):EvE w H₀ S n (.Name (Str.ofString "MSH_CODE") p) vs σ K X:=.gl (v:=.int 177 300) (by kernel_rfl) (fun J J => .int ..) G hj hk
theorem G_CELLS (G:S.Good ns oc ks gs) (hj:Str.ofString "CELLS" ∈ gs) (hk:K (.int 16) vs σ):EvE w H₀ S n (.Name (Str.ofString "CELLS") p) vs σ K X:=.gl (v:=.int 16 302) (by kernel_rfl) (fun J J => .int ..) G hj hk
theorem G_ALL_CELLS (G:S.Good ns oc ks gs) (hj:Str.ofString "ALL_CELLS" ∈ gs) (hk:K (.int 65535) vs σ):EvE w H₀ S n (.Name (Str.ofString "ALL_CELLS") p) vs σ K X:=.gl (v:=.int 65535 304) (by kernel_rfl) (fun J J => .int ..) G hj hk
theorem G_MOST_CLASSIC (G:S.Good ns oc ks gs) (hj:Str.ofString "MOST_CLASSIC" ∈ gs) (hk:K (.int 4096) vs σ):EvE w H₀ S n (.Name (Str.ofString "MOST_CLASSIC") p) vs σ K X:=.gl (v:=.int 4096 306) (by kernel_rfl) (fun J J => .int ..) G hj hk
theorem G_WIDTH (G:S.Good ns oc ks gs) (hj:Str.ofString "WIDTH" ∈ gs) (hk:K (.int 8) vs σ):EvE w H₀ S n (.Name (Str.ofString "WIDTH") p) vs σ K X:=.gl (v:=.int 8 308) (by kernel_rfl) (fun J J => .int ..) G hj hk
theorem G_ALU_NAMES (G:S.Good ns oc ks gs) (hj:Str.ofString "ALU_NAMES" ∈ gs) (hk:K (.str (Str.ofString "add sub mul div or and lsh rsh neg mod xor")) vs σ):EvE w H₀ S n (.Name (Str.ofString "ALU_NAMES") p) vs σ K X:=.gl (v:=.str (Str.ofString "add sub mul div or and lsh rsh neg mod xor") 310) (by kernel_rfl) (fun J J => .str ..) G hj hk
theorem G_JUMP_NAMES (G:S.Good ns oc ks gs) (hj:Str.ofString "JUMP_NAMES" ∈ gs) (hk:K (.str (Str.ofString "ja jeq jgt jge jset")) vs σ):EvE w H₀ S n (.Name (Str.ofString "JUMP_NAMES") p) vs σ K X:=.gl (v:=.str (Str.ofString "ja jeq jgt jge jset") 312) (by kernel_rfl) (fun J J => .str ..) G hj hk
theorem G_MODE_NAMES (G:S.Good ns oc ks gs) (hj:Str.ofString "MODE_NAMES" ∈ gs) (hk:K (.str (Str.ofString "imm abs ind mem len msh")) vs σ):EvE w H₀ S n (.Name (Str.ofString "MODE_NAMES") p) vs σ K X:=.gl (v:=.str (Str.ofString "imm abs ind mem len msh") 314) (by kernel_rfl) (fun J J => .str ..) G hj hk
theorem G_SIZE_NAMES (G:S.Good ns oc ks gs) (hj:Str.ofString "SIZE_NAMES" ∈ gs) (hk:K (.str (Str.ofString "w h b")) vs σ):EvE w H₀ S n (.Name (Str.ofString "SIZE_NAMES") p) vs σ K X:=.gl (v:=.str (Str.ofString "w h b") 316) (by kernel_rfl) (fun J J => .str ..) G hj hk
theorem G_CodeError (G:S.Good ns oc ks gs) (hj:Str.ofString "CodeError" ∈ gs) (hk:K (.con (.ref 52)) vs σ):EvE w H₀ S n (.Name (Str.ofString "CodeError") p) vs σ K X:=.gl (v:=.ref 52) (by kernel_rfl) (fun J J => .con _) G hj hk
theorem G_ProgramError (G:S.Good ns oc ks gs) (hj:Str.ofString "ProgramError" ∈ gs) (hk:K (.con (.ref 64)) vs σ):EvE w H₀ S n (.Name (Str.ofString "ProgramError") p) vs σ K X:=.gl (v:=.ref 64) (by kernel_rfl) (fun J J => .con _) G hj hk
theorem G_little (G:S.Good ns oc ks gs) (hj:Str.ofString "little" ∈ gs) (hk:K (.con (.ref 71)) vs σ):EvE w H₀ S n (.Name (Str.ofString "little") p) vs σ K X:=.gl (v:=.ref 71) (by kernel_rfl) (fun J J => .con _) G hj hk
theorem G_from_little (G:S.Good ns oc ks gs) (hj:Str.ofString "from_little" ∈ gs) (hk:K (.con (.ref 78)) vs σ):EvE w H₀ S n (.Name (Str.ofString "from_little") p) vs σ K X:=.gl (v:=.ref 78) (by kernel_rfl) (fun J J => .con _) G hj hk
theorem G_ClassicOrder (G:S.Good ns oc ks gs) (hj:Str.ofString "ClassicOrder" ∈ gs) (hk:K (.con (.ref 102)) vs σ):EvE w H₀ S n (.Name (Str.ofString "ClassicOrder") p) vs σ K X:=.gl (v:=.ref 102) (by kernel_rfl) (fun J J => .con _) G hj hk
theorem G_mode_name (G:S.Good ns oc ks gs) (hj:Str.ofString "mode_name" ∈ gs) (hk:K (.con (.ref 113)) vs σ):EvE w H₀ S n (.Name (Str.ofString "mode_name") p) vs σ K X:=.gl (v:=.ref 113) (by kernel_rfl) (fun J J => .con _) G hj hk
theorem G_alu_name (G:S.Good ns oc ks gs) (hj:Str.ofString "alu_name" ∈ gs) (hk:K (.con (.ref 120)) vs σ):EvE w H₀ S n (.Name (Str.ofString "alu_name") p) vs σ K X:=.gl (v:=.ref 120) (by kernel_rfl) (fun J J => .con _) G hj hk
theorem G_jump_name (G:S.Good ns oc ks gs) (hj:Str.ofString "jump_name" ∈ gs) (hk:K (.con (.ref 127)) vs σ):EvE w H₀ S n (.Name (Str.ofString "jump_name") p) vs σ K X:=.gl (v:=.ref 127) (by kernel_rfl) (fun J J => .con _) G hj hk
theorem G_is_by_x (G:S.Good ns oc ks gs) (hj:Str.ofString "is_by_x" ∈ gs) (hk:K (.con (.ref 134)) vs σ):EvE w H₀ S n (.Name (Str.ofString "is_by_x") p) vs σ K X:=.gl (v:=.ref 134) (by kernel_rfl) (fun J J => .con _) G hj hk
theorem G_is_return (G:S.Good ns oc ks gs) (hj:Str.ofString "is_return" ∈ gs) (hk:K (.con (.ref 141)) vs σ):EvE w H₀ S n (.Name (Str.ofString "is_return") p) vs σ K X:=.gl (v:=.ref 141) (by kernel_rfl) (fun J J => .con _) G hj hk
theorem G_is_jump_order (G:S.Good ns oc ks gs) (hj:Str.ofString "is_jump_order" ∈ gs) (hk:K (.con (.ref 148)) vs σ):EvE w H₀ S n (.Name (Str.ofString "is_jump_order") p) vs σ K X:=.gl (v:=.ref 148) (by kernel_rfl) (fun J J => .con _) G hj hk
theorem G_is_known_code (G:S.Good ns oc ks gs) (hj:Str.ofString "is_known_code" ∈ gs) (hk:K (.con (.ref 155)) vs σ):EvE w H₀ S n (.Name (Str.ofString "is_known_code") p) vs σ K X:=.gl (v:=.ref 155) (by kernel_rfl) (fun J J => .con _) G hj hk
theorem G_read_cell (G:S.Good ns oc ks gs) (hj:Str.ofString "read_cell" ∈ gs) (hk:K (.con (.ref 162)) vs σ):EvE w H₀ S n (.Name (Str.ofString "read_cell") p) vs σ K X:=.gl (v:=.ref 162) (by kernel_rfl) (fun J J => .con _) G hj hk
theorem G_written_cell (G:S.Good ns oc ks gs) (hj:Str.ofString "written_cell" ∈ gs) (hk:K (.con (.ref 169)) vs σ):EvE w H₀ S n (.Name (Str.ofString "written_cell") p) vs σ K X:=.gl (v:=.ref 169) (by kernel_rfl) (fun J J => .con _) G hj hk
theorem G_goals_of_classic (G:S.Good ns oc ks gs) (hj:Str.ofString "goals_of_classic" ∈ gs) (hk:K (.con (.ref 176)) vs σ):EvE w H₀ S n (.Name (Str.ofString "goals_of_classic") p) vs σ K X:=.gl (v:=.ref 176) (by kernel_rfl) (fun J J => .con _) G hj hk
theorem G_check_field (G:S.Good ns oc ks gs) (hj:Str.ofString "check_field" ∈ gs) (hk:K (.con (.ref 183)) vs σ):EvE w H₀ S n (.Name (Str.ofString "check_field") p) vs σ K X:=.gl (v:=.ref 183) (by kernel_rfl) (fun J J => .con _) G hj hk
theorem G_pack_classic (G:S.Good ns oc ks gs) (hj:Str.ofString "pack_classic" ∈ gs) (hk:K (.con (.ref 190)) vs σ):EvE w H₀ S n (.Name (Str.ofString "pack_classic") p) vs σ K X:=.gl (v:=.ref 190) (by kernel_rfl) (fun J J => .con _) G hj hk
theorem G_unpack_classic (G:S.Good ns oc ks gs) (hj:Str.ofString "unpack_classic" ∈ gs) (hk:K (.con (.ref 198)) vs σ):EvE w H₀ S n (.Name (Str.ofString "unpack_classic") p) vs σ K X:=.gl (v:=.ref 198) (by kernel_rfl) (fun J J => .con _) G hj hk
theorem G_pack_filter (G:S.Good ns oc ks gs) (hj:Str.ofString "pack_filter" ∈ gs) (hk:K (.con (.ref 203)) vs σ):EvE w H₀ S n (.Name (Str.ofString "pack_filter") p) vs σ K X:=.gl (v:=.ref 203) (by kernel_rfl) (fun J J => .con _) G hj hk
theorem G_unpack_filter (G:S.Good ns oc ks gs) (hj:Str.ofString "unpack_filter" ∈ gs) (hk:K (.con (.ref 210)) vs σ):EvE w H₀ S n (.Name (Str.ofString "unpack_filter") p) vs σ K X:=.gl (v:=.ref 210) (by kernel_rfl) (fun J J => .con _) G hj hk
theorem G_spot_in (G:S.Good ns oc ks gs) (hj:Str.ofString "spot_in" ∈ gs) (hk:K (.con (.ref 217)) vs σ):EvE w H₀ S n (.Name (Str.ofString "spot_in") p) vs σ K X:=.gl (v:=.ref 217) (by kernel_rfl) (fun J J => .con _) G hj hk
theorem G_ld (G:S.Good ns oc ks gs) (hj:Str.ofString "ld" ∈ gs) (hk:K (.con (.ref 224)) vs σ):EvE w H₀ S n (.Name (Str.ofString "ld") p) vs σ K X:=.gl (v:=.ref 224) (by kernel_rfl) (fun J J => .con _) G hj hk
theorem G_ldx (G:S.Good ns oc ks gs) (hj:Str.ofString "ldx" ∈ gs) (hk:K (.con (.ref 231)) vs σ):EvE w H₀ S n (.Name (Str.ofString "ldx") p) vs σ K X:=.gl (v:=.ref 231) (by kernel_rfl) (fun J J => .con _) G hj hk
theorem G_st (G:S.Good ns oc ks gs) (hj:Str.ofString "st" ∈ gs) (hk:K (.con (.ref 238)) vs σ):EvE w H₀ S n (.Name (Str.ofString "st") p) vs σ K X:=.gl (v:=.ref 238) (by kernel_rfl) (fun J J => .con _) G hj hk
theorem G_stx (G:S.Good ns oc ks gs) (hj:Str.ofString "stx" ∈ gs) (hk:K (.con (.ref 245)) vs σ):EvE w H₀ S n (.Name (Str.ofString "stx") p) vs σ K X:=.gl (v:=.ref 245) (by kernel_rfl) (fun J J => .con _) G hj hk
theorem G_alu_k (G:S.Good ns oc ks gs) (hj:Str.ofString "alu_k" ∈ gs) (hk:K (.con (.ref 252)) vs σ):EvE w H₀ S n (.Name (Str.ofString "alu_k") p) vs σ K X:=.gl (v:=.ref 252) (by kernel_rfl) (fun J J => .con _) G hj hk
theorem G_alu_x (G:S.Good ns oc ks gs) (hj:Str.ofString "alu_x" ∈ gs) (hk:K (.con (.ref 259)) vs σ):EvE w H₀ S n (.Name (Str.ofString "alu_x") p) vs σ K X:=.gl (v:=.ref 259) (by kernel_rfl) (fun J J => .con _) G hj hk
theorem G_jump_code (G:S.Good ns oc ks gs) (hj:Str.ofString "jump_code" ∈ gs) (hk:K (.con (.ref 266)) vs σ):EvE w H₀ S n (.Name (Str.ofString "jump_code") p) vs σ K X:=.gl (v:=.ref 266) (by kernel_rfl) (fun J J => .con _) G hj hk
theorem G_jump_k (G:S.Good ns oc ks gs) (hj:Str.ofString "jump_k" ∈ gs) (hk:K (.con (.ref 273)) vs σ):EvE w H₀ S n (.Name (Str.ofString "jump_k") p) vs σ K X:=.gl (v:=.ref 273) (by kernel_rfl) (fun J J => .con _) G hj hk
theorem G_jump_x (G:S.Good ns oc ks gs) (hj:Str.ofString "jump_x" ∈ gs) (hk:K (.con (.ref 280)) vs σ):EvE w H₀ S n (.Name (Str.ofString "jump_x") p) vs σ K X:=.gl (v:=.ref 280) (by kernel_rfl) (fun J J => .con _) G hj hk
theorem G_ja (G:S.Good ns oc ks gs) (hj:Str.ofString "ja" ∈ gs) (hk:K (.con (.ref 287)) vs σ):EvE w H₀ S n (.Name (Str.ofString "ja") p) vs σ K X:=.gl (v:=.ref 287) (by kernel_rfl) (fun J J => .con _) G hj hk
theorem G_ret_k (G:S.Good ns oc ks gs) (hj:Str.ofString "ret_k" ∈ gs) (hk:K (.con (.ref 294)) vs σ):EvE w H₀ S n (.Name (Str.ofString "ret_k") p) vs σ K X:=.gl (v:=.ref 294) (by kernel_rfl) (fun J J => .con _) G hj hk
theorem G_ret_a (G:S.Good ns oc ks gs) (hj:Str.ofString "ret_a" ∈ gs) (hk:K (.con (.ref 301)) vs σ):EvE w H₀ S n (.Name (Str.ofString "ret_a") p) vs σ K X:=.gl (v:=.ref 301) (by kernel_rfl) (fun J J => .con _) G hj hk
theorem G_tax (G:S.Good ns oc ks gs) (hj:Str.ofString "tax" ∈ gs) (hk:K (.con (.ref 308)) vs σ):EvE w H₀ S n (.Name (Str.ofString "tax") p) vs σ K X:=.gl (v:=.ref 308) (by kernel_rfl) (fun J J => .con _) G hj hk
theorem G_txa (G:S.Good ns oc ks gs) (hj:Str.ofString "txa" ∈ gs) (hk:K (.con (.ref 315)) vs σ):EvE w H₀ S n (.Name (Str.ofString "txa") p) vs σ K X:=.gl (v:=.ref 315) (by kernel_rfl) (fun J J => .con _) G hj hk
theorem G_check_known (G:S.Good ns oc ks gs) (hj:Str.ofString "check_known" ∈ gs) (hk:K (.con (.ref 322)) vs σ):EvE w H₀ S n (.Name (Str.ofString "check_known") p) vs σ K X:=.gl (v:=.ref 322) (by kernel_rfl) (fun J J => .con _) G hj hk
theorem G_check_number (G:S.Good ns oc ks gs) (hj:Str.ofString "check_number" ∈ gs) (hk:K (.con (.ref 329)) vs σ):EvE w H₀ S n (.Name (Str.ofString "check_number") p) vs σ K X:=.gl (v:=.ref 329) (by kernel_rfl) (fun J J => .con _) G hj hk
theorem G_written_cells (G:S.Good ns oc ks gs) (hj:Str.ofString "written_cells" ∈ gs) (hk:K (.con (.ref 336)) vs σ):EvE w H₀ S n (.Name (Str.ofString "written_cells") p) vs σ K X:=.gl (v:=.ref 336) (by kernel_rfl) (fun J J => .con _) G hj hk
theorem G_reached_orders (G:S.Good ns oc ks gs) (hj:Str.ofString "reached_orders" ∈ gs) (hk:K (.con (.ref 341)) vs σ):EvE w H₀ S n (.Name (Str.ofString "reached_orders") p) vs σ K X:=.gl (v:=.ref 341) (by kernel_rfl) (fun J J => .con _) G hj hk
theorem G_check_classic (G:S.Good ns oc ks gs) (hj:Str.ofString "check_classic" ∈ gs) (hk:K (.con (.ref 348)) vs σ):EvE w H₀ S n (.Name (Str.ofString "check_classic") p) vs σ K X:=.gl (v:=.ref 348) (by kernel_rfl) (fun J J => .con _) G hj hk
theorem G__law_known (G:S.Good ns oc ks gs) (hj:Str.ofString "_law_known" ∈ gs) (hk:K (.con (.ref 353)) vs σ):EvE w H₀ S n (.Name (Str.ofString "_law_known") p) vs σ K X:=.gl (v:=.ref 353) (by kernel_rfl) (fun J J => .con _) G hj hk
theorem G__law_row (G:S.Good ns oc ks gs) (hj:Str.ofString "_law_row" ∈ gs) (hk:K (.con (.ref 358)) vs σ):EvE w H₀ S n (.Name (Str.ofString "_law_row") p) vs σ K X:=.gl (v:=.ref 358) (by kernel_rfl) (fun J J => .con _) G hj hk
theorem G__law_goals (G:S.Good ns oc ks gs) (hj:Str.ofString "_law_goals" ∈ gs) (hk:K (.con (.ref 365)) vs σ):EvE w H₀ S n (.Name (Str.ofString "_law_goals") p) vs σ K X:=.gl (v:=.ref 365) (by kernel_rfl) (fun J J => .con _) G hj hk
theorem G__law_ways (G:S.Good ns oc ks gs) (hj:Str.ofString "_law_ways" ∈ gs) (hk:K (.con (.ref 372)) vs σ):EvE w H₀ S n (.Name (Str.ofString "_law_ways") p) vs σ K X:=.gl (v:=.ref 372) (by kernel_rfl) (fun J J => .con _) G hj hk
theorem G__law_row_fault (G:S.Good ns oc ks gs) (hj:Str.ofString "_law_row_fault" ∈ gs) (hk:K (.con (.ref 379)) vs σ):EvE w H₀ S n (.Name (Str.ofString "_law_row_fault") p) vs σ K X:=.gl (v:=.ref 379) (by kernel_rfl) (fun J J => .con _) G hj hk
theorem G__law_fault (G:S.Good ns oc ks gs) (hj:Str.ofString "_law_fault" ∈ gs) (hk:K (.con (.ref 384)) vs σ):EvE w H₀ S n (.Name (Str.ofString "_law_fault") p) vs σ K X:=.gl (v:=.ref 384) (by kernel_rfl) (fun J J => .con _) G hj hk
theorem G__law_told_right (G:S.Good ns oc ks gs) (hj:Str.ofString "_law_told_right" ∈ gs) (hk:K (.con (.ref 389)) vs σ):EvE w H₀ S n (.Name (Str.ofString "_law_told_right") p) vs σ K X:=.gl (v:=.ref 389) (by kernel_rfl) (fun J J => .con _) G hj hk
theorem G__law_octets (G:S.Good ns oc ks gs) (hj:Str.ofString "_law_octets" ∈ gs) (hk:K (.con (.ref 394)) vs σ):EvE w H₀ S n (.Name (Str.ofString "_law_octets") p) vs σ K X:=.gl (v:=.ref 394) (by kernel_rfl) (fun J J => .con _) G hj hk
theorem G__law_heard (G:S.Good ns oc ks gs) (hj:Str.ofString "_law_heard" ∈ gs) (hk:K (.con (.ref 401)) vs σ):EvE w H₀ S n (.Name (Str.ofString "_law_heard") p) vs σ K X:=.gl (v:=.ref 401) (by kernel_rfl) (fun J J => .con _) G hj hk
theorem G__law_octets_right (G:S.Good ns oc ks gs) (hj:Str.ofString "_law_octets_right" ∈ gs) (hk:K (.con (.ref 406)) vs σ):EvE w H₀ S n (.Name (Str.ofString "_law_octets_right") p) vs σ K X:=.gl (v:=.ref 406) (by kernel_rfl) (fun J J => .con _) G hj hk
theorem G__law_makers_right (G:S.Good ns oc ks gs) (hj:Str.ofString "_law_makers_right" ∈ gs) (hk:K (.con (.ref 411)) vs σ):EvE w H₀ S n (.Name (Str.ofString "_law_makers_right") p) vs σ K X:=.gl (v:=.ref 411) (by kernel_rfl) (fun J J => .con _) G hj hk
theorem B_len (G:S.Good ns oc ks gs) (hj:Str.ofString "len" ∈ gs) (hk:K (.con (.builtin "len")) vs σ):EvE w H₀ S n (.Name (Str.ofString "len") p) vs σ K X:=.bl (v:=.builtin "len") (by kernel_rfl) PyProof.Rows.Boot.«len» (fun J J => .con _) G hj hk
theorem B_range (G:S.Good ns oc ks gs) (hj:Str.ofString "range" ∈ gs) (hk:K (.con (.type "range")) vs σ):EvE w H₀ S n (.Name (Str.ofString "range") p) vs σ K X:=.bl (v:=.type "range") (by kernel_rfl) PyProof.Rows.Boot.«range» (fun J J => .con _) G hj hk
theorem B_max (G:S.Good ns oc ks gs) (hj:Str.ofString "max" ∈ gs) (hk:K (.con (.builtin "max")) vs σ):EvE w H₀ S n (.Name (Str.ofString "max") p) vs σ K X:=.bl (v:=.builtin "max") (by kernel_rfl) PyProof.Rows.Boot.«max» (fun J J => .con _) G hj hk
theorem B_sum (G:S.Good ns oc ks gs) (hj:Str.ofString "sum" ∈ gs) (hk:K (.con (.builtin "sum")) vs σ):EvE w H₀ S n (.Name (Str.ofString "sum") p) vs σ K X:=.bl (v:=.builtin "sum") (by kernel_rfl) PyProof.Rows.Boot.«sum» (fun J J => .con _) G hj hk
theorem B_all (G:S.Good ns oc ks gs) (hj:Str.ofString "all" ∈ gs) (hk:K (.con (.builtin "all")) vs σ):EvE w H₀ S n (.Name (Str.ofString "all") p) vs σ K X:=.bl (v:=.builtin "all") (by kernel_rfl) PyProof.Rows.Boot.«all» (fun J J => .con _) G hj hk
theorem B_bytes (G:S.Good ns oc ks gs) (hj:Str.ofString "bytes" ∈ gs) (hk:K (.con (.type "bytes")) vs σ):EvE w H₀ S n (.Name (Str.ofString "bytes") p) vs σ K X:=.bl (v:=.type "bytes") (by kernel_rfl) PyProof.Rows.Boot.«bytes» (fun J J => .con _) G hj hk
theorem B_enumerate (G:S.Good ns oc ks gs) (hj:Str.ofString "enumerate" ∈ gs) (hk:K (.con (.type "enumerate")) vs σ):EvE w H₀ S n (.Name (Str.ofString "enumerate") p) vs σ K X:=.bl (v:=.type "enumerate") (by kernel_rfl) PyProof.Rows.Boot.«enumerate» (fun J J => .con _) G hj hk
theorem B_zip (G:S.Good ns oc ks gs) (hj:Str.ofString "zip" ∈ gs) (hk:K (.con (.type "zip")) vs σ):EvE w H₀ S n (.Name (Str.ofString "zip") p) vs σ K X:=.bl (v:=.type "zip") (by kernel_rfl) PyProof.Rows.Boot.«zip» (fun J J => .con _) G hj hk
theorem B_Exception (G:S.Good ns oc ks gs) (hj:Str.ofString "Exception" ∈ gs) (hk:K (.con (.type "Exception")) vs σ):EvE w H₀ S n (.Name (Str.ofString "Exception") p) vs σ K X:=.bl (v:=.type "Exception") (by kernel_rfl) PyProof.Rows.Boot.«Exception» (fun J J => .con _) G hj hk
end
noncomputable def kk (Kn:Slots → Store → Prop) (Kr:PV → Slots → Store → Prop):PF → Slots → Store → Prop
  | .next => Kn
  | .ret p => Kr p
noncomputable abbrev St (w:World) (H₀:Heap) (S:Fx) (n:Nat) (st:Stmt) (vs:Slots) (σ:Store) (Kn:Slots → Store → Prop) (Kr:PV → Slots → Store → Prop) (X:PExc → Slots → Store → Prop):Prop:=Tr RelF w H₀ S n (exec st) vs σ (kk Kn Kr) X
noncomputable abbrev Bk (w:World) (H₀:Heap) (S:Fx) (n:Nat) (st:List Stmt) (vs:Slots) (σ:Store) (Kn:Slots → Store → Prop) (Kr:PV → Slots → Store → Prop) (X:PExc → Slots → Store → Prop):Prop:=Tr RelF w H₀ S n (execs st) vs σ (kk Kn Kr) X
section
variable {w:World} {H₀:Heap} {S:Fx} {n:Nat} {σ:Store} {vs vs':Slots} {Kn:Slots → Store → Prop} {Kr:PV → Slots → Store → Prop} {X:PExc → Slots → Store → Prop} {ns oc:List Str} {ks:List NameKind} {gs:List Str}
theorem Bk.nil (k:Kn vs σ):Bk w H₀ S n [] vs σ Kn Kr X:=ExB.nil (K:=kk Kn Kr) k
theorem Bk.cons {st:Stmt} {rest:List Stmt} (hh:St w H₀ S n st vs σ (fun vs₁ σ₁ => Bk w H₀ S n rest vs₁ σ₁ Kn Kr X) Kr X):Bk w H₀ S n (st :: rest) vs σ Kn Kr X :=
  ExB.cons (K:=kk Kn Kr) (hh.mono (fun p vs' σ' k => by cases p <;> exact k) fun J J J x => x)
theorem St.ret {e:Expr} {p:Pos} (hh:EvE w H₀ S n e vs σ Kr X):St w H₀ S n (.Return (some e) p) vs σ Kn Kr X:=ExS.ret (K:=kk Kn Kr) hh
theorem St.ite {t:Expr} {a b:List Stmt} {p:Pos} (hh:EvT w H₀ S n t vs σ (fun c vs₁ σ₁ => if c = true then Bk w H₀ S n a vs₁ σ₁ Kn Kr X else Bk w H₀ S n b vs₁ σ₁ Kn Kr X) X):St w H₀ S n (.If t a b p) vs σ Kn Kr X:=ExS.ite (K:=kk Kn Kr) hh
theorem St.asn {x:Str} {e:Expr} {px p:Pos} (G:S.Good ns oc ks gs) (hh:EvE w H₀ S n e vs σ (fun q vs₁ σ₁ => ∃ vs', Sto ns ks oc x vs₁ q vs' ∧ Kn vs' σ₁) X)
    (hsw:∀ env, swapsWith e (some (.Name x px)) p.line env = pure false):St w H₀ S n (.Assign [.Name x px] e p) vs σ Kn Kr X:=ExS.asn (K:=kk Kn Kr) G hh hsw
theorem St.sw2 {k:Nat} {tpos p pa pb vp:Pos} {kv:Nat} {e₁ e₂:Expr} {a b:Str} {i j:Nat} (G:S.Good ns oc ks gs) (hi:KAt ns ks a .local i) (hj:KAt ns ks b .local j)
    (hc:(!Nat.beq i j && pb.line == pa.line && !starred e₁ && !starred e₂ && ![e₁, e₂].all (foldedForSure 8) && ![e₁, e₂].all (constantsAlone 8)) = true)
    (hh:EvE w H₀ S n (.Tuple [e₁, e₂] kv vp) vs σ (fun q vs₁ σ₁ => ∃ x y, q = .tup [x, y] ∧ AsB w H₀ S n [b, a] [y, x] vs₁ σ₁ Kn X) X)  (hN:4 ≤ n:=by first | exact Nat.le_add_left 4 _ | assumption) :
    St w H₀ S n (.Assign [.Tuple [.Name a pa, .Name b pb] k tpos] (.Tuple [e₁, e₂] kv vp) p) vs σ Kn Kr X:=ExS.sw2 (K:=kk Kn Kr) G hi hj hc hh
theorem St.sw3 {k:Nat} {tpos p pa pb pc vp:Pos} {kv:Nat} {e₁ e₂ e₃:Expr} {a b c:Str} {i j l:Nat} (G:S.Good ns oc ks gs) (hi:KAt ns ks a .local i) (hj:KAt ns ks b .local j) (hl:KAt ns ks c .local l)
    (hc:(!Nat.beq i j && !Nat.beq i l && !Nat.beq j l && pb.line == pa.line && pc.line == pa.line && !starred e₁ && !starred e₂ && !starred e₃ && ![e₁, e₂, e₃].all (foldedForSure 8) && ![e₁, e₂, e₃].all (constantsAlone 8)) = true)
    (hh:EvE w H₀ S n (.Tuple [e₁, e₂, e₃] kv vp) vs σ (fun q vs₁ σ₁ => ∃ x y z, q = .tup [x, y, z] ∧ AsB w H₀ S n [c, b, a] [z, y, x] vs₁ σ₁ Kn X) X)  (hN:4 ≤ n:=by first | exact Nat.le_add_left 4 _ | assumption) :
    St w H₀ S n (.Assign [.Tuple [.Name a pa, .Name b pb, .Name c pc] k tpos] (.Tuple [e₁, e₂, e₃] kv vp) p) vs σ Kn Kr X:=ExS.sw3 (K:=kk Kn Kr) G hi hj hl hc hh
theorem St.tup {elts:List Expr} {k:Nat} {tpos p:Pos} {e:Expr} (hh:EvE w H₀ S n e vs σ (fun q vs₁ σ₁ => AsT w H₀ S n (.Tuple elts k tpos) q vs₁ σ₁ Kn X) X)
    (hs:∀ env, swapsWithSole [.Tuple elts k tpos] e p.line env = pure false)
    (hw:∀ env, swappedStores [.Tuple elts k tpos] e env = pure none):St w H₀ S n (.Assign [.Tuple elts k tpos] e p) vs σ Kn Kr X:=ExS.assignT (K:=kk Kn Kr) hh hs hw
theorem St.drop {e:Expr} {p:Pos} (G:S.Good ns oc ks gs) (hsw:∀ env, swapsWith e none p.line env = pure false)
    (hh:EvE w H₀ S n e vs σ (fun q vs₁ σ₁ => q = .none ∧ Kn vs₁ σ₁) X):St w H₀ S n (.Expr e p) vs σ Kn Kr X:=ExS.dropE (K:=kk Kn Kr) G hsw hh
end
section
variable {w:World} {H₀:Heap} {n:Nat} {σ:Store}
theorem PrimC.def {f:Addr} {oc:Value} {od:Option Addr} {osl:_} {name qual:Str} {pars:Arguments} {body:List Stmt} {sc:Scope} {dV kV doc pm an cdv ct:_} {params ns oc' gs:List Str} {ks:List NameKind}
    {args:List PV} {vs:Slots} {K:PV → Store → Prop} {X:PExc → Store → Prop}
    (hl:(hd.heap_1 w.params).lookup f = some ⟨oc, od, .func (fnOf name qual pars body sc dV kV doc pm an cdv ct), osl⟩) (hc:codeIn (hd.heap_1 w.params) cdv qual = true)
    (hb:∀ vals:List Value, vals.length = params.length → bindArgs (fnOf name qual pars body sc dV kV doc pm an cdv ct) ⟨vals, []⟩ = pure (params.zip vals))
    (hn:sc.names = tagged ns ks gs) (hk:sc.kind = .function) (hL:ns.length = ks.length) (hz:hnd ((ns ++ gs ++ special).map hs) = true) (hok:Def.ok ⟨params, body, (.mk3 sc ns oc')⟩ = true) (hlen:args.length = params.length)
    (hs:slots0 ⟨params, body, (.mk3 sc ns oc')⟩ args = vs)
    (hB:∀ S:Fx, S.Good ns oc' ks gs → Bk w H₀ S n body vs σ (fun J σ' => K .none σ') (fun p J σ' => K p σ') (fun pe J σ' => X pe σ')):PrimC w H₀ (n + 1) args σ (.ref f) K X :=
  .fnG hl hc hb hn hk hL hz hok hlen hs fun S G => (hB S G).mono (fun p J J k => by cases p <;> exact k) fun J J J x => x
end
theorem mem1 {x:Str} {l:List Str}:x ∈ x :: l:=List.mem_cons_self
theorem mem2 {x y:Str} {l:List Str} (h:x ∈ l):x ∈ y :: l:=List.mem_cons_of_mem _ h
end Mine
end
section
open PySem PySem.W PySem.Spec PySem.Calls PyProof.Rows
set_option maxRecDepth 10000
set_option maxHeartbeats 4000000
namespace Mine
theorem typeCall_zip_3 (a b c:Value):checkTypeCall "zip" ⟨[a, b, c], []⟩ = pure ():=by kernel_rfl
theorem newCall_zip_3 (a b c:Value):checkBuiltinCall "zip.__new__" ⟨[.type "zip", a, b, c], []⟩ = pure ():=by kernel_rfl
theorem args_object_init_4 (a b c d:Value):argsOk "object.__init__" ⟨[a, b, c, d], []⟩:=by
  unfold argsOk; rw [signature?_of (id:="object.__init__") (n:=['_', '_', 't', 'i', 'n', 'i', '_', '_']) (o:=['t', 'c', 'e', 'j', 'b', 'o']) (by kernel_rfl) F.owner_object]; kernel_rfl
noncomputable abbrev IsTrip (h:Heap) (T:Addr) (a b c:Value):Prop:=h.get? T = some { cls:=.type "tuple", data:=.seq #[a, b, c] }
structure Z3 (h:Heap) (z TI TO i1 i2 i3 l1 l2 l3:Addr) (k:Nat) (xs ys zs:Array Value) (f a b c:Value):Prop where
  hz:IsZip h z TI TO f
  hTI:IsTrip h TI (.ref i1) (.ref i2) (.ref i3)
  hTO:IsTrip h TO a b c
  h1:h.IsListIter i1 l1 k
  h2:h.IsListIter i2 l2 k
  h3:h.IsListIter i3 l3 k
  m1:h.IsList l1 xs
  m2:h.IsList l2 ys
  m3:h.IsList l3 zs
structure D3 (z TI TO i1 i2 i3 l1 l2 l3:Addr):Prop where
  nd:[z, TO, i1, i2, i3].Nodup
  nT:TI ∉ [z, TO, i1, i2, i3]
  n1:l1 ∉ [z, TO, i1, i2, i3]
  n2:l2 ∉ [z, TO, i1, i2, i3]
  n3:l3 ∉ [z, TO, i1, i2, i3]
section
variable {prog:Program} {w:World} {A:Around} {E:Value → Shared → Prop} {s:Shared}
theorem updTrip {T:Addr} {a b c x:Value} {k:Nat} {Q:Unit → Shared → Prop} (hT:IsTrip s.heap T a b c)
    (h:∀ h', h'.get? T = some { cls:=.type "tuple", data:=.seq ((#[a, b, c]:Array Value).setIfInBounds k x) } → Heap.SameBut T s.heap h' → Q () { s with heap:=h' }) :
    wpAny (model prog w) A (updateSeq T (·.setIfInBounds k x)) Q E s:=by
  refine wpAny_updateSeq hT rfl (h _ ?_ (Heap.SameBut.update ..))
  rw [Heap.get?_update_self _ hT rfl]
  simp [Obj.mapSeq]
variable {z TI TO i1 i2 i3 l1 l2 l3:Addr} {k:Nat} {xs ys zs:Array Value} {a b c:Value}
theorem z3_item {Q:Value → Shared → Prop} {x y v:Value} (D:D3 z TI TO i1 i2 i3 l1 l2 l3) (Z:Z3 s.heap z TI TO i1 i2 i3 l1 l2 l3 k xs ys zs .none a b c) (hx:xs[k]? = some x) (hy:ys[k]? = some y) (hv:zs[k]? = some v)
    (hQ:∀ h', Z3 h' z TI TO i1 i2 i3 l1 l2 l3 (k + 1) xs ys zs (rawInt s.heap.objs.size) x y v → IsTrip h' s.heap.objs.size x y v → (∀ d o, d ∉ [z, TO, i1, i2, i3] → s.heap.get? d = some o → h'.get? d = some o) → Q (.ref s.heap.objs.size) { s with heap:=h' }) :
    wpAny (model prog w) A (Builtin.«zip.__next__» ⟨[.ref z], []⟩) (fun fin s' => ∃ v, fin = .done (.ret v) ∧ Q v s') E s:=by
  obtain ⟨nd, nT, n1, n2, n3⟩:=D
  simp only [List.nodup_cons, List.mem_cons, List.not_mem_nil, or_false, not_or, List.nodup_nil, and_true, not_false_eq_true] at nd nT n1 n2 n3
  obtain ⟨⟨zTO, zi1, zi2, zi3⟩, ⟨TOi1, TOi2, TOi3⟩, ⟨i12, i13⟩, i23⟩:=nd
  obtain ⟨hz, hTI, hTO, h1, h2, h3, m1, m2, m3⟩:=Z
  refine (?_:wpAny _ _ (field (.ref z) 2 >>= _) _ _ _)
  refine wpAny_bind (wpAny_field hz rfl (x:=.bool false) rfl ?_)
  refine (?_:wpAny _ _ (field (.ref z) 3 >>= _) _ _ _)
  refine wpAny_bind (wpAny_field hz rfl (x:=.ref TI) rfl ?_)
  refine wpAny_bind (wpAny_seqItems hTI rfl ?_)
  refine (?_:wpAny _ _ (Builtin.SmallTypes.ownedTupleIsFree (.ref z) >>= _) _ _ _)
  refine wpAny_bind ?_
  unfold Builtin.SmallTypes.ownedTupleIsFree
  refine wpAny_bind (wpAny_field hz rfl (x:=.none) rfl (wpAny_pure ?_))
  rw [if_pos rfl]
  refine wpAny_bind (wpAny_rule ?_)
  refine wpAny_bind (wpAny_field hz rfl (x:=.ref TO) rfl ?_)
  refine wpAny_bind (wpAny_setField_rec hz (by simp) fun hA hzA sA => ?_)
  have A1:∀ d o, d ≠ z → s.heap.get? d = some o → hA.get? d = some o:=fun d o q e => sA.extBut d o q e
  refine wpAny_bind ?_
  refine wpAny_bind (wpAny_bind (wpAny_onRaise ?_))
  refine (?_:wpAny _ _ (Builtin.SmallTypes.nextOf (.ref i1) >>= _) _ _ _)
  refine wpAny_bind (wpAny_nextOf_list_item (s:={ s with heap:=hA }) (h1.at fun o e => A1 _ o (Ne.symm zi1) e) (m1.at fun o e => A1 _ o n1.1 e) hx fun hB B1 sB => wpAny_pure ?_)
  have TB:IsTrip hB TO a b c:=sB.extBut _ _ TOi1 (A1 _ _ (Ne.symm zTO) hTO)
  refine wpAny_bind (wpAny_seqItems TB rfl ?_)
  refine wpAny_bind (updTrip (s:={ s with heap:=hB }) TB fun hC TC sC => ?_)
  replace TC:IsTrip hC TO x b c:=TC
  refine wpAny_bind (wpAny_letGo (wpAny_pure ?_))
  have C1:∀ d o, d ≠ z → d ≠ TO → d ≠ i1 → s.heap.get? d = some o → hC.get? d = some o:=fun d o q1 q2 q3 e => sC.extBut _ _ q2 (sB.extBut _ _ q3 (A1 _ _ q1 e))
  have zC:IsZip hC z TI TO .ellipsis:=sC.extBut _ _ zTO (sB.extBut _ _ zi1 hzA)
  have I1C:hC.IsListIter i1 l1 (k + 1):=B1.extBut sC.extBut (Ne.symm TOi1)
  refine wpAny_bind (wpAny_bind (wpAny_onRaise ?_))
  refine (?_:wpAny _ _ (Builtin.SmallTypes.nextOf (.ref i2) >>= _) _ _ _)
  refine wpAny_bind (wpAny_nextOf_list_item (s:={ s with heap:=hC }) (h2.at fun o e => C1 _ o (Ne.symm zi2) (Ne.symm TOi2) (Ne.symm i12) e) (m2.at fun o e => C1 _ o n2.1 n2.2.1 n2.2.2.1 e) hy fun hD D1 sD => wpAny_pure ?_)
  have TD:IsTrip hD TO x b c:=sD.extBut _ _ TOi2 TC
  refine wpAny_bind (wpAny_seqItems TD rfl ?_)
  refine wpAny_bind (updTrip (s:={ s with heap:=hD }) TD fun hE TE sE => ?_)
  replace TE:IsTrip hE TO x y c:=TE
  refine wpAny_bind (wpAny_letGo (wpAny_pure ?_))
  have E1:∀ d o, d ≠ z → d ≠ TO → d ≠ i1 → d ≠ i2 → s.heap.get? d = some o → hE.get? d = some o:=fun d o q1 q2 q3 q4 e => sE.extBut _ _ q2 (sD.extBut _ _ q4 (C1 _ _ q1 q2 q3 e))
  have zE:IsZip hE z TI TO .ellipsis:=sE.extBut _ _ zTO (sD.extBut _ _ zi2 zC)
  have I1E:hE.IsListIter i1 l1 (k + 1):=(I1C.extBut sD.extBut i12).extBut sE.extBut (Ne.symm TOi1)
  have I2E:hE.IsListIter i2 l2 (k + 1):=D1.extBut sE.extBut (Ne.symm TOi2)
  refine wpAny_bind (wpAny_bind (wpAny_onRaise ?_))
  refine (?_:wpAny _ _ (Builtin.SmallTypes.nextOf (.ref i3) >>= _) _ _ _)
  refine wpAny_bind (wpAny_nextOf_list_item (s:={ s with heap:=hE }) (h3.at fun o e => E1 _ o (Ne.symm zi3) (Ne.symm TOi3) (Ne.symm i13) (Ne.symm i23) e) (m3.at fun o e => E1 _ o n3.1 n3.2.1 n3.2.2.1 n3.2.2.2.1 e) hv fun hF F1 sF => wpAny_pure ?_)
  have TF:IsTrip hF TO x y c:=sF.extBut _ _ TOi3 TE
  refine wpAny_bind (wpAny_seqItems TF rfl ?_)
  refine wpAny_bind (updTrip (s:={ s with heap:=hF }) TF fun hG TG sG => ?_)
  replace TG:IsTrip hG TO x y v:=TG
  refine wpAny_bind (wpAny_letGo (wpAny_pure (wpAny_pure ?_)))
  have G1:∀ d o, d ∉ [z, TO, i1, i2, i3] → s.heap.get? d = some o → hG.get? d = some o:=fun d o q e => by
    simp only [List.mem_cons, List.not_mem_nil, or_false, not_or] at q
    exact sG.extBut _ _ q.2.1 (sF.extBut _ _ q.2.2.2.2 (E1 _ _ q.1 q.2.1 q.2.2.1 q.2.2.2.1 e))
  have zG:IsZip hG z TI TO .ellipsis:=sG.extBut _ _ zTO (sF.extBut _ _ zi3 zE)
  have I1G:hG.IsListIter i1 l1 (k + 1):=(I1E.extBut sF.extBut i13).extBut sG.extBut (Ne.symm TOi1)
  have I2G:hG.IsListIter i2 l2 (k + 1):=(I2E.extBut sF.extBut i23).extBut sG.extBut (Ne.symm TOi2)
  have I3G:hG.IsListIter i3 l3 (k + 1):=F1.extBut sG.extBut (Ne.symm TOi3)
  have size:hG.objs.size = s.heap.objs.size:=by rw [sG.1, sF.1, sE.1, sD.1, sC.1, sB.1, sA.1]
  refine wpAny_bind (wpAny_seqItems TG rfl ?_)
  refine wpAny_bind (wpAny_newTuple ?_)
  refine (?_:wpAny _ _ (Builtin.SmallTypes.ownedTupleHandOut (.ref z) (.ref hG.objs.size) >>= _) _ _ _)
  refine wpAny_bind ?_
  unfold Builtin.SmallTypes.ownedTupleHandOut
  have zP:IsZip (hG.push { cls:=.type "tuple", data:=.seq #[x, y, v] }) z TI TO .ellipsis:=Heap.get?_push_of_some _ zG
  refine wpAny_bind (wpAny_setField_rec (s:={ s with heap:=hG.push { cls:=.type "tuple", data:=.seq #[x, y, v] } }) zP (by simp) fun hH zH sH => ?_)
  replace zH:IsZip hH z TI TO (rawInt hG.objs.size):=zH
  refine wpAny_setField_rec (s:={ s with heap:=hH }) zH (by simp) fun hK zK sK => ?_
  replace zK:IsZip hK z TI TO (rawInt hG.objs.size):=zK
  have up:∀ d o, d ≠ z → hG.get? d = some o → hK.get? d = some o:=fun d o q e => sK.extBut _ _ q (sH.extBut _ _ q (Heap.get?_push_of_some _ e))
  have zlt:hG.objs.size ≠ z:=Nat.ne_of_gt (Heap.lt_size zG)
  have TK:IsTrip hK hG.objs.size x y v:=sK.extBut _ _ zlt (sH.extBut _ _ zlt (Heap.get?_push_size _ rfl))
  refine wpAny_pure ⟨_, rfl, ?_⟩
  refine (?_:Q (.ref hG.objs.size) _)
  rw [size] at zK TK ⊢
  refine hQ hK ⟨zK, up _ _ nT.1 (G1 _ _ (by simpa using nT) hTI), up _ _ (Ne.symm zTO) TG, I1G.at fun o e => up _ o (Ne.symm zi1) e, I2G.at fun o e => up _ o (Ne.symm zi2) e, I3G.at fun o e => up _ o (Ne.symm zi3) e,
    m1.at fun o e => up _ o n1.1 (G1 _ o (by simpa using n1) e), m2.at fun o e => up _ o n2.1 (G1 _ o (by simpa using n2) e), m3.at fun o e => up _ o n3.1 (G1 _ o (by simpa using n3) e)⟩ TK fun d o q e => up _ _ (fun z => q (by simp [z])) (G1 _ _ q e)
theorem z3_end {Q:Fin → Shared → Prop} (hh:A.handled = none) (D:D3 z TI TO i1 i2 i3 l1 l2 l3) (Z:Z3 s.heap z TI TO i1 i2 i3 l1 l2 l3 k xs ys zs .none a b c) (hx:xs[k]? = none)
    (hE:∀ h' e, (∀ d o, d ∉ [z, TO, i1, i2, i3] → s.heap.get? d = some o → h'.get? d = some o) → (∃ o, h'.get? e = some o ∧ o.cls = .type "StopIteration") → E (.ref e) { s with heap:=h' }) :
    wpAny (model prog w) A (Builtin.«zip.__next__» ⟨[.ref z], []⟩) Q E s:=by
  obtain ⟨nd, nT, n1, n2, n3⟩:=D
  simp only [List.nodup_cons, List.mem_cons, List.not_mem_nil, or_false, not_or, List.nodup_nil, and_true, not_false_eq_true] at nd nT n1 n2 n3
  obtain ⟨⟨zTO, zi1, zi2, zi3⟩, ⟨TOi1, TOi2, TOi3⟩, ⟨i12, i13⟩, i23⟩:=nd
  obtain ⟨hz, hTI, hTO, h1, h2, h3, m1, m2, m3⟩:=Z
  refine (?_:wpAny _ _ (field (.ref z) 2 >>= _) _ _ _)
  refine wpAny_bind (wpAny_field hz rfl (x:=.bool false) rfl ?_)
  refine (?_:wpAny _ _ (field (.ref z) 3 >>= _) _ _ _)
  refine wpAny_bind (wpAny_field hz rfl (x:=.ref TI) rfl ?_)
  refine wpAny_bind (wpAny_seqItems hTI rfl ?_)
  refine (?_:wpAny _ _ (Builtin.SmallTypes.ownedTupleIsFree (.ref z) >>= _) _ _ _)
  refine wpAny_bind ?_
  unfold Builtin.SmallTypes.ownedTupleIsFree
  refine wpAny_bind (wpAny_field hz rfl (x:=.none) rfl (wpAny_pure ?_))
  rw [if_pos rfl]
  refine wpAny_bind (wpAny_rule ?_)
  refine wpAny_bind (wpAny_field hz rfl (x:=.ref TO) rfl ?_)
  refine wpAny_bind (wpAny_setField_rec hz (by simp) fun hA hzA sA => ?_)
  refine wpAny_bind ?_
  refine wpAny_bind (wpAny_bind (wpAny_onRaise ?_))
  refine (?_:wpAny _ _ (Builtin.SmallTypes.nextOf (.ref i1) >>= _) _ _ _)
  refine wpAny_bind (wpAny_nextOf_list_end (s:={ s with heap:=hA }) hh (h1.extBut sA.extBut (Ne.symm zi1)) (m1.extBut sA.extBut n1.1) hx fun hB e sB he => ?_)
  obtain ⟨oe, hoe, hce⟩:=he
  have zB:IsZip hB z TI TO .ellipsis:=sB _ _ zi1 hzA
  have ne:e ≠ z:=fun q => by subst q; rw [zB] at hoe; cases hoe; simp at hce
  refine wpAny_setField_rec (s:={ s with heap:=hB }) zB (by simp) fun hC J sC => hE hC e (fun d o q x => ?_) ⟨oe, sC.extBut _ _ ne hoe, hce⟩
  simp only [List.mem_cons, List.not_mem_nil, or_false, not_or] at q
  exact sC.extBut _ _ q.1 (sB _ _ q.2.2.1 (sA.extBut _ _ q.1 x))
theorem z3_pyNext {Q:Option Value → Shared → Prop} {x y v:Value} (D:D3 z TI TO i1 i2 i3 l1 l2 l3) (Z:Z3 s.heap z TI TO i1 i2 i3 l1 l2 l3 k xs ys zs .none a b c) (hx:xs[k]? = some x) (hy:ys[k]? = some y) (hv:zs[k]? = some v)
    (hQ:∀ h', Z3 h' z TI TO i1 i2 i3 l1 l2 l3 (k + 1) xs ys zs (rawInt s.heap.objs.size) x y v → IsTrip h' s.heap.objs.size x y v → (∀ d o, d ∉ [z, TO, i1, i2, i3] → s.heap.get? d = some o → h'.get? d = some o) → Q (some (.ref s.heap.objs.size)) { s with heap:=h' }) :
    wpAny (model prog w) A (pyNext (.ref z)) Q E s:=by
  have hT:s.TypeIs (.ref z) "zip":=⟨_, Z.hz, rfl⟩
  unfold pyNext
  exact wpAny_bind (wpAny_attempt (wpAny_callSpecial?_slot (name:=Str.ofString "__next__") hT F.slot_zip_next
    (wpAny_call_entry F.slot_zip_next hT F.entry_zip_next (z3_item D Z hx hy hv fun h' a1 a2 a3 => wpAny_pure (hQ h' a1 a2 a3)) (F.args_zip_next_1 _))))
theorem z3_pyEnd {Q:Option Value → Shared → Prop} (hh:A.handled = none) (D:D3 z TI TO i1 i2 i3 l1 l2 l3) (Z:Z3 s.heap z TI TO i1 i2 i3 l1 l2 l3 k xs ys zs .none a b c) (hx:xs[k]? = none)
    (hQ:∀ h', (∀ d o, d ∉ [z, TO, i1, i2, i3] → s.heap.get? d = some o → h'.get? d = some o) → Q none { s with heap:=h' }):wpAny (model prog w) A (pyNext (.ref z)) Q E s:=by
  have hT:s.TypeIs (.ref z) "zip":=⟨_, Z.hz, rfl⟩
  unfold pyNext
  refine wpAny_bind (wpAny_attempt (wpAny_callSpecial?_slot (name:=Str.ofString "__next__") hT F.slot_zip_next
    (wpAny_call_entry F.slot_zip_next hT F.entry_zip_next (z3_end hh D Z hx fun h' e hk he => ?_) (F.args_zip_next_1 _))))
  obtain ⟨o, ho, hc⟩:=he
  refine wpAny_bind (wpAny_isInstance (T:="StopIteration") (b:=true) ⟨o, ho, hc⟩ isSubtype_stop ?_)
  exact wpAny_pure (hQ _ hk)
end
noncomputable def pL (h:Heap) (l:Addr):Heap:=h.push { cls:=.type "list_iterator", data:=.fields #[.ref l, .int 0 0] }
noncomputable def zH3 (h:Heap) (l1 l2 l3:Addr):Heap:=pL (pL (pL h l1) l2) l3
noncomputable def zHz (h:Heap) (l1 l2 l3:Addr):Heap :=
  (((zH3 h l1 l2 l3).push { cls:=.type "tuple", data:=.seq #[.ref h.objs.size, .ref (h.objs.size + 1), .ref (h.objs.size + 2)] }).push { cls:=.type "tuple", data:=.seq #[.none, .none, .none] }).push
    { cls:=.type "zip", data:=.fields #[.none, .bool false, .bool false, .ref (h.objs.size + 3), .ref (h.objs.size + 4)] }
theorem meets_zip3 (l1 l2 l3:Addr) (xs ys zs:Array Value) :
    Meets (Builtin.«zip.__new__» ⟨[.type "zip", .ref l1, .ref l2, .ref l3], []⟩) (fun J R s => s.heap.IsList l1 xs ∧ s.heap.IsList l2 ys ∧ s.heap.IsList l3 zs ∧
      R (.ok (.ret (.ref (s.heap.objs.size + 5)))) { s with heap:=zHz s.heap l1 l2 l3 }) :=
  .of_wp fun prog w A R s h => by
    obtain ⟨hp, g, d, tk, os⟩:=s; obtain ⟨hl1, hl2, hl3, h⟩:=h
    have hsub:=sub_zip
    have hL1:Heap.IsList (Shared.heap ⟨hp, g, d, tk, os⟩) l1 xs:=hl1
    have hL2:Heap.IsList (Shared.heap ⟨hp.push { cls:=.type "list_iterator", data:=.fields #[.ref l1, .int 0 0] }, g, d, tk, os⟩) l2 ys:=Heap.IsList.push hl2 _
    have hL3:Heap.IsList (Shared.heap ⟨(hp.push { cls:=.type "list_iterator", data:=.fields #[.ref l1, .int 0 0] }).push { cls:=.type "list_iterator", data:=.fields #[.ref l2, .int 0 0] }, g, d, tk, os⟩) l3 zs:=Heap.IsList.push (Heap.IsList.push hl3 _) _
    wp_walk using wpAny_pyIter_list hL1, wpAny_pyIter_list hL2, wpAny_pyIter_list hL3
    refine ⟨_, rfl, ?_⟩
    simp only [Heap.size_push]
    simp only [zHz, zH3, pL] at h
    exact h
end Mine
end
section
open PySem PySem.W PySem.Spec PySem.Calls PyProof.Rows
set_option maxRecDepth 10000
namespace Mine
noncomputable def rangeL (x c:Int):Nat → List PV
  | 0 => []
  | n + 1 => .int x :: rangeL (x + c) c n
noncomputable def enumL:Nat → List PV → List PV
  | _, [] => []
  | i, p :: l => .tup [.int i, p] :: enumL (i + 1) l
noncomputable def zipL:List PV → List PV → List PV → List PV
  | a :: as, b :: bs, c :: cs => .tup [a, b, c] :: zipL as bs cs
  | _, _, _ => []
inductive It (md:ASet) (h:Heap):Value → List Addr → List PV → Prop
  | list {I ax:Addr} {i:Nat} {vs:List Value} {l:List PV}:h.IsListIter I ax i → ¬ md ax → h.PlainList ax vs.toArray → RelL md h (vs.drop i) l → It md h (.ref I) [I] l
  | range {I:Addr} {x c:Int} {n:Nat} {l:List PV}:l = rangeL x c n → IsRangeIter h I x n c → It md h (.ref I) [I] l
  | tup {I ax:Addr} {i:Nat} {vs:List Value} {l:List PV}:IsTupIter h I ax i → ¬ md ax → IsTup h ax vs.toArray → RelL md h (vs.drop i) l → It md h (.ref I) [I] l
  | enum {e I ax:Addr} {i:Nat} {vs:List Value} {l l':List PV} {old:Value}:l' = enumL i l → e ≠ I → IsEnum h e I i old → h.IsListIter I ax i → ¬ md ax → h.PlainList ax vs.toArray → RelL md h (vs.drop i) l → It md h (.ref e) [e, I] l'
  | zip3 {z TI TO i1 i2 i3 l1 l2 l3:Addr} {k:Nat} {xs ys zs:List Value} {px py pz l':List PV} {a b c:Value}:l' = zipL px py pz → px.length = py.length → px.length = pz.length → D3 z TI TO i1 i2 i3 l1 l2 l3 →
      Z3 h z TI TO i1 i2 i3 l1 l2 l3 k xs.toArray ys.toArray zs.toArray .none a b c → ¬ md TI → ¬ md l1 → ¬ md l2 → ¬ md l3 → RelL md h (xs.drop k) px → RelL md h (ys.drop k) py → RelL md h (zs.drop k) pz → It md h (.ref z) [z, TO, i1, i2, i3] l'
theorem It.al {md:ASet} {h:Heap} {it:Value} {own:List Addr} {l:List PV} (x:It md h it own l):∀ a ∈ own, ∃ o, h.get? a = some o:=by
  cases x with
  | list a _ _ _ => obtain ⟨o, e, _⟩:=a; intro b hb; simp at hb; subst hb; exact ⟨o, e⟩
  | range _ a => intro b hb; simp at hb; subst hb; exact ⟨_, a⟩
  | tup a _ _ _ => obtain ⟨o, e, _⟩:=a; intro b hb; simp at hb; subst hb; exact ⟨o, e⟩
  | enum _ _ a b _ _ _ =>
    obtain ⟨o, e, _⟩:=b
    intro c hc; simp at hc
    rcases hc with rfl | rfl
    · exact ⟨_, a⟩
    · exact ⟨o, e⟩
  | zip3 _ _ _ _ Z _ _ _ _ _ _ _ =>
    obtain ⟨hz, _, hTO, ⟨o1, e1, _⟩, ⟨o2, e2, _⟩, ⟨o3, e3, _⟩, _, _, _⟩:=Z
    intro c hc; simp at hc
    rcases hc with rfl | rfl | rfl | rfl | rfl
    · exact ⟨_, hz⟩
    · exact ⟨_, hTO⟩
    · exact ⟨_, e1⟩
    · exact ⟨_, e2⟩
    · exact ⟨_, e3⟩
theorem It.mono {md md':ASet} {h h':Heap} {it:Value} {own:List Addr} {l:List PV} (x:It md h it own l) (k:Kp md h md' h') (ho:∀ a ∈ own, ∀ o, h.get? a = some o → h'.get? a = some o):It md' h' it own l:=by
  cases x with
  | list a b c d => 
    obtain ⟨n, e⟩:=c
    exact .list (a.at (ho _ (by simp))) (k.not e b) ⟨n, k.keep _ _ b e⟩ (d.mono k)
  | range e a => exact .range e (ho _ (by simp) _ a)
  | tup a b c d =>
    obtain ⟨o, e, r⟩:=c
    obtain ⟨o', e', r'⟩:=a
    exact .tup ⟨o', ho _ (by simp) _ e', r'⟩ (k.not e b) ⟨o, k.keep _ _ b e, r⟩ (d.mono k)
  | enum e0 e a b c d f =>
    obtain ⟨n, e'⟩:=d
    exact .enum e0 e (ho _ (by simp) _ a) (b.at (ho _ (by simp))) (k.not e' c) ⟨n, k.keep _ _ c e'⟩ (f.mono k)
  | zip3 e n1 n2 D Z t m1 m2 m3 r1 r2 r3 =>
    obtain ⟨hz, hTI, hTO, h1, h2, h3, ⟨o1, q1, x1⟩, ⟨o2, q2, x2⟩, ⟨o3, q3, x3⟩⟩:=Z
    exact .zip3 e n1 n2 D ⟨ho _ (by simp) _ hz, k.keep _ _ t hTI, ho _ (by simp) _ hTO, h1.at (ho _ (by simp)), h2.at (ho _ (by simp)), h3.at (ho _ (by simp)), ⟨o1, k.keep _ _ m1 q1, x1⟩, ⟨o2, k.keep _ _ m2 q2, x2⟩, ⟨o3, k.keep _ _ m3 q3, x3⟩⟩
      (k.not hTI t) (k.not q1 m1) (k.not q2 m2) (k.not q3 m3) (r1.mono k) (r2.mono k) (r3.mono k)
theorem drop_cons {α:Type}:∀ {vs:List α} {i:Nat} {v:α} {r:List α}, vs.drop i = v :: r → vs[i]? = some v ∧ vs.drop (i + 1) = r
  | [], i, v, r, e => by simp at e
  | u :: vs, 0, v, r, e => by simp at e; obtain ⟨rfl, rfl⟩:=e; exact ⟨rfl, rfl⟩
  | u :: vs, i + 1, v, r, e => by simp at e; have:=drop_cons e; exact ⟨by simpa using this.1, by simpa using this.2⟩
theorem drop_nil {α:Type} {vs:List α} {i:Nat} (e:vs.drop i = []):vs[i]? = none:=by
  rw [List.drop_eq_nil_iff] at e
  exact List.getElem?_eq_none e
section
variable {w:World} {A:Around} {s:Shared} {md:ASet} {it:Value} {own:List Addr} {p:PV} {l:List PV} {E:Value → Shared → Prop}
noncomputable def TargetOk:Expr → Bool
  | .Name .. => true
  | .Tuple .. => true
  | _ => false
noncomputable def isTupT:Expr → Bool
  | .Tuple .. => true
  | _ => false
theorem go_range {I:Addr} {x n c:Int} {elts:List Expr} {x1} {pos:Pos} {v:Value} {Q:Unit → Shared → Prop} (hit:IsRangeIter s.heap I x n c) (hQ:Q () s):wpAny (MD w) A (letOwnedTupleGo (.Tuple elts x1 pos) (.ref I) v) Q E s:=by
  cases v <;> try exact wpAny_pure hQ
  refine (?_:wpAny _ _ (load I >>= _) _ _ _)
  exact wpAny_bind (wpAny_load hit (wpAny_pure hQ))
theorem go_tup {I ax:Addr} {i:Nat} {elts:List Expr} {x1} {pos:Pos} {v:Value} {Q:Unit → Shared → Prop} (hit:IsTupIter s.heap I ax i) (hQ:Q () s):wpAny (MD w) A (letOwnedTupleGo (.Tuple elts x1 pos) (.ref I) v) Q E s:=by
  obtain ⟨o, e, hc, hd⟩:=hit
  cases v <;> try exact wpAny_pure hQ
  refine (?_:wpAny _ _ (load I >>= _) _ _ _)
  refine wpAny_bind (wpAny_load e ?_)
  rw [hc, hd]
  exact wpAny_pure hQ
theorem go_list {I ax:Addr} {i:Nat} {elts:List Expr} {x1} {pos:Pos} {v:Value} {Q:Unit → Shared → Prop} (hit:s.heap.IsListIter I ax i) (hQ:Q () s):wpAny (MD w) A (letOwnedTupleGo (.Tuple elts x1 pos) (.ref I) v) Q E s:=by
  cases v <;> first | exact wpAny_pure hQ | exact wpAny_letOwnedTupleGo_listiter hit hQ
theorem TargetOk.el {P:Expr → Prop} {t:Expr} (h:TargetOk t = true) (a:∀ x p, P (.Name x p)) (b:∀ l k p, P (.Tuple l k p)):P t:=by
  cases t <;> first | exact a .. | exact b .. | cases h
theorem isTupT.el {P:Expr → Prop} {t:Expr} (h:isTupT t = true) (b:∀ l k p, P (.Tuple l k p)):P t:=by
  cases t <;> first | exact b .. | cases h
theorem arr {vs:List Value} {i:Nat} {v:Option Value} (e:vs[i]? = v):vs.toArray[i]? = v:=by rw [List.getElem?_toArray]; exact e
theorem RelL.dropC {h:Heap} {vs:List Value} {i:Nat} {C:Prop} (d:RelL md h (vs.drop i) (p :: l)) (k:∀ v, vs[i]? = some v → Rel md h v p → RelL md h (vs.drop (i + 1)) l → C):C :=
  d.i1 (P:=fun q => vs.drop i = q → C) (fun v J d₁ d₂ e => k v (drop_cons e).1 d₁ ((drop_cons e).2 ▸ d₂)) rfl
theorem RelL.dropN {h:Heap} {vs:List Value} {i:Nat} (d:RelL md h (vs.drop i) []):vs[i]? = none:=drop_nil (d.i0 (P:=fun v => v = []) rfl)
theorem zipL.el {C:Prop} {px py pz:List PV} (hl:p :: l = zipL px py pz) (n1:px.length = py.length) (n2:px.length = pz.length)
    (k:∀ p1 p2 p3 qx qy qz, px = p1 :: qx → py = p2 :: qy → pz = p3 :: qz → p = .tup [p1, p2, p3] → l = zipL qx qy qz → qx.length = qy.length → qx.length = qz.length → C):C:=by
  cases px with
  | nil => cases hl
  | cons p1 qx =>
    cases py with
    | nil => cases n1
    | cons p2 qy =>
      cases pz with
      | nil => cases n2
      | cons p3 qz => exact k _ _ _ _ _ _ rfl rfl rfl (List.cons.inj hl).1 (List.cons.inj hl).2 (Nat.succ.inj n1) (Nat.succ.inj n2)
inductive ItS (md':ASet) (h':Heap) (it:Value) (own:List Addr) (l:List PV) (p:PV) (s:Shared) (v:Value) (s₃:Shared):Prop
  | mk (h₂:Heap) (tk₂:Nat) (e:s₃ = ⟨h₂, s.gens, s.drawn, tk₂, s.os⟩) (r:Rel md' h₂ v p) (i:It md' h₂ it own l) (k:∀ a o, a ∉ own → h'.get? a = some o → h₂.get? a = some o)
theorem It.step {t:Expr} {Q:Value → Shared → Prop} (x:It md s.heap it own (p :: l)) (ht:TargetOk t = true) (hown:∀ a ∈ own, md a) (hal:∀ a, md a → ∃ o, s.heap.get? a = some o) (hen:own.length ≠ 1 → isTupT t = true)
    (hQ:∀ v h' tk, Rel md h' v p → It md h' it own l → (∀ a o, a ∉ own → s.heap.get? a = some o → h'.get? a = some o) → Q v { s with heap:=h', toks:=tk }) :
    wpAny (MD w) A (pyNext it) (fun r s₁ => ∃ v, r = some v ∧ wpAny (MD w) A (letOwnedTupleGo t it v) (fun J s₂ => Q v s₂) E s₁) E s:=by
  cases x with
  | @list I ax i vs l' a b c d =>
    refine d.dropC fun v e1 d₁ d₂ => ?_
    have mI:md I:=hown _ (by simp)
    have ne:ax ≠ I:=fun z => b (z ▸ mI)
    refine wpAny_pyNext_list_item a c.isList (x:=v) (arr e1) fun h' hit' hs' => ⟨v, rfl, ?_⟩
    have kp:Kp md s.heap md h':=⟨fun z o nm e => hs'.extBut z o (fun q => nm (q ▸ mI)) e, fun J J J m => m⟩
    have fin:Q v { s with heap:=h', toks:=s.toks }:=hQ v h' s.toks (d₁.mono kp) (.list hit' b (c.extBut hs'.extBut ne) (d₂.mono kp)) fun z o nz e => hs'.extBut z o (fun q => nz (by simp [q])) e
    exact TargetOk.el (P:=fun t => wpAny _ _ (letOwnedTupleGo t _ _) _ _ _) ht (fun J J => wpAny_pure fin) fun J J J => go_list (s:={ s with heap:=h' }) hit' fin
  | @range I x c n l' hl a =>
    cases n with
    | zero => simp [rangeL] at hl
    | succ n =>
      simp only [rangeL, List.cons.injEq] at hl
      obtain ⟨rfl, rfl⟩:=hl
      refine wpAny_pyNext_range_item a (by lia) fun h' hit' hs' => ⟨_, rfl, ?_⟩
      have e:((n + 1:Nat):Int) - 1 = (n:Int):=by lia
      rw [e] at hit'
      have fin:Q (.int x s.toks) { s with heap:=h', toks:=s.toks + 1 }:=hQ _ h' _ (.int ..) (.range rfl hit') fun z o nz e => hs'.extBut z o (fun q => nz (by simp [q])) e
      exact TargetOk.el (P:=fun t => wpAny _ _ (letOwnedTupleGo t _ _) _ _ _) ht (fun J J => wpAny_pure fin) fun J J J => go_range (s:={ s with heap:=h', toks:=s.toks + 1 }) hit' fin
  | @tup I ax i vs l' a b c d =>
    refine d.dropC fun v e1 d₁ d₂ => ?_
    have mI:md I:=hown _ (by simp)
    have ne:ax ≠ I:=fun z => b (z ▸ mI)
    refine next_tuple_item a c (x:=v) (arr e1) fun h' hit' hs' => ⟨v, rfl, ?_⟩
    have kp:Kp md s.heap md h':=⟨fun z o nm e => hs'.extBut z o (fun q => nm (q ▸ mI)) e, fun J J J m => m⟩
    have fin:Q v { s with heap:=h', toks:=s.toks }:=hQ v h' s.toks (d₁.mono kp) (.tup hit' b (c.extBut hs'.extBut ne) (d₂.mono kp)) fun z o nz e => hs'.extBut z o (fun q => nz (by simp [q])) e
    exact TargetOk.el (P:=fun t => wpAny _ _ (letOwnedTupleGo t _ _) _ _ _) ht (fun J J => wpAny_pure fin) fun J J J => go_tup (s:={ s with heap:=h' }) hit' fin
  | @enum e I ax i vs l' l'' old hl ne₀ he a b c d =>
    cases l' with
    | nil => simp [enumL] at hl
    | cons q' l' =>
      simp only [enumL, List.cons.injEq] at hl
      obtain ⟨rfl, rfl⟩:=hl
      refine d.dropC fun v e1 d₁ d₂ => ?_
      have me:md e:=hown _ (by simp)
      have mI:md I:=hown _ (by simp)
      have nI:ax ≠ I:=fun z => b (z ▸ mI)
      have nE:ax ≠ e:=fun z => b (z ▸ me)
      have nsz:¬ md s.heap.objs.size:=fun m => by obtain ⟨o, q⟩:=hal _ m; rw [none_size] at q; cases q
      have hen':=hen (by simp)
      apply isTupT.el hen'; intro elts x1 pos
      refine wpAny_pyNext_enum_item he a c.isList (x:=v) (arr e1) ne₀ fun h' ho hi ht hz hk => ⟨_, rfl, ?_⟩
      refine wpAny_letOwnedTupleGo_enum (s:={ s with heap:=h', toks:=s.toks + 1 }) ho fun h'' he'' hs'' => ?_
      have keep:∀ z o, z ≠ e → z ≠ I → s.heap.get? z = some o → h''.get? z = some o:=fun z o q1 q2 q3 => hs''.extBut z o q1 (hk z o q1 q2 q3)
      have kp:Kp md s.heap md h'':=⟨fun z o nm q => keep z o (fun y => nm (y ▸ me)) (fun y => nm (y ▸ mI)) q, fun J J J m => m⟩
      have hlt:s.heap.objs.size ≠ e:=Nat.ne_of_gt (Heap.lt_size he)
      obtain ⟨nn, cc⟩:=c
      refine hQ _ h'' (s.toks + 1) (.tup nsz (vs:=[.int i s.toks, v]) ⟨_, hs''.extBut _ _ hlt ht, rfl, _, rfl⟩ (.cons (.int ..) (.cons (d₁.mono kp) .nil))) (.enum rfl ne₀ he'' (hi.extBut hs''.extBut (Ne.symm ne₀)) b ⟨nn, keep _ _ nE nI cc⟩ (d₂.mono kp)) fun z o nz q => ?_
      simp at nz
      exact keep z o nz.1 nz.2 q
  | @zip3 z TI TO i1 i2 i3 l1 l2 l3 k xs ys zs px py pz l' a b c hl n1 n2 D Z nt m1 m2 m3 r1 r2 r3 =>
    refine zipL.el hl n1 n2 fun p1 p2 p3 qx qy qz a1 a2 a3 a4 a5 nn1 nn2 => ?_
    subst a1 a2 a3 a4 a5
    refine r1.dropC fun v1 e1 d1 r1 => r2.dropC fun v2 e2 d2 r2 => r3.dropC fun v3 e3 d3 r3 => ?_
    have mall:∀ d, d ∈ [z, TO, i1, i2, i3] → md d:=fun d m => hown d m
    have nsz:¬ md s.heap.objs.size:=fun m => by obtain ⟨o, q⟩:=hal _ m; rw [none_size] at q; cases q
    have hen':=hen (by simp)
    apply isTupT.el hen'; intro elts x1 pos
    refine z3_pyNext D Z (x:=v1) (y:=v2) (v:=v3) (arr e1) (arr e2) (arr e3) fun h' Z' T' hk => ⟨_, rfl, ?_⟩
    refine wpAny_letOwnedTupleGo_zip (s:={ s with heap:=h' }) Z'.hz fun h'' hz'' hs'' => ?_
    have keep:∀ d o, d ∉ [z, TO, i1, i2, i3] → s.heap.get? d = some o → h''.get? d = some o:=fun d o q e => hs''.extBut d o (fun y => q (by simp [y])) (hk d o q e)
    have kp:Kp md s.heap md h'':=⟨fun d o nm q => keep d o (fun y => nm (mall _ y)) q, fun J J J m => m⟩
    have hlt:s.heap.objs.size ≠ z:=Nat.ne_of_gt (Heap.lt_size Z.hz)
    have nd:=D.nd
    simp only [List.nodup_cons, List.mem_cons, List.not_mem_nil, or_false, not_or, List.nodup_nil, and_true, not_false_eq_true] at nd
    have up:∀ {d:Addr}, d ≠ z → ∀ o, h'.get? d = some o → h''.get? d = some o:=fun q o e => hs''.extBut _ o q e
    have nl:∀ {d:Addr}, ¬ md d → d ≠ z:=fun q y => q (y ▸ mall z (by simp))
    refine hQ _ h'' s.toks (.tup nsz (vs:=[v1, v2, v3]) ⟨_, hs''.extBut _ _ hlt T', rfl, _, rfl⟩ (.cons (d1.mono kp) (.cons (d2.mono kp) (.cons (d3.mono kp) .nil))))
      (.zip3 rfl nn1 nn2 D ⟨hz'', up (nl nt) _ Z'.hTI, up (Ne.symm nd.1.1) _ Z'.hTO, Z'.h1.at (up (Ne.symm nd.1.2.1)), Z'.h2.at (up (Ne.symm nd.1.2.2.1)), Z'.h3.at (up (Ne.symm nd.1.2.2.2)), Z'.m1.at (up (nl m1)), Z'.m2.at (up (nl m2)), Z'.m3.at (up (nl m3))⟩
        nt m1 m2 m3 (r1.mono kp) (r2.mono kp) (r3.mono kp)) fun d o nz q => keep d o nz q
theorem It.stop {Q:Option Value → Shared → Prop} (x:It md s.heap it own []) (hh:A.handled = none)
    (hQ:∀ h' tk, (∀ a o, a ∉ own → s.heap.get? a = some o → h'.get? a = some o) → Q none { s with heap:=h', toks:=tk }):wpAny (MD w) A (pyNext it) Q E s:=by
  cases x with
  | @list I ax i vs _ a b c d =>
    exact wpAny_pyNext_list_end hh a c.isList (arr d.dropN) fun h' he => hQ h' s.toks fun z o nz q => he z o (fun y => nz (by simp [y])) q
  | @range I x c n _ hl a =>
    cases n with
    | succ n => simp [rangeL] at hl
    | zero => exact wpAny_pyNext_range_end hh a (by simp) fun h' he => hQ h' s.toks fun z o nz q => he z o (fun y => nz (by simp [y])) q
  | @tup I ax i vs _ a b c d =>
    exact next_tuple_end hh a c (arr d.dropN) fun h' he => hQ h' s.toks fun z o nz q => he z o (fun y => nz (by simp [y])) q
  | @enum e I ax i vs l' l'' old hl ne₀ he a b c d =>
    cases l' with
    | cons q' l' => simp [enumL] at hl
    | nil =>
      exact wpAny_pyNext_enum_end hh he a c.isList (arr d.dropN) fun h' hk => hQ h' s.toks fun z o nz q => hk z o (fun y => nz (by simp [y])) q
  | @zip3 z TI TO i1 i2 i3 l1 l2 l3 k xs ys zs px py pz l' a b c hl n1 n2 D Z t m1 m2 m3 r1 r2 r3 =>
    cases px with
    | cons p1 px =>
      cases py with
      | nil => cases n1
      | cons p2 py =>
        cases pz with
        | nil => cases n2
        | cons p3 pz => cases hl
    | nil => exact z3_pyEnd hh D Z (arr r1.dropN) fun h' hk => hQ h' s.toks hk
set_option tactic.hygienic true in
theorem It.self {Q:Value → Shared → Prop} {l:List PV} (x:It md s.heap it own l) (hQ:Q it s):wpAny (MD w) A (pyIter it) Q E s:=by
  cases x with
  | list a _ _ _ => exact wpAny_pyIter_listiter a hQ
  | range _ a => exact wpAny_pyIter_rangeiter a hQ
  | @tup I _ _ _ _ a _ _ _ =>
    have hT:s.TypeIs (.ref I) "tuple_iterator":=a.typeIs
    refine wpAny_pyIter_slot hT F.slot_tuple_iterator_iter (wpAny_call_entry F.slot_tuple_iterator_iter hT F.entry_tuple_iterator_iter ?_ (F.args_tuple_iterator_iter_1 _))
    refine (?_:wpAny _ _ (ret (.ref I)) _ _ s)
    exact wpAny_pure ⟨_, rfl, "tuple_iterator", _, hT, F.slot_tuple_iterator_next.lookup, hQ⟩
  | enum _ _ a _ _ _ _ => exact wpAny_pyIter_enum a hQ
  | zip3 _ _ _ _ Z _ _ _ _ _ _ _ => exact wpAny_pyIter_zip Z.hz hQ
end
noncomputable def rem (md O:ASet):ASet:=fun a => md a ∧ ¬ O a
section
variable {w:World} {H₀:Heap} {S:Fx} {n:Nat} {A:Around} {env:Env} {stk:List Env} {ow md md₀ O:ASet} {σ σ' σ₀:Store} {vs:Slots} {s:Shared} {h h' h₀:Heap}
theorem Inv.part (i:Inv w H₀ stk md σ h) (hO:∀ a, O a → md a) (hOn:∀ a, O a → σ' a = none) (hσ:∀ a, ¬ O a → σ' a = σ a) (hOf:∀ a, O a → ¬ isFr stk a) (k:∀ a o, ¬ O a → h.get? a = some o → h'.get? a = some o):Inv w H₀ stk (rem md O) σ' h':=by
  have kp:Kp md h (rem md O) h':=⟨fun a o nm e => k a o (fun q => nm (hO a q)) e, fun J J J m => m.1⟩
  refine ⟨i.gl, fun b o e => k b o (fun q => ?_) (i.base b o e), fun a m => i.off a m.1, fun a m => ?_, fun a m e => ?_, fun e he => ?_, fun a f => ⟨⟨(i.frmd a f).1, fun q => hOf a q f⟩, ?_⟩⟩
  · have:=i.off b (hO b q); rw [e] at this; cases this
  · obtain ⟨o, e⟩:=i.al a m.1; exact ⟨o, k a o m.2 e⟩
  · have hn:¬ O a:=fun q => by rw [hOn a q] at e; cases e
    rw [hσ a hn] at e
    exact ⟨⟨(i.sto a m e).1, hn⟩, (i.sto a m e).2.mono kp fun o q => k a o hn q⟩
  · obtain ⟨a1, L, o, a2, a3, a4, a5⟩:=i.ff e he
    exact ⟨a1, L, o, a2, a3, k L o (fun q => hOf L q ⟨e, he, a2⟩) a4, a5⟩
  · rw [hσ a fun q => hOf a q f]; exact (i.frmd a f).2
theorem Cx.part (c:Cx w H₀ S n A env stk ow md σ vs h) (hO:∀ a, O a → md a) (hOn:∀ a, O a → σ' a = none) (hσ:∀ a, ¬ O a → σ' a = σ a) (hOf:∀ a, O a → ¬ isFr stk a) (hOo:∀ a, O a → ¬ ow a)
    (hOc:∀ x a, env.cells.lookup x = some a → ¬ O a) (k:∀ a o, ¬ O a → h.get? a = some o → h'.get? a = some o):Cx w H₀ S n A env stk ow (rem md O) σ' vs h':=by
  have kp:Kp md h (rem md O) h':=⟨fun a o nm e => k a o (fun q => nm (hO a q)) e, fun J J J m => m.1⟩
  refine ⟨c.bx.with (c.bx.inv.part hO hOn hσ hOf k), c.head, ⟨c.loc.sc, c.loc.gl, c.loc.bl, ?_, c.loc.lown, fun x a e => ?_, c.loc.ck, c.loc.hasc, c.loc.cown, c.loc.apart, fun a q => ?_⟩, c.owfr, c.cellfr⟩
  · obtain ⟨m, hn, f⟩:=c.loc.ns
    refine ⟨m, hn.at' fun o e => k _ o (fun q => hOo _ q c.loc.lown) e, fun i x pv a b d => ?_⟩
    obtain ⟨v, hv, hr⟩:=f i x pv a b d
    exact ⟨v, hv, hr.mono kp⟩
  · obtain ⟨a2, a3, v0, ⟨o, ho, hd⟩, f⟩:=c.loc.cel x a e
    have hn:=hOc x a e
    refine ⟨by rw [hσ a hn]; exact a2, a3, v0, ⟨o, k a o hn ho, hd⟩, fun i pv a b => ?_⟩
    obtain ⟨v, hv, hr⟩:=f i pv a b
    exact ⟨v, hv, hr.mono kp⟩
  · obtain ⟨a1, a2, o, ho⟩:=c.loc.owmd a q
    have hn:¬ O a:=fun z => hOo a z q
    exact ⟨⟨a1, hn⟩, by rw [hσ a hn]; exact a2, o, k a o hn ho⟩
theorem Go.part (g:Go stk ow σ₀ md₀ h₀ σ md h) (hOn:∀ a, O a → σ' a = none) (hσ:∀ a, ¬ O a → σ' a = σ a) (hO0:∀ a, O a → h₀.get? a = none ∨ σ₀ a ≠ none) (hO0':∀ a, O a → h₀.get? a = none ∨ ∃ o, h'.get? a = some o ∧ h.get? a = some o) (k:∀ a o, ¬ O a → h.get? a = some o → h'.get? a = some o):Go stk ow σ₀ md₀ h₀ σ' (rem md O) h':=by
  have up:∀ a o o₀, h₀.get? a = some o₀ → h.get? a = some o → h'.get? a = some o:=fun a o o₀ e₀ e => by
    by_cases q:O a
    · rcases hO0' a q with z | ⟨o', z1, z2⟩
      · rw [e₀] at z; cases z
      · rw [e] at z2; cases z2; exact z1
    · exact k a o q e
  refine ⟨⟨fun a o n f e => up a o o e (g.st.keep a o n f e), fun a o n e => ?_, fun a o e => ?_, fun a o m nt e => ⟨g.st.grow a o m nt e, fun q => ?_⟩, fun a o e m => g.st.fresh a o e m.1⟩, fun a q => g.d a fun z => q ?_⟩
  · obtain ⟨sl, e'⟩:=g.st.slots a o n e
    exact ⟨sl, up a _ o e e'⟩
  · obtain ⟨o', e'⟩:=g.st.alive a o e
    exact ⟨o', up a o' o e e'⟩
  · rcases hO0 a q with z | z
    · rw [e] at z; cases z
    · exact nt z
  · by_cases z':O a
    · exact hOn a z'
    · rw [hσ a z']; exact z
end
section
variable {w:World} {H₀:Heap} {S:Fx} {n:Nat} {A:Around} {env:Env} {stk:List Env} {ow md O:ASet} {σ:Store} {vs vs':Slots} {h h':Heap}
theorem Cx.priv (c:Cx w H₀ S n A env stk ow md σ vs h) (hO:∀ a, O a → md a ∧ σ a = none ∧ ¬ isFr stk a ∧ ¬ ow a) (hc:∀ x a, env.cells.lookup x = some a → ¬ O a) (k:∀ a o, ¬ O a → h.get? a = some o → h'.get? a = some o) (al:∀ a, O a → ∃ o, h'.get? a = some o) :
    Cx w H₀ S n A env stk ow md σ vs h' ∧ Stp (isFr stk) O NoTr md h md h':=by
  have alv:∀ a, md a → ∃ o, h'.get? a = some o:=fun a m => by
    by_cases z:O a
    · exact al a z
    · obtain ⟨o, e⟩:=c.bx.inv.al a m; exact ⟨o, k a o z e⟩
  have kp:Kp md h md h':=⟨fun a o nm e => k a o (fun z => nm (hO a z).1) e, fun J J J m => m⟩
  have st:Stp (isFr stk) O NoTr md h md h':=⟨fun a o no J e => k a o no e, fun a o no e => ⟨o.slots, k a o no e⟩, fun a o e => by
    by_cases z:O a
    · exact al a z
    · exact ⟨o, k a o z e⟩, fun J J m J J => m, fun J J J m => m⟩
  have i₂:Inv w H₀ stk md σ h':=by
    refine ⟨c.bx.inv.gl, fun b o e => k b o (fun z => ?_) (c.bx.inv.base b o e), c.bx.inv.off, alv, fun a m e => ⟨(c.bx.inv.sto a m e).1, (c.bx.inv.sto a m e).2.mono kp fun o q => k a o (fun z => ?_) q⟩, fun e he => ?_, c.bx.inv.frmd⟩
    · have:=c.bx.inv.off b (hO b z).1; rw [e] at this; cases this
    · rw [(hO a z).2.1] at e; cases e
    · obtain ⟨a1, L, o, a2, a3, a4, a5⟩:=c.bx.inv.ff e he
      exact ⟨a1, L, o, a2, a3, k L o (fun z => (hO L z).2.2.1 ⟨e, he, a2⟩) a4, a5⟩
  exact ⟨⟨c.bx.with i₂, c.head, c.loc.step st (fun J J q => q) (fun a q z => (hO a z).2.2.2 q) (fun a z => (hO a z).1) (fun y a e => ⟨hc y a e, c.cellfr y a e⟩) (fun a q => (c.bx.inv.frmd a q).1) fun a J e => e, c.owfr, c.cellfr⟩, st⟩
end
inductive FInv (w:World) (H₀:Heap) (S:Fx) (n:Nat) (A:Around) (env:Env) (stk:List Env) (ow md:ASet) (σ:Store) (s:Shared) (T:List PV → Slots → Store → Prop) (it:Value) (own:List Addr) (m:Nat) (s':Shared):Prop
  | mk (l:List PV) (vs':Slots) (σ':Store) (md':ASet) (h':Heap) (tk':Nat) (el:l.length = m) (e:s' = { s with heap:=h', toks:=tk' }) (k:T l vs' σ') (i:It md' h' it own l) (o:∀ a ∈ own, md' a ∧ σ' a = none ∧ s.heap.get? a = none) (c:Cx w H₀ S n A env stk ow md' σ' vs' h') (g:Go stk ow σ md s.heap σ' md' h')
section
variable {w:World} {H₀:Heap} {S:Fx} {n:Nat} {A:Around} {env:Env} {stk:List Env} {ow md md':ASet} {σ σ':Store} {vs:Slots} {s:Shared} {h h':Heap}
inductive IGo (w:World) (H₀:Heap) (S:Fx) (n:Nat) (A:Around) (env:Env) (stk:List Env) (ow md:ASet) (σ:Store) (s:Shared) (tt:Bool) (K:List PV → Slots → Store → Prop) (it:Value) (s₂:Shared):Prop
  | mk (l:List PV) (vs':Slots) (σ':Store) (md':ASet) (h':Heap) (tk:Nat) (own:List Addr) (e:s₂ = { s with heap:=h', toks:=tk }) (ht:own.length ≠ 1 → tt = true) (k:K l vs' σ') (i:It md' h' it own l) (o:∀ a ∈ own, md' a ∧ σ' a = none ∧ s.heap.get? a = none) (c:Cx w H₀ S n A env stk ow md' σ' vs' h') (g:Go stk ow σ md s.heap σ' md' h')
theorem IGo.el {w:World} {H₀:Heap} {S:Fx} {n:Nat} {A:Around} {env:Env} {stk:List Env} {ow md:ASet} {σ:Store} {s:Shared} {tt:Bool} {K:List PV → Slots → Store → Prop} {it:Value} {s₂:Shared} {P:Shared → Prop} (x:IGo w H₀ S n A env stk ow md σ s tt K it s₂)
    (k:∀ l vs' σ' md' h' tk own, (own.length ≠ 1 → tt = true) → K l vs' σ' → It md' h' it own l → (∀ a ∈ own, md' a ∧ σ' a = none ∧ s.heap.get? a = none) → Cx w H₀ S n A env stk ow md' σ' vs' h' → Go stk ow σ md s.heap σ' md' h' → P { s with heap:=h', toks:=tk }):P s₂:=by
  obtain ⟨l, vs', σ', md', h', tk, own, rfl, a, b, c, d, e, f⟩:=x
  exact k _ _ _ _ _ _ _ a b c d e f
structure EvI (w:World) (H₀:Heap) (S:Fx) (n:Nat) (tt:Bool) (iter:Expr) (vs:Slots) (σ:Store) (K:List PV → Slots → Store → Prop) (X:PExc → Slots → Store → Prop):Prop where
  run:∀ A env stk ow md s, Cx w H₀ S n A env stk ow md σ vs s.heap → wpAny (MD w) A (eval iter env) (fun x s₁ => wpAny (MD w) A (pyIter x) (IGo w H₀ S n A env stk ow md σ s tt K) (GEx w H₀ S n A env stk ow md σ s X) s₁) (GEx w H₀ S n A env stk ow md σ s X) s
noncomputable def PrimI (w:World) (H₀:Heap) (n:Nat) (tt:Bool) (args:List PV) (σ:Store) (t:List Value → Sem Value) (K:List PV → Prop):Prop :=
  ∀ A stk md s vals, Bx w H₀ n A stk md σ s.heap → RelL md s.heap vals args → wpAny (MD w) A (t vals) (fun x s₁ => wpAny (MD w) A (pyIter x) (fun it s₂ => ∃ l md' h' tk own, s₂ = { s with heap:=h', toks:=tk } ∧ (own.length ≠ 1 → tt = true) ∧ K l ∧ It md' h' it own l ∧
    (∀ a ∈ own, md' a ∧ σ a = none ∧ s.heap.get? a = none) ∧ Inv w H₀ stk md' σ h' ∧ Go stk (fun J => False) σ md s.heap σ md' h') (fun J J => False) s₁) (fun J J => False) s
theorem Inv.fresh (i:Inv w H₀ stk md σ h):σ h.objs.size = none:=by
  cases q:σ h.objs.size with
  | none => rfl
  | some m => exact absurd (i.sto _ m q).1 i.notmd
variable {tt:Bool} {K:List PV → Slots → Store → Prop} {X:PExc → Slots → Store → Prop}
theorem EvI.lst {e:Expr} (hh:EvE w H₀ S n e vs σ (fun q vs₁ σ₁ => ∃ l, q = .lst l ∧ K l vs₁ σ₁) X):EvI w H₀ S n tt e vs σ K X:=by
  refine ⟨fun A env stk ow md s c => ?_⟩
  refine hh.at c (fun J J e => e) fun v q vs₁ σ₁ md₁ h₁ tk k r c₁ kp₁ g₁ => ?_
  obtain ⟨l, rfl, k⟩:=k
  apply r.iLst; intro a vals nm hl r
  refine wpAny_pyIter_list (s:=⟨h₁, s.gens, s.drawn, tk, s.os⟩) hl.isList ?_
  have g:=(Go.pushmd (stk:=stk) (ow:=fun J => False) (σ:=σ₁) (md:=md₁) (h:=h₁) (o:={ cls:=.type "list_iterator", data:=.fields #[.ref a, .int 0 0] }))
  have i:=c₁.bx.inv.pushmd (o:={ cls:=.type "list_iterator", data:=.fields #[.ref a, .int 0 0] })
  have c₂:=c₁.step i g
  obtain ⟨nn, e⟩:=hl
  have kp:=c₁.kp (g.ow (ow':=ow) fun J q => q.elim)
  refine ⟨l, vs₁, σ₁, _, _, tk, [h₁.objs.size], rfl, fun q => absurd rfl q, k, .list (i:=0) ⟨_, Heap.get?_push_size _ rfl, rfl, rfl⟩ (kp.not e nm) ⟨nn, kp.keep _ _ nm e⟩ (by simpa using r.mono kp), fun b hb => ?_, c₂, g₁.trans (g.ow fun J q => q.elim)⟩
  simp at hb
  subst hb
  exact ⟨.inr rfl, c₁.bx.inv.fresh, g₁.st.gone (none_size _)⟩
theorem EvI.tup {e:Expr} (hh:EvE w H₀ S n e vs σ (fun q vs₁ σ₁ => ∃ l, q = .tup l ∧ K l vs₁ σ₁) X):EvI w H₀ S n tt e vs σ K X:=by
  refine ⟨fun A env stk ow md s c => ?_⟩
  refine hh.at c (fun J J e => e) fun v q vs₁ σ₁ md₁ h₁ tk k r c₁ kp₁ g₁ => ?_
  obtain ⟨l, rfl, k⟩:=k
  apply r.iTup; intro a vals nm hl r
  refine iter_tuple (s:=⟨h₁, s.gens, s.drawn, tk, s.os⟩) hl ?_
  have g:=(Go.pushmd (stk:=stk) (ow:=fun J => False) (σ:=σ₁) (md:=md₁) (h:=h₁) (o:={ cls:=.type "tuple_iterator", data:=.fields #[.ref a, .int 0 0] }))
  have i:=c₁.bx.inv.pushmd (o:={ cls:=.type "tuple_iterator", data:=.fields #[.ref a, .int 0 0] })
  have c₂:=c₁.step i g
  obtain ⟨o, e, rr⟩:=hl
  have kp:=c₁.kp (g.ow (ow':=ow) fun J q => q.elim)
  refine ⟨l, vs₁, σ₁, _, _, tk, [h₁.objs.size], rfl, fun q => absurd rfl q, k, .tup (i:=0) ⟨_, Heap.get?_push_size _ rfl, rfl, rfl⟩ (kp.not e nm) ⟨o, kp.keep _ _ nm e, rr⟩ (by simpa using r.mono kp), fun b hb => ?_, c₂, g₁.trans (g.ow fun J q => q.elim)⟩
  simp at hb
  subst hb
  exact ⟨.inr rfl, c₁.bx.inv.fresh, g₁.st.gone (none_size _)⟩
theorem EvI.call {f:Expr} {es:List Expr} {p:Pos} (he:∀ env, eval (.Call f es [] p) env = (do callWith p (← eval f env) [] (backTo p (starEach es env)) (backToKw p (keywordEach [] env))))
    (hp:∀ env, (backTo p (starEach es env)).any (·.1) = false)
    (hh:EvE w H₀ S n f vs σ (fun q vs₁ σ₁ => ∃ fv, q = .con fv ∧ Kept w fv ∧ EvL w H₀ S n es vs₁ σ₁ (fun l vs₂ σ₂ => PrimI w H₀ n tt l σ₂ (fun vals => PySem.call fv vals) (fun l => K l vs₂ σ₂)) X) X):EvI w H₀ S n tt (.Call f es [] p) vs σ K X:=by
  refine ⟨fun A env stk ow md s c => ?_⟩
  rw [he]
  refine wpAny_bind (hh.at c (fun J J e => e) fun v q vs₁ σ₁ md₁ h₁ tk k r c₁ kp₁ g₁ => ?_)
  obtain ⟨fv, rfl, hk, k⟩:=k
  obtain rfl:v = fv:=r.inv
  refine wpA_callWith (hp env) ((k p).at c₁ (fun J J e => e.lift g₁) fun lv l vs₂ σ₂ md₂ h₂ tk₂ k₂ r₂ c₂ kp₂ g₂ => ⟨hk _ (c₂.bx.inv.gl.X.keeps c₂.bx.inv.base), ?_⟩)
  refine wpAny_mono (k₂ A stk md₂ ⟨h₂, s.gens, s.drawn, tk₂, s.os⟩ lv c₂.bx r₂) (fun x s₁ q => wpAny_mono q (fun it s₂ q => ?_) fun J J f => f.elim) fun J J f => f.elim
  obtain ⟨l', md', h', tk', own, rfl, htt, k', hi, ho, inv, g⟩:=q
  exact ⟨l', vs₂, σ₂, md', h', tk', own, rfl, htt, k', hi, fun a m => ⟨(ho a m).1, (ho a m).2.1, (g₁.trans g₂).st.gone (ho a m).2.2⟩, c₂.step inv g, (g₁.trans g₂).trans (g.ow fun J q => q.elim)⟩
noncomputable def ForT (w:World) (H₀:Heap) (S:Fx) (n:Nat) (t:Expr) (body:List Stmt) (Kn:Slots → Store → Prop) (Kr:PV → Slots → Store → Prop) (X:PExc → Slots → Store → Prop):List PV → Slots → Store → Prop
  | [], vs, σ => Kn vs σ
  | p :: l, vs, σ => AsT w H₀ S n t p vs σ (fun vs₁ σ₁ => Bk w H₀ S n body vs₁ σ₁ (fun vs₂ σ₂ => ForT w H₀ S n t body Kn Kr X l vs₂ σ₂) Kr X) X
theorem noteFrame_eq {v:Value} {env e:Env} (q:env.frame = e.frame):noteFrame v env = noteFrame v e:=by
  unfold noteFrame PySem.frameOf
  rw [q]
theorem Cx.stepX {hs:Heap} {md₁ md₂:ASet} {h₁ h₂:Heap} {vs₁:Slots} {σ₁:Store} (c₀:∀ a, ow a ∨ (∃ x, env.cells.lookup x = some a) → ∃ o, hs.get? a = some o) (c:Cx w H₀ S n A env stk ow md₁ σ₁ vs₁ h₁) (i:Inv w H₀ stk md₂ σ₁ h₂) (x:Stp (isFr stk) (Xown md₁ σ₁ hs) NoTr md₁ h₁ md₂ h₂):Cx w H₀ S n A env stk ow md₂ σ₁ vs₁ h₂:=by
  have no:∀ a, (∃ o, hs.get? a = some o) → ¬ Xown md₁ σ₁ hs a:=fun a ⟨o, e⟩ q => by rw [q.2.1] at e; cases e
  exact ⟨c.bx.with i, c.head, c.loc.step x (fun J J q => q) (fun a q => no a (c₀ a (.inl q))) (fun a q => q.1) (fun y k e => ⟨no k (c₀ k (.inr ⟨y, e⟩)), c.cellfr y k e⟩) (fun a q => (c.bx.inv.frmd a q).1) fun a J e => e, c.owfr, c.cellfr⟩
theorem Cx.alive (c:Cx w H₀ S n A env stk ow md σ vs h):∀ a, ow a ∨ (∃ x, env.cells.lookup x = some a) → ∃ o, h.get? a = some o:=fun a q => by
  rcases q with q | ⟨x, q⟩
  · exact (c.loc.owmd a q).2.2
  · obtain ⟨_, _, _, ⟨o, e, _⟩, _⟩:=c.loc.cel x a q
    exact ⟨o, e⟩
theorem Go.transX {md₁ md₂:ASet} {h₁ h₂:Heap} {σ₁:Store} (g:Go stk ow σ md h σ₁ md₁ h₁) (x:Stp (isFr stk) (Xown md₁ σ₁ h) NoTr md₁ h₁ md₂ h₂):Go stk ow σ md h σ₁ md₂ h₂ :=
  ⟨g.st.trans x (fun a q => .inr q.2.1) fun a q => q.elim, g.d⟩
theorem GEx.noted (c:Cx w H₀ S n A env stk ow md σ vs s.heap) {X:PExc → Slots → Store → Prop} {v:Value} {s':Shared} {E:Value → Shared → Prop} (x:GEx w H₀ S n A env stk ow md σ s X v s') (hE:∀ v s', GEx w H₀ S n A env stk ow md σ s X v s' → E v s') :
    notedBy (MD w) A env (fun e s' => cameBackBy (MD w) A env E e s') v s':=by
  obtain ⟨pe, vs', σ', md', h', tk', rfl, k, c', g, st, hst, t⟩:=x
  obtain ⟨e, r, hs, hf⟩:=c'.head
  obtain ⟨a1, L, o, a2, a3⟩:=c'.bx.inv.ff e (by rw [hs]; exact .head _)
  unfold notedBy
  rw [noteFrame_eq hf.symm]
  have hA:A.frames = some (e :: r):=by rw [← hs]; exact c'.bx.frames
  rw [← hf, a2] at hst
  rw [hs] at t
  have inv:=c'.bx.inv
  rw [hs] at inv
  have alive:∀ a o, s.heap.get? a = some o → ∃ o', h'.get? a = some o':=g.st.alive
  refine wpA_note (s:=⟨h', s.gens, s.drawn, tk', s.os⟩) hA a2 inv t hst alive fun md'' h'' i'' st'' t'' => ?_
  unfold cameBackBy
  obtain ⟨ea, dx, oe, fs, rfl, he, hc, hdx, hd, hz, nd, ed, xa, T, oT, ts, b1, b2, b3, b4, b5, b6⟩:=id t''
  refine wpAny_bind (wpAny_field (s:=⟨h'', s.gens, s.drawn, tk', s.os⟩) he hd b1 ?_)
  refine (?_:wpAny _ _ (if (Value.ref T == Value.none) = true then _ else setFlight _ _) _ _ _)
  rw [if_neg (show ¬ (Value.ref T == Value.none) = true from by simp)]
  refine wpA_setFlight (s:=⟨h'', s.gens, s.drawn, tk', s.os⟩) (l':=env.frame) i'' t'' fun h₃ i₃ st₃ t₃ => ?_
  have st₄:=st''.transX st₃
  rw [← hs] at st₄ i₃ t₃
  exact hE _ _ ⟨pe, vs', σ', md'', h₃, tk', rfl, k, c'.stepX c.alive i₃ st₄, g.transX st₄, .flew env.frame, .inr (.inr rfl), t₃⟩
variable {Kn:Slots → Store → Prop} {Kr:PV → Slots → Store → Prop}
theorem St.for {t iter:Expr} {body:List Stmt} {p:Pos} (ht:TargetOk t = true) (hh:EvI w H₀ S n (isTupT t) iter vs σ (fun l vs₁ σ₁ => ForT w H₀ S n t body Kn Kr X l vs₁ σ₁) X)
    (hs:∀ env x, foldedSetIterable iter env x = pure x:=by intro _ _; rfl) (hN:4 ≤ n:=by first | exact Nat.le_add_left 4 _ | assumption):St w H₀ S n (.For t iter body [] p) vs σ Kn Kr X:=by
  refine ⟨fun A env stk ow md s c => ?_⟩
  refine wpAny_For (wpAny_mono (hh.run A env stk ow md s c) (fun x s₁ q => wpAny_mono q (fun it s₂ q => ?_) fun J J e => e) fun J J e => e) (hs env)
  obtain ⟨l, vs₁, σ₁, md₁, h₁, tk₁, own, rfl, htt, k, hi, ho, c₁, g₁⟩:=q
  refine codeAny_forLoop_any (FInv w H₀ S n A env stk ow md σ s (ForT w H₀ S n t body Kn Kr X) it own) ?_ l.length
    ⟨l, vs₁, σ₁, md₁, h₁, tk₁, rfl, rfl, k, hi, ho, c₁, g₁⟩
  rintro m s' ⟨l, vs', σ', md', h', tk', rfl, rfl, k, hi, ho, c', g'⟩
  have hE:∀ v s', GEx w H₀ S n A env stk ow md σ s X v s' → notedBy (MD w) A env (fun e s' => cameBackBy (MD w) A env (GEx w H₀ S n A env stk ow md σ s X) e s') v s':=fun v s' x => x.noted c fun J J e => e
  have nfr:∀ a ∈ own, ¬ isFr stk a:=fun a m q => by
    obtain ⟨o, e⟩:=c.bx.inv.al a (c.bx.inv.frmd a q).1
    rw [(ho a m).2.2] at e; cases e
  have now:∀ a ∈ own, ¬ ow a:=fun a m q => by
    obtain ⟨_, _, o, e⟩:=c.loc.owmd a q
    rw [(ho a m).2.2] at e; cases e
  have ncell:∀ x a, env.cells.lookup x = some a → a ∉ own:=fun x a e m => by
    obtain ⟨o, q⟩:=c.alive a (.inr ⟨x, e⟩)
    rw [(ho a m).2.2] at q; cases q
  cases l with
  | nil =>
    refine hi.stop (s:=⟨h', s.gens, s.drawn, tk', s.os⟩) (c'.bx.handled hN) fun h₂ tk₂ hk => ?_
    refine wpAny_execs_nil ?_
    have c₂:=c'.part (O:=fun a => a ∈ own) (σ':=σ') (h':=h₂) (fun a m => (ho a m).1) (fun a m => (ho a m).2.1) (fun a J => rfl) nfr now ncell hk
    have g₂:=g'.part (O:=fun a => a ∈ own) (σ':=σ') (h':=h₂) (fun a m => (ho a m).2.1) (fun a J => rfl) (fun a m => .inl (ho a m).2.2) (fun a m => .inl (ho a m).2.2) hk
    exact ⟨.next, vs', σ', _, h₂, tk₂, rfl, k, trivial, c₂, g₂⟩
  | cons p l =>
    refine wpAny_mono (hi.step (s:=⟨h', s.gens, s.drawn, tk', s.os⟩) (Q:=ItS md' h' it own l p s) ht (fun a m => (ho a m).1) c'.bx.inv.al htt fun v h₂ tk₂ a b d => ⟨h₂, tk₂, rfl, a, b, d⟩) (fun r s₂ q => ?_) hE
    obtain ⟨v, rfl, q⟩:=q
    refine wpAny_mono q (fun J s₃ q => ?_) hE
    obtain ⟨h₂, tk₂, rfl, r, hi₂, hk⟩:=q
    obtain ⟨c₂, st₂⟩:=c'.priv (O:=fun a => a ∈ own) (h':=h₂) (fun a q => ⟨(ho a q).1, (ho a q).2.1, nfr a q, now a q⟩) ncell hk hi₂.al
    have g₂:Go stk ow σ md s.heap σ' md' h₂:=⟨g'.st.trans st₂ (fun a z => .inr (ho a z).2.2) fun J q => q.elim, g'.d⟩
    refine wpAny_mono (k A env stk ow md' ⟨h₂, s.gens, s.drawn, tk₂, s.os⟩ v c₂ r) (fun J s₄ q => ?_) fun v s' e => hE v s' (GEx.lift (tk:=tk₂) g₂ e)
    obtain ⟨_, vs₃, σ₃, md₃, h₃, tk₃, rfl, k, _, c₃, g₃⟩:=q
    have g₃':=g₂.trans g₃
    have own₃:∀ {σ₄ md₄ h₄}, Go stk ow σ' md' h₂ σ₄ md₄ h₄ → (∀ a ∈ own, md₄ a ∧ σ₄ a = none ∧ s.heap.get? a = none) ∧ ∀ a ∈ own, ∀ o, h₂.get? a = some o → h₄.get? a = some o:=fun {σ₄ md₄ h₄} g => by
      refine ⟨fun a m => ?_, fun a m o e => g.st.keep a o (fun q => ?_) (nfr a m) e⟩
      · obtain ⟨o, e⟩:=hi₂.al a m
        refine ⟨g.st.grow a o (ho a m).1 (fun q => q (ho a m).2.1) e, ?_, (ho a m).2.2⟩
        cases q:σ₄ a with
        | none => rfl
        | some mo =>
          rcases g.d a (by rw [q]; exact fun z => nomatch z) with z | z
          · exact absurd (ho a m).2.1 z
          · rw [e] at z; cases z
      · rcases q with q | q
        · exact now a m q
        · exact q (ho a m).2.1
    refine wpAny_mono (k.run A env stk ow md₃ ⟨h₃, s.gens, s.drawn, tk₃, s.os⟩ c₃) (fun f s₅ q => ?_) fun v s' e => hE v s' (GEx.lift (tk:=tk₃) g₃' e)
    obtain ⟨pf, vs₄, σ₄, md₄, h₄, tk₄, rfl, k, rf, c₄, g₄⟩:=q
    have g₄':=g₃'.trans g₄
    have gg:=g₃.trans g₄
    cases pf with
    | next =>
      obtain ⟨o1, o2⟩:=own₃ gg
      cases f with
      | next => exact ⟨l.length, by simp, l, vs₄, σ₄, md₄, h₄, tk₄, rfl, rfl, k, hi₂.mono (c₂.kp gg) o2, o1, c₄, g₄'⟩
      | brk => exact rf.elim
      | cont => exact rf.elim
      | ret v => exact rf.elim
    | ret p =>
      cases f with
      | next => exact rf.elim
      | brk => exact rf.elim
      | cont => exact rf.elim
      | ret v => exact ⟨.ret p, vs₄, σ₄, md₄, h₄, tk₄, rfl, k, rf, c₄, g₄'⟩
end
noncomputable def relS (scope sc:Scope):Scope:={ scope with names:=scope.names.map fun (n, k) => if (k == .free && sc.kind == .function && sc.names.lookup n == some .cell) then (n, .cell) else (n, k) }
theorem relabel_eq (scope:Scope) (env:Env):relabel scope env = relS scope env.scope:=rfl
inductive CS (ns:List Str) (ks:List NameKind) (vs:Slots):List (Str × NameKind) → List Str → List NameKind → List Str → Slots → Prop
  | nil:CS ns ks vs [] [] [] [] []
  | loc {x:Str} {r:List (Str × NameKind)} {ns':List Str} {ks':List NameKind} {gs':List Str} {vs':Slots}:CS ns ks vs r ns' ks' gs' vs' → CS ns ks vs ((x, .local) :: r) (x :: ns') (.local :: ks') gs' (none :: vs')
  | cell {x:Str} {r:List (Str × NameKind)} {ns':List Str} {ks':List NameKind} {gs':List Str} {vs':Slots}:CS ns ks vs r ns' ks' gs' vs' → CS ns ks vs ((x, .cell) :: r) (x :: ns') (.cell :: ks') gs' (none :: vs')
  | glb {x:Str} {r:List (Str × NameKind)} {ns':List Str} {ks':List NameKind} {gs':List Str} {vs':Slots}:CS ns ks vs r ns' ks' gs' vs' → CS ns ks vs ((x, .globalImplicit) :: r) ns' ks' (x :: gs') vs'
  | freeC {x:Str} {pv:PV} {r:List (Str × NameKind)} {ns':List Str} {ks':List NameKind} {gs':List Str} {vs':Slots}:NAt ns ks vs x .cell pv → CS ns ks vs r ns' ks' gs' vs' → CS ns ks vs ((x, .free) :: r) (x :: ns') (.cell :: ks') gs' (some pv :: vs')
  | freeF {x:Str} {pv:PV} {r:List (Str × NameKind)} {ns':List Str} {ks':List NameKind} {gs':List Str} {vs':Slots}:NAt ns ks vs x .free pv → CS ns ks vs r ns' ks' gs' vs' → CS ns ks vs ((x, .free) :: r) (x :: ns') (.free :: ks') gs' (some pv :: vs')
theorem CS.sub {ns:List Str} {ks:List NameKind} {vs:Slots} {r:List (Str × NameKind)} {ns':List Str} {ks':List NameKind} {gs':List Str} {vs':Slots} (h:CS ns ks vs r ns' ks' gs' vs'):ns'.Sublist (r.map (·.1)):=by
  induction h with
  | nil => exact .slnil
  | loc _ ih => exact .cons_cons _ ih
  | cell _ ih => exact .cons_cons _ ih
  | glb _ ih => exact .cons _ ih
  | freeC _ _ ih => exact .cons_cons _ ih
  | freeF _ _ ih => exact .cons_cons _ ih
theorem CS.gsub {ns:List Str} {ks:List NameKind} {vs:Slots} {r:List (Str × NameKind)} {ns':List Str} {ks':List NameKind} {gs':List Str} {vs':Slots} (h:CS ns ks vs r ns' ks' gs' vs'):∀ g ∈ gs', (g, .globalImplicit) ∈ r:=by
  induction h with
  | nil => intro g q; cases q
  | loc _ ih => exact fun g q => .tail _ (ih g q)
  | cell _ ih => exact fun g q => .tail _ (ih g q)
  | glb _ ih => intro g q; cases q with | head => exact .head _ | tail _ q => exact .tail _ (ih g q)
  | freeC _ _ ih => exact fun g q => .tail _ (ih g q)
  | freeF _ _ ih => exact fun g q => .tail _ (ih g q)
theorem CS.at {ns:List Str} {ks:List NameKind} {vs:Slots} {r:List (Str × NameKind)} {ns':List Str} {ks':List NameKind} {gs':List Str} {vs':Slots} (h:CS ns ks vs r ns' ks' gs' vs'):∀ (i:Nat) (x:Str) (k:NameKind), ns'[i]? = some x → ks'[i]? = some k →
    ((x, k) ∈ r ∧ (k = .local ∨ k = .cell) ∧ vs'[i]? = some none) ∨ ((x, .free) ∈ r ∧ (k = .cell ∨ k = .free) ∧ ∃ pv, vs'[i]? = some (some pv) ∧ NAt ns ks vs x k pv):=by
  induction h with
  | nil => intro i x k e; simp at e
  | loc _ ih =>
    intro i x k e1 e2
    cases i with
    | zero => cases e1; cases e2; exact .inl ⟨.head _, .inl rfl, rfl⟩
    | succ i => exact (ih i x k e1 e2).imp (fun z => ⟨.tail _ z.1, z.2⟩) fun z => ⟨.tail _ z.1, z.2⟩
  | cell _ ih =>
    intro i x k e1 e2
    cases i with
    | zero => cases e1; cases e2; exact .inl ⟨.head _, .inr rfl, rfl⟩
    | succ i => exact (ih i x k e1 e2).imp (fun z => ⟨.tail _ z.1, z.2⟩) fun z => ⟨.tail _ z.1, z.2⟩
  | glb _ ih =>
    intro i x k e1 e2
    exact (ih i x k e1 e2).imp (fun z => ⟨.tail _ z.1, z.2⟩) fun z => ⟨.tail _ z.1, z.2⟩
  | freeC hn _ ih =>
    intro i x k e1 e2
    cases i with
    | zero => cases e1; cases e2; exact .inr ⟨.head _, .inl rfl, _, rfl, hn⟩
    | succ i => exact (ih i x k e1 e2).imp (fun z => ⟨.tail _ z.1, z.2⟩) fun z => ⟨.tail _ z.1, z.2⟩
  | freeF hn _ ih =>
    intro i x k e1 e2
    cases i with
    | zero => cases e1; cases e2; exact .inr ⟨.head _, .inr rfl, _, rfl, hn⟩
    | succ i => exact (ih i x k e1 e2).imp (fun z => ⟨.tail _ z.1, z.2⟩) fun z => ⟨.tail _ z.1, z.2⟩
theorem CS.len {ns:List Str} {ks:List NameKind} {vs:Slots} {r:List (Str × NameKind)} {ns':List Str} {ks':List NameKind} {gs':List Str} {vs':Slots} (h:CS ns ks vs r ns' ks' gs' vs'):ns'.length = ks'.length:=by
  induction h <;> simp_all
theorem CS.free {ns:List Str} {ks:List NameKind} {vs:Slots} {r:List (Str × NameKind)} {ns':List Str} {ks':List NameKind} {gs':List Str} {vs':Slots} (h:CS ns ks vs r ns' ks' gs' vs'):∀ x, (x, .free) ∈ r → ∃ k pv, (k = .cell ∨ k = .free) ∧ NAt ns ks vs x k pv:=by
  induction h with
  | nil => intro x q; cases q
  | loc _ ih => intro x q; cases q with | tail _ q => exact ih x q
  | cell _ ih => intro x q; cases q with | tail _ q => exact ih x q
  | glb _ ih => intro x q; cases q with | tail _ q => exact ih x q
  | freeC hn _ ih => intro x q; cases q with | head => exact ⟨_, _, .inl rfl, hn⟩ | tail _ q => exact ih x q
  | freeF hn _ ih => intro x q; cases q with | head => exact ⟨_, _, .inr rfl, hn⟩ | tail _ q => exact ih x q
section
variable {S:Fx} {ns oc:List Str} {ks:List NameKind} {gs:List Str} {vs vs':Slots} {scope:Scope} {ns':List Str} {ks':List NameKind} {gs' oc':List Str}
theorem NAt.kd {x:Str} {k:NameKind} {pv:PV} (G:S.Good ns oc ks gs) (h:NAt ns ks vs x k pv):S.sc.names.lookup x = some k:=by
  obtain ⟨i, a, b, _⟩:=h.at
  exact (G.nm i x k (by rw [G.ns]; exact a) b).1
theorem relS_key:(relS scope S.sc).names.map (·.1) = scope.names.map (·.1):=by
  unfold relS
  rw [List.map_map]
  congr 1
  funext ⟨n, k⟩
  simp only [Function.comp]
  split <;> rfl
theorem CS.good (G:S.Good ns oc ks gs) (h:CS ns ks vs scope.names ns' ks' gs' vs') (hk:scope.kind = .function) (hz:hnd ((scope.names.map (·.1) ++ special).map hs) = true):Fx.Good (.mk3 (relS scope S.sc) ns' oc') ns' oc' ks' gs':=by
  have nd:=hnd_sound hz
  rw [List.nodup_append] at nd
  obtain ⟨n1, n2, n3⟩:=nd
  have nl:((relS scope S.sc).names.map (·.1)).Nodup:=by rw [relS_key]; exact n1
  have mem:∀ x, x ∈ ns' → x ∈ scope.names.map (·.1):=fun x q => h.sub.subset q
  refine ⟨rfl, rfl, hk, h.sub.nodup n1, fun i x k e1 e2 => ⟨lookup_at ?_ nl, fun q => n3 x (mem x (List.mem_of_getElem? e1)) x q rfl⟩, fun j x e => ⟨lookup_at ?_ nl, fun q => ?_⟩, ?_⟩
  · rcases h.at i x k e1 e2 with ⟨a, b, _⟩ | ⟨a, b, pv, _, c⟩
    · refine List.mem_map.mpr ⟨(x, k), a, ?_⟩
      rcases b with rfl | rfl <;> rfl
    · refine List.mem_map.mpr ⟨(x, .free), a, ?_⟩
      have:=c.kd G
      rcases b with rfl | rfl
      · simp [G.kind, this]
      · simp [G.kind, this]
  · exact List.mem_map.mpr ⟨(x, .globalImplicit), h.gsub x (List.mem_of_getElem? e), rfl⟩
  · exact n3 x (List.mem_map.mpr ⟨_, h.gsub x (List.mem_of_getElem? e), rfl⟩) x q rfl
  · rw [List.all_eq_true]
    rintro ⟨y, k⟩ hy
    cases k <;> simp
    exact lookup_at hy nl
end
noncomputable def closOf (cs:List (Str × Addr)):List (Str × NameKind) → List (Str × Addr) → List (Str × Addr)
  | [], acc => acc
  | (x, k) :: r, acc => if k == .free then closOf cs r ((x, (cs.lookup x).getD 0) :: acc) else closOf cs r acc
theorem closureFor_eq {scope:Scope} {env:Env} (h:∀ x, (x, .free) ∈ scope.names → ∃ c, env.cells.lookup x = some c):closureFor scope env = pure (closOf env.cells scope.names []):=by
  simp only [closureFor]
  have key:∀ (l:List (Str × NameKind)) (acc:List (Str × Addr)), (∀ x, (x, .free) ∈ l → ∃ c, env.cells.lookup x = some c) →
      (forIn l acc fun x r => do
        if (x.2 == NameKind.free) = true then do
            let a ← cellOf env x.1
            pure (ForInStep.yield ((x.1, a) :: r))
          else pure (ForInStep.yield r):Sem _) = pure (closOf env.cells l acc):=by
    intro l
    induction l with
    | nil => intro acc _; rfl
    | cons p l ih =>
      obtain ⟨x, k⟩:=p
      intro acc hl
      rw [List.forIn_cons]
      unfold closOf
      by_cases hk:(k == NameKind.free) = true
      · obtain ⟨c, hc⟩:=hl x (by rw [beq_iff_eq.mp hk]; exact .head _)
        simp only [hk, if_true]
        have:cellOf env x = pure c:=by unfold cellOf; rw [hc]
        rw [this, hc]
        simp only [pure_bind]
        exact ih _ fun y hy => hl y (.tail _ hy)
      · simp only [hk]
        simp only [Bool.false_eq_true, if_false, pure_bind]
        exact ih _ fun y hy => hl y (.tail _ hy)
  rw [key scope.names [] h, pure_bind]
theorem closOf_mem {cs:List (Str × Addr)} {l:List (Str × NameKind)} {acc:List (Str × Addr)} {x:Str} {c:Addr} (h:(x, c) ∈ closOf cs l acc):(x, c) ∈ acc ∨ ((x, .free) ∈ l ∧ c = (cs.lookup x).getD 0):=by
  induction l generalizing acc with
  | nil =>
    exact .inl h
  | cons p r ih =>
    obtain ⟨y, k⟩:=p
    unfold closOf at h
    split at h
    · rename_i hk
      rcases ih h with h | ⟨h, e⟩
      · rcases List.mem_cons.mp h with q | h
        · cases q; exact .inr ⟨by rw [beq_iff_eq.mp hk]; exact .head _, rfl⟩
        · exact .inl h
      · exact .inr ⟨.tail _ h, e⟩
    · rcases ih h with h | ⟨h, e⟩
      · exact .inl h
      · exact .inr ⟨.tail _ h, e⟩
theorem closOf_has {cs:List (Str × Addr)} {l:List (Str × NameKind)} {acc:List (Str × Addr)} {x:Str} (h:(x, .free) ∈ l ∨ x ∈ acc.map (·.1)):x ∈ (closOf cs l acc).map (·.1):=by
  induction l generalizing acc with
  | nil =>
    rcases h with h | h; cases h; exact h
  | cons p r ih =>
    obtain ⟨y, k⟩:=p
    unfold closOf
    split
    · rename_i hk
      refine ih ?_
      rcases h with h | h
      · cases h with
        | head => exact .inr (by simp)
        | tail _ h => exact .inl h
      · exact .inr (by simp [h])
    · rename_i hk
      refine ih ?_
      rcases h with h | h
      · cases h with
        | head => exact absurd rfl hk
        | tail _ h => exact .inl h
      · exact .inr h
theorem cellsFrom_app {names:List (Str × NameKind)} {n:Nat} {a b:List (Str × Addr)}:cellsFrom n names (a ++ b) = cellsFrom n names a ++ b:=by
  induction names generalizing n a with
  | nil =>
    exact rfl
  | cons p r ih =>
    obtain ⟨x, k⟩:=p
    unfold cellsFrom
    split
    · exact ih (a:=(x, n) :: a)
    · exact ih
theorem mem_of_lookupK {l:List (Str × NameKind)} {x:Str} {k:NameKind} (h:l.lookup x = some k):(x, k) ∈ l:=mem_of_lookup h
noncomputable def cenvOf (scope:Scope) (C:Addr) (cl:List (Str × Addr)) (env:Env):Env :=
  { scope:=scope, locals:=C, globals:=env.globals, cells:=cellsFrom (C + 1) scope.names cl, qual:=env.qual, func:=none, code:=env.code, frame:=env.frame, builtins:=env.builtins }
theorem wpA_compEnv {M:Model} {A:Around} {E:Value → Shared → Prop} {s:Shared} {scope:Scope} {cl:List (Str × Addr)} {env:Env} {Q:Env → Shared → Prop}
    (hQ:∀ h', h'.Ns s.heap.objs.size (fun J => none) → (∀ b o, s.heap.get? b = some o → h'.get? b = some o) → CellsOk h' (s.heap.objs.size + 1) (cellsFrom (s.heap.objs.size + 1) scope.names []) → Q (cenvOf scope s.heap.objs.size cl env) { s with heap:=h' }) :
    wpAny M A (newFunctionEnv scope env.globals cl [] env.qual none .none (some env)) Q E s:=by
  simp only [newFunctionEnv, Option.isSome_some, if_true]
  refine wpAny_bind (wpAny_alloc ?_)
  refine wpAny_bind (wpAny_layCells _ (fun name kind cells => by cases hkc:kind == NameKind.cell <;> simp [hkc]) _ _ _ _ ?_)
  have ok:=cellsFrom_ok scope.names (s.heap.push { cls:=.type "dict", data:=.dict #[] }) (s.heap.objs.size + 1) [] ⟨fun J J hm => (nomatch hm), List.Pairwise.nil⟩ (by rw [Heap.size_push]; exact Nat.le_refl _)
  rw [Heap.size_push] at ok
  rw [show ({ s with heap:=s.heap.push { cls:=.type "dict", data:=.dict #[] } }:Shared).heap.objs.size = s.heap.objs.size + 1 from Heap.size_push ..]
  rw [List.forIn_nil]
  exact wpAny_bind (wpAny_pure (wpAny_pure (hQ _ ((Heap.Ns.new s.heap (.type "dict")).keeps (pushCells_keeps _ _)) (fun b o e => pushCells_keeps _ _ b o (Heap.get?_push_of_some _ e)) ok)))
noncomputable def ownC (C:Addr) (scope:Scope):ASet:=fun a => a = C ∨ ∃ x, (x, a) ∈ cellsFrom (C + 1) scope.names []
noncomputable def addM (md O:ASet):ASet:=fun a => md a ∨ O a
section
variable {w:World} {H₀:Heap} {S:Fx} {n:Nat} {A:Around} {env:Env} {stk:List Env} {ow md:ASet} {σ:Store} {vs vs':Slots} {h h':Heap} {ns oc:List Str} {ks:List NameKind} {gs:List Str} {scope:Scope} {ns' oc':List Str} {ks':List NameKind} {gs':List Str} {C:Addr}
noncomputable def inEnv (scope:Scope) (C:Addr) (env:Env):Env:={ cenvOf scope C (closOf env.cells scope.names []) env with scope:=relabel scope env }
theorem Kp.add {O:ASet} (hO:∀ a, O a → h.get? a = none) (k:∀ b o, h.get? b = some o → h'.get? b = some o):Kp md h (addM md O) h' :=
  ⟨fun a o J e => k a o e, fun a o e m => m.elim id fun q => by rw [hO a q] at e; cases e⟩
theorem Inv.add {O:ASet} (i:Inv w H₀ stk md σ h) (hO:∀ a, O a → h.get? a = none) (hO':∀ a, O a → ∃ o, h'.get? a = some o) (k:∀ b o, h.get? b = some o → h'.get? b = some o):Inv w H₀ stk (addM md O) σ h':=by
  have kp:Kp md h (addM md O) h':=.add hO k
  refine ⟨i.gl, fun b o e => k b o (i.base b o e), fun a m => m.elim (i.off a) fun q => ?_, fun a m => m.elim (fun m => ?_) (hO' a), fun a m e => ⟨.inl (i.sto a m e).1, (i.sto a m e).2.mono kp fun o q => k a o q⟩, fun e he => ?_, fun a f => ⟨.inl (i.frmd a f).1, (i.frmd a f).2⟩⟩
  · cases e:H₀.get? a with
    | none => rfl
    | some o => have:=i.base a o e; rw [hO a q] at this; cases this
  · obtain ⟨o, e⟩:=i.al a m; exact ⟨o, k a o e⟩
  · obtain ⟨a1, L, o, a2, a3, a4, a5⟩:=i.ff e he
    exact ⟨a1, L, o, a2, a3, k L o a4, a5⟩
theorem Go.add {O:ASet} (hO:∀ a, O a → h.get? a = none) (k:∀ b o, h.get? b = some o → h'.get? b = some o):Go stk ow σ md h σ (addM md O) h' :=
  ⟨⟨fun J J J J q => k _ _ q, fun J o J q => ⟨o.slots, k _ _ q⟩, fun J o q => ⟨o, k _ _ q⟩, fun J J m J J => .inl m, fun a o e m => m.elim id fun q => by rw [hO a q] at e; cases e⟩, fun J q => .inl q⟩
theorem Inv.nost (i:Inv w H₀ stk md σ h) {a:Addr} (e:h.get? a = none):σ a = none:=by
  cases q:σ a with
  | none => rfl
  | some m => obtain ⟨o, e'⟩:=i.al a (i.sto a m q).1; rw [e] at e'; cases e'
theorem Cx.inner (c:Cx w H₀ S n A env stk ow md σ vs h) (G:S.Good ns oc ks gs) (cs:CS ns ks vs scope.names ns' ks' gs' vs') (hk:scope.kind = .function) (hz:hnd ((scope.names.map (·.1) ++ special).map hs) = true)
    (hoc:∀ x ∈ oc', (x, .cell) ∈ scope.names) (hC:h.objs.size = C) (hn:h'.Ns C (fun J => none)) (k:∀ b o, h.get? b = some o → h'.get? b = some o) (ok:CellsOk h' (C + 1) (cellsFrom (C + 1) scope.names [])) :
    Cx w H₀ (.mk3 (relS scope S.sc) ns' oc') n A (inEnv scope C env) stk (ownC C scope) (addM md (ownC C scope)) σ vs' h' ∧ (∀ a, ownC C scope a → h.get? a = none):=by
  have nd:=hnd_sound hz
  rw [List.nodup_append] at nd
  obtain ⟨n1, _, _⟩:=nd
  have hge:∀ a, ownC C scope a → C ≤ a:=fun a q => by
    rcases q with rfl | ⟨x, q⟩
    · exact Nat.le_refl _
    · exact Nat.le_of_succ_le (ok.empty x a q).2
  have hO:∀ a, ownC C scope a → h.get? a = none:=fun a q => by
    cases e:h.get? a with
    | none => rfl
    | some o => exact absurd (Heap.lt_size e) (Nat.not_lt.mpr (hC ▸ hge a q))
  have hO':∀ a, ownC C scope a → ∃ o, h'.get? a = some o:=fun a q => by
    rcases q with rfl | ⟨x, q⟩
    · obtain ⟨o, _, _, e, _⟩:=hn; exact ⟨o, e⟩
    · obtain ⟨⟨o, e, _⟩, _⟩:=ok.empty x a q; exact ⟨o, e⟩
  have kp:Kp md h (addM md (ownC C scope)) h':=.add hO k
  have g:Go stk (fun J => False) σ md h σ (addM md (ownC C scope)) h':=.add hO k
  have inv:=c.bx.inv.add hO hO' k
  have G':=cs.good (oc':=oc') G hk hz
  have hsc:(inEnv scope C env).scope = relS scope S.sc:=by
    refine (?_:relabel scope env = _)
    rw [relabel_eq, c.loc.sc]
  have hcs:(inEnv scope C env).cells = cellsFrom (C + 1) scope.names [] ++ closOf env.cells scope.names []:=by
    refine (?_:cellsFrom (C + 1) scope.names (closOf env.cells scope.names []) = _)
    exact cellsFrom_app (a:=[])
  have hcell:∀ x, (x, .free) ∈ scope.names → ∃ a, env.cells.lookup x = some a:=fun x q => by
    obtain ⟨k, pv, hk, hna⟩:=cs.free x q
    exact c.loc.hasc x (by rw [hna.kd G]; rcases hk with rfl | rfl <;> simp)
  have ownk:∀ x a, (x, a) ∈ cellsFrom (C + 1) scope.names [] → (x, .cell) ∈ scope.names:=fun x a q => by
    rcases cellsFrom_only (List.mem_map.mpr ⟨_, q, rfl⟩) with q | q
    · exact q
    · cases q
  have clk:∀ x a, (x, a) ∈ closOf env.cells scope.names [] → (x, .free) ∈ scope.names ∧ env.cells.lookup x = some a:=fun x a q => by
    rcases closOf_mem q with q | ⟨q, e⟩
    · cases q
    · obtain ⟨b, hb⟩:=hcell x q
      rw [hb] at e
      exact ⟨q, by rw [hb, e]; rfl⟩
  have same:∀ x k₁ k₂, (x, k₁) ∈ scope.names → (x, k₂) ∈ scope.names → k₁ = k₂:=fun x k₁ k₂ q₁ q₂ => by
    have e1:=lookup_at q₁ n1
    have e2:=lookup_at q₂ n1
    rw [e1] at e2; cases e2; rfl
  have look:∀ x a, (inEnv scope C env).cells.lookup x = some a → (x, a) ∈ cellsFrom (C + 1) scope.names [] ∨ (x, a) ∈ closOf env.cells scope.names []:=fun x a q => by
    have:=mem_of_lookup q
    rw [hcs] at this
    exact List.mem_append.mp this
  have slot:∀ (i:Nat) (x:Str) (pv:PV), ns'[i]? = some x → vs'[i]? = some (some pv) → (x, .free) ∈ scope.names ∧ ∃ k, NAt ns ks vs x k pv:=fun i x pv e1 e2 => by
    have hi:i < ks'.length:=by rw [← cs.len]; exact (List.getElem?_eq_some_iff.mp e1).1
    rcases cs.at i x ks'[i] e1 (by simp [hi]) with ⟨_, _, q⟩ | ⟨a, _, pv', q, na⟩
    · rw [q] at e2; cases e2
    · rw [q] at e2; cases e2; exact ⟨a, _, na⟩
  refine ⟨⟨c.bx.with inv, ?_, ⟨hsc, c.loc.gl, c.loc.bl, ⟨_, hn, fun i x pv e1 e2 e3 => ?_⟩, .inl rfl, fun x a e => ?_, fun x a e => ?_, fun x e => ?_, fun x a hx e => ?_, ?_, fun a q => ⟨.inr q, c.bx.inv.nost (hO a q), hO' a q⟩⟩, fun a q z => ?_, fun x a e z => ?_⟩, hO⟩
  · obtain ⟨e, r, q1, q2⟩:=c.head
    exact ⟨e, r, q1, q2⟩
  · obtain ⟨a, k, na⟩:=slot i x pv e1 e2
    have:=(G'.nm i x _ e1 (List.getElem?_eq_getElem (by rw [← cs.len]; exact (List.getElem?_eq_some_iff.mp e1).1))).1
    have hfree:(relS scope S.sc).names.lookup x ≠ some .local:=by
      have e4:(x, if (NameKind.free == .free && S.sc.kind == .function && S.sc.names.lookup x == some .cell) then NameKind.cell else .free) ∈ (relS scope S.sc).names:=by
        refine List.mem_map.mpr ⟨(x, .free), a, ?_⟩
        dsimp only
        split <;> rfl
      have:=lookup_at e4 (by rw [relS_key]; exact n1)
      rw [this]
      split <;> simp
    exact absurd e3 hfree
  · rcases look x a e with q | q
    · have hoa:ownC C scope a:=.inr ⟨x, q⟩
      refine ⟨c.bx.inv.nost (hO a hoa), fun z => ?_, none, (ok.empty x a q).1, fun i pv e1 e2 => ?_⟩
      · have:=(ok.empty x a q).2
        have z:a = C:=z
        rw [z] at this; exact Nat.lt_irrefl _ this
      · obtain ⟨q', _⟩:=slot i x pv e1 e2
        cases same x _ _ (ownk x a q) q'
    · obtain ⟨q1, q2⟩:=clk x a q
      obtain ⟨a2, a3, v0, ⟨o, ho, hd⟩, f⟩:=c.loc.cel x a q2
      refine ⟨a2, fun z => ?_, v0, ⟨o, k a o ho, hd⟩, fun i pv e1 e2 => ?_⟩
      · have:=Heap.lt_size ho
        have z:a = C:=z
        rw [z, hC] at this; exact Nat.lt_irrefl _ this
      · obtain ⟨_, kd, na⟩:=slot i x pv e1 e2
        obtain ⟨j, b1, b2, b3⟩:=na.at
        obtain ⟨v, hv, hr⟩:=f j pv (by rw [G.ns]; exact b1) b3
        exact ⟨v, hv, hr.mono kp⟩
  · have mem:∀ kk, (x, kk) ∈ scope.names → kk = .cell ∨ kk = .free → (relS scope S.sc).names.lookup x = some .cell ∨ (relS scope S.sc).names.lookup x = some .free:=fun kk q hkk => by
      have e4:(x, if (kk == .free && S.sc.kind == .function && S.sc.names.lookup x == some .cell) then NameKind.cell else kk) ∈ (relS scope S.sc).names:=by
        refine List.mem_map.mpr ⟨(x, kk), q, ?_⟩
        dsimp only
        split <;> rfl
      have:=lookup_at e4 (by rw [relS_key]; exact n1)
      rw [this]
      split
      · exact .inl rfl
      · rcases hkk with rfl | rfl
        · exact .inl rfl
        · exact .inr rfl
    rcases look x a e with q | q
    · exact mem _ (ownk x a q) (.inl rfl)
    · exact mem _ (clk x a q).1 (.inr rfl)
  · -- a name with a cell has one
    have hx:(x, .cell) ∈ scope.names ∨ (x, .free) ∈ scope.names:=by
      have hx':(x, NameKind.cell) ∈ (relS scope S.sc).names ∨ (x, NameKind.free) ∈ (relS scope S.sc).names:=e.imp mem_of_lookupK mem_of_lookupK
      have back:∀ kk, (kk = NameKind.cell ∨ kk = .free) → (x, kk) ∈ (relS scope S.sc).names → (x, .cell) ∈ scope.names ∨ (x, .free) ∈ scope.names:=fun kk hkk q => by
        obtain ⟨⟨y, k₀⟩, q1, q2⟩:=List.mem_map.mp q
        dsimp only at q2
        split at q2
        · rename_i hc
          simp only [Bool.and_eq_true, beq_iff_eq] at hc
          cases q2
          rw [hc.1.1] at q1
          exact .inr q1
        · cases q2
          rcases hkk with rfl | rfl
          · exact .inl q1
          · exact .inr q1
      exact hx'.elim (back _ (.inl rfl)) (back _ (.inr rfl))
    rw [hcs]
    have:x ∈ (cellsFrom (C + 1) scope.names [] ++ closOf env.cells scope.names []).map (·.1):=by
      rw [List.map_append, List.mem_append]
      exact hx.imp (fun q => cellsFrom_has (.inl q)) fun q => closOf_has (.inl q)
    exact Option.isSome_iff_exists.mp (lookup_isSome_iff.mpr this)
  · rcases look x a e with q | q
    · exact .inr ⟨x, q⟩
    · cases same x _ _ (hoc x hx) (clk x a q).1
  · refine ⟨?_, trivial⟩
    rw [hcs]
    refine List.pairwise_append.mpr ⟨ok.apart, ?_, fun x hx y hy z => ?_⟩
    · -- the closure's cells lie apart
      have key:∀ (l:List (Str × NameKind)) (acc:List (Str × Addr)), (l.map (·.1)).Nodup → (∀ x, (x, .free) ∈ l → ∃ a, env.cells.lookup x = some a) → acc.Pairwise (fun x y => x.2 ≠ y.2) → (∀ x a, (x, a) ∈ acc → env.cells.lookup x = some a ∧ x ∉ l.map (·.1)) → (closOf env.cells l acc).Pairwise fun x y => x.2 ≠ y.2:=by
        intro l
        induction l with
        | nil => intro acc _ _ hp _; exact hp
        | cons p l ih =>
          obtain ⟨x, kd⟩:=p
          intro acc hnd hf hp ha
          rw [List.map_cons, List.nodup_cons] at hnd
          unfold closOf
          split
          · rename_i hkd
            obtain ⟨a, e⟩:=hf x (by rw [beq_iff_eq.mp hkd]; exact .head _)
            rw [e]
            refine ih _ hnd.2 (fun y q => hf y (.tail _ q)) (List.pairwise_cons.mpr ⟨fun y hy z => ?_, hp⟩) fun y b q => ?_
            · obtain ⟨q1, q2⟩:=ha y.1 y.2 hy
              have z:a = y.2:=z
              have:=name_of_addr c.loc.apart.1 (mem_of_lookup e) (z ▸ mem_of_lookup q1)
              exact q2 (by rw [this]; simp)
            · rcases List.mem_cons.mp q with q | q
              · cases q; exact ⟨e, hnd.1⟩
              · exact ⟨(ha y b q).1, fun z => (ha y b q).2 (by simp [z])⟩
          · exact ih _ hnd.2 (fun y q => hf y (.tail _ q)) hp fun y b q => ⟨(ha y b q).1, fun z => (ha y b q).2 (by simp [z])⟩
      exact key scope.names [] n1 hcell .nil (fun x a q => by cases q)
    · obtain ⟨x, a⟩:=x
      obtain ⟨y, b⟩:=y
      have z:a = b:=z
      obtain ⟨_, q⟩:=clk y b hy
      obtain ⟨_, _, _, ⟨o, ho, _⟩, _⟩:=c.loc.cel y b q
      have:=hO a (.inr ⟨x, hx⟩)
      rw [z, ho] at this; cases this
  · obtain ⟨en, he, hf⟩:=z
    obtain ⟨o, e⟩:=c.bx.inv.al a (c.bx.inv.frmd a ⟨en, List.mem_of_mem_tail he, hf⟩).1
    rw [hO a q] at e; cases e
  · rcases look x a e with q | q
    · obtain ⟨o, e'⟩:=c.bx.inv.al a (c.bx.inv.frmd a z).1
      rw [hO a (.inr ⟨x, q⟩)] at e'; cases e'
    · exact c.cellfr x a (clk x a q).2 z
end
section
variable {prog:Program} {w:World} {A:Around} {R:Result → Shared → Prop}
theorem compLoop_go {elt target iter:Expr} {ifs:List Expr} {scope:Scope} {pos:Pos} {it acc:Value} {env:Env} (I:Nat → Shared → Prop)
    (turn:∀ n s, I n s → wpAny (model prog w) A (pyNext it) (fun r s₁ => match r with
      | none => R (.ok .next) s₁
      | some v => wpAny (model prog w) A (letOwnedTupleGo target it v) (fun J s₁' => wpAny (model prog w) A (assign target env v) (fun J s₂ =>
          wpAny (model prog w) A (forIn ifs true fun c r => if r = true then do let ok ← isTrue c env (eval c env); pure (ForInStep.yield ok) else pure (ForInStep.yield r)) (fun ok s₃ =>
            if ok = true then wpAny (model prog w) A (eval elt env) (fun x s₄ =>
              wpAny (model prog w) A (call (.builtin "list.append") [acc, x]) (fun J s₅ => ∃ m, m < n ∧ I m s₅) (notedBy (model prog w) A env fun e s' => R (.error e) s') s₄) (notedBy (model prog w) A env fun e s' => R (.error e) s') s₃
            else ∃ m, m < n ∧ I m s₃) (notedBy (model prog w) A env fun e s' => R (.error e) s') s₂) (notedBy (model prog w) A env fun e s' => R (.error e) s') s₁') (notedBy (model prog w) A env fun e s' => R (.error e) s') s₁) (notedBy (model prog w) A env fun e s' => R (.error e) s') s)
    (n:Nat) {s:Shared} (h:I n s):codeAny (model prog w) A (.compLoop (.ListComp elt [⟨target, iter, ifs, 0⟩] scope pos) 0 it acc env) R s:=by
  refine codeAny_loop rfl I (fun n s hI => ?_) n h
  refine (?_:wpAny _ A ((compTurn (.ListComp elt [⟨target, iter, ifs, 0⟩] scope pos) 0 it acc env).onRaise (fun x => do noteFrame x env; theTreesLotGoes x)) _ _ s)
  refine wpAny_noted ?_
  rw [compTurn_list]
  refine wpAny_bind (wpAny_standAt (wpAny_bind (wpAny_mono (turn n s hI) (fun r s₁ h₁ => ?_) fun J J h' => h')))
  cases r with
  | none => exact wpAny_pure h₁
  | some v =>
    refine wpAny_bind (wpAny_mono h₁ (fun J s₁' h₁' => ?_) fun J J h' => h')
    refine wpAny_bind (wpAny_mono h₁' (fun J s₂ h₂ => wpAny_bind (wpAny_mono h₂ (fun ok s₃ h₃ => ?_) fun J J h' => h')) fun J J h' => h')
    cases ok with
    | false => exact wpAny_pure ⟨rfl, h₃⟩
    | true =>
      exact wpAny_bind (wpAny_bind (wpAny_mono h₃ (fun x s₄ h₄ => wpAny_bind (wpAny_mono h₄ (fun J s₅ h₅ => wpAny_pure (wpAny_pure ⟨rfl, h₅⟩)) fun J J h' => h')) fun J J h' => h'))
end
noncomputable def NoX:PExc → Slots → Store → Prop:=fun J J J => False
noncomputable def IfsT (w:World) (H₀:Heap) (S:Fx) (n:Nat):List Expr → Slots → Store → (Bool → Slots → Store → Prop) → Prop
  | [], vs, σ, K => K true vs σ
  | [c], vs, σ, K => EvT w H₀ S n c vs σ K NoX
  | _, _, _, _ => False
noncomputable def CompT (w:World) (H₀:Heap) (S:Fx) (n:Nat) (t:Expr) (ifs:List Expr) (elt:Expr) (K:List PV → Store → Prop):List PV → List PV → Slots → Store → Prop
  | [], acc, vs, σ => K acc σ
  | p :: l, acc, vs, σ => AsT w H₀ S n t p vs σ (fun vs₁ σ₁ => IfsT w H₀ S n ifs vs₁ σ₁ fun b vs₂ σ₂ => if b = true then EvE w H₀ S n elt vs₂ σ₂ (fun q vs₃ σ₃ => acc.length < 1000 ∧ CompT w H₀ S n t ifs elt K l (acc ++ [q]) vs₃ σ₃) NoX else CompT w H₀ S n t ifs elt K l acc vs₂ σ₂) NoX
section
variable {w:World} {H₀:Heap} {S:Fx} {n:Nat} {A:Around} {env:Env} {stk:List Env} {ow md md':ASet} {σ σ':Store} {vs:Slots} {s:Shared} {h h':Heap}
theorem GEx.no {v:Value} {s':Shared} {P:Prop} (x:GEx w H₀ S n A env stk ow md σ s NoX v s'):P:=by
  obtain ⟨pe, vs', σ', md', h', tk', rfl, k, _⟩:=x
  exact k.elim
theorem IfsT.go {ifs:List Expr} {K:Bool → Slots → Store → Prop} {E:Value → Shared → Prop} (k:IfsT w H₀ S n ifs vs σ K) (c:Cx w H₀ S n A env stk ow md σ vs s.heap) :
    wpAny (MD w) A (forIn ifs true fun c r => if r = true then do let ok ← isTrue c env (eval c env); pure (ForInStep.yield ok) else pure (ForInStep.yield r)) (GOk EqR w H₀ S n A env stk ow md σ s K) E s:=by
  match ifs, k with
  | [], k => exact wpAny_tests_nil (.here (tk:=s.toks) c k rfl)
  | [e], k => exact wpAny_tests_one (wpAny_mono (k.run A env stk ow md s c) (fun J J x => x) fun J J x => x.no)
inductive FreeOk (ns:List Str) (ks:List NameKind):List (Str × NameKind) → Prop
  | nil:FreeOk ns ks []
  | loc {x:Str} {r:List (Str × NameKind)}:FreeOk ns ks r → FreeOk ns ks ((x, .local) :: r)
  | cell {x:Str} {r:List (Str × NameKind)}:FreeOk ns ks r → FreeOk ns ks ((x, .cell) :: r)
  | glb {x:Str} {r:List (Str × NameKind)}:FreeOk ns ks r → FreeOk ns ks ((x, .globalImplicit) :: r)
  | freeC {x:Str} {i:Nat} {r:List (Str × NameKind)}:KAt ns ks x .cell i → FreeOk ns ks r → FreeOk ns ks ((x, .free) :: r)
  | freeF {x:Str} {i:Nat} {r:List (Str × NameKind)}:KAt ns ks x .free i → FreeOk ns ks r → FreeOk ns ks ((x, .free) :: r)
theorem FreeOk.at {ns:List Str} {ks:List NameKind} {r:List (Str × NameKind)} (h:FreeOk ns ks r):∀ x, (x, .free) ∈ r → ∃ k i, (k = .cell ∨ k = .free) ∧ KAt ns ks x k i:=by
  induction h with
  | nil => intro x q; cases q
  | loc _ ih => intro x q; cases q with | tail _ q => exact ih x q
  | cell _ ih => intro x q; cases q with | tail _ q => exact ih x q
  | glb _ ih => intro x q; cases q with | tail _ q => exact ih x q
  | freeC hn _ ih => intro x q; cases q with | head => exact ⟨_, _, .inl rfl, hn⟩ | tail _ q => exact ih x q
  | freeF hn _ ih => intro x q; cases q with | head => exact ⟨_, _, .inr rfl, hn⟩ | tail _ q => exact ih x q
structure CEnd (w:World) (H₀:Heap) (S:Fx) (n:Nat) (A:Around) (env:Env) (stk:List Env) (ow md:ASet) (σ:Store) (h:Heap) (D C:Addr) (acc:List PV) (vals:List Value) (vs₁:Slots) (σ₂:Store) (md₂:ASet) (h₂:Heap) (m:Str → Option Value):Prop where
  cx:Cx w H₀ S n A env stk ow md₂ σ₂ vs₁ h₂
  go:Go stk ow σ md h σ₂ md₂ h₂
  D₀:h.get? D = none
  C₀:h.get? C = none
  DC:D ≠ C
  Dm:md₂ D
  Cm:md₂ C
  Dσ:σ₂ D = none
  Cσ:σ₂ C = none
  list:h₂.PlainList D vals.toArray
  rel:RelL md₂ h₂ vals acc
  ns:h₂.Ns C m
  sz:vals.length ≤ 1000
inductive CInv (w:World) (H₀:Heap) (S':Fx) (n:Nat) (A:Around) (env':Env) (stk:List Env) (oC md₁:ASet) (σ₁:Store) (h₁:Heap) (s:Shared) (T:List PV → List PV → Slots → Store → Prop) (it:Value) (own:List Addr) (D C:Addr) (m:Nat) (s':Shared):Prop
  | mk (l acc:List PV) (vals:List Value) (vs':Slots) (σ':Store) (md':ASet) (h':Heap) (tk':Nat) (el:l.length = m) (es:s' = ⟨h', s.gens, s.drawn, tk', s.os⟩) (k:T l acc vs' σ') (hi:It md' h' it own l) (ho:∀ a ∈ own, md' a ∧ σ' a = none) (hl:h'.PlainList D (List.toArray vals)) (hr:RelL md' h' vals acc)
    (hz:acc.length ≤ 1000) (hD:md' D ∧ σ' D = none) (hC:md' C ∧ σ' C = none) (c:Cx w H₀ S' n A env' stk oC md' σ' vs' h') (g:Go stk (fun a => a ∈ own) σ₁ md₁ h₁ σ' md' h')
variable {ns oc:List Str} {ks:List NameKind} {gs:List Str}
theorem comp_core {elt t iter:Expr} {ifs:List Expr} {scope:Scope} {pos pos':Pos} {oc':List Str} {use:Option (Value → Sem Unit)} {Q:Value → Shared → Prop} {KC:List PV → Slots → Store → Prop} {X:PExc → Slots → Store → Prop}
    (hN:4 ≤ n) (ht:TargetOk t = true) (G:S.Good ns oc ks gs) (hf:FreeOk ns ks scope.names) (hk:scope.kind = .function) (hz:hnd ((scope.names.map (·.1) ++ special).map hs) = true) (hoc:∀ x ∈ oc', (x, .cell) ∈ scope.names)
    (hI:EvI w H₀ S n (isTupT t) iter vs σ (fun l vs₁ σ₁ => ∃ ns' ks' gs' vs', CS ns ks vs₁ scope.names ns' ks' gs' vs' ∧ ∀ S':Fx, S'.Good ns' oc' ks' gs' → CompT w H₀ S' n t ifs elt (fun acc σ₂ => KC acc vs₁ σ₂) l [] vs' σ₁) X)
    (hs:∀ x, foldedSetIterable iter env x = pure x) (c:Cx w H₀ S n A env stk ow md σ vs s.heap)
    (hQ:∀ D C acc vals vs₁ σ₂ md₂ h₂ tk m, KC acc vs₁ σ₂ → CEnd w H₀ S n A env stk ow md σ s.heap D C acc vals vs₁ σ₂ md₂ h₂ m → compPost (MD w) A (GEx w H₀ S n A env stk ow md σ s X) use Q (.ref D) C (.ok .next) { s with heap:=h₂, toks:=tk }) :
    wpAny (MD w) A (comprehension (.ListComp elt [⟨t, iter, ifs, 0⟩] scope pos) scope env pos' (newList []) false (eval iter env) use) Q (GEx w H₀ S n A env stk ow md σ s X) s:=by
  have nd:=hnd_sound hz
  rw [List.nodup_append] at nd
  obtain ⟨n1, _, _⟩:=nd
  have hcl:∀ x, (x, .free) ∈ scope.names → ∃ a, env.cells.lookup x = some a:=fun x q => by
    obtain ⟨kd, i, hkd, hka⟩:=hf.at x q
    have:=(G.nm i x kd (by rw [G.ns]; exact hka.at.1) hka.at.2).1
    exact c.loc.hasc x (by rw [this]; rcases hkd with rfl | rfl <;> simp)
  refine wpAny_comprehension_free (use:=use) rfl hs (closureFor_eq hcl) hk (fun x hx hl => lookup_at (by rw [← hl]; exact hx) n1) ?_
  refine wpAny_mono (hI.run A env stk ow md s c) (fun x s₁ q => wpAny_mono q (fun it s₂ q => ?_) fun J J e => e) fun J J e => e
  apply q.el; intro l vs₁ σ₁ md₁ h₁ tk₁ own htt w9 hi ho c₁ g₁
  obtain ⟨ns', ks', gs', vs', cs, k⟩:=w9
  refine wpAny_newObj_type ?_
  refine wpA_compEnv (s:=⟨h₁.push _, s.gens, s.drawn, tk₁, s.os⟩) fun h₂ hn₂ k₂ ok₂ => ?_
  dsimp only at hn₂ k₂ ok₂
  generalize hoD:({ cls:=Value.type "list", dict:=none, data:=.seq ([]:List Value).toArray }:Obj) = oD at hn₂ k₂ ok₂
  have hoDf:oD.isFreed = false:=by rw [← hoD]; rfl
  obtain ⟨C, hC⟩:∃ C, C = (h₁.push oD).objs.size:=⟨_, rfl⟩
  obtain ⟨D, hD⟩:∃ D, D = h₁.objs.size:=⟨_, rfl⟩
  rw [← hC] at hn₂ ok₂
  have DC:D ≠ C:=by rw [hC, hD, Heap.size_push]; exact Nat.ne_of_lt (Nat.lt_succ_self _)
  have gD:Go stk (fun J => False) σ₁ md₁ h₁ σ₁ (adj md₁ h₁.objs.size) (h₁.push oD):=.pushmd
  have c₁D:=c₁.step (c₁.bx.inv.pushmd hoDf) gD
  obtain ⟨cI, hfr⟩:=c₁D.inner (oc':=oc') G cs hk hz hoc hC.symm hn₂ k₂ ok₂
  have GI:=cs.good (oc':=oc') G hk hz
  have k:=k _ GI
  generalize hS':(.mk3 (relS scope S.sc) ns' oc':Fx) = S' at cI k GI
  generalize hmI:addM (adj md₁ h₁.objs.size) (ownC C scope) = mdI at cI
  have gI:Go stk (fun J => False) σ₁ (adj md₁ h₁.objs.size) (h₁.push oD) σ₁ mdI h₂:=by rw [← hmI]; exact .add hfr k₂
  have g₂:Go stk (fun J => False) σ₁ md₁ h₁ σ₁ mdI h₂:=gD.trans gI
  have old:∀ b o, h₁.get? b = some o → h₂.get? b = some o:=fun b o e => k₂ b o (Heap.get?_push_of_some _ e)
  have hDn:h₁.get? D = none:=by rw [hD]; exact none_size _
  have hCn:h₁.get? C = none:=by
    have:(h₁.push oD).get? C = none:=by rw [hC]; exact none_size _
    cases e:h₁.get? C with
    | none => rfl
    | some o => rw [Heap.get?_push_of_some _ e] at this; cases this
  have hDg:h₂.get? D = some oD:=by rw [hD]; exact k₂ _ _ (Heap.get?_push_size _ hoDf)
  have hDm:mdI D:=by rw [← hmI, hD]; exact .inl (.inr rfl)
  have hCm:mdI C:=by rw [← hmI]; exact .inr (.inl rfl)
  have hDo:¬ ownC C scope D:=fun q => by
    have:=hfr D q
    rw [hD, Heap.get?_push_size _ hoDf] at this; cases this
  have hoo:∀ a ∈ own, ¬ ownC C scope a:=fun a m q => by
    obtain ⟨o, e⟩:=hi.al a m
    have:=hfr a q
    rw [Heap.get?_push_of_some _ e] at this; cases this
  have hoD':D ∉ own:=fun m => by obtain ⟨o, e⟩:=hi.al D m; rw [hDn] at e; cases e
  have hoC':C ∉ own:=fun m => hoo C m (.inl rfl)
  have nfr:∀ a, s.heap.get? a = none → ¬ isFr stk a:=fun a e q => by
    obtain ⟨o, e'⟩:=c.bx.inv.al a (c.bx.inv.frmd a q).1
    rw [e] at e'; cases e'
  have now:∀ a, s.heap.get? a = none → ¬ ow a:=fun a e q => by
    obtain ⟨_, _, o, e'⟩:=c.loc.owmd a q
    rw [e] at e'; cases e'
  have ncell:∀ x a, env.cells.lookup x = some a → s.heap.get? a ≠ none:=fun x a q e => by
    obtain ⟨o, e'⟩:=c.alive a (.inr ⟨x, q⟩)
    rw [e] at e'; cases e'
  have hD0:s.heap.get? D = none:=g₁.st.gone hDn
  have hC0:s.heap.get? C = none:=g₁.st.gone hCn
  have icell:∀ x a, (inEnv scope C env).cells.lookup x = some a → ownC C scope a ∨ s.heap.get? a ≠ none:=fun x a q => by
    have q:=mem_of_lookup q
    have e:(inEnv scope C env).cells = cellsFrom (C + 1) scope.names [] ++ closOf env.cells scope.names []:=cellsFrom_app (a:=[])
    rw [e, List.mem_append] at q
    rcases q with q | q
    · exact .inl (.inr ⟨x, q⟩)
    · rcases closOf_mem q with q | ⟨q, e⟩
      · cases q
      · obtain ⟨b, hb⟩:=hcl x q
        rw [hb] at e
        have e:a = b:=e
        exact .inr (ncell x a (by rw [e]; exact hb))
  have loop:codeAny (MD w) A (.compLoop (.ListComp elt [⟨t, iter, ifs, 0⟩] scope pos) 0 it (.ref D) (inEnv scope C env)) (compPost (MD w) A (GEx w H₀ S n A env stk ow md σ s X) use Q (.ref D) C) ⟨h₂, s.gens, s.drawn, tk₁, s.os⟩:=by
    have hi₂:It mdI h₂ it own l:=hi.mono (c₁.kp (g₂.ow fun J q => q.elim)) fun a J o e => old a o e
    refine compLoop_go (CInv w H₀ S' n A (inEnv scope C env) stk (ownC C scope) md₁ σ₁ h₁ s (CompT w H₀ S' n t ifs elt (fun acc σ₂ => KC acc vs₁ σ₂)) it own D C) ?_ l.length
      ⟨l, [], [], vs', σ₁, mdI, h₂, tk₁, rfl, rfl, k, hi₂, fun a m => ⟨?_, (ho a m).2.1⟩, ⟨_, by rw [hDg, ← hoD]⟩, .nil, Nat.zero_le _, ⟨hDm, c₁.bx.inv.nost hDn⟩, ⟨hCm, c₁.bx.inv.nost hCn⟩, cI, g₂.ow fun J q => q.elim⟩
    rotate_left
    · obtain ⟨o, e⟩:=hi.al a m
      exact g₂.st.grow a o (ho a m).1 (fun q => q (ho a m).2.1) e
    rintro m s' ⟨l, acc, vals, vs', σ', md', h', tk', rfl, rfl, k, hi, hown, hl, hr, hsz, hD', hC', c', g'⟩
    have iown:∀ x a, (inEnv scope C env).cells.lookup x = some a → a ∉ own:=fun x a e q => (icell x a e).elim (hoo a q) fun z => z (ho a q).2.2
    have iD:∀ x a, (inEnv scope C env).cells.lookup x = some a → a ≠ D:=fun x a e q => (icell x a e).elim (fun z => hDo (q ▸ z)) fun z => z (q ▸ hD0)
    have g₀:Go stk ow σ md s.heap σ' md' h':=⟨g₁.st.trans g'.st (fun a q => q.elim (fun q => .inr (ho a q).2.2) fun q => (g₁.d a q).imp (fun q => .inr q) id) g₁.d, fun a q => (g'.d a q).elim (g₁.d a) fun q => .inr (g₁.st.gone q)⟩
    cases l with
    | nil =>
      refine hi.stop (s:=⟨h', s.gens, s.drawn, tk', s.os⟩) (c'.bx.handled hN) fun h₃ tk₃ hk => ?_
      have hσn:∀ a, (∃ o, h₁.get? a = some o) → σ₁ a = none → σ' a = none:=fun a ⟨o, e⟩ e1 => by
        cases q:σ' a with
        | none => rfl
        | some mo =>
          rcases g'.d a (by rw [q]; exact fun z => nomatch z) with z | z
          · exact absurd e1 z
          · rw [e] at z; cases z
      have co:Cx w H₀ S n A env stk ow md' σ' vs₁ h':=⟨c₁.bx.with c'.bx.inv, c₁.head, c₁.loc.step g'.st (fun a e q => q e) (fun a q z => z.elim (fun z => now a (ho a z).2.2 q) fun z => z (c₁.loc.owmd a q).2.1) (fun a z => z.elim (fun z => (ho a z).1) (c₁.bx.inv.dm a))
        (fun y a e => ⟨fun z => z.elim (fun z => ncell y a e (ho a z).2.2) fun z => z (c₁.loc.cel y a e).1, c₁.cellfr y a e⟩) (fun a q => (c₁.bx.inv.frmd a q).1) hσn, c₁.owfr, c₁.cellfr⟩
      have c₃:=co.part (O:=fun a => a ∈ own) (σ':=σ') (h':=h₃) (fun a m => (hown a m).1) (fun a m => (hown a m).2) (fun a J => rfl) (fun a m => nfr a (ho a m).2.2) (fun a m => now a (ho a m).2.2) (fun x a e m => ncell x a e (ho a m).2.2) hk
      have g₃:=g₀.part (O:=fun a => a ∈ own) (σ':=σ') (h':=h₃) (fun a m => (hown a m).2) (fun a J => rfl) (fun a m => .inl (ho a m).2.2) (fun a m => .inl (ho a m).2.2) hk
      have kp:Kp md' h' (rem md' fun a => a ∈ own) h₃:=⟨fun a o nm e => hk a o (fun q => nm (hown a q).1) e, fun J J J m => m.1⟩
      obtain ⟨mm, hn', _⟩:=c'.loc.ns
      exact hQ D C acc vals vs₁ σ' _ h₃ tk₃ mm k ⟨c₃, g₃, hD0, hC0, DC, ⟨hD'.1, hoD'⟩, ⟨hC'.1, hoC'⟩, hD'.2, hC'.2, hl.at fun o e => hk D o hoD' e, hr.mono kp, hn'.at' fun o e => hk C o hoC' e, by rw [hr.length]; exact hsz⟩
    | cons p l =>
      refine wpAny_mono (hi.step (s:=⟨h', s.gens, s.drawn, tk', s.os⟩) (Q:=ItS md' h' it own l p s) (E:=fun J J => False) ht (fun a m => (hown a m).1) c'.bx.inv.al htt fun v h₂ tk₂ a b d => ⟨h₂, tk₂, rfl, a, b, d⟩) (fun r s₂ q => ?_) fun J J f => f.elim
      obtain ⟨v, rfl, q⟩:=q
      refine wpAny_mono q (fun J s₃ q => ?_) fun J J f => f.elim
      obtain ⟨h₃, tk₃, rfl, r, hi₃, hk⟩:=q
      obtain ⟨c₃, st₃⟩:=c'.priv (O:=fun a => a ∈ own) (h':=h₃) (fun a q => ⟨(hown a q).1, (hown a q).2, nfr a (ho a q).2.2, hoo a q⟩) iown hk hi₃.al
      have g₃:Go stk (fun a => a ∈ own) σ₁ md₁ h₁ σ' md' h₃:=⟨g'.st.trans st₃ (fun a q => .inl (.inl q)) fun J q => q.elim, g'.d⟩
      have hl₃:h₃.PlainList D vals.toArray:=hl.at fun o e => hk D o hoD' e
      have kp₃:Kp md' h' md' h₃:=⟨fun a o nm e => hk a o (fun q => nm (hown a q).1) e, fun J J J m => m⟩
      have hr₃:=hr.mono kp₃
      have step:∀ {σ₄ md₄ h₄}, Go stk (ownC C scope) σ' md' h₃ σ₄ md₄ h₄ → (∀ a ∈ own, md₄ a ∧ σ₄ a = none) ∧ (∀ a ∈ own, ∀ o, h₃.get? a = some o → h₄.get? a = some o) ∧ (md₄ D ∧ σ₄ D = none) ∧ (∀ o, h₃.get? D = some o → h₄.get? D = some o) ∧ (md₄ C ∧ σ₄ C = none):=fun {σ₄ md₄ h₄} g => by
        have one:∀ a, md' a ∧ σ' a = none → (∃ o, h₃.get? a = some o) → md₄ a ∧ σ₄ a = none:=fun a ⟨q1, q2⟩ ⟨o, e⟩ => by
          refine ⟨g.st.grow a o q1 (fun q => q q2) e, ?_⟩
          cases q:σ₄ a with
          | none => rfl
          | some mo =>
            rcases g.d a (by rw [q]; exact fun z => nomatch z) with z | z
            · exact absurd q2 z
            · rw [e] at z; cases z
        have two:∀ a, σ' a = none → ¬ ownC C scope a → s.heap.get? a = none → ∀ o, h₃.get? a = some o → h₄.get? a = some o:=fun a q1 q2 q3 o e => g.st.keep a o (fun q => q.elim q2 fun q => q q1) (nfr a q3) e
        obtain ⟨nn, eD⟩:=hl₃
        refine ⟨fun a q => one a (hown a q) (hi₃.al a q), fun a q => two a (hown a q).2 (hoo a q) (ho a q).2.2, one D hD' ⟨_, eD⟩, two D hD'.2 hDo hD0, one C hC' (c₃.loc.owmd C (.inl rfl)).2.2⟩
      have g₃':∀ {σ₄ md₄ h₄}, Go stk (ownC C scope) σ' md' h₃ σ₄ md₄ h₄ → Go stk (fun a => a ∈ own) σ₁ md₁ h₁ σ₄ md₄ h₄:=fun {σ₄ md₄ h₄} g => by
        refine ⟨g₃.st.trans g.st (fun a q => q.elim (fun q => .inr ?_) fun q => (g₃.d a q).imp (fun q => .inr q) id) g₃.d, fun a q => (g.d a q).elim (g₃.d a) fun q => .inr (g₃.st.gone q)⟩
        cases e:h₁.get? a with
        | none => rfl
        | some o => have:=hfr a q; rw [Heap.get?_push_of_some _ e] at this; cases this
      refine wpAny_mono (k A _ stk _ md' ⟨h₃, s.gens, s.drawn, tk₃, s.os⟩ v c₃ r) (fun J s₄ q => ?_) fun J J e => e.no
      apply q.el; intro _ vs₄ σ₄ md₄ h₄ tk₄ k _ c₄ g₄
      refine wpAny_mono (k.go (s:=⟨h₄, s.gens, s.drawn, tk₄, s.os⟩) c₄) (fun ok s₅ q => ?_) fun J J e => e
      apply q.el; intro ok' vs₅ σ₅ md₅ h₅ tk₅ k eo c₅ g₅
      have eo:ok = ok':=eo
      subst eo
      have g₅':=g₄.trans g₅
      cases ok with
      | false =>
        rw [if_neg (by decide)] at k ⊢
        obtain ⟨q1, q2, q3, q4, q5⟩:=step g₅'
        exact ⟨l.length, by simp, l, acc, vals, vs₅, σ₅, md₅, h₅, tk₅, rfl, rfl, k, hi₃.mono (c₃.kp g₅') q2, q1, hl₃.at q4, hr₃.mono (c₃.kp g₅'), hsz, q3, q5, c₅, g₃' g₅'⟩
      | true =>
        rw [if_pos rfl] at k ⊢
        refine wpAny_mono (k.run A _ stk _ md₅ ⟨h₅, s.gens, s.drawn, tk₅, s.os⟩ c₅) (fun x s₆ q => ?_) fun J J e => e.no
        apply q.el; intro qv vs₆ σ₆ md₆ h₆ tk₆ w7 rx c₆ g₆
        obtain ⟨hlt, k⟩:=w7
        have g₆':=g₅'.trans g₆
        obtain ⟨q1, q2, q3, q4, q5⟩:=step g₆'
        have hl₆:=hl₃.at q4
        refine wpAny_list_append_plain (s:=⟨h₆, s.gens, s.drawn, tk₆, s.os⟩) hl₆ (fun h₇ hl₇ hs₇ => ?_) (by rw [List.size_toArray, hr.length]; exact sizeOk_le hsz)
        obtain ⟨c₇, st₇⟩:=c₆.priv (O:=fun a => a = D) (h':=h₇) (fun a q => by subst q; exact ⟨q3.1, q3.2, nfr a hD0, hDo⟩) (fun x a e => iD x a e) (fun a o q e => hs₇.extBut a o q e) (fun a q => by subst q; obtain ⟨nn, e⟩:=hl₇; exact ⟨_, e⟩)
        have kp₇:Kp md₆ h₆ md₆ h₇:=⟨fun a o nm e => hs₇.extBut a o (fun q => nm (by rw [q]; exact q3.1)) e, fun J J J m => m⟩
        have g₇:Go stk (fun a => a ∈ own) σ₁ md₁ h₁ σ₆ md₆ h₇:=⟨(g₃' g₆').st.trans st₇ (fun a q => by subst q; exact .inr hDn) fun J q => q.elim, (g₃' g₆').d⟩
        refine ⟨l.length, by simp, l, acc ++ [qv], vals ++ [x], vs₆, σ₆, md₆, h₇, tk₆, rfl, rfl, k, (hi₃.mono (c₃.kp g₆') q2).mono kp₇ (fun a q o e => hs₇.extBut a o (fun z => hoD' (z ▸ q)) e), q1, by simpa using hl₇, ((hr₃.mono (c₃.kp g₆')).snoc rx).mono kp₇, by simp; lia, q3, q5, c₇, g₇⟩
  have hi₂:It mdI h₂ it own l:=hi.mono (c₁.kp (g₂.ow fun J q => q.elim)) fun a J o e => old a o e
  have fin:=codeAny_compStart_list loop (hi₂.self (s:=⟨h₂, s.gens, s.drawn, tk₁, s.os⟩) loop)
  subst hD
  subst hC
  subst hoD
  exact fin
end
section
variable {w:World} {H₀:Heap} {S:Fx} {n:Nat} {A:Around} {env:Env} {stk:List Env} {ow md md₀:ASet} {σ σ₀:Store} {vs:Slots} {s:Shared} {h h' h₀:Heap} {D:Addr} {m:MO}
theorem Inv.track (i:Inv w H₀ stk md σ h) (hD:md D) (hf:¬ isFr stk D) (mo:MoAt w md h D m):Inv w H₀ stk md (upd σ D (some m)) h:=by
  refine ⟨i.gl, i.base, i.off, i.al, fun a mm e => ?_, i.ff, fun a q => ⟨(i.frmd a q).1, ?_⟩⟩
  · by_cases z:a = D
    · subst z; rw [upd_same] at e; cases e; exact ⟨hD, mo⟩
    · rw [upd_ne _ _ z] at e; exact i.sto a mm e
  · have ne:a ≠ D:=fun z => hf (by rw [← z]; exact q)
    rw [upd_ne _ _ ne]; exact (i.frmd a q).2
theorem Cx.track (c:Cx w H₀ S n A env stk ow md σ vs h) (hD:md D) (hf:¬ isFr stk D) (ho:¬ ow D) (hc:∀ x a, env.cells.lookup x = some a → a ≠ D) (mo:MoAt w md h D m):Cx w H₀ S n A env stk ow md (upd σ D (some m)) vs h:=by
  refine ⟨c.bx.with (c.bx.inv.track hD hf mo), c.head, ⟨c.loc.sc, c.loc.gl, c.loc.bl, c.loc.ns, c.loc.lown, fun x a e => ?_, c.loc.ck, c.loc.hasc, c.loc.cown, c.loc.apart, fun a q => ?_⟩, c.owfr, c.cellfr⟩
  · obtain ⟨a2, r⟩:=c.loc.cel x a e
    exact ⟨by rw [upd_ne _ _ (hc x a e)]; exact a2, r⟩
  · obtain ⟨q1, q2, q3⟩:=c.loc.owmd a q
    have ne:a ≠ D:=fun z => ho (by rw [← z]; exact q)
    exact ⟨q1, by rw [upd_ne _ _ ne]; exact q2, q3⟩
theorem Go.track (g:Go stk ow σ₀ md₀ h₀ σ md h) (hD:h₀.get? D = none ∨ σ₀ D ≠ none):Go stk ow σ₀ md₀ h₀ (upd σ D (some m)) md h :=
  ⟨g.st, fun a q => by
    by_cases z:a = D
    · rw [z]; exact hD.symm
    · rw [upd_ne _ _ z] at q; exact g.d a q⟩
variable {ns oc:List Str} {ks:List NameKind} {gs:List Str} {K:PV → Slots → Store → Prop} {X:PExc → Slots → Store → Prop} {D C:Addr} {acc:List PV} {vals:List Value} {vs₁:Slots} {σ₂:Store} {md₂:ASet} {h₂:Heap} {mm:Str → Option Value}
theorem CEnd.nfr (c:Cx w H₀ S n A env stk ow md σ vs h) {a:Addr} (e:h.get? a = none):¬ isFr stk a ∧ ¬ ow a ∧ ∀ x b, env.cells.lookup x = some b → b ≠ a:=by
  refine ⟨fun q => ?_, fun q => ?_, fun x b q z => ?_⟩
  · obtain ⟨o, e'⟩:=c.bx.inv.al a (c.bx.inv.frmd a q).1; rw [e] at e'; cases e'
  · obtain ⟨_, _, o, e'⟩:=c.loc.owmd a q; rw [e] at e'; cases e'
  · obtain ⟨o, e'⟩:=c.alive b (.inr ⟨x, q⟩); rw [z, e] at e'; cases e'
theorem CEnd.freeze (c:Cx w H₀ S n A env stk ow md σ vs h) (e:CEnd w H₀ S n A env stk ow md σ h D C acc vals vs₁ σ₂ md₂ h₂ mm) (hs:Heap.SameBut C h₂ h') :
    ∃ md₃, Cx w H₀ S n A env stk ow md₃ σ₂ vs₁ h' ∧ Go stk ow σ md h σ₂ md₃ h' ∧ Rel md₃ h' (.ref D) (.lst acc):=by
  have k:∀ a o, ¬ (a = C ∨ a = D) → h₂.get? a = some o → h'.get? a = some o:=fun a o q e => hs.extBut a o (fun z => q (.inl z)) e
  have fD:=CEnd.nfr c e.D₀
  have fC:=CEnd.nfr c e.C₀
  have c₃:=e.cx.part (O:=fun a => a = C ∨ a = D) (σ':=σ₂) (h':=h') (fun a q => q.elim (fun q => q ▸ e.Cm) fun q => q ▸ e.Dm) (fun a q => q.elim (fun q => q ▸ e.Cσ) fun q => q ▸ e.Dσ) (fun a J => rfl) (fun a q => q.elim (fun q => q ▸ fC.1) fun q => q ▸ fD.1)
    (fun a q => q.elim (fun q => q ▸ fC.2.1) fun q => q ▸ fD.2.1) (fun x a q z => z.elim (fC.2.2 x a q) (fD.2.2 x a q)) k
  have g₃:=e.go.part (O:=fun a => a = C ∨ a = D) (σ':=σ₂) (h':=h') (fun a q => q.elim (fun q => q ▸ e.Cσ) fun q => q ▸ e.Dσ) (fun a J => rfl) (fun a q => .inl (q.elim (fun q => q ▸ e.C₀) fun q => q ▸ e.D₀)) (fun a q => .inl (q.elim (fun q => q ▸ e.C₀) fun q => q ▸ e.D₀)) k
  have kp:Kp md₂ h₂ (rem md₂ fun a => a = C ∨ a = D) h':=⟨fun a o nm q => k a o (fun z => nm (z.elim (fun z => z ▸ e.Cm) fun z => z ▸ e.Dm)) q, fun J J J m => m.1⟩
  exact ⟨_, c₃, g₃, .lst (fun q => q.2 (.inr rfl)) (e.list.at fun o q => hs.extBut D o e.DC q) (e.rel.mono kp)⟩
theorem CEnd.thaw (c:Cx w H₀ S n A env stk ow md σ vs h) (e:CEnd w H₀ S n A env stk ow md σ h D C acc vals vs₁ σ₂ md₂ h₂ mm) (hs:Heap.SameBut C h₂ h') :
    ∃ md₃, Cx w H₀ S n A env stk ow md₃ (upd σ₂ D (some (.list acc))) vs₁ h' ∧ Go stk ow σ md h (upd σ₂ D (some (.list acc))) md₃ h':=by
  have k:∀ a o, ¬ (a = C) → h₂.get? a = some o → h'.get? a = some o:=fun a o q e => hs.extBut a o q e
  have fD:=CEnd.nfr c e.D₀
  have fC:=CEnd.nfr c e.C₀
  have c₃:=e.cx.part (O:=fun a => a = C) (σ':=σ₂) (h':=h') (fun a q => q ▸ e.Cm) (fun a q => q ▸ e.Cσ) (fun a J => rfl) (fun a q => q ▸ fC.1) (fun a q => q ▸ fC.2.1) (fun x a q z => fC.2.2 x a q z) k
  have g₃:=e.go.part (O:=fun a => a = C) (σ':=σ₂) (h':=h') (fun a q => q ▸ e.Cσ) (fun a J => rfl) (fun a q => .inl (q ▸ e.C₀)) (fun a q => .inl (q ▸ e.C₀)) k
  have kp:Kp md₂ h₂ (rem md₂ fun a => a = C) h':=⟨fun a o nm q => k a o (fun z => nm (z ▸ e.Cm)) q, fun J J J m => m.1⟩
  exact ⟨_, c₃.track ⟨e.Dm, e.DC⟩ fD.1 fD.2.1 fD.2.2 ⟨vals, e.list.at fun o q => hs.extBut D o e.DC q, e.rel.mono kp⟩, g₃.track (.inl e.D₀)⟩
noncomputable def CompI (w:World) (H₀:Heap) (S:Fx) (n:Nat) (ns:List Str) (ks:List NameKind) (elt t iter:Expr) (ifs:List Expr) (scope:Scope) (oc':List Str) (vs:Slots) (σ:Store) (KC:List PV → Slots → Store → Prop) (X:PExc → Slots → Store → Prop):Prop :=
  EvI w H₀ S n (isTupT t) iter vs σ (fun l vs₁ σ₁ => ∃ ns' ks' gs' vs', CS ns ks vs₁ scope.names ns' ks' gs' vs' ∧ ∀ S':Fx, S'.Good ns' oc' ks' gs' → CompT w H₀ S' n t ifs elt (fun acc σ₂ => KC acc vs₁ σ₂) l [] vs' σ₁) X
theorem EvE.comp {elt t iter:Expr} {ifs:List Expr} {scope:Scope} {pos:Pos} (oc':List Str) (ht:TargetOk t = true) (G:S.Good ns oc ks gs) (hf:FreeOk ns ks scope.names) (hk:scope.kind = .function) (hz:hnd ((scope.names.map (·.1) ++ special).map hs) = true) (hoc:∀ x ∈ oc', (x, .cell) ∈ scope.names)
    (hs:∀ env x, foldedSetIterable iter env x = pure x) (hI:CompI w H₀ S n ns ks elt t iter ifs scope oc' vs σ (fun acc vs₁ σ₂ => K (.lst acc) vs₁ σ₂) X) (hN:4 ≤ n:=by first | exact Nat.le_add_left 4 _ | assumption):EvE w H₀ S n (.ListComp elt [⟨t, iter, ifs, 0⟩] scope pos) vs σ K X:=by
  refine ⟨fun A env stk ow md s c => ?_⟩
  rw [eval_ListComp]
  refine comp_core (use:=none) hN ht G hf hk hz hoc hI (hs env) c fun D C acc vals vs₁ σ₂ md₂ h₂ tk m k e => ⟨m, e.ns, fun h' hs' => ?_⟩
  obtain ⟨md₃, c₃, g₃, r⟩:=e.freeze c hs'
  exact ⟨.lst acc, vs₁, σ₂, md₃, h', tk, rfl, k, r, c₃, g₃⟩
theorem EvE.compM {elt t iter:Expr} {ifs:List Expr} {scope:Scope} {pos:Pos} (oc':List Str) (ht:TargetOk t = true) (G:S.Good ns oc ks gs) (hf:FreeOk ns ks scope.names) (hk:scope.kind = .function) (hz:hnd ((scope.names.map (·.1) ++ special).map hs) = true) (hoc:∀ x ∈ oc', (x, .cell) ∈ scope.names)
    (hs:∀ env x, foldedSetIterable iter env x = pure x) (hI:CompI w H₀ S n ns ks elt t iter ifs scope oc' vs σ (fun acc vs₁ σ₂ => ∀ D, σ₂ D = none → K (.loc D) vs₁ (upd σ₂ D (some (.list acc)))) X) (hN:4 ≤ n:=by first | exact Nat.le_add_left 4 _ | assumption):EvE w H₀ S n (.ListComp elt [⟨t, iter, ifs, 0⟩] scope pos) vs σ K X:=by
  refine ⟨fun A env stk ow md s c => ?_⟩
  rw [eval_ListComp]
  refine comp_core (use:=none) hN ht G hf hk hz hoc hI (hs env) c fun D C acc vals vs₁ σ₂ md₂ h₂ tk m k e => ⟨m, e.ns, fun h' hs' => ?_⟩
  obtain ⟨md₃, c₃, g₃⟩:=e.thaw c hs'
  exact ⟨.loc D, vs₁, _, md₃, h', tk, rfl, k D e.Dσ, .loc D, c₃, g₃⟩
theorem Cx.asgC {x:Str} {i:Nat} {px:Pos} {v:Value} {pv:PV} {Kn:Slots → Store → Prop} {Kr:PV → Slots → Store → Prop} {tk:Nat} {E:Value → Shared → Prop} {md₁:ASet} {σ₁:Store} {h₁:Heap}
    (c:Cx w H₀ S n A env stk ow md₁ σ₁ vs₁ h₁) (g:Go stk ow σ md h₀ σ₁ md₁ h₁) (hx:S.st x i = true) (r:Rel md₁ h₁ v pv) (hC:md₁ C) (hCσ:σ₁ C = none) (hC0:h₀.get? C = none) (hfr:¬ isFr stk C) (how:¬ ow C) (hcel:∀ x b, env.cells.lookup x = some b → b ≠ C) (hn:h₁.Ns C mm)
    (k:Kn (vs₁.set i (some pv)) σ₁):wpAny (MD w) A (assign (.Name x px) env v) (fun J s'' => ∃ m, s''.heap.Ns C m ∧ ∀ h', Heap.SameBut C s''.heap h' → ∃ f, GOk RelF w H₀ S n A env stk ow md σ { s with heap:=h₀ } (kk Kn Kr) f { s'' with heap:=h' } ∧ f = .next) E { s with heap:=h₁, toks:=tk }:=by
  refine assign_Name (c.store (s:={ s with heap:=h₁, toks:=tk }) hx r fun h₂ tk₂ c₂ g₂ => ?_)
  have kC:∀ o, h₁.get? C = some o → h₂.get? C = some o:=fun o e => g₂.st.keep C o (fun q => q.elim how fun q => q hCσ) hfr e
  have hC₂:md₁ C:=hC
  refine ⟨mm, hn.at' kC, fun h' hs' => ⟨.next, ?_, rfl⟩⟩
  have kk':∀ a o, ¬ (a = C) → h₂.get? a = some o → h'.get? a = some o:=fun a o q e => hs'.extBut a o q e
  have c₃:=c₂.part (O:=fun a => a = C) (σ':=σ₁) (h':=h') (fun a q => q ▸ hC) (fun a q => q ▸ hCσ) (fun a J => rfl) (fun a q => q ▸ hfr) (fun a q => q ▸ how) (fun x a q z => hcel x a q z) kk'
  have g₃:=(g.trans g₂).part (O:=fun a => a = C) (σ':=σ₁) (h':=h') (fun a q => q ▸ hCσ) (fun a J => rfl) (fun a q => .inl (q ▸ hC0)) (fun a q => .inl (q ▸ hC0)) kk'
  exact ⟨.next, _, σ₁, _, h', tk₂, rfl, k, trivial, c₃, g₃⟩
theorem CEnd.store {x:Str} {i:Nat} {px:Pos} {Kn:Slots → Store → Prop} {Kr:PV → Slots → Store → Prop} {E:Value → Shared → Prop} {tk:Nat} (c:Cx w H₀ S n A env stk ow md σ vs s.heap) (e:CEnd w H₀ S n A env stk ow md σ s.heap D C acc vals vs₁ σ₂ md₂ h₂ mm) (hx:S.st x i = true) (k:Kn (vs₁.set i (some (.lst acc))) σ₂) :
    wpAny (MD w) A (assign (.Name x px) env (.ref D)) (fun J s'' => ∃ m, s''.heap.Ns C m ∧ ∀ h', Heap.SameBut C s''.heap h' → ∃ f, GOk RelF w H₀ S n A env stk ow md σ s (kk Kn Kr) f { s'' with heap:=h' } ∧ f = .next) E { s with heap:=h₂, toks:=tk }:=by
  have fD:=CEnd.nfr c e.D₀
  have fC:=CEnd.nfr c e.C₀
  have kp:Kp md₂ h₂ (rem md₂ fun a => a = D) h₂:=⟨fun a o nm q => q, fun J J J m => m.1⟩
  have c₃:=e.cx.part (O:=fun a => a = D) (σ':=σ₂) (h':=h₂) (fun a q => q ▸ e.Dm) (fun a q => q ▸ e.Dσ) (fun a J => rfl) (fun a q => q ▸ fD.1) (fun a q => q ▸ fD.2.1) (fun x a q z => fD.2.2 x a q z) fun J J J q => q
  have g₃:=e.go.part (O:=fun a => a = D) (σ':=σ₂) (h':=h₂) (fun a q => q ▸ e.Dσ) (fun a J => rfl) (fun a q => .inl (q ▸ e.D₀)) (fun a q => .inl (q ▸ e.D₀)) fun J J J q => q
  exact Cx.asgC c₃ g₃ hx (.lst (fun q => q.2 rfl) e.list (e.rel.mono kp)) ⟨e.Cm, fun z => e.DC z.symm⟩ e.Cσ e.C₀ fC.1 fC.2.1 fC.2.2 e.ns k
theorem CEnd.storeM {x:Str} {i:Nat} {px:Pos} {Kn:Slots → Store → Prop} {Kr:PV → Slots → Store → Prop} {E:Value → Shared → Prop} {tk:Nat} (c:Cx w H₀ S n A env stk ow md σ vs s.heap) (e:CEnd w H₀ S n A env stk ow md σ s.heap D C acc vals vs₁ σ₂ md₂ h₂ mm) (hx:S.st x i = true) (k:Kn (vs₁.set i (some (.loc D))) (upd σ₂ D (some (.list acc)))) :
    wpAny (MD w) A (assign (.Name x px) env (.ref D)) (fun J s'' => ∃ m, s''.heap.Ns C m ∧ ∀ h', Heap.SameBut C s''.heap h' → ∃ f, GOk RelF w H₀ S n A env stk ow md σ s (kk Kn Kr) f { s'' with heap:=h' } ∧ f = .next) E { s with heap:=h₂, toks:=tk }:=by
  have fD:=CEnd.nfr c e.D₀
  have fC:=CEnd.nfr c e.C₀
  have c₃:=e.cx.track (m:=.list acc) e.Dm fD.1 fD.2.1 fD.2.2 ⟨vals, e.list, e.rel⟩
  exact Cx.asgC c₃ (e.go.track (.inl e.D₀)) hx (.loc D) e.Cm (by rw [upd_ne _ _ (Ne.symm e.DC)]; exact e.Cσ) e.C₀ fC.1 fC.2.1 fC.2.2 e.ns k
variable {Kn:Slots → Store → Prop} {Kr:PV → Slots → Store → Prop}
theorem swaps_name (G:S.Good ns oc ks gs) {env:Env} (he:env.scope = S.sc) {x:Str} {px:Pos} {line:Nat} {i:Nat} {elt t iter:Expr} {ifs:List Expr} {scope:Scope} {pos:Pos} (hx:KAt ns ks x .local i) (hl:(px.line == (Expr.ListComp elt [⟨t, iter, ifs, 0⟩] scope pos).pos.line) = true) (hn:scope.names.any (fun y => y.1 == x && (y.2 == .local || y.2 == .cell)) = false) :
    swapsWith (.ListComp elt [⟨t, iter, ifs, 0⟩] scope pos) (some (.Name x px)) line env = pure true:=by
  have hbk:env.blockKind = .function:=by unfold Env.blockKind; rw [he, G.kind]; rfl
  have hkd:=G.kd he hx
  unfold swapsWith
  simp only [hbk, hkd, hl]
  show pure _ = pure true
  have:(scope.names.any fun (n, k) => n == x && (k == .local || k == .cell)) = false:=hn
  rw [this]; rfl
theorem St.comp {x:Str} {px spos:Pos} {i:Nat} {elt t iter:Expr} {ifs:List Expr} {scope:Scope} {pos:Pos} (oc':List Str) (ht:TargetOk t = true) (G:S.Good ns oc ks gs) (hx:KAt ns ks x .local i) (hl:(px.line == (Expr.ListComp elt [⟨t, iter, ifs, 0⟩] scope pos).pos.line) = true) (hn:scope.names.any (fun y => y.1 == x && (y.2 == .local || y.2 == .cell)) = false)
    (hf:FreeOk ns ks scope.names) (hk:scope.kind = .function) (hz:hnd ((scope.names.map (·.1) ++ special).map hs) = true) (hoc:∀ x ∈ oc', (x, .cell) ∈ scope.names)
    (hs:∀ env x, foldedSetIterable iter env x = pure x) (hI:CompI w H₀ S n ns ks elt t iter ifs scope oc' vs σ (fun acc vs₁ σ₂ => ∃ vs', SAt ns ks vs₁ x .local (.lst acc) vs' ∧ Kn vs' σ₂) X) (hN:4 ≤ n:=by first | exact Nat.le_add_left 4 _ | assumption):St w H₀ S n (.Assign [.Name x px] (.ListComp elt [⟨t, iter, ifs, 0⟩] scope pos) spos) vs σ Kn Kr X:=by
  refine ⟨fun A env stk ow md s c => ?_⟩
  rw [exec_Assign_Name_used _ _ _ _ (swaps_name G c.loc.sc hx hl hn)]
  refine wpAny_bind (wpAny_standAt (wpAny_bind ?_))
  refine (?_:wpAny _ A (do let _ ← comprehension (.ListComp elt [⟨t, iter, ifs, 0⟩] scope pos) scope env _ (newList []) false (eval iter env) (some (assign (.Name x px) env))) _ _ s)
  refine wpAny_bind (wpAny_mono (comp_core (use:=some (assign (.Name x px) env)) (Q:=fun J s' => ∃ f, GOk RelF w H₀ S n A env stk ow md σ s (kk Kn Kr) f s' ∧ f = .next) hN ht G hf hk hz hoc hI (hs env) c fun D C acc vals vs₁ σ₂ md₂ h₂ tk m k e => ?_) (fun _ s' ⟨f, q, e⟩ => wpAny_pure (wpAny_pure (e ▸ q))) fun J J e => e)
  obtain ⟨vs', hs', k⟩:=k
  obtain ⟨j, a, b⟩:=G.sto (.l hs':Sto ns ks oc x vs₁ (.lst acc) vs')
  exact e.store c a (b ▸ k)
theorem St.compM {x:Str} {px spos:Pos} {i:Nat} {elt t iter:Expr} {ifs:List Expr} {scope:Scope} {pos:Pos} (oc':List Str) (ht:TargetOk t = true) (G:S.Good ns oc ks gs) (hx:KAt ns ks x .local i) (hl:(px.line == (Expr.ListComp elt [⟨t, iter, ifs, 0⟩] scope pos).pos.line) = true) (hn:scope.names.any (fun y => y.1 == x && (y.2 == .local || y.2 == .cell)) = false)
    (hf:FreeOk ns ks scope.names) (hk:scope.kind = .function) (hz:hnd ((scope.names.map (·.1) ++ special).map hs) = true) (hoc:∀ x ∈ oc', (x, .cell) ∈ scope.names)
    (hs:∀ env x, foldedSetIterable iter env x = pure x) (hI:CompI w H₀ S n ns ks elt t iter ifs scope oc' vs σ (fun acc vs₁ σ₂ => ∀ D, σ₂ D = none → ∃ vs', SAt ns ks vs₁ x .local (.loc D) vs' ∧ Kn vs' (upd σ₂ D (some (.list acc)))) X) (hN:4 ≤ n:=by first | exact Nat.le_add_left 4 _ | assumption):St w H₀ S n (.Assign [.Name x px] (.ListComp elt [⟨t, iter, ifs, 0⟩] scope pos) spos) vs σ Kn Kr X:=by
  refine ⟨fun A env stk ow md s c => ?_⟩
  rw [exec_Assign_Name_used _ _ _ _ (swaps_name G c.loc.sc hx hl hn)]
  refine wpAny_bind (wpAny_standAt (wpAny_bind ?_))
  refine (?_:wpAny _ A (do let _ ← comprehension (.ListComp elt [⟨t, iter, ifs, 0⟩] scope pos) scope env _ (newList []) false (eval iter env) (some (assign (.Name x px) env))) _ _ s)
  refine wpAny_bind (wpAny_mono (comp_core (use:=some (assign (.Name x px) env)) (Q:=fun J s' => ∃ f, GOk RelF w H₀ S n A env stk ow md σ s (kk Kn Kr) f s' ∧ f = .next) hN ht G hf hk hz hoc hI (hs env) c fun D C acc vals vs₁ σ₂ md₂ h₂ tk m k e => ?_) (fun _ s' ⟨f, q, e⟩ => wpAny_pure (wpAny_pure (e ▸ q))) fun J J e => e)
  obtain ⟨vs', hs', k⟩:=k D e.Dσ
  obtain ⟨j, a, b⟩:=G.sto (.l hs':Sto ns ks oc x vs₁ (.loc D) vs')
  exact e.storeM c a (b ▸ k)
end
mutual
inductive Fz (a:Addr) (l:List PV):PV → PV → Prop
  | loc:Fz a l (.loc a) (.lst l)
  | same (p:PV):Fz a l p p
  | tup {ps qs:List PV}:FzL a l ps qs → Fz a l (.tup ps) (.tup qs)
  | lst {ps qs:List PV}:FzL a l ps qs → Fz a l (.lst ps) (.lst qs)
inductive FzL (a:Addr) (l:List PV):List PV → List PV → Prop
  | nil:FzL a l [] []
  | cons {p q:PV} {ps qs:List PV}:Fz a l p q → FzL a l ps qs → FzL a l (p :: ps) (q :: qs)
end
inductive FzS (a:Addr) (l:List PV):Slots → Slots → Prop
  | nil:FzS a l [] []
  | no {ps qs:Slots}:FzS a l ps qs → FzS a l (Option.none :: ps) (Option.none :: qs)
  | yes {p q:PV} {ps qs:Slots}:Fz a l p q → FzS a l ps qs → FzS a l (Option.some p :: ps) (Option.some q :: qs)
section
variable {a:Addr} {l:List PV} {md:ASet} {h:Heap} {vals:List Value}
theorem Fz.rel (k:Kp md h (rem md fun b => b = a) h) (hl:h.PlainList a vals.toArray) (hr:RelL (rem md fun b => b = a) h vals l) {v:Value} {p q:PV} (f:Fz a l p q) (r:Rel md h v p):Rel (rem md fun b => b = a) h v q :=
  Fz.rec (motive_1:=fun p q J => ∀ v, Rel md h v p → Rel (rem md fun b => b = a) h v q) (motive_2:=fun ps qs J => ∀ vs, RelL md h vs ps → RelL (rem md fun b => b = a) h vs qs)
    (fun J r => r.iLoc (P:=fun v => Rel _ h v (.lst l)) (.lst (fun z => z.2 rfl) hl hr)) (fun J J r => r.mono k)
    (fun {_ qs} _ x _ r => r.iTup (P:=fun v => Rel _ h v (.tup qs)) fun J J n t r => .tup (fun z => n z.1) t (x _ r))
    (fun {_ qs} _ x _ r => r.iLst (P:=fun v => Rel _ h v (.lst qs)) fun J J n t r => .lst (fun z => n z.1) t (x _ r))
    (fun J r => r.i0 (P:=fun vs => RelL _ h vs []) .nil) (fun {_ q _ qs} _ _ x y _ r => r.i1 (P:=fun vs => RelL _ h vs (q :: qs)) fun v vs a b => .cons (x v a) (y vs b)) f v r
end
theorem FzS.at {a:Addr} {l:List PV} {vs vs':Slots} (f:FzS a l vs vs'):∀ (i:Nat) (q:PV), vs'[i]? = some (some q) → ∃ p, vs[i]? = some (some p) ∧ Fz a l p q:=by
  induction f with
  | nil => intro i q e; simp at e
  | no _ ih =>
    intro i q e
    cases i with
    | zero => simp at e
    | succ i => obtain ⟨p, e1, e2⟩:=ih i q (by simpa using e); exact ⟨p, by simpa using e1, e2⟩
  | yes hf _ ih =>
    intro i q e
    cases i with
    | zero => simp at e; subst e; exact ⟨_, by simp, hf⟩
    | succ i => obtain ⟨p, e1, e2⟩:=ih i q (by simpa using e); exact ⟨p, by simpa using e1, e2⟩
section
variable {α β:Type} {R:ASet → Heap → α → β → Prop} {w:World} {H₀:Heap} {S:Fx} {n:Nat} {A:Around} {env:Env} {stk:List Env} {ow md md':ASet} {σ σ':Store} {vs vs':Slots} {s:Shared} {h h':Heap} {a:Addr} {l:List PV}
theorem Tr.freeze {t:Env → Sem α} {K:β → Slots → Store → Prop} {X:PExc → Slots → Store → Prop} (hσ:σ a = some (.list l)) (hf:FzS a l vs vs') (k:Tr R w H₀ S n t vs' (upd σ a none) K X):Tr R w H₀ S n t vs σ K X:=by
  refine ⟨fun A env stk ow md s c => ?_⟩
  obtain ⟨ha, vals, hl, hr⟩:=c.bx.inv.sto a _ hσ
  have kp:Kp md s.heap (rem md fun b => b = a) s.heap:=⟨fun J J J e => e, fun J J J m => m.1⟩
  have ne:σ a ≠ none:=by rw [hσ]; exact fun z => nomatch z
  have c₁:=c.part (O:=fun b => b = a) (σ':=upd σ a none) (h':=s.heap) (fun b q => q ▸ ha) (fun b q => by rw [q]; exact upd_same ..) (fun b q => upd_ne _ _ q) (fun b q z => by subst q; exact ne (c.bx.inv.frmd _ z).2) (fun b q z => by subst q; exact ne (c.loc.owmd _ z).2.1)
    (fun x b e q => by subst q; exact ne (c.loc.cel x _ e).1) fun J J J e => e
  have g₁:=(Go.refl stk ow σ md s.heap).part (O:=fun b => b = a) (σ':=upd σ a none) (h':=s.heap) (fun b q => by rw [q]; exact upd_same ..) (fun b q => upd_ne _ _ q) (fun b q => by subst q; exact .inr ne) (fun b q => by
    cases e:s.heap.get? b with
    | none => exact .inl rfl
    | some o => exact .inr ⟨o, rfl, rfl⟩) fun J J J e => e
  have hr':=hr.mono kp
  have c₂:Cx w H₀ S n A env stk ow (rem md fun b => b = a) (upd σ a none) vs' s.heap:=by
    refine ⟨c₁.bx, c₁.head, ⟨c₁.loc.sc, c₁.loc.gl, c₁.loc.bl, ?_, c₁.loc.lown, fun x b e => ?_, c₁.loc.ck, c₁.loc.hasc, c₁.loc.cown, c₁.loc.apart, c₁.loc.owmd⟩, c₁.owfr, c₁.cellfr⟩
    · obtain ⟨m, hn, f⟩:=c.loc.ns
      refine ⟨m, hn, fun i x q e1 e2 e3 => ?_⟩
      obtain ⟨p, e4, z⟩:=hf.at i q e2
      obtain ⟨v, hv, r⟩:=f i x p e1 e4 e3
      exact ⟨v, hv, z.rel kp hl hr' r⟩
    · obtain ⟨a2, a3, v0, hc, f⟩:=c.loc.cel x b e
      refine ⟨(c₁.loc.cel x b e).1, a3, v0, hc, fun i q e1 e2 => ?_⟩
      obtain ⟨p, e4, z⟩:=hf.at i q e2
      obtain ⟨v, hv, r⟩:=f i p e1 e4
      exact ⟨v, hv, z.rel kp hl hr' r⟩
  exact wpAny_mono (k.run A env stk ow _ s c₂) (fun J J e => GOk.lift (tk:=s.toks) g₁ e) fun J J e => GEx.lift (tk:=s.toks) g₁ e
theorem upd_back {σ:Store} {a:Addr} {m:Option MO} (e:σ a = none):upd (upd σ a m) a none = σ:=by
  funext b
  by_cases z:b = a
  · rw [z, upd_same, e]
  · rw [upd_ne _ _ z, upd_ne _ _ z]
theorem upd_upd {σ:Store} {a:Addr} {m m':Option MO}:upd (upd σ a m) a m' = upd σ a m':=by
  funext b
  by_cases z:b = a
  · rw [z, upd_same, upd_same]
  · rw [upd_ne _ _ z, upd_ne _ _ z, upd_ne _ _ z]
theorem Inv.upd {m m':MO} (i:Inv w H₀ stk md σ h) (hσ:σ a = some m) (hs:Heap.SameBut a h h') (mo:MoAt w md h' a m') (al:∃ o, h'.get? a = some o):Inv w H₀ stk md (upd σ a (some m')) h':=by
  have ha:=(i.sto a m hσ).1
  have kp:Kp md h md h':=⟨fun b o nm e => hs.extBut b o (fun z => nm (z ▸ ha)) e, fun J J J m => m⟩
  have nf:¬ isFr stk a:=fun q => by have:=(i.frmd a q).2; rw [hσ] at this; cases this
  refine ⟨i.gl, fun b o e => hs.extBut b o (fun z => ?_) (i.base b o e), i.off, fun b mb => ?_, fun b mm e => ?_, fun e he => ?_, fun b q => ⟨(i.frmd b q).1, ?_⟩⟩
  · have:=i.off a ha; rw [← z, e] at this; cases this
  · by_cases z:b = a
    · rw [z]; exact al
    · obtain ⟨o, e⟩:=i.al b mb; exact ⟨o, hs.extBut b o z e⟩
  · by_cases z:b = a
    · subst z; rw [upd_same] at e; cases e; exact ⟨ha, mo⟩
    · rw [upd_ne _ _ z] at e
      exact ⟨(i.sto b mm e).1, (i.sto b mm e).2.mono kp fun o q => hs.extBut b o z q⟩
  · obtain ⟨a1, L, o, a2, a3, a4, a5⟩:=i.ff e he
    exact ⟨a1, L, o, a2, a3, hs.extBut L o (fun z => nf (z ▸ ⟨e, he, a2⟩)) a4, a5⟩
  · have ne:b ≠ a:=fun z => nf (z ▸ q)
    rw [upd_ne _ _ ne]; exact (i.frmd b q).2
theorem Go.upd {m m':MO} (hσ:σ a = some m) (hs:Heap.SameBut a h h') (al:∃ o, h'.get? a = some o):Go stk ow σ md h (upd σ a (some m')) md h':=by
  have ne:dom σ a:=by show σ a ≠ none; rw [hσ]; exact fun z => nomatch z
  refine ⟨⟨fun b o no J e => hs.extBut b o (fun z => no (.inr (z ▸ ne))) e, fun b o no e => ⟨o.slots, hs.extBut b o (fun z => no (.inr (z ▸ ne))) e⟩, fun b o e => ?_, fun J J m J J => m, fun J J J m => m⟩, fun b q => ?_⟩
  · by_cases z:b = a
    · rw [z]; exact al
    · exact ⟨o, hs.extBut b o z e⟩
  · by_cases z:b = a
    · rw [z]; exact .inl ne
    · rw [upd_ne _ _ z] at q; exact .inl q
theorem p_append {K:PV → Store → Prop} {X:PExc → Store → Prop} {p:PV} (hσ:σ a = some (.list l)) (hz:l.length ≤ 1000) (k:K .none (upd σ a (some (.list (l ++ [p]))))):Prim w H₀ n [.loc a, p] σ (fun vals => PySem.call (.builtin "list.append") vals) K X:=by
  intro A stk md s vals bx r
  apply r.e2; intro _ _ r₁ r₂
  apply r₁.iLoc
  obtain ⟨ha, vals, hl, hr⟩:=bx.inv.sto a _ hσ
  refine wpAny_list_append_plain hl (fun h' hl' hs' => ?_) (by rw [List.size_toArray, hr.length]; exact sizeOk_le hz)
  have al:∃ o, h'.get? a = some o:=by obtain ⟨nn, e⟩:=hl'; exact ⟨_, e⟩
  have kp:Kp md s.heap md h':=⟨fun b o nm e => hs'.extBut b o (fun z => nm (z ▸ ha)) e, fun J J J m => m⟩
  exact ⟨.none, _, md, h', s.toks, rfl, k, .none, bx.inv.upd hσ hs' ⟨_, by simpa using hl', (hr.snoc r₂).mono kp⟩ al, .upd hσ hs' al⟩
end
section
variable {w:World} {H₀:Heap} {S:Fx} {n:Nat} {A:Around} {env:Env} {stk:List Env} {ow md md':ASet} {σ σ':Store} {vs vs':Slots} {s:Shared} {h h':Heap} {a:Addr} {l:List PV} {K:PV → Slots → Store → Prop} {X:PExc → Slots → Store → Prop} {Kn:Slots → Store → Prop} {Kr:PV → Slots → Store → Prop}
theorem EvE.app {o e:Expr} {ap p:Pos} (hb:∀ env, attributeBase o "append" env (eval o env) = eval o env) (hp:∀ env, (backTo p (starEach [e] env)).any (·.1) = false) (hl:(ap.endLine == p.line) = true)
    (hh:EvE w H₀ S n o vs σ (fun q vs₁ σ₁ => ∃ a l, q = .loc a ∧ σ₁ a = some (.list l) ∧ EvL w H₀ S n [e] vs₁ σ₁ (fun args vs₂ σ₂ => ∃ p l, args = [p] ∧ σ₂ a = some (.list l) ∧ l.length ≤ 1000 ∧ K .none vs₂ (upd σ₂ a (some (.list (l ++ [p]))))) X) X) :
    EvE w H₀ S n (.Call (.Attribute o "append" ap) [e] [] p) vs σ K X:=by
  refine EvE.meth hb hp hl (by show 1 < 29; decide) (hh.mono (fun q vs₁ σ₁ hP => ?_) fun J J J x => x)
  obtain ⟨a, l, e1, e2, e3⟩:=hP
  subst e1
  refine ⟨.builtin "list.append", .builtin, fun A stk md h v bx r pl s Q E eh q => ?_, fun p => (e3 p).mono (fun args vs₂ σ₂ hQ => ?_) fun J J J x => x⟩
  · subst eh
    obtain rfl:v = .ref a:=r.inv
    obtain ⟨_, vals, ⟨nn, hl⟩, _⟩:=bx.inv.sto a _ e2
    exact getMethod_list_append hl rfl rfl q
  · obtain ⟨p', l', f1, f2, f3, f4⟩:=hQ
    subst f1
    exact p_append f2 f3 f4
theorem setItem_plain {prog:Program} {A:Around} {E:Value → Shared → Prop} {l:Addr} {items:Array Value} {k:Int} {t:Tok} {v:Value} {Q:Unit → Shared → Prop} (hl:s.heap.PlainList l items)
    (h0:0 ≤ k) (hfit:k < 2 ^ 63) (hn:k < items.size)
    (hQ:∀ h', h'.PlainList l (items.setIfInBounds k.toNat v) → Heap.SameBut l s.heap h' → Q () { s with heap:=h' }) :
    wpAny (model prog w) A (setItem (.ref l) (.int k t) v) Q E s:=by
  obtain ⟨ne, ho⟩:=hl
  have hl:s.heap.IsList l items:=⟨_, ho, rfl, ne, rfl⟩
  unfold setItem
  try with_reducible refine wpAny_holding ?_
  first | refine wpAny_bind (wpAny_pure ?_) | skip
  refine wpAny_bind (wpAny_sequenceKey hl.typeIs (by decide) ?_)
  refine wpAny_bind (wpAny_callSpecial?_slot (name:=Str.ofString "__setitem__") hl.typeIs slot_list_setitem
    (wpAny_call_entry slot_list_setitem hl.typeIs entry_list_setitem ?_ (args_list_setitem _ _ _)))
  refine (?_:wpAny _ _ (Builtin.List.listSubscript? (.int k t) >>= _) _ _ s)
  refine wpAny_bind (wpAny_listSubscript_int (fitsIndex_of h0 hfit) ?_)
  clear hfit
  obtain ⟨j, rfl⟩:=Int.eq_ofNat_of_zero_le h0
  have hj:j < items.size:=by lia
  have hx':items[j]? = some items[j]:=Array.getElem?_eq_getElem hj
  refine (?_:wpAny _ _ ((seqItemAt l j >>= fun r => pure (r.map (j, ·))) >>= _) _ _ s)
  refine wpAny_bind (wpAny_bind (wpAny_seqItemAt ho rfl (wpAny_pure ?_)))
  rw [hx']
  refine (?_:wpAny _ _ (setSeqItemAt l j v >>= _) _ _ s)
  have hd':(Obj.mapSeq (·.setIfInBounds j v) { cls:=.type "list", data:=.seq items ne }:Obj).isFreed = false:=by
    simp [Obj.mapSeq]; rfl
  have hfin:(s.heap.update l (Obj.mapSeq (·.setIfInBounds j v))).PlainList l (items.setIfInBounds j v) :=
    ⟨_, by rw [Heap.get?_update_self _ ho hd']; simp only [Obj.mapSeq]; rfl⟩
  refine wpAny_bind (wpAny_setSeqItemAt ho rfl ?_)
  first
    | exact wpAny_bind (wpAny_pure (wpAny_pure ⟨.none, rfl, wpAny_pure (hQ _ hfin (Heap.SameBut.update ..))⟩))
    | exact wpAny_pure ⟨.none, rfl, wpAny_pure (hQ _ hfin (Heap.SameBut.update ..))⟩
theorem St.setL {o i value:Expr} {pos pos':Pos} (hs:∀ env, swapsWith value (some (.Subscript o i pos')) pos.line env = pure false)
    (hh:EvE w H₀ S n value vs σ (fun pv vs₁ σ₁ => EvE w H₀ S n o vs₁ σ₁ (fun q vs₂ σ₂ => ∃ a, q = .loc a ∧ EvE w H₀ S n i vs₂ σ₂ (fun r vs₃ σ₃ => ∃ k l, r = .int k ∧ σ₃ a = some (.list l) ∧ 0 ≤ k ∧ k < l.length ∧ l.length ≤ 1000 ∧ Kn vs₃ (upd σ₃ a (some (.list (l.set k.toNat pv))))) X) X) X) :
    St w H₀ S n (.Assign [.Subscript o i pos'] value pos) vs σ Kn Kr X:=by
  refine ⟨fun A env stk ow md s c => ?_⟩
  refine wpAny_Assign_Subscript (hh.at c (fun J J e => e) fun v pv vs₁ σ₁ md₁ h₁ tk k r c₁ kp₁ g₁ => ?_) (hs env)
  refine k.at c₁ (fun J J e => e.lift g₁) fun v₂ q vs₂ σ₂ md₂ h₂ tk₂ k₂ r₂ c₂ kp₂ g₂ => ?_
  obtain ⟨a, rfl, k₂⟩:=k₂
  refine k₂.at c₂ (fun J J e => (e.lift g₂).lift g₁) fun v₃ q₃ vs₃ σ₃ md₃ h₃ tk₃ k₃ r₃ c₃ kp₃ g₃ => ?_
  obtain ⟨k, l, rfl, hσ, h0, hlt, hz, kk⟩:=k₃
  apply r₂.iLoc
  apply r₃.iInt; intro _
  obtain ⟨ha, vals, hl, hr⟩:=c₃.bx.inv.sto a _ hσ
  have hn:k < (vals.toArray.size:Int):=by rw [List.size_toArray, hr.length]; exact hlt
  refine setItem_plain (s:=⟨h₃, s.gens, s.drawn, tk₃, s.os⟩) hl h0 (by lia) hn fun h' hl' hs' => ?_
  have al:∃ o, h'.get? a = some o:=by obtain ⟨nn, e⟩:=hl'; exact ⟨_, e⟩
  have kp:Kp md₃ h₃ md₃ h':=⟨fun b o nm e => hs'.extBut b o (fun z => nm (z ▸ ha)) e, fun J J J m => m⟩
  have rv:=((r.mono kp₂).mono kp₃).mono kp
  have g:Go stk (fun J => False) σ₃ md₃ h₃ (upd σ₃ a (some (.list (l.set k.toNat pv)))) md₃ h':=.upd hσ hs' al
  have c₄:=c₃.step (c₃.bx.inv.upd (m':=.list (l.set k.toNat pv)) hσ hs' ⟨vals.set k.toNat v, by simpa using hl', RelL.set rv (hr.mono kp) _⟩ al) g
  exact ⟨.next, vs₃, _, md₃, h', tk₃, rfl, kk, trivial, c₄, (g₁.trans (g₂.trans g₃)).trans (g.ow fun J q => q.elim)⟩
end
end Mine
end
section
open PySem PySem.W PySem.Spec PySem.Calls PyProof.Rows Builtin Builtin.ObjectAttr
set_option maxRecDepth 100000
namespace Mine
section
variable {w:World} {H₀:Heap} {S:Fx} {n:Nat} {A:Around} {env:Env} {stk:List Env} {ow md md':ASet} {σ σ':Store} {vs vs':Slots} {s:Shared} {h h':Heap}
noncomputable abbrev KK (w:World):Frag:=hd.heap_1 w.params
theorem Bx.K (b:Bx w H₀ n A stk md σ s.heap):(KK w).In s.heap:=b.inv.gl.X.keeps b.inv.base
theorem OrdAt.inst {a dx:Addr} {c jt jf k:Int} (o:OrdAt h a dx c jt jf k):∃ ox es m, InstAt h a ox 102 (some (dictOf es m)) ∧ ox.dict = some dx ∧ (∃ t, getL "code" es = some (some (.int c t))) ∧ (∃ t, getL "jt" es = some (some (.int jt t))) ∧
    (∃ t, getL "jf" es = some (some (.int jf t))) ∧ (∃ t, getL "k" es = some (some (.int k t))) ∧ getL "told" es = some none:=by
  obtain ⟨⟨ox, h1, h2, h3, h4, _⟩, es, m, h5, r⟩:=o
  exact ⟨ox, es, m, ⟨h1, h2, h4, by rw [h3]; exact h5⟩, h3, r⟩
theorem get_ord {K:PV → Store → Prop} {X:PExc → Store → Prop} {c jt jf k i:Int} {name:Str} (hg:plainGet (KK w) 102 name = true) (hh:hasDictIn (KK w) 102 = true) (ha:findIn (KK w) (.ref 102) name = some none)
    (hl:∀ {h a dx}, OrdAt h a dx c jt jf k → ∃ ox es m t, InstAt h a ox 102 (some (dictOf es m)) ∧ getL name es = some (some (.int i t))) (kk:K (.int i) σ):Prim w H₀ n [.ord c jt jf k] σ (p1 fun v => getAttr v name true) K X:=by
  intro A stk md s vals bx r
  apply r.e1; intro _ r₁
  apply r₁.iOrd; intro _ _ n1 n2 o
  obtain ⟨ox, es, m, t, I, e⟩:=hl o
  exact get_value bx.K I (plainGet_of hg).1 (findObj_own hh ha (by unfold noGet; rfl) e) rfl (.here bx kk (.int ..))
theorem p_code {K:PV → Store → Prop} {X:PExc → Store → Prop} {c jt jf k:Int} (kk:K (.int c) σ):Prim w H₀ n [.ord c jt jf k] σ (p1 fun v => getAttr v (Str.ofString "code") true) K X :=
  get_ord (by kernel_rfl) (by kernel_rfl) (by kernel_rfl) (fun o => o.inst.elim fun ox x => x.elim fun es x => x.elim fun m x => x.2.2.1.elim fun t c => ⟨ox, es, m, t, x.1, c⟩) kk
theorem p_jt {K:PV → Store → Prop} {X:PExc → Store → Prop} {c jt jf k:Int} (kk:K (.int jt) σ):Prim w H₀ n [.ord c jt jf k] σ (p1 fun v => getAttr v (Str.ofString "jt") true) K X :=
  get_ord (by kernel_rfl) (by kernel_rfl) (by kernel_rfl) (fun o => o.inst.elim fun ox x => x.elim fun es x => x.elim fun m x => x.2.2.2.1.elim fun t c => ⟨ox, es, m, t, x.1, c⟩) kk
theorem p_jf {K:PV → Store → Prop} {X:PExc → Store → Prop} {c jt jf k:Int} (kk:K (.int jf) σ):Prim w H₀ n [.ord c jt jf k] σ (p1 fun v => getAttr v (Str.ofString "jf") true) K X :=
  get_ord (by kernel_rfl) (by kernel_rfl) (by kernel_rfl) (fun o => o.inst.elim fun ox x => x.elim fun es x => x.elim fun m x => x.2.2.2.2.1.elim fun t c => ⟨ox, es, m, t, x.1, c⟩) kk
theorem p_k {K:PV → Store → Prop} {X:PExc → Store → Prop} {c jt jf k:Int} (kk:K (.int k) σ):Prim w H₀ n [.ord c jt jf k] σ (p1 fun v => getAttr v (Str.ofString "k") true) K X :=
  get_ord (by kernel_rfl) (by kernel_rfl) (by kernel_rfl) (fun o => o.inst.elim fun ox x => x.elim fun es x => x.elim fun m x => x.2.2.2.2.2.1.elim fun t c => ⟨ox, es, m, t, x.1, c⟩) kk
theorem EvE.toldO {K:PV → Slots → Store → Prop} {X:PExc → Slots → Store → Prop} {o:Expr} {ap p:Pos} (hb:∀ env, attributeBase o "told" env (eval o env) = eval o env) (hl:(ap.endLine == p.line) = true)
    (hh:EvE w H₀ S n o vs σ (fun q vs₁ σ₁ => ∃ c jt jf k, q = .ord c jt jf k ∧ Prim w H₀ n [.ord c jt jf k] σ₁ (fun vals => PySem.call (.ref 99) vals) (fun q => K q vs₁) (fun q => X q vs₁)) X) :
    EvE w H₀ S n (.Call (.Attribute o "told" ap) [] [] p) vs σ K X:=by
  refine EvE.meth hb (fun J => rfl) hl (by show 0 < 29; decide) (hh.mono (fun q vs₁ σ₁ hP => ?_) fun J J J x => x)
  obtain ⟨c, jt, jf, k, e, P⟩:=hP
  subst e
  refine ⟨.ref 99, Kept.ofK (by kernel_rfl), fun A stk md h v bx r pl s Q E eh q => ?_, EvL.nil P⟩
  subst eh
  obtain ⟨_, _, rfl, n1, n2, od⟩:=r.inv
  obtain ⟨ox, es, m, I, hdx, _, _, _, _, ht⟩:=od.inst
  exact method_fn bx.K I (by kernel_rfl) (by kernel_rfl) (f:=99) (by kernel_rfl) (by kernel_rfl) (by show Option.map _ (lookIn _ (dictOf es m)) = _; rw [lookIn_dict, ht]; rfl) q
set_option tactic.hygienic true in
theorem osa_my {prog:Program} {K:Frag} {x C dx:Addr} {ox:Obj} {R:Result → Shared → Prop} {name:Str} {tk:Tok} {v:Value} {es:List DictEntry} {m:Nat} (X:K.In s.heap) (I:InstAt s.heap x ox C (some (dictOf es m))) (hd:ox.dict = some dx)
    (hp:plainOver K C = true) (ht:takerIn K C name = some none) (hh:(clsIn K C).any (·.hasDict) = true) (hl:(getL name es).isSome = true) (hz:(putL name (PyData.keyHash w.params name) (.str name s.toks) v es).length ≤ 1000)
    (h:∀ h', h'.get? dx = some (dictOf (putL name (PyData.keyHash w.params name) (.str name s.toks) v es) (putN name es m)) → Heap.SameBut dx s.heap h' → R (.ok (.ret .none)) { s with heap:=h', toks:=s.toks + 1 }) :
    codeAny (model prog w) A (.call (.builtin "object.__setattr__") ⟨[.ref x, .str name tk, v], []⟩) R s:=by
  refine osa_open X I hp ht fun b => ?_
  obtain ⟨cd, hc, hd'⟩:=any_some hh
  obtain ⟨hx, hcl, hn, hdd⟩:=I
  rw [hd] at hdd
  have D:s.heap.get? dx = some (dictOf es m):=hdd
  obtain ⟨oc, odi, oda, osl⟩:=ox
  dsimp only at hcl hd
  subst hcl hd
  refine wpAny_bind (wpAny_pure (wpAny_bind (wpAny_bind (wpAny_loadPart hx (wpAny_bind ((looks_clsIn X hc).here ?_))))))
  rw [hd']
  refine wpAny_pure (a:=some dx) (wpAny_bind (wpAny_pure (wpAny_bind ?_)))
  unfold nsSet
  refine wpAny_bind (wpAny_bind (wpAny_askSetting (wpAny_pure (wpAny_bind (wpAny_mkText (wpAny_bind (wpAny_loadPart D ?_)))))))
  dsimp only
  have c:(!es.toArray.any (·.key.isStr name) && es.toArray.any (·.refKey)) = false:=by
    unfold getL at hl
    rw [← Array.any_toList, ← Array.any_toList]
    split at hl
    · rename_i en he
      rw [List.any_eq_true.mpr ⟨en, by simpa using List.mem_of_find?_eq_some he, List.find?_some he⟩]; rfl
    · split at hl
      · cases hl
      · rename_i z; rw [Bool.not_eq_true] at z
        have z':es.toArray.toList.any (·.refKey) = false:=by simpa using z
        rw [z', Bool.and_false]
  rw [aRefKeyMayBeTheName_at, c]
  have D':(s.heap.update dx (Obj.putName name (PyData.keyHash w.params name) (.str name s.toks) v)).get? dx = some (dictOf (putL name (PyData.keyHash w.params name) (.str name s.toks) v es) (putN name es m)):=by
    rw [Heap.get?_update_self _ D (by rw [putName_dict]; rfl), putName_dict]
  refine wpAny_updatePart D ?_
  refine wpAny_bind (wpAny_lookBehind D' (pastItsLine_dict (by rw [List.size_toArray, sizeLine_eq]; lia)) ?_)
  exact wpAny_pure (h _ D' (Heap.SameBut.update ..))
end
section
variable {w:World} {H₀:Heap} {S:Fx} {n:Nat} {A:Around} {env:Env} {stk:List Env} {ow md md':ASet} {σ σ':Store} {vs vs':Slots} {s:Shared} {h h':Heap}
noncomputable def putP (name:Str) (pv:PV):List (Str × PV) → List (Str × PV)
  | [] => [(name, pv)]
  | (y, q) :: r => if y == name then (y, pv) :: r else (y, q) :: putP name pv r
noncomputable def getP (name:Str):List (Str × PV) → Option PV
  | [] => none
  | (y, q) :: r => if y == name then some q else getP name r
set_option tactic.hygienic true in
theorem NsRel.put {name:Str} {hsh:Int} {t:Tok} {v:Value} {pv:PV} (r:Rel md h v pv) {es:List DictEntry} {l:List (Str × PV)} (s:NsRel md h es l):NsRel md h (putL name hsh (.str name t) v es) (putP name pv l):=by
  induction s with
  | nil => exact .cons r .nil
  | cons a b ih =>
    rename_i x _ _ _ _
    unfold putL putP
    refine (?_:NsRel md h (if (_ == name) = true then _ else _) (if (_ == name) = true then _ else _))
    split
    · exact .cons r b
    · exact .cons a ih
theorem NsRel.noref:∀ {es:List DictEntry} {l:List (Str × PV)}, NsRel md h es l → es.any (·.refKey) = false
  | _, _, .nil => rfl
  | _, _, .cons a b => by rw [List.any_cons, b.noref]; rfl
theorem NsRel.get {name:Str}:∀ {es:List DictEntry} {l:List (Str × PV)}, NsRel md h es l → match getP name l with | some pv => ∃ v, getL name es = some (some v) ∧ Rel md h v pv | none => getL name es = some none
  | _, _, .nil => rfl
  | _, _, .cons (hsh:=hsh) (t:=t) (x:=x) (v:=v) (pv:=pv) (es:=es) (l:=l) a b => by
    have ih:=NsRel.get (name:=name) b
    unfold getP
    have e:getL name (⟨hsh, .str x t, v⟩ :: es) = if (x == name) = true then some (some v) else getL name es:=by
      have k:(Value.str x t).isStr name = (x == name):=rfl
      unfold getL
      rw [List.find?_cons]
      dsimp only
      rw [k]
      cases hx:x == name with
      | true => rfl
      | false =>
        simp only [Bool.false_eq_true, if_false]
        rw [List.any_cons]
        rfl
    rw [e]
    cases x == name with
    | true => exact ⟨v, rfl, a⟩
    | false => exact ih
theorem NsRel.isSome {name:Str} {es:List DictEntry} {l:List (Str × PV)} (r:NsRel md h es l):(getL name es).isSome = true:=by
  have:=r.get (name:=name)
  split at this
  · obtain ⟨v, e, _⟩:=this; rw [e]; rfl
  · rw [this]; rfl
theorem NsRel.length:∀ {es:List DictEntry} {l:List (Str × PV)}, NsRel md h es l → es.length = l.length
  | _, _, .nil => rfl
  | _, _, .cons a b => by rw [List.length_cons, List.length_cons, b.length]
variable {Kn:Slots → Store → Prop} {Kr:PV → Slots → Store → Prop} {X:PExc → Slots → Store → Prop}
theorem St.setA {o value:Expr} {x:Str} {pos pos':Pos} (hs:∀ env, swapsWith value (some (.Attribute o x pos')) pos.line env = pure false) (ht:takerIn (KK w) 102 x = some none)
    (hh:EvE w H₀ S n value vs σ (fun pv vs₁ σ₁ => EvE w H₀ S n o vs₁ σ₁ (fun q vs₂ σ₂ => ∃ a dx l, q = .loc a ∧ σ₂ a = some (.raw (instObj 102 dx)) ∧ σ₂ dx = some (.ns l) ∧ l.length ≤ 100 ∧ Kn vs₂ (upd σ₂ dx (some (.ns (putP x pv l))))) X) X) :
    St w H₀ S n (.Assign [.Attribute o x pos'] value pos) vs σ Kn Kr X:=by
  refine ⟨fun A env stk ow md s c => ?_⟩
  refine plainObj_wpAny_Assign_Attribute (hh.at c (fun J J e => e) fun v pv vs₁ σ₁ md₁ h₁ tk k r c₁ kp₁ g₁ => ?_) (hs env)
  refine k.at c₁ (fun J J e => e.lift g₁) fun v₂ q vs₂ σ₂ md₂ h₂ tk₂ k₂ r₂ c₂ kp₂ g₂ => ?_
  obtain ⟨a, dx, l, rfl, e1, e2, hz, k⟩:=k₂
  apply r₂.iLoc
  obtain ⟨_, ha⟩:=c₂.bx.inv.sto a _ e1
  obtain ⟨hd, es, m, hdx, hr⟩:=c₂.bx.inv.sto dx _ e2
  have I:InstAt h₂ a (instObj 102 dx) 102 (some (dictOf es m)):=⟨ha, rfl, rfl, hdx⟩
  have hlen:∀ (l:List (Str × PV)) (pv:PV), (putP x pv l).length ≤ l.length + 1:=by
    intro l pv
    induction l with
    | nil => simp [putP]
    | cons y r ih => obtain ⟨y, q⟩:=y; unfold putP; split <;> simp; exact ih
  refine set_plain (s:=⟨h₂, s.gens, s.drawn, tk₂, s.os⟩) (K:=KK w) c₂.bx.K I (by kernel_rfl) (osa_my (s:=⟨h₂, s.gens, s.drawn, tk₂ + 1, s.os⟩) c₂.bx.K I rfl (by kernel_rfl) ht (by kernel_rfl) hr.isSome ?_ fun h' hg hs' => ?_)
  · have:=(NsRel.put (name:=x) (hsh:=PyData.keyHash w.params x) (t:=tk₂ + 1) (r.mono kp₂) hr).length
    rw [this]
    have:=hlen l pv
    lia
  · have kp:Kp md₂ h₂ md₂ h':=⟨fun b o nm e => hs'.extBut b o (fun z => nm (z ▸ hd)) e, fun J J J m => m⟩
    have g:Go stk (fun J => False) σ₂ md₂ h₂ (upd σ₂ dx (some (.ns (putP x pv l)))) md₂ h':=.upd e2 hs' ⟨_, hg⟩
    have c₃:=c₂.step (c₂.bx.inv.upd (m':=.ns (putP x pv l)) e2 hs' ⟨_, _, hg, NsRel.put ((r.mono kp₂).mono kp) (hr.mono kp)⟩ ⟨_, hg⟩) g
    exact ⟨.next, vs₂, _, md₂, h', tk₂ + 2, rfl, k, trivial, c₃, (g₁.trans g₂).trans (g.ow fun J q => q.elim)⟩
theorem Bx.under {C:Addr} {rest:List Value} (b:Bx w H₀ (n + 1) A stk md σ h):Bx w H₀ n (A.under (.builtin "type.__call__" ⟨.ref C :: rest, []⟩)) stk md σ h:=by
  have hw:(Code.builtin "type.__call__" ⟨.ref C :: rest, []⟩).weight ≤ 1:=by
    refine (?_:_ ≤ 1)
    first | decide | exact Nat.le_of_ble_eq_true rfl
  have hc:(Code.builtin "type.__call__" ⟨.ref C :: rest, []⟩).cUnits ≤ 16:=by first | decide | exact Nat.le_of_ble_eq_true rfl
  refine ⟨?_, b.ne, ?_, ?_, fun q => b.handled (Nat.le_succ_of_le q), b.inv⟩
  · have:pushEnvs (Code.builtin "type.__call__" ⟨.ref C :: rest, []⟩).envs A.frames = some stk:=by rw [b.frames]; rfl
    exact this
  · have:=b.depth
    refine (?_:A.depth + _ + n < _)
    lia
  · have:=b.units
    refine (?_:A.units + _ + 16 * n + 64 < _)
    lia
end
section
variable {w:World} {H₀:Heap} {S:Fx} {n:Nat} {A:Around} {env:Env} {stk:List Env} {ow md md':ASet} {σ σ':Store} {vs vs':Slots} {s:Shared} {h h':Heap}
variable {K:PV → Store → Prop} {X:PExc → Store → Prop}
noncomputable def ordNs (c jt jf k:Int):List (Str × PV):=[("code", .int c), ("jt", .int jt), ("jf", .int jf), ("k", .int k)]
theorem init_order {x dx:Addr} {c jt jf k:Int} (hx:σ x = some (.raw (instObj 102 dx))) (hd:σ dx = some (.ns [])) (kk:K .none (upd σ dx (some (.ns (ordNs c jt jf k))))):PrimC w H₀ (n + 1) [.loc x, .int c, .int jt, .int jf, .int k] σ (.ref 92) K X:=by
  have ne:x ≠ dx:=fun e => by rw [e, hd] at hx; cases hx
  refine PrimC.def (params:=["self", "code", "jt", "jf", "k"]) (ns:=["self", "code", "jt", "jf", "k"]) (oc':=[]) (ks:=[.local, .local, .local, .local, .local]) (gs:=[]) (vs:=[some (.loc x), some (.int c), some (.int jt), some (.int jf), some (.int k)])
    rfl (by kernel_rfl) ?_ rfl rfl rfl (by kernel_rfl) (by kernel_rfl) rfl rfl ?_
  · intro vals hv
    apply len5 hv; intros; rfl
  intro S G
  refine Bk.cons (St.setA (fun J => rfl) (by kernel_rfl) (EvE.nam G (.tail .head) rfl (EvE.nam G .head rfl ⟨x, dx, _, rfl, hx, hd, Nat.le_of_ble_eq_true rfl, ?_⟩)))
  refine Bk.cons (St.setA (fun J => rfl) (by kernel_rfl) (EvE.nam G (.tail (.tail .head)) rfl (EvE.nam G .head rfl ⟨x, dx, _, rfl, (upd_ne _ _ ne).trans hx, upd_same .., Nat.le_of_ble_eq_true rfl, ?_⟩)))
  rw [upd_upd]
  refine Bk.cons (St.setA (fun J => rfl) (by kernel_rfl) (EvE.nam G (.tail (.tail (.tail .head))) rfl (EvE.nam G .head rfl ⟨x, dx, _, rfl, (upd_ne _ _ ne).trans hx, upd_same .., Nat.le_of_ble_eq_true rfl, ?_⟩)))
  rw [upd_upd]
  refine Bk.cons (St.setA (fun J => rfl) (by kernel_rfl) (EvE.nam G (.tail (.tail (.tail (.tail .head)))) rfl (EvE.nam G .head rfl ⟨x, dx, _, rfl, (upd_ne _ _ ne).trans hx, upd_same .., Nat.le_of_ble_eq_true rfl, ?_⟩)))
  rw [upd_upd]
  refine Bk.nil ?_
  exact kk
theorem p_order {c jt jf k:Int} (kk:K (.ord c jt jf k) σ):PrimC w H₀ (n + 2) [.int c, .int jt, .int jf, .int k] σ (.ref 102) K X:=by
  intro A stk md s vals b r
  obtain ⟨hh, g, d, t, os⟩:=s
  refine make_core (makes_of b.K (by kernel_rfl)) (looks_findIn b.K (by kernel_rfl:findIn (KK w) (.ref 102) "__init__" = some (some (.ref 92)))) (fun self => bind_fn b.K self (by kernel_rfl)) (.inl rfl) ?_
  have inv:Inv w H₀ stk md σ hh:=b.inv
  have i₁:=inv.pushmd (o:=emptyDict)
  have i₂:=i₁.pushmd (o:=instObj 102 hh.objs.size)
  have hdn:hh.get? hh.objs.size = none:=none_size _
  have e1:(hh.push emptyDict).objs.size = hh.objs.size + 1:=Heap.size_push ..
  obtain ⟨dx, hdx⟩:∃ dx, dx = hh.objs.size:=⟨_, rfl⟩
  obtain ⟨x, hx⟩:∃ x, x = dx + 1:=⟨_, rfl⟩
  rw [e1] at i₂
  rw [← hdx, ← hx] at i₂ ⊢
  have nex:x ≠ dx:=by rw [hx]; exact Nat.succ_ne_self _
  have hxn:hh.get? x = none:=by
    cases e:hh.get? x with
    | none => rfl
    | some o => exact absurd (Heap.lt_size e) (by rw [hx, hdx]; exact Nat.not_lt.mpr (Nat.le_succ _))
  have hdn':hh.get? dx = none:=by rw [hdx]; exact hdn
  have kdn:((hh.push emptyDict).push (instObj 102 dx)).get? dx = some emptyDict:=by rw [hdx]; exact Heap.get?_push_of_some _ (Heap.get?_push_size _ rfl)
  have kx:((hh.push emptyDict).push (instObj 102 dx)).get? x = some (instObj 102 dx):=by
    rw [hx, hdx, ← e1]; exact Heap.get?_push_size _ rfl
  have g₂:Go stk (fun J => False) σ md hh σ (adj (adj md dx) x) ((hh.push emptyDict).push (instObj 102 dx)):=by
    have a:=(Go.pushmd (stk:=stk) (ow:=fun J => False) (σ:=σ) (md:=md) (h:=hh) (o:=emptyDict))
    have b':=(Go.pushmd (stk:=stk) (ow:=fun J => False) (σ:=σ) (md:=adj md dx) (h:=hh.push emptyDict) (o:=instObj 102 dx))
    rw [e1, ← hdx, ← hx] at b'
    rw [← hdx] at a
    exact a.trans b'
  have nf:∀ a, hh.get? a = none → ¬ isFr stk a:=fun a e q => by
    obtain ⟨o, e'⟩:=inv.al a (inv.frmd a q).1; rw [e] at e'; cases e'
  have i₃:=i₂.track (m:=.ns []) (D:=dx) (.inl (.inr rfl)) (nf dx hdn') ⟨[], 0, kdn, .nil⟩
  have i₄:=i₃.track (m:=.raw (instObj 102 dx)) (D:=x) (.inr rfl) (nf x hxn) kx
  have g₄:=(g₂.track (m:=.ns []) (D:=dx) (.inl hdn')).track (m:=.raw (instObj 102 dx)) (D:=x) (.inl hxn)
  have kp:Kp md hh (adj (adj md dx) x) ((hh.push emptyDict).push (instObj 102 dx)):=g₂.st.kp (fun a q => q.elim False.elim (inv.dm a)) fun a q => (inv.frmd a q).1
  have P:=init_order (w:=w) (H₀:=H₀) (n:=n) (σ:=upd (upd σ dx (some (.ns []))) x (some (.raw (instObj 102 dx)))) (x:=x) (dx:=dx) (c:=c) (jt:=jt) (jf:=jf) (k:=k)
    (K:=fun p σ' => p = .none ∧ σ' = upd (upd (upd σ dx (some (.ns []))) x (some (.raw (instObj 102 dx)))) dx (some (.ns (ordNs c jt jf k)))) (X:=fun J J => False) (upd_same ..) (by rw [upd_ne _ _ (Ne.symm nex)]; exact upd_same ..) ⟨rfl, rfl⟩
  have bu:=(Bx.under (C:=102) (rest:=vals) b).with i₄
  refine codeAny_mono (P _ stk _ ⟨(hh.push emptyDict).push (instObj 102 dx), g, d, t, os⟩ (.ref x :: vals) bu (.cons (.loc x) (r.mono kp))) fun rr s' z => ?_
  have fin:∀ v, POk w H₀ stk (adj (adj md dx) x) (upd (upd σ dx (some (.ns []))) x (some (.raw (instObj 102 dx)))) ⟨(hh.push emptyDict).push (instObj 102 dx), g, d, t, os⟩ (fun p σ' => p = .none ∧ σ' = upd (upd (upd σ dx (some (.ns []))) x (some (.raw (instObj 102 dx)))) dx (some (.ns (ordNs c jt jf k)))) v s' →
      v = .none ∧ POk w H₀ stk md σ ⟨hh, g, d, t, os⟩ K (.ref x) s':=fun v z => by
    apply z.el; intro pv σ' md' h' tk w6 rv i go
    obtain ⟨rfl, rfl⟩:=w6
    obtain rfl:v = .none:=rv.inv
    refine ⟨rfl, ?_⟩
    obtain ⟨m1, hx'⟩:=i.sto x (.raw (instObj 102 dx)) (by rw [upd_ne _ _ nex]; exact upd_same ..)
    obtain ⟨m2, es, m, hd', hr⟩:=i.sto dx (.ns (ordNs c jt jf k)) (upd_same ..)
    have hσ:∀ a, ¬ (a = x ∨ a = dx) → σ a = upd (upd (upd σ dx (some (.ns []))) x (some (.raw (instObj 102 dx)))) dx (some (.ns (ordNs c jt jf k))) a:=fun a q => by
      rw [upd_ne _ _ fun z => q (.inr z), upd_ne _ _ fun z => q (.inl z), upd_ne _ _ fun z => q (.inr z)]
    have hOn:∀ a, (a = x ∨ a = dx) → σ a = none:=fun a q => inv.nost (q.elim (fun q => q ▸ hxn) fun q => q ▸ hdn')
    have i':=i.part (O:=fun a => a = x ∨ a = dx) (σ':=σ) (h':=h') (fun a q => q.elim (fun q => q ▸ m1) fun q => q ▸ m2) hOn hσ (fun a q => nf a (q.elim (fun q => q ▸ hxn) fun q => q ▸ hdn')) fun J J J e => e
    have g':=(g₄.trans go).part (O:=fun a => a = x ∨ a = dx) (σ':=σ) (h':=h') hOn hσ (fun a q => .inl (q.elim (fun q => q ▸ hxn) fun q => q ▸ hdn')) (fun a q => .inl (q.elim (fun q => q ▸ hxn) fun q => q ▸ hdn')) fun J J J e => e
    have one:∀ (name:Str) (i:Int), getP name (ordNs c jt jf k) = some (.int i) → ∃ t, getL name es = some (some (.int i t)):=fun name i e => by
      have:=hr.get (name:=name)
      rw [e] at this
      obtain ⟨v, e', r⟩:=this
      obtain ⟨_, rfl⟩:=r.inv
      exact ⟨_, e'⟩
    have none':getL "told" es = some none:=by
      have:=hr.get (name:="told")
      rw [show getP "told" (ordNs c jt jf k) = none from by kernel_rfl] at this
      exact this
    exact ⟨.ord c jt jf k, σ, _, h', tk, rfl, kk, .ord (fun q => q.2 (.inl rfl)) (fun q => q.2 (.inr rfl)) ⟨⟨_, hx', rfl, rfl, rfl, fun J q => nomatch q⟩, es, m, hd', one _ _ (by kernel_rfl), one _ _ (by kernel_rfl), one _ _ (by kernel_rfl), one _ _ (by kernel_rfl), none'⟩, i', g'⟩
  rcases rr with e | (v | _ | _ | _)
  rotate_left
  · exact z.elim
  · exact z.elim
  · exact z.elim
  · exact fin _ z
  · obtain ⟨pe, σ', md', h', tk, rfl, k, _⟩:=z
    exact k.elim
end
section
variable {prog:Program} {w:World} {A:Around} {E:Value → Shared → Prop} {s:Shared} {K:Frag} {x C:Addr} {ox:Obj} {od:Option Obj} {name:Str} {expr:Bool} {Q:Value → Shared → Prop}
theorem get_exc {v:Value} (X:K.In s.heap) (I:InstAt s.heap x ox C od) (hga:findIn K (.ref C) "__getattribute__" = some (some (.builtin "BaseException.__getattribute__"))) (hk:findIn K (.ref C) "__getattr__" = some none)
    (hs:mroIn K C (.type "BaseException") = some true) (hf:findObj K C od name = some (.value v)) (hh:handedIn v = true) (h:Q v { s with toks:=s.toks + 1 }) :
    wpAny (model prog w) A (getAttr (.ref x) name expr) Q E s:=by
  have hT:Looks (model prog w) s.heap (isInstance (.ref x) (.type "BaseException")) true:=I.type.andThen (looks_mroIn X hs)
  obtain ⟨hh', g, d, t, os⟩:=s
  have L0:=I.type (M:=model prog w)
  have L1:=looks_findIn (M:=model prog w) X hga
  have L2:=looks_findIn (M:=model prog w) X hk
  have L3:=looks_find (M:=model prog w) X I hf
  unfold getAttr getAttrBy
  refine wpAny_bind (wpAny_mkText (wpAny_holding (wpAny_bind (L0.at (wpAny_bind (L1.at ?_))))))
  dsimp only
  rw [if_neg (by rw [Bool.and_eq_true]; rintro ⟨_, q⟩; exact absurd q (by decide +kernel))]
  unfold getAttrByItsOwn hookBefore
  rw [if_pos (by rfl)]
  refine wpAny_bind (L2.at ?_)
  refine wpAny_bind (wpAny_attempt (wpAny_holding ?_))
  unfold callGetattribute
  rw [if_neg (by cases expr <;> decide +kernel)]
  unfold boundAndCalled
  have hb:=PySem.F.attr_Exception.ga.bind (.ref x)
  rw [hb]
  refine wpAny_bind (wpAny_pure (wpAny_call ?_))
  refine codeAny_call_builtin PySem.F.attr_Exception.ga.plain PySem.F.entry_bexc_ga (@check_slot (model prog w) _ _ _ "BaseException.__getattribute__" "BaseException" "__getattribute__" (.ref x) [.str name t] [] _ (by decide +kernel) (by decide +kernel) hT (PySem.F.args_bexc_ga _ _) ?_)
  unfold Builtin.«object.__getattribute__»
  repeat (first | with_reducible refine L0.at ?_ | with_reducible refine L3.at ?_ | wp_step)
  refine (?_:wpAny _ _ (handedOut v) _ _ _)
  rw [handedOut_of hh]; exact wpAny_pure h
theorem refuse_exc (C D:Addr) (self:Value):refuseLoop self "__setattr__" [.ref C, .ref D, .type "Exception", .type "BaseException", .type "object"] = pure ():=by
  rw [refuseLoop_ref, refuseLoop_ref]
  kernel_rfl
noncomputable def excMro (K:Frag) (C:Addr):Bool:=(clsIn K C).any fun cd => cd.mro == [.ref C, .ref 39, .type "Exception", .type "BaseException", .type "object"] && cd.hasDict
theorem osa_openE {tk:Tok} {v:Value} {R:Result → Shared → Prop} (X:K.In s.heap) (I:InstAt s.heap x ox C od) (hm:excMro K C = true) (ht:takerIn K C name = some none)
    (h:∀ b, wpAny (model prog w) A.in1 (storeInOwnDict (.ref x) (.ref C) (.str name tk) name v b)
      (fun fin s' => match fin with | .done f => R (.ok f) s' | .again c' => c'.quiet = true ∧ codeAny (model prog w) A c' R s') (fun e s' => R (.error e) s') s) :
    codeAny (model prog w) A (.call (.builtin "object.__setattr__") ⟨[.ref x, .str name tk, v], []⟩) R s:=by
  have SF:=PySem.F.store_object
  obtain ⟨cd, hc, ho⟩:=any_some hm
  rw [Bool.and_eq_true, beq_iff_eq] at ho
  have sub:Looks (model prog w) s.heap (isInstance (.ref x) (.type "object")) true:=I.type.andThen (looks_mroIn X (by unfold mroIn; rw [hc, Option.bind_some, ho.1]; rfl))
  refine codeAny_call_builtin SF.slot.plain SF.entry (@check_slot (model prog w) _ _ s "object.__setattr__" "object" "__setattr__" (.ref x) [.str name tk, v] [] _ SF.kind SF.split sub (SF.args (.ref x) (.str name tk) v) ?_)
  obtain ⟨attr, ha, hr⟩:=Option.bind_eq_some_iff.mp ht
  have hm':Looks (model prog w) s.heap (mroOf (.ref C)) cd.mro:=(looks_clsIn X hc).andThen .now
  have L3:Looks (model prog w) s.heap (storeTaker? attr) none:=by
    cases attr with
    | none => cases hr; exact .now
    | some a =>
      obtain ⟨b, hb, q⟩:=Option.map_eq_some_iff.mp hr
      cases b with
      | true => cases q
      | false => exact (looks_takesIn X hb).andThen .now
  rw [osa_eq, refuse_eq]
  refine wpAny_bind (wpAny_bind (I.type.here (wpAny_bind (hm'.here ?_))))
  rw [ho.1, refuse_exc]
  refine wpAny_pure (wpAny_bind (I.type.here (wpAny_bind ((looks_findIn X ha).here (wpAny_bind (L3.here ?_))))))
  exact h _
set_option tactic.hygienic true in
theorem storeInDict_my {dx:Addr} {es:List DictEntry} {m:Nat} {v:Value} {Qf:Fin → Shared → Prop} (D:s.heap.get? dx = some (dictOf es m)) (hl:(getL name es).isSome = true)
    (hz:(putL name (PyData.keyHash w.params name) (.str name s.toks) v es).length ≤ 1000) {tk:Tok}
    (h:∀ h', h'.get? dx = some (dictOf (putL name (PyData.keyHash w.params name) (.str name s.toks) v es) (putN name es m)) → Heap.SameBut dx s.heap h' → Qf (.done (.ret .none)) { s with heap:=h', toks:=s.toks + 1 }) :
    wpAny (model prog w) A (storeInDict dx (.str name tk) name v) Qf E s:=by
  refine wpAny_bind (wpAny_pure (wpAny_bind ?_))
  unfold nsSet
  refine wpAny_bind (wpAny_bind (wpAny_askSetting (wpAny_pure (wpAny_bind (wpAny_mkText (wpAny_bind (wpAny_loadPart D ?_)))))))
  dsimp only
  have c:(!es.toArray.any (·.key.isStr name) && es.toArray.any (·.refKey)) = false:=by
    unfold getL at hl
    rw [← Array.any_toList, ← Array.any_toList]
    split at hl
    · rename_i en he
      rw [List.any_eq_true.mpr ⟨en, by simpa using List.mem_of_find?_eq_some he, List.find?_some he⟩]; rfl
    · split at hl
      · cases hl
      · rename_i z; rw [Bool.not_eq_true] at z
        have z':es.toArray.toList.any (·.refKey) = false:=by simpa using z
        rw [z', Bool.and_false]
  rw [aRefKeyMayBeTheName_at, c]
  have D':(s.heap.update dx (Obj.putName name (PyData.keyHash w.params name) (.str name s.toks) v)).get? dx = some (dictOf (putL name (PyData.keyHash w.params name) (.str name s.toks) v es) (putN name es m)):=by
    rw [Heap.get?_update_self _ D (by rw [putName_dict]; rfl), putName_dict]
  refine wpAny_updatePart D ?_
  refine wpAny_bind (wpAny_lookBehind D' (pastItsLine_dict (by rw [List.size_toArray, sizeLine_eq]; lia)) ?_)
  exact wpAny_pure (h _ D' (Heap.SameBut.update ..))
noncomputable abbrev excObj (C:Addr) (d:Option Addr) (fs:Array Value):Obj:={ cls:=.ref C, dict:=d, data:=.fields fs }
theorem set_exc0 {fs:Array Value} {v:Value} {Q:Unit → Shared → Prop} (X:K.In s.heap) (hx:s.heap.get? x = some (excObj C none fs)) (hm:excMro K C = true)
    (hs:findIn K (.ref C) "__setattr__" = some (some (.builtin "object.__setattr__"))) (ht:takerIn K C name = some none)
    (hQ:∀ h' tk t, h'.get? x = some (excObj C (some s.heap.objs.size) fs) → h'.get? s.heap.objs.size = some (dictOf [⟨PyData.keyHash w.params name, .str name t, v⟩] 1) → (∀ a o, a ≠ x → s.heap.get? a = some o → h'.get? a = some o) → Q () { s with heap:=h', toks:=tk }) :
    wpAny (model prog w) A (setAttr (.ref x) name v) Q E s:=by
  obtain ⟨hh, g, d, t, os⟩:=s
  dsimp only at hx X hQ
  have I:InstAt hh x (excObj C none fs) C none:=⟨hx, rfl, rfl, True.intro⟩
  refine set_plain (s:=⟨hh, g, d, t, os⟩) X I hs (osa_openE (s:=⟨hh, g, d, t + 1, os⟩) X I hm ht fun b => ?_)
  obtain ⟨cd, hc, ho⟩:=any_some hm
  rw [Bool.and_eq_true] at ho
  have hlt:x ≠ hh.objs.size:=Nat.ne_of_lt (Heap.lt_size hx)
  have hx₁:=Heap.get?_push_of_some emptyDict hx
  refine wpAny_bind (wpAny_pure (wpAny_bind (wpAny_bind (wpAny_loadPart hx (wpAny_bind (Looks.here (s:=⟨hh, g, d, t + 1, os⟩) (looks_clsIn X hc) ?_))))))
  rw [ho.2]
  refine wpAny_bind (wpAny_alloc (wpAny_bind (wpAny_update (s:=⟨hh.push emptyDict, g, d, t + 1, os⟩) hx₁ ?_)))
  refine wpAny_pure ?_
  have hd₁:(hh.push emptyDict).get? hh.objs.size = some emptyDict:=Heap.get?_push_size _ rfl
  have hx₂:((hh.push emptyDict).update x fun o => { o with dict:=some hh.objs.size }).get? x = some (excObj C (some hh.objs.size) fs):=Heap.get?_update_self _ hx₁ rfl
  have hd₂:((hh.push emptyDict).update x fun o => { o with dict:=some hh.objs.size }).get? hh.objs.size = some emptyDict:=(Heap.get?_update_other _ _ hlt).trans hd₁
  refine storeInDict_my (s:=⟨(hh.push emptyDict).update x fun o => { o with dict:=some hh.objs.size }, g, d, t + 1, os⟩) (es:=[]) (m:=0) hd₂ rfl (by show (1:Nat) ≤ 1000; decide) fun h' hg hs' => ?_
  refine hQ h' _ _ ?_ hg fun a o na e => ?_
  · exact hs'.extBut x _ hlt hx₂
  · have ne:a ≠ hh.objs.size:=Nat.ne_of_lt (Heap.lt_size e)
    exact hs'.extBut a o ne ((Heap.get?_update_other _ _ (Ne.symm na)).trans (Heap.get?_push_of_some _ e))
theorem set_exc1 {fs:Array Value} {v:Value} {Q:Unit → Shared → Prop} {dx:Addr} {es:List DictEntry} {m:Nat} (X:K.In s.heap) (hx:s.heap.get? x = some (excObj C (some dx) fs)) (hd:s.heap.get? dx = some (dictOf es m)) (hm:excMro K C = true)
    (hs:findIn K (.ref C) "__setattr__" = some (some (.builtin "object.__setattr__"))) (ht:takerIn K C name = some none) (hl:(getL name es).isSome = true) (hz:∀ t, (putL name (PyData.keyHash w.params name) (.str name t) v es).length ≤ 1000)
    (hQ:∀ h' tk t, h'.get? dx = some (dictOf (putL name (PyData.keyHash w.params name) (.str name t) v es) (putN name es m)) → Heap.SameBut dx s.heap h' → Q () { s with heap:=h', toks:=tk }) :
    wpAny (model prog w) A (setAttr (.ref x) name v) Q E s:=by
  obtain ⟨hh, g, d, t, os⟩:=s
  dsimp only at hx X hQ hd
  have I:InstAt hh x (excObj C (some dx) fs) C (some (dictOf es m)):=⟨hx, rfl, rfl, hd⟩
  refine set_plain (s:=⟨hh, g, d, t, os⟩) X I hs (osa_openE (s:=⟨hh, g, d, t + 1, os⟩) X I hm ht fun b => ?_)
  obtain ⟨cd, hc, ho⟩:=any_some hm
  rw [Bool.and_eq_true] at ho
  refine wpAny_bind (wpAny_pure (wpAny_bind (wpAny_bind (wpAny_loadPart hx (wpAny_bind (Looks.here (s:=⟨hh, g, d, t + 1, os⟩) (looks_clsIn X hc) ?_))))))
  rw [ho.2]
  refine wpAny_pure ?_
  exact storeInDict_my (s:=⟨hh, g, d, t + 1, os⟩) hd hl (hz _) fun h' hg hs' => hQ h' _ _ hg hs'
end
theorem check_einit {M:Model} {A:Around} {E:Value → Shared → Prop} {x C:Addr} {ox:Obj} {cd:ClassData} {rest:List Value} {Q:Unit → Shared → Prop} {hp:Heap} {g:Array GenState} {d:Drawn} {tk:Nat} {os:OsState}
    (hx:hp.get? x = some ox) (hcl:ox.cls = .ref C) (hcd:Looks M hp (classData C) cd)
    (hT:Looks M hp (isInstance (.ref x) (.type "Exception")) true) (h:Q () ⟨hp, g, d, tk, os⟩):wpAny M A (checkBuiltinCall "Exception.__init__" ⟨.ref x :: rest, []⟩) Q E ⟨hp, g, d, tk, os⟩:=by
  have F:=PySem.F.excCall_Exception
  have hshort:=F.noStar
  simp only [checkBuiltinCall, F.initKind, F.initSplit, F.initRow]
  refine wpAny_bind (hT.at ?_)
  repeat (first | (with_reducible refine wpAny_loadPart_at hx ?_; rw [hcl]) | with_reducible refine hcd.at ?_ | wp_step)
  refine wpAny_onRaise ?_
  rw [show ∀ (a b:String) (n:Nat), Bind.check ⟨.positional, "*", "Exception", .self, [⟨"args", .varPos, false⟩]⟩ a b n (List.map (fun x => x.fst) ({ pos:=.ref x :: rest }:Args).kw) = pure () from
    fun a b n => check_star_args _ _ _ _ _ _]
  exact wpAny_pure h
section
variable {w:World} {H₀:Heap} {S:Fx} {n:Nat} {A:Around} {env:Env} {stk:List Env} {ow md md':ASet} {σ σ':Store} {vs vs':Slots} {s:Shared} {h h':Heap}
variable {K:PV → Store → Prop} {X:PExc → Store → Prop}
set_option tactic.hygienic true in
theorem p_einit {x C t0:Addr} {d:Option Addr} {fs:Array Value} {what:Str} (hσ:σ x = some (.raw (excObj C d fs))) (h0:fs[0]? = some (.ref t0)) (hm:mroIn (KK w) C (.type "Exception") = some true) (hcs:(clsIn (KK w) C).isSome = true)
    (k:∀ t, K .none (upd σ x (some (.raw (excObj C d (fs.setIfInBounds 0 (.ref t))))))):Prim w H₀ n [.loc x, .str what] σ (fun vals => PySem.call (.builtin "Exception.__init__") vals) K X:=by
  intro A stk md s vals bx r
  apply r.e2; intro _ _ r₁ r₂
  apply r₁.iLoc
  apply r₂.iStr; intro _
  rename_i tw
  obtain ⟨ha, hx⟩:=bx.inv.sto x _ hσ
  have hx:s.heap.get? x = some (excObj C d fs):=hx
  have I0:Looks (MD w) s.heap (typeOf (.ref x)) (.ref C):=(Looks.ld hx).andThen .now
  have hT:Looks (MD w) s.heap (isInstance (.ref x) (.type "Exception")) true:=I0.andThen (looks_mroIn bx.K hm)
  obtain ⟨cd, hcs⟩:=Option.isSome_iff_exists.mp hcs
  have hcd:Looks (MD w) s.heap (classData C) cd:=looks_clsIn bx.K hcs
  have F:=PySem.F.excCall_Exception
  have inv:=bx.inv
  have i₁:=inv.push (o:={ cls:=.type "tuple", data:=.seq #[.str what tw] })
  obtain ⟨hp, g, dr, tk, os⟩:=s
  refine wpAny_call (codeAny_call_builtin F.init.plain F.initEntry (check_einit hx rfl hcd hT ?_))
  show wpAny _ _ (newTuple [.str what tw] >>= fun t => (do
    let old ← field (.ref x) 0
    setField (.ref x) 0 t
    if let .ref _:=old then letGo [old] []) >>= fun J => ret .none) _ _ _
  refine wpAny_bind (wpAny_newTuple ?_)
  have hx₁:(hp.push { cls:=.type "tuple", data:=.seq #[.str what tw] }).get? x = some (excObj C d fs):=Heap.get?_push_of_some _ hx
  refine wpAny_bind (wpAny_bind (wpAny_field hx₁ rfl h0 (wpAny_bind (wpAny_setField hx₁ rfl (Array.getElem?_eq_some_iff.mp h0).1 (wpAny_letGo (wpAny_pure ?_))))))
  have hs:Heap.SameBut x (hp.push { cls:=.type "tuple", data:=.seq #[.str what tw] }) ((hp.push { cls:=.type "tuple", data:=.seq #[.str what tw] }).update x (Obj.mapFields (·.setIfInBounds 0 (.ref hp.objs.size)))):=Heap.SameBut.update ..
  have hg:((hp.push { cls:=.type "tuple", data:=.seq #[.str what tw] }).update x (Obj.mapFields (·.setIfInBounds 0 (.ref hp.objs.size)))).get? x = some (excObj C d (fs.setIfInBounds 0 (.ref hp.objs.size))):=by
    rw [Heap.get?_update_self _ hx₁ rfl]; rfl
  exact ⟨.none, _, md, _, tk, rfl, k hp.objs.size, .none, i₁.upd hσ hs (m':=.raw (excObj C d (fs.setIfInBounds 0 (.ref hp.objs.size)))) hg ⟨_, hg⟩, (Go.push.trans (.upd hσ hs ⟨_, hg⟩))⟩
end
end Mine
end
section
open PySem PySem.W PySem.Spec PySem.Calls PyProof.Rows Builtin Builtin.ObjectAttr
set_option maxRecDepth 100000
set_option maxHeartbeats 4000000
namespace Mine
noncomputable def makesE (K:Frag) (C:Addr):Bool:=match K.lookup C with
  | some ⟨_, _, .cls cd, sl⟩ => !cd.abstract && !cd.hasDel && (sl.toList[4]?).join == some (.builtin "Exception.__new__") && cd.mro == [.ref C, .ref 39, .type "Exception", .type "BaseException", .type "object"] &&
      specialIn K (.ref C) "__call__" == some (some (.builtin "type.__call__")) && instIn K (.ref C) (.type "type") == some true
  | _ => false
structure MakesE (M:Model) (h:Heap) (C:Addr):Prop where
  obj:∃ oc od cd sl, h.get? C = some ⟨oc, od, .cls cd, sl⟩ ∧ cd.abstract = false ∧ cd.hasDel = false ∧ cd.mro = [.ref C, .ref 39, .type "Exception", .type "BaseException", .type "object"]
  made:Looks M h (Bind.madeBy (.ref C)) (some "Exception.__new__")
  base:Looks M h (Bind.staticBase (.ref C)) (.ref C)
  self:Looks M h (isSubtype (.ref C) (.ref C)) true
  top:Looks M h (isSubtype (.ref C) (.type "Exception")) true
  noA:Looks M h (isSubtype (.ref C) (.type "AttributeError")) false
  noN:Looks M h (isSubtype (.ref C) (.type "NameError")) false
  call:Looks M h (specialOf (.ref C) "__call__") (some (.builtin "type.__call__"))
  typ:Looks M h (isInstance (.ref C) (.type "type")) true
set_option tactic.hygienic true in
theorem makesE_of {K:Frag} {M:Model} {h:Heap} (X:K.In h) {C:Addr} (e:makesE K C = true):MakesE M h C:=by
  unfold makesE at e
  split at e
  · rename_i oc od cd sl ho
    simp only [Bool.and_eq_true, Bool.not_eq_true', beq_iff_eq] at e
    obtain ⟨⟨⟨⟨⟨e1, e2⟩, e3⟩, e4⟩, e7⟩, e8⟩:=e
    have hc:clsIn K C = some cd:=by unfold clsIn; rw [ho]
    have hm:Looks M h (mroOf (.ref C)) cd.mro:=(looks_clsIn X hc).andThen .now
    have made:Looks M h (Bind.madeBy (.ref C)) (some "Exception.__new__"):=by
      intro A Q E s k q
      unfold Bind.madeBy
      refine wpAny_bind (hm A _ E s k ?_)
      rw [e4, List.forIn_cons]
      refine wpAny_bind (wpAny_bind (wpAny_bind (wpAny_bind (wpAny_loadPart (k _ _ (X _ _ ho)) (wpAny_pure ?_)))))
      dsimp only
      rw [← Array.getElem?_toList, e3]
      exact wpAny_pure (wpAny_pure (wpAny_pure q))
    have mm:∀ t r, mroIn K C t = some r → Looks M h (isSubtype (.ref C) t) r:=fun t r e => looks_mroIn X e
    refine ⟨⟨oc, od, cd, sl, X _ _ ho, e1, e2, e4⟩, made, ?_, mm _ _ ?_, mm _ _ ?_, mm _ _ ?_, mm _ _ ?_, looks_specialIn X e7, looks_instIn X e8⟩
    · intro A Q E s k q
      unfold Bind.staticBase
      refine wpAny_bind (hm A _ E s k ?_)
      rw [e4, List.forIn_cons]
      exact wpAny_bind (wpAny_bind (wpAny_bind (made A _ E s k (wpAny_pure (wpAny_pure (wpAny_pure q))))))
    all_goals (unfold mroIn; rw [hc, Option.bind_some, e4])
    · simp
    · simp
    · simp
    · simp
  · cases e
section
variable {prog:Program} {w:World} {A:Around} {K:Frag} {C:Addr} {R:Result → Shared → Prop} {h:Heap} {g:Array GenState} {d:Drawn} {t:Nat} {os:OsState}
theorem new_E {rest:List Value} (Y:MakesE (model prog w) h C) (hrest:rest.length ≤ 1000)
    (hq:R (.ok (.ret (.ref (h.objs.size + 1)))) ⟨(h.push { cls:=.type "tuple", data:=.seq rest.toArray }).push (excObj C none #[.ref h.objs.size, .none, .none, .none, .bool false, .none]), g, d, t, os⟩) :
    codeAny (model prog w) A (.call (.builtin "Exception.__new__") ⟨.ref C :: rest, []⟩) R ⟨h, g, d, t, os⟩:=by
  obtain ⟨⟨oc, od, cd, sl, hC, e1, e2, e4⟩, made, base, self, top, noA, noN, call, typ⟩:=Y
  have F:=PySem.F.excBase_Exception
  refine codeAny_call_builtin_code (Code.quiet_builtin _ F.quiet) ?_
  have hends:=F.ends
  simp only [checkBuiltinCall, F.newKind, F.newSplit, F.newRow]
  repeat (first | simp only [bne_self_eq_false, Bool.false_eq_true, if_false, Bool.not_true, Option.map_some] | lk)
  refine codeAny_builtinAt F.entry ?_
  unfold Builtin.«BaseException.__new__»
  refine PySem.wpAt_bind ?_
  refine (?_:PySem.wpAt _ _ _ (stack >>= _) _ _ _)
  refine PySem.wpAt_bind (PySem.wpAt_stack fun p below => PySem.wpAt_of_wpAny ?_)
  wp_walk
  refine PySem.wpAt_of_wpAny ?_
  rw [F.owner]
  have here:Looks (model prog w) h (Bind.madeHere "BaseException.__new__" (.ref C)) ():=base.andThen (made.andThen (Looks.of_pure (by simp only [Option.map_some, F.canon, bne_self_eq_false, Bool.false_eq_true, if_false])))
  repeat (first | simp only [Bool.false_eq_true, if_false, Bool.not_true] | lk | wp_step)
  rw [if_neg (by rw [List.size_toArray, sizeLine_eq]; lia)]
  have hC₁:=Heap.get?_push_of_some { cls:=.type "tuple", data:=.seq rest.toArray } hC
  have hC₂:=Heap.get?_push_of_some (excObj C none #[.ref h.objs.size, .none, .none, .none, .bool false, .none]) hC₁
  repeat (first | simp only [e2, Bool.false_eq_true, if_false, Bool.not_true] | with_reducible refine wpAny_loadPart_at hC₁ ?_ | with_reducible refine wpAny_loadPart_at hC₂ ?_ | lk | wp_step)
  refine (?_:R _ _)
  rw [Heap.size_push]
  exact hq
theorem make_E {rest:List Value} {init:Value} (Y:MakesE (model prog w) h C) (hi:Looks (model prog w) h (typeLookup (.ref C) "__init__") (some init))
    (hb:∀ self, Looks (model prog w) h (bindSpecial init self) (init, [self])) (hrest:rest.length ≤ 1000)
    (hq:codeAny (model prog w) (A.under (.builtin "type.__call__" ⟨.ref C :: rest, []⟩)) (.call init ⟨.ref (h.objs.size + 1) :: rest, []⟩) (InitBack (h.objs.size + 1) R)
      ⟨(h.push { cls:=.type "tuple", data:=.seq rest.toArray }).push (excObj C none #[.ref h.objs.size, .none, .none, .none, .bool false, .none]), g, d, t, os⟩) :
    codeAny (model prog w) A (.call (.ref C) ⟨rest, []⟩) R ⟨h, g, d, t, os⟩:=by
  have Y':=Y
  obtain ⟨⟨oc, od, cd, sl, hC, e1, e2, e4⟩, made, base, self, top, noA, noN, call, typ⟩:=Y
  refine codeAny_of_tree ?_
  refine (?_:wpAny _ _ (callAny (.ref C) _) _ _ _)
  refine nd_load hC ?_
  refine (?_:wpAny _ _ (callAny.viaDunder (.ref C) _) _ _ _)
  unfold callAny.viaDunder
  refine wpAny_bind (call.at ?_)
  dsimp only
  rw [tc_bind]
  refine wpAny_bind (wpAny_pure (wpAny_bind (wpAny_pure ?_)))
  refine wpAny_pure (a:=Fin.again (.call (.builtin "type.__call__") ⟨.ref C :: rest, []⟩)) (And.intro rfl ?_)
  refine codeAny_call_builtin_at (Code.quiet_builtin _ (by decide +kernel)) entry_typeCall (check_slot tc_kind tc_split typ (tc_args _ _ _) ?_)
  unfold Builtin.«type.__call__»
  have hm:Looks (model prog w) h (mroOf (.ref C)) cd.mro:=((Looks.ld (part:=none) hC).andThen .now).andThen .now
  have hne:cd.mro.isEmpty = false:=by rw [e4]; rfl
  repeat (first | simp only [hne, Bool.false_eq_true, if_false] | with_reducible refine wpAny_call ?_ | lk)
  refine new_E Y' hrest ?_
  have k:∀ b o, h.get? b = some o → ((h.push { cls:=.type "tuple", data:=.seq rest.toArray }).push (excObj C none #[.ref h.objs.size, .none, .none, .none, .bool false, .none])).get? b = some o:=fun b o e => Heap.get?_push_of_some _ (Heap.get?_push_of_some _ e)
  have hx:((h.push { cls:=.type "tuple", data:=.seq rest.toArray }).push (excObj C none #[.ref h.objs.size, .none, .none, .none, .bool false, .none])).get? (h.objs.size + 1) = some (excObj C none #[.ref h.objs.size, .none, .none, .none, .bool false, .none]):=by heap_get
  have t1:Looks (model prog w) ((h.push { cls:=.type "tuple", data:=.seq rest.toArray }).push (excObj C none #[.ref h.objs.size, .none, .none, .none, .bool false, .none])) (typeOf (.ref (h.objs.size + 1))) (.ref C):=(Looks.ld hx).andThen .now
  have s1:=self.keeps k
  have i1:=hi.keeps k
  have b1:=(hb (.ref (h.objs.size + 1))).keeps k
  unfold isInstance callSpecial? specialOf
  repeat (first | with_reducible refine wpAny_call ?_ | lk)
  refine codeAny_mono hq fun r s' z => ?_
  rcases r with e | (v | _ | _ | _) <;> first | exact z | exact z.elim | skip
  obtain ⟨rfl, z⟩:=z
  exact wpAny_pure (wpAny_pure z)
end
section
variable {prog:Program} {w:World} {A:Around} {s:Shared}
theorem call_cellsB {R:Result → Shared → Prop} {a:Addr} {o:Obj} {fd:FuncData} {body:List Stmt} {vals:List Value} {binds:List (Str × Value)}
    (hroom:A.depth < recursionLimit) (ho:s.heap.get? a = some o) (hdata:o.data = .func fd) (hlim:s.heap.NoLimit) (hcd:s.heap.CodeRec fd.code fd.qualname)
    (hbody:fd.body = .stmts body) (hbind:BindsTo s fd ⟨vals, []⟩ binds) (hclo:fd.closure = [])
    (hkind:∀ x ∈ binds, fd.scope.names.lookup x.1 = some .local ∨ (fd.scope.names.lookup x.1 = some .cell ∧ ((cellsFrom (s.heap.objs.size + 1) fd.scope.names []).lookup x.1).isSome = true))
    (h:∀ s₁, InCallC s (callEnvC fd s.heap.objs.size a).locals (bindL (callEnvC fd s.heap.objs.size a).kindOf binds fun J => none) (callEnvC fd s.heap.objs.size a).cells
        (bindC (callEnvC fd s.heap.objs.size a).kindOf binds fun J => none) s₁ →
      wpAny (model prog w) (A.deeper (callEnvC fd s.heap.objs.size a)) (execs body (callEnvC fd s.heap.objs.size a)) (fun f s' => R (.ok (.ret (match f with | .ret v => v | _ => .none))) s')
        (fun e s' => wpAny (model prog w) (A.deeper (callEnvC fd s.heap.objs.size a)) (leaving (callEnvC fd s.heap.objs.size a) e) (fun J s'' => R (.error e) s'') (fun e' s'' => R (.error e') s'') s') s₁)
    (hco:fd.scope.isCoroutine = false:=by rfl) (hgen:fd.scope.isGenerator = false:=by rfl) (hk:fd.scope.kind = .function:=by rfl) :
    codeAny (model prog w) A (.call (.ref a) ⟨vals, []⟩) R s:=by
  refine codeAny_call_function hroom ho hdata hco hgen hbody hcd (hbind _ _ _ _ ?_)
  rw [hclo]
  refine wpAny_newFunctionEnv_cells hk hkind fun env he s' x => ?_
  subst he
  exact ⟨hlim.keeps x.toInCall.keep, codeAny_func (h s' x)⟩
end
section
variable {w:World} {H₀:Heap} {n:Nat} {σ:Store}
inductive IsDefD (w:World) (f:Addr) (d:Def) (na:Nat) (dv:List Value):Prop
  | intro (oc od name qual pars dV kV doc pm cdv ct an osl:_) (lk:(hd.heap_1 w.params).lookup f = some ⟨oc, od, .func (fnOf name qual pars d.body d.fx.sc dV kV doc pm an cdv ct), osl⟩) (cd:codeIn (hd.heap_1 w.params) cdv qual = true)
    (bd:∀ vals:List Value, vals.length = na → ∀ s:Shared, (hd.heap_1 w.params).In s.heap → BindsTo s (fnOf name qual pars d.body d.fx.sc dV kV doc pm an cdv ct) ⟨vals, []⟩ (d.params.zip (vals ++ dv))) (pe:∀ a, d.fx.pe (callEnvC (fnOf name qual pars d.body d.fx.sc dV kV doc pm an cdv ct) a f))
theorem PrimC.fnD {d:Def} {f:Addr} {args₀ dargs:List PV} {dv:List Value} {K:PV → Store → Prop} {X:PExc → Store → Prop} (hd:IsDefD w f d args₀.length dv) (hdr:∀ md h, RelL md h dv dargs) (hok:d.ok = true) (hl:(args₀ ++ dargs).length = d.params.length)
    (hb:ExB w H₀ d.fx n d.body (slots0 d (args₀ ++ dargs)) σ (fun pf J σ' => match pf with | .ret p => K p σ' | .next => K .none σ') (fun pe J σ' => X pe σ')):PrimC w H₀ (n + 1) args₀ σ (.ref f) K X:=by
  intro A stk md s vals₀ b r₀
  obtain ⟨oc, od, name, qual, pars, dV, kV, doc, pm, cdv, ct, an, osl, ho, hcd, hbind, hpe⟩:=hd
  have X₀:=b.inv.gl.X
  have hX:=X₀.keeps b.inv.base
  obtain ⟨p', loose, mg, mb, T⟩:=b.inv.gl.T
  have hlim:s.heap.NoLimit:=T.nolimit.keeps b.inv.base
  have hbind:=hbind vals₀ r₀.length s hX
  have r:RelL md s.heap (vals₀ ++ dv) (args₀ ++ dargs):=r₀.append (hdr _ _)
  generalize hvals:vals₀ ++ dv = vals at *
  generalize hargs:args₀ ++ dargs = args at *
  have hvl:vals.length = d.params.length:=by rw [r.length]; exact hl
  have hok':=hok
  simp only [Def.ok, Bool.and_eq_true, Bool.not_eq_true', decide_eq_true_eq, beq_iff_eq, List.all_eq_true, Bool.or_eq_true, bne_iff_ne] at hok'
  obtain ⟨⟨⟨⟨⟨⟨⟨⟨hkind, hco⟩, hgen⟩, hpn⟩, hnn⟩, htake⟩, hpk⟩, hcn⟩, hfree⟩:=hok'
  refine (call_cellsB (fd:=fnOf name qual pars d.body d.fx.sc dV kV doc pm an cdv ct) (body:=d.body) (Nat.lt_of_le_of_lt (Nat.le_add_right _ _) b.depth) (hX _ _ ho) rfl hlim (codeRec_of hX hcd) rfl hbind rfl ?_ ?_ hco hgen hkind)
  · intro x hx
    have hx1:x.1 ∈ d.params:=(List.of_mem_zip hx).1
    rcases hpk _ hx1 with q | q
    · exact .inl q
    · refine .inr ⟨q.1, ?_⟩
      rw [lookup_isSome_iff, cellsFrom_names' _ _ 0 [] [] rfl, ← lookup_isSome_iff]; exact q.2
  · intro s₁ x
    obtain ⟨c, hno, h₁, tk, rfl, hk⟩:=enter hok (fd:=fnOf name qual pars d.body d.fx.sc dV kV doc pm an cdv ct) rfl rfl rfl (hpe _) b r hvl x
    generalize hE:callEnvC (fnOf name qual pars d.body d.fx.sc dV kV doc pm an cdv ct) s.heap.objs.size f = env at *
    have hfr:env.frame = some env.locals:=by rw [← hE]; rfl
    refine wpAny_mono (hb.run _ _ _ _ _ _ c) (fun fl s' x => ?_) fun v s' x => ?_
    · obtain ⟨pf, vs', σ', md', h', tk', rfl, k, rf, c', g⟩:=x
      have g':=g.out hno hk hfr
      cases fl with
      | next =>
        cases pf with
        | next => exact ⟨.none, σ', md', h', tk', rfl, k, .none, c'.bx.inv.pop, g'⟩
        | ret p => exact rf.elim
      | ret v =>
        cases pf with
        | next => exact rf.elim
        | ret p => exact ⟨p, σ', md', h', tk', rfl, k, rf, c'.bx.inv.pop, g'⟩
      | brk => cases pf <;> exact rf.elim
      | cont => cases pf <;> exact rf.elim
    · obtain ⟨pe, vs', σ', md', h', tk', rfl, k, c', g, st, hst, t⟩:=x
      rw [hfr] at hst
      refine wpA_leaving (s:=⟨h', s.gens, s.drawn, tk', s.os⟩) c'.bx.frames hfr c'.bx.inv t hst g.st.alive fun md'' h'' i'' st'' t'' => ?_
      have alive:∀ a o, s.heap.get? a = some o → ∃ o', h₁.get? a = some o':=fun a o q => ⟨o, hk a o q⟩
      refine ⟨pe, σ', md'', h'', tk', rfl, k, i''.pop, ⟨?_, (g.out hno hk hfr).d⟩, .flew none, .inr rfl, t''.pop alive⟩
      have:=g.st.trans st'' (fun a q => .inr q.2.1) fun J q => q.elim
      exact this.out hno hk hfr (fun a q => q.elim (fun q => .inr (hno a q)) fun q => .inl (.inr q)) fun J q => .inl q
theorem PrimC.defD {f:Addr} {oc:Value} {od:Option Addr} {osl:_} {name qual:Str} {pars:Arguments} {body:List Stmt} {sc:Scope} {dV kV doc pm an cdv ct:_} {params ns oc' gs:List Str} {ks:List NameKind}
    {args dargs:List PV} {dv:List Value} {vs:Slots} {K:PV → Store → Prop} {X:PExc → Store → Prop}
    (hl:(hd.heap_1 w.params).lookup f = some ⟨oc, od, .func (fnOf name qual pars body sc dV kV doc pm an cdv ct), osl⟩) (hc:codeIn (hd.heap_1 w.params) cdv qual = true)
    (hb:∀ vals:List Value, vals.length = args.length → ∀ s:Shared, (hd.heap_1 w.params).In s.heap → BindsTo s (fnOf name qual pars body sc dV kV doc pm an cdv ct) ⟨vals, []⟩ (params.zip (vals ++ dv))) (hdr:∀ md h, RelL md h dv dargs)
    (hn:sc.names = tagged ns ks gs) (hk:sc.kind = .function) (hL:ns.length = ks.length) (hz:hnd ((ns ++ gs ++ special).map hs) = true) (hok:Def.ok ⟨params, body, (.mk3 sc ns oc')⟩ = true) (hlen:(args ++ dargs).length = params.length)
    (hs:slots0 ⟨params, body, (.mk3 sc ns oc')⟩ (args ++ dargs) = vs)
    (hB:∀ S:Fx, S.Good ns oc' ks gs → Bk w H₀ S n body vs σ (fun J σ' => K .none σ') (fun p J σ' => K p σ') (fun pe J σ' => X pe σ')):PrimC w H₀ (n + 1) args σ (.ref f) K X :=
  .fnD (d:=⟨params, body, (.mk3 sc ns oc')⟩) ⟨oc, od, name, qual, pars, dV, kV, doc, pm, cdv, ct, an, osl, hl, hc, hb, fun J => trivial⟩ hdr hok hlen (hs ▸ (hB _ (.of rfl rfl hk hn hL hz)).mono (fun p J J k => by cases p <;> exact k) fun J J J x => x)
end
section
variable {w:World} {H₀:Heap} {S:Fx} {n:Nat} {A:Around} {env:Env} {stk:List Env} {ow md md':ASet} {σ σ':Store} {vs vs':Slots} {s:Shared} {h h':Heap}
theorem method_typeM {T:String} {name:Str} {v:Value} {pl:Sem Bool} {Q:Value × List Value → Shared → Prop} {E:Value → Shared → Prop} (X:(KK w).In s.heap) (ht:typeOf (.type T) = pure (.type "type")) (hs:Manifest.isStub T = false)
    (e:findCls (KK w) (.type T) (.type "type") name = some (.val v)) (hh:handedIn v = true) (h:Q (v, []) { s with toks:=s.toks + 1 }):wpAny (MD w) A (getMethod (.type T) name pl) Q E s:=by
  have hstub:opaqueClassAbove (.type T) = pure none:=by unfold opaqueClassAbove; dsimp only; rw [hs]; rfl
  have L0:Looks (MD w) s.heap (typeOf (.type T)) (.type "type"):=Looks.of_pure ht
  have hg:findIn (KK w) (.type "type") "__getattribute__" = some (some (.builtin "type.__getattribute__")):=type_tga
  unfold getMethod specialOf
  refine wpAny_bind (wpAny_bind (L0.here ((looks_findIn X hg).here ?_)))
  dsimp only
  rw [if_pos canon_tga]
  refine wpAny_bind (wpAny_mono (Q:=fun v => Q (v, [])) (E:=E) ?_ (fun J J z => wpAny_pure z) fun J J z => z)
  have LO:Looks (MD w) s.heap (opaqueClassAbove (.type T)) none:=Looks.of_pure hstub
  refine cls_open X LO L0 hg (looks_hook X (r:=none) (by rfl)) (by show subIn (KK w) _ _ = _; rfl) e
    (wpAny_pure (by show wpAny _ _ (handedOut v) _ _ _; rw [handedOut_of hh]; exact wpAny_pure h))
variable {K:PV → Slots → Store → Prop} {X:PExc → Slots → Store → Prop}
theorem EvE.methT {o:Expr} {x:Str} {ap p:Pos} {es:List Expr} (hb:∀ env, attributeBase o x env (eval o env) = eval o env) (hp:∀ env, (backTo p (starEach es env)).any (·.1) = false)
    (hl:(ap.endLine == p.line) = true) (hn:es.length < 29)
    (hh:EvE w H₀ S n o vs σ (fun q vs₁ σ₁ => ∃ T fv, q = .con (.type T) ∧ Kept w fv ∧ typeOf (.type T) = pure (.type "type") ∧ Manifest.isStub T = false ∧ findCls (KK w) (.type T) (.type "type") x = some (.val fv) ∧ handedIn fv = true ∧
      EvL w H₀ S n es vs₁ σ₁ (fun l vs₂ σ₂ => Prim w H₀ n l σ₂ (fun vals => PySem.call fv vals) (fun q => K q vs₂) (fun q => X q vs₂)) X) X):EvE w H₀ S n (.Call (.Attribute o x ap) es [] p) vs σ K X:=by
  refine ⟨fun A env stk ow md s c => ?_⟩
  rw [arm_eval_Call, hb]
  refine wpAny_bind (hh.at c (fun J J e => e) fun v q vs₁ σ₁ md₁ h₁ tk k r c₁ kp₁ g₁ => wpAny_bind (wpAny_standAt ?_))
  obtain ⟨T, fv, rfl, hk, ht, hst, hf, hhd, k⟩:=k
  obtain rfl:v = .type T:=r.inv
  have hform:methodCallForm (es.length + ([]:List Keyword).length) (backTo p (starEach es env)) (backToKw p (keywordEach [] env)) = true:=by
    have hp':=hp env
    unfold methodCallForm
    simp only [Bool.and_eq_true, List.all_eq_true, decide_eq_true_eq]
    refine ⟨⟨fun y hy => ?_, fun y hy => by cases hy⟩, ?_⟩
    · rw [List.any_eq_false] at hp'
      simpa using hp' y hy
    · refine (?_:es.length + 0 + 0 < 30)
      lia
  have hpos:methodCallPos true o env ap p = pure p:=by unfold methodCallPos; simp [hl]
  unfold methodCall
  rw [hform]
  refine wpAny_bind (wpAny_holding (method_typeM (s:=⟨h₁, s.gens, s.drawn, tk, s.os⟩) c₁.bx.K ht hst hf hhd ?_))
  refine wpAny_bind (wpAny_of_eq hpos ?_)
  refine wpA_callWith (hp env) (Tr.at (s:=⟨h₁, s.gens, s.drawn, tk + 1, s.os⟩) (k p) c₁ (fun J J e => GEx.lift (tk:=tk + 1) g₁ e) fun v₂ l vs₂ σ₂ md₂ h₂ tk₂ k₂ r₂ c₂ kp₂ g₂ => ⟨hk _ (c₂.bx.inv.gl.X.keeps c₂.bx.inv.base), ?_⟩)
  exact wpAny_mono (Prim.in (s:=⟨h₂, s.gens, s.drawn, tk₂, s.os⟩) (t:=fun vals => PySem.call fv vals) k₂ c₂ r₂) (fun J J e => (e.lift g₂).lift g₁) fun J J e => (e.lift g₂).lift g₁
end
theorem typ_Exception:typeOf (.type "Exception") = pure (.type "type"):=by
  show pure _ = _
  kernel_rfl
theorem stub_Exception:Manifest.isStub "Exception" = false:=by decide +kernel
theorem cls_Exception (w:World):findCls (KK w) (.type "Exception") (.type "type") "__init__" = some (.val (.builtin "Exception.__init__")):=by kernel_rfl
section
variable {w:World} {H₀:Heap} {S:Fx} {n:Nat} {A:Around} {env:Env} {stk:List Env} {ow md md':ASet} {σ σ':Store} {vs vs':Slots} {s:Shared} {h h':Heap} {O P:ASet}
theorem Kp.mix (hO:∀ a, O a → h.get? a = none) (hP:∀ a, P a → md a) (k:∀ b o, ¬ P b → h.get? b = some o → h'.get? b = some o):Kp md h (addM md O) h' :=
  ⟨fun a o nm e => k a o (fun q => nm (hP a q)) e, fun a o e m => m.elim id fun q => by rw [hO a q] at e; cases e⟩
theorem Inv.mix (i:Inv w H₀ stk md σ h) (hO:∀ a, O a → h.get? a = none) (hP:∀ a, P a → md a ∧ ¬ isFr stk a) (k:∀ b o, ¬ P b → h.get? b = some o → h'.get? b = some o) (al:∀ a, P a ∨ O a → ∃ o, h'.get? a = some o)
    (hσ:∀ a, ¬ (P a ∨ O a) → σ' a = σ a) (mo:∀ a m, P a ∨ O a → σ' a = some m → MoAt w (addM md O) h' a m):Inv w H₀ stk (addM md O) σ' h':=by
  have kp:Kp md h (addM md O) h':=.mix hO (fun a q => (hP a q).1) k
  refine ⟨i.gl, fun b o e => k b o (fun z => ?_) (i.base b o e), fun a m => m.elim (i.off a) fun q => ?_, fun a m => ?_, fun a m e => ?_, fun e he => ?_, fun a q => ⟨.inl (i.frmd a q).1, ?_⟩⟩
  · have:=i.off b (hP b z).1; rw [e] at this; cases this
  · cases e:H₀.get? a with
    | none => rfl
    | some o => have:=i.base a o e; rw [hO a q] at this; cases this
  · by_cases z:P a ∨ O a
    · exact al a z
    · rcases m with m | m
      · obtain ⟨o, e⟩:=i.al a m; exact ⟨o, k a o (fun q => z (.inl q)) e⟩
      · exact absurd (.inr m) z
  · by_cases z:P a ∨ O a
    · exact ⟨z.elim (fun z => .inl (hP a z).1) .inr, mo a m z e⟩
    · rw [hσ a z] at e
      exact ⟨.inl (i.sto a m e).1, (i.sto a m e).2.mono kp fun o q => k a o (fun y => z (.inl y)) q⟩
  · obtain ⟨a1, L, o, a2, a3, a4, a5⟩:=i.ff e he
    exact ⟨a1, L, o, a2, a3, k L o (fun z => (hP L z).2 ⟨e, he, a2⟩) a4, a5⟩
  · have:¬ (P a ∨ O a):=fun z => z.elim (fun z => (hP a z).2 q) fun z => by
      obtain ⟨o, e⟩:=i.al a (i.frmd a q).1; rw [hO a z] at e; cases e
    rw [hσ a this]; exact (i.frmd a q).2
theorem Go.mix (hO:∀ a, O a → h.get? a = none) (hP:∀ a, P a → σ a ≠ none) (k:∀ b o, ¬ P b → h.get? b = some o → h'.get? b = some o) (al:∀ a, P a ∨ O a → ∃ o, h'.get? a = some o)
    (hσ:∀ a, ¬ (P a ∨ O a) → σ' a = σ a):Go stk (fun J => False) σ md h σ' (addM md O) h':=by
  refine ⟨⟨fun a o no J e => k a o (fun z => no (.inr (hP a z))) e, fun a o no e => ⟨o.slots, k a o (fun z => no (.inr (hP a z))) e⟩, fun a o e => ?_, fun J J m J J => .inl m, fun a o e m => m.elim id fun q => by rw [hO a q] at e; cases e⟩, fun a q => ?_⟩
  · by_cases z:P a
    · exact al a (.inl z)
    · exact ⟨o, k a o z e⟩
  · by_cases z:P a ∨ O a
    · exact z.elim (fun z => .inl (hP a z)) fun z => .inr (hO a z)
    · rw [hσ a z] at q; exact .inl q
variable {Kn:Slots → Store → Prop} {Kr:PV → Slots → Store → Prop} {X:PExc → Slots → Store → Prop}
theorem St.setE0 {o value:Expr} {x:Str} {pos pos':Pos} {C:Addr} (hs:∀ env, swapsWith value (some (.Attribute o x pos')) pos.line env = pure false) (hm:excMro (KK w) C = true) (hst:findIn (KK w) (.ref C) "__setattr__" = some (some (.builtin "object.__setattr__"))) (ht:takerIn (KK w) C x = some none)
    (hh:EvE w H₀ S n value vs σ (fun pv vs₁ σ₁ => EvE w H₀ S n o vs₁ σ₁ (fun q vs₂ σ₂ => ∃ a fs, q = .loc a ∧ σ₂ a = some (.raw (excObj C none fs)) ∧ ∀ dx, σ₂ dx = none → Kn vs₂ (upd (upd σ₂ a (some (.raw (excObj C (some dx) fs)))) dx (some (.ns [(x, pv)])))) X) X) :
    St w H₀ S n (.Assign [.Attribute o x pos'] value pos) vs σ Kn Kr X:=by
  refine ⟨fun A env stk ow md s c => ?_⟩
  refine plainObj_wpAny_Assign_Attribute (hh.at c (fun J J e => e) fun v pv vs₁ σ₁ md₁ h₁ tk k r c₁ kp₁ g₁ => ?_) (hs env)
  refine k.at c₁ (fun J J e => e.lift g₁) fun v₂ q vs₂ σ₂ md₂ h₂ tk₂ k₂ r₂ c₂ kp₂ g₂ => ?_
  obtain ⟨a, fs, rfl, e1, k⟩:=k₂
  apply r₂.iLoc
  obtain ⟨ma, ha⟩:=c₂.bx.inv.sto a _ e1
  have ha:h₂.get? a = some (excObj C none fs):=ha
  refine set_exc0 (s:=⟨h₂, s.gens, s.drawn, tk₂, s.os⟩) (K:=KK w) c₂.bx.K ha hm hst ht fun h' tk' t hx hd hk => ?_
  dsimp only at hx hd hk
  have hne:a ≠ h₂.objs.size:=Nat.ne_of_lt (Heap.lt_size ha)
  have nsz:h₂.get? h₂.objs.size = none:=none_size _
  have σn:σ₂ h₂.objs.size = none:=c₂.bx.inv.fresh
  have nf:¬ isFr stk a:=fun q => by have:=(c₂.bx.inv.frmd a q).2; rw [e1] at this; cases this
  have hO:∀ b, b = h₂.objs.size → h₂.get? b = none:=fun b q => q ▸ nsz
  have al:∀ b, (b = a) ∨ b = h₂.objs.size → ∃ o, h'.get? b = some o:=fun b q => q.elim (fun q => ⟨_, q ▸ hx⟩) fun q => ⟨_, q ▸ hd⟩
  have kk:∀ b o, ¬ (b = a) → h₂.get? b = some o → h'.get? b = some o:=fun b o q e => hk b o q e
  have hσ:∀ b, ¬ ((b = a) ∨ b = h₂.objs.size) → upd (upd σ₂ a (some (.raw (excObj C (some h₂.objs.size) fs)))) h₂.objs.size (some (.ns [(x, pv)])) b = σ₂ b:=fun b q => by
    rw [upd_ne _ _ fun z => q (.inr z), upd_ne _ _ fun z => q (.inl z)]
  have kp:Kp md₂ h₂ (addM md₂ fun b => b = h₂.objs.size) h':=.mix (P:=fun b => b = a) hO (fun b q => q ▸ ma) kk
  have i':=c₂.bx.inv.mix (P:=fun b => b = a) (O:=fun b => b = h₂.objs.size) (h':=h') (σ':=upd (upd σ₂ a (some (.raw (excObj C (some h₂.objs.size) fs)))) h₂.objs.size (some (.ns [(x, pv)]))) hO (fun b q => ⟨q ▸ ma, q ▸ nf⟩) kk al hσ fun b m q e => by
    rcases q with q | q
    · subst q
      rw [upd_ne _ _ hne, upd_same] at e; cases e; exact hx
    · subst q
      rw [upd_same] at e; cases e; exact ⟨_, _, hd, .cons ((r.mono kp₂).mono kp) .nil⟩
  have g':Go stk (fun J => False) σ₂ md₂ h₂ (upd (upd σ₂ a (some (.raw (excObj C (some h₂.objs.size) fs)))) h₂.objs.size (some (.ns [(x, pv)]))) (addM md₂ fun b => b = h₂.objs.size) h':=.mix (P:=fun b => b = a) hO (fun b q => by rw [q, e1]; exact fun z => nomatch z) kk al hσ
  exact ⟨.next, vs₂, _, _, h', tk', rfl, k _ σn, trivial, c₂.step i' g', (g₁.trans g₂).trans (g'.ow fun J q => q.elim)⟩
theorem putP_len {x:Str} {pv:PV}:∀ l:List (Str × PV), (putP x pv l).length ≤ l.length + 1
  | [] => by simp [putP]
  | (y, q) :: r => by unfold putP; split <;> simp; exact putP_len r
theorem St.setE1 {o value:Expr} {x:Str} {pos pos':Pos} {C:Addr} (hs:∀ env, swapsWith value (some (.Attribute o x pos')) pos.line env = pure false) (hm:excMro (KK w) C = true) (hst:findIn (KK w) (.ref C) "__setattr__" = some (some (.builtin "object.__setattr__"))) (ht:takerIn (KK w) C x = some none)
    (hh:EvE w H₀ S n value vs σ (fun pv vs₁ σ₁ => EvE w H₀ S n o vs₁ σ₁ (fun q vs₂ σ₂ => ∃ a dx fs l, q = .loc a ∧ σ₂ a = some (.raw (excObj C (some dx) fs)) ∧ σ₂ dx = some (.ns l) ∧ l.length ≤ 100 ∧ Kn vs₂ (upd σ₂ dx (some (.ns (putP x pv l))))) X) X) :
    St w H₀ S n (.Assign [.Attribute o x pos'] value pos) vs σ Kn Kr X:=by
  refine ⟨fun A env stk ow md s c => ?_⟩
  refine plainObj_wpAny_Assign_Attribute (hh.at c (fun J J e => e) fun v pv vs₁ σ₁ md₁ h₁ tk k r c₁ kp₁ g₁ => ?_) (hs env)
  refine k.at c₁ (fun J J e => e.lift g₁) fun v₂ q vs₂ σ₂ md₂ h₂ tk₂ k₂ r₂ c₂ kp₂ g₂ => ?_
  obtain ⟨a, dx, fs, l, rfl, e1, e2, hz, k⟩:=k₂
  apply r₂.iLoc
  obtain ⟨ma, ha⟩:=c₂.bx.inv.sto a _ e1
  have ha:h₂.get? a = some (excObj C (some dx) fs):=ha
  obtain ⟨hd, es, m, hdx, hr⟩:=c₂.bx.inv.sto dx _ e2
  refine set_exc1 (s:=⟨h₂, s.gens, s.drawn, tk₂, s.os⟩) (K:=KK w) c₂.bx.K ha hdx hm hst ht hr.isSome (fun t => ?_) fun h' tk' t hg hs' => ?_
  · have:=(NsRel.put (name:=x) (hsh:=PyData.keyHash w.params x) (t:=t) (r.mono kp₂) hr).length
    rw [this]
    have:=putP_len (x:=x) (pv:=pv) l
    lia
  · have kp:Kp md₂ h₂ md₂ h':=⟨fun b o nm e => hs'.extBut b o (fun z => nm (z ▸ hd)) e, fun J J J m => m⟩
    have g:Go stk (fun J => False) σ₂ md₂ h₂ (upd σ₂ dx (some (.ns (putP x pv l)))) md₂ h':=.upd e2 hs' ⟨_, hg⟩
    have c₃:=c₂.step (c₂.bx.inv.upd (m':=.ns (putP x pv l)) e2 hs' ⟨_, _, hg, NsRel.put ((r.mono kp₂).mono kp) (hr.mono kp)⟩ ⟨_, hg⟩) g
    exact ⟨.next, vs₂, _, md₂, h', tk', rfl, k, trivial, c₃, (g₁.trans g₂).trans (g.ow fun J q => q.elim)⟩
end
structure ExcCls (w:World) (C:Addr):Prop where
  mro:excMro (KK w) C = true
  exc:mroIn (KK w) C (.type "Exception") = some true
  cls:(clsIn (KK w) C).isSome = true
  sets:findIn (KK w) (.ref C) "__setattr__" = some (some (.builtin "object.__setattr__"))
  tWhat:takerIn (KK w) C "what" = some none
  tAt:takerIn (KK w) C "at" = some none
  makes:makesE (KK w) C = true
  init:findIn (KK w) (.ref C) "__init__" = some (some (.ref 29))
  ga:findIn (KK w) (.ref C) "__getattribute__" = some (some (.builtin "BaseException.__getattribute__"))
  gat:findIn (KK w) (.ref C) "__getattr__" = some none
  base:mroIn (KK w) C (.type "BaseException") = some true
  dict:hasDictIn (KK w) C = true
  fWhat:findIn (KK w) (.ref C) "what" = some none
  fAt:findIn (KK w) (.ref C) "at" = some none
  fTold:findIn (KK w) (.ref C) "told" = some (some (.ref 36))
theorem excCls52 (w:World):ExcCls w 52:=⟨by kernel_rfl, by kernel_rfl, by kernel_rfl, by kernel_rfl, by kernel_rfl, by kernel_rfl, by kernel_rfl, by kernel_rfl, by kernel_rfl, by kernel_rfl, by kernel_rfl, by kernel_rfl, by kernel_rfl, by kernel_rfl, by kernel_rfl⟩
theorem excCls64 (w:World):ExcCls w 64:=⟨by kernel_rfl, by kernel_rfl, by kernel_rfl, by kernel_rfl, by kernel_rfl, by kernel_rfl, by kernel_rfl, by kernel_rfl, by kernel_rfl, by kernel_rfl, by kernel_rfl, by kernel_rfl, by kernel_rfl, by kernel_rfl, by kernel_rfl⟩
section
variable {w:World} {H₀:Heap} {n:Nat} {σ:Store} {K:PV → Store → Prop} {X:PExc → Store → Prop}
noncomputable def excSt (σ:Store) (x C dx:Addr) (fs:Array Value) (what:Str) (pat:PV):Store:=upd (upd (upd σ x (some (.raw (excObj C (some dx) fs)))) dx (some (.ns [("what", .str what)]))) dx (some (.ns [("what", .str what), ("at", pat)]))
theorem init_exc3 {x C t0:Addr} {fs:Array Value} {what:Str} {pat:PV} (E:ExcCls w C) (hx:σ x = some (.raw (excObj C none fs))) (h0:fs[0]? = some (.ref t0))
    (kk:∀ dx t, σ dx = none → K .none (excSt σ x C dx (fs.setIfInBounds 0 (.ref t)) what pat)):PrimC w H₀ (n + 1) [.loc x, .str what, pat] σ (.ref 29) K X:=by
  refine PrimC.defD (params:=["self", "what", "at"]) (ns:=["self", "what", "at"]) (oc':=[]) (ks:=[.local, .local, .local]) (gs:=["Exception"]) (dargs:=[]) (dv:=[]) (vs:=[some (.loc x), some (.str what), some pat])
    rfl (by kernel_rfl) ?_ (fun J J => .nil) rfl rfl rfl (by kernel_rfl) (by kernel_rfl) rfl rfl ?_
  · intro vals hv s X
    apply len3 hv; intro a b c
    exact binds_K (K:=KK w) (T:=22) X rfl rfl rfl rfl rfl
  intro S G
  refine Bk.cons (St.drop G (fun J => rfl) (EvE.methT (fun J => rfl) (fun J => rfl) rfl (by show 2 < 29; decide) (B_Exception G mem1 ⟨"Exception", .builtin "Exception.__init__", rfl, .builtin, typ_Exception, stub_Exception, cls_Exception w, rfl,
    EvL.cons (EvE.nam G .head rfl (EvL.cons (EvE.nam G (.tail .head) rfl (EvL.nil (p_einit hx h0 E.exc E.cls fun t => ⟨rfl, ?_⟩)))))⟩)))
  refine Bk.cons (St.setE0 (C:=C) (fun J => rfl) E.mro E.sets E.tWhat (EvE.nam G (.tail .head) rfl (EvE.nam G .head rfl ⟨x, _, rfl, upd_same .., fun dx hdx => ?_⟩)))
  have ne:x ≠ dx:=fun e => by rw [← e, upd_same] at hdx; cases hdx
  rw [upd_ne _ _ (Ne.symm ne)] at hdx
  rw [upd_upd]
  refine Bk.cons (St.setE1 (C:=C) (fun J => rfl) E.mro E.sets E.tAt (EvE.nam G (.tail (.tail .head)) rfl (EvE.nam G .head rfl ⟨x, dx, _, _, rfl, (upd_ne _ _ ne).trans (upd_same ..), upd_same .., Nat.le_of_ble_eq_true rfl, ?_⟩)))
  refine Bk.nil ?_
  exact kk dx t hdx
theorem init_exc2 {x C t0:Addr} {fs:Array Value} {what:Str} (E:ExcCls w C) (hx:σ x = some (.raw (excObj C none fs))) (h0:fs[0]? = some (.ref t0))
    (kk:∀ dx t, σ dx = none → K .none (excSt σ x C dx (fs.setIfInBounds 0 (.ref t)) what .none)):PrimC w H₀ (n + 1) [.loc x, .str what] σ (.ref 29) K X:=by
  refine PrimC.defD (params:=["self", "what", "at"]) (ns:=["self", "what", "at"]) (oc':=[]) (ks:=[.local, .local, .local]) (gs:=["Exception"]) (dargs:=[.none]) (dv:=[Value.none]) (vs:=[some (.loc x), some (.str what), some .none])
    rfl (by kernel_rfl) ?_ (fun J J => .cons .none .nil) rfl rfl rfl (by kernel_rfl) (by kernel_rfl) rfl rfl ?_
  · intro vals hv s X
    apply len2 hv; intro a b
    exact binds_K (K:=KK w) (T:=22) X rfl rfl rfl rfl rfl
  intro S G
  refine Bk.cons (St.drop G (fun J => rfl) (EvE.methT (fun J => rfl) (fun J => rfl) rfl (by show 2 < 29; decide) (B_Exception G mem1 ⟨"Exception", .builtin "Exception.__init__", rfl, .builtin, typ_Exception, stub_Exception, cls_Exception w, rfl,
    EvL.cons (EvE.nam G .head rfl (EvL.cons (EvE.nam G (.tail .head) rfl (EvL.nil (p_einit hx h0 E.exc E.cls fun t => ⟨rfl, ?_⟩)))))⟩)))
  refine Bk.cons (St.setE0 (C:=C) (fun J => rfl) E.mro E.sets E.tWhat (EvE.nam G (.tail .head) rfl (EvE.nam G .head rfl ⟨x, _, rfl, upd_same .., fun dx hdx => ?_⟩)))
  have ne:x ≠ dx:=fun e => by rw [← e, upd_same] at hdx; cases hdx
  rw [upd_ne _ _ (Ne.symm ne)] at hdx
  rw [upd_upd]
  refine Bk.cons (St.setE1 (C:=C) (fun J => rfl) E.mro E.sets E.tAt (EvE.nam G (.tail (.tail .head)) rfl (EvE.nam G .head rfl ⟨x, dx, _, _, rfl, (upd_ne _ _ ne).trans (upd_same ..), upd_same .., Nat.le_of_ble_eq_true rfl, ?_⟩)))
  refine Bk.nil ?_
  exact kk dx t hdx
end
section
variable {w:World} {H₀:Heap} {n:Nat} {σ:Store} {K:PV → Store → Prop} {X:PExc → Store → Prop}
theorem p_excOf {C:Addr} {args:List PV} {what:Str} {pat:PV} (E:ExcCls w C) (hlen:args.length ≤ 1000)
    (hinit:∀ (σ:Store) (x t0:Addr) (fs:Array Value) (K:PV → Store → Prop), σ x = some (.raw (excObj C none fs)) → fs[0]? = some (.ref t0) → (∀ dx t, σ dx = none → K .none (excSt σ x C dx (fs.setIfInBounds 0 (.ref t)) what pat)) → PrimC w H₀ (n + 1) (.loc x :: args) σ (.ref 29) K (fun J J => False))
    (kk:∀ x dx fs, σ x = none → σ dx = none → x ≠ dx → 1 < fs.size → fs[1]? = some Value.none → K (.loc x) (excSt σ x C dx fs what pat)):PrimC w H₀ (n + 2) args σ (.ref C) K X:=by
  intro A stk md s vals b r
  obtain ⟨hh, g, d, t, os⟩:=s
  refine make_E (makesE_of b.K E.makes) (looks_findIn b.K E.init) (fun self => bind_fn b.K self (by kernel_rfl)) (by rw [r.length]; exact hlen) ?_
  have inv:Inv w H₀ stk md σ hh:=b.inv
  have i₁:=inv.push (o:={ cls:=.type "tuple", data:=.seq vals.toArray })
  have i₂:=i₁.pushmd (o:=excObj C none #[.ref hh.objs.size, .none, .none, .none, .bool false, .none])
  have e1:(hh.push { cls:=.type "tuple", data:=.seq vals.toArray }).objs.size = hh.objs.size + 1:=Heap.size_push ..
  obtain ⟨x, hx⟩:∃ x, x = hh.objs.size + 1:=⟨_, rfl⟩
  rw [e1] at i₂
  rw [← hx] at i₂ ⊢
  generalize hoT:({ cls:=.type "tuple", data:=.seq vals.toArray }:Obj) = oT at *
  generalize hH:(hh.push oT).push (excObj C none #[.ref hh.objs.size, .none, .none, .none, .bool false, .none]) = H at *
  have hxn:hh.get? x = none:=by
    cases e:hh.get? x with
    | none => rfl
    | some o => exact absurd (Heap.lt_size e) (by rw [hx]; exact Nat.not_lt.mpr (Nat.le_succ _))
  have kx:H.get? x = some (excObj C none #[.ref hh.objs.size, .none, .none, .none, .bool false, .none]):=by
    rw [hx, ← e1, ← hH]; exact Heap.get?_push_size _ rfl
  have g₂:Go stk (fun J => False) σ md hh σ (adj md x) H:=by
    have a:=(Go.push (stk:=stk) (ow:=fun J => False) (σ:=σ) (md:=md) (h:=hh) (o:=oT))
    have b':=(Go.pushmd (stk:=stk) (ow:=fun J => False) (σ:=σ) (md:=md) (h:=hh.push oT) (o:=excObj C none #[.ref hh.objs.size, .none, .none, .none, .bool false, .none]))
    rw [e1, ← hx, hH] at b'
    exact a.trans b'
  have nf:¬ isFr stk x:=fun q => by
    obtain ⟨o, e'⟩:=inv.al x (inv.frmd x q).1; rw [hxn] at e'; cases e'
  have i₄:=i₂.track (m:=.raw (excObj C none #[.ref hh.objs.size, .none, .none, .none, .bool false, .none])) (D:=x) (.inr rfl) nf kx
  have g₄:=g₂.track (m:=.raw (excObj C none #[.ref hh.objs.size, .none, .none, .none, .bool false, .none])) (D:=x) (.inl hxn)
  have kp:Kp md hh (adj md x) H:=g₂.st.kp (fun a q => q.elim False.elim (inv.dm a)) fun a q => (inv.frmd a q).1
  have σx:σ x = none:=inv.nost hxn
  have P:=hinit (upd σ x (some (.raw (excObj C none #[.ref hh.objs.size, .none, .none, .none, .bool false, .none])))) x hh.objs.size _ (fun p σ' => p = .none ∧ K (.loc x) σ') (upd_same ..) rfl fun dx t hdx => by
    have ne:dx ≠ x:=fun e => by rw [e, upd_same] at hdx; cases hdx
    rw [upd_ne _ _ ne] at hdx
    refine ⟨rfl, ?_⟩
    unfold excSt
    rw [upd_upd (σ:=σ) (a:=x)]
    exact kk x dx _ σx hdx (Ne.symm ne) (by simp) rfl
  have bu:=(Bx.under (C:=C) (rest:=vals) b).with i₄
  refine codeAny_mono (P _ stk _ ⟨H, g, d, t, os⟩ (.ref x :: vals) bu (.cons (.loc x) (r.mono kp))) fun rr s' z => ?_
  rcases rr with e | (v | _ | _ | _)
  rotate_left
  · exact z.elim
  · exact z.elim
  · exact z.elim
  · apply z.el; intro pv σ' md' h' tk w6 rv i go
    obtain ⟨rfl, k⟩:=w6
    obtain rfl:=(rv.inv:_ = Value.none)
    exact ⟨rfl, .loc x, σ', md', h', tk, rfl, k, .loc x, i, g₄.trans go⟩
  · obtain ⟨pe, σ', md', h', tk, rfl, k, _⟩:=z
    exact k.elim
theorem p_exc1 {C:Addr} {what:Str} (E:ExcCls w C) (kk:∀ x dx fs, σ x = none → σ dx = none → x ≠ dx → 1 < fs.size → fs[1]? = some Value.none → K (.loc x) (excSt σ x C dx fs what .none)):PrimC w H₀ (n + 2) [.str what] σ (.ref C) K X :=
  p_excOf E (Nat.le_of_ble_eq_true rfl) (fun σ x t0 fs K h1 h2 k => init_exc2 E h1 h2 k) kk
theorem p_exc2 {C:Addr} {what:Str} {pat:PV} (E:ExcCls w C) (kk:∀ x dx fs, σ x = none → σ dx = none → x ≠ dx → 1 < fs.size → fs[1]? = some Value.none → K (.loc x) (excSt σ x C dx fs what pat)):PrimC w H₀ (n + 2) [.str what, pat] σ (.ref C) K X :=
  p_excOf E (Nat.le_of_ble_eq_true rfl) (fun σ x t0 fs K h1 h2 k => init_exc3 E h1 h2 k) kk
end
section
variable {w:World} {H₀:Heap} {S:Fx} {n:Nat} {A:Around} {env:Env} {stk:List Env} {ow md md₀:ASet} {σ σ₀:Store} {vs:Slots} {s:Shared} {h h₀:Heap} {x:Addr}
theorem inv_untrack (i:Inv w H₀ stk md σ h):Inv w H₀ stk md (upd σ x none) h:=by
  refine ⟨i.gl, i.base, i.off, i.al, fun a m e => ?_, i.ff, fun a q => ⟨(i.frmd a q).1, ?_⟩⟩
  · by_cases z:a = x
    · rw [z, upd_same] at e; cases e
    · rw [upd_ne _ _ z] at e; exact i.sto a m e
  · by_cases z:a = x
    · rw [z, upd_same]
    · rw [upd_ne _ _ z]; exact (i.frmd a q).2
theorem upd_none_of {a:Addr} (e:σ a = none):upd σ x none a = none:=by
  by_cases z:a = x
  · rw [z, upd_same]
  · rw [upd_ne _ _ z]; exact e
theorem cx_untrack (c:Cx w H₀ S n A env stk ow md σ vs h):Cx w H₀ S n A env stk ow md (upd σ x none) vs h :=
  ⟨c.bx.with (inv_untrack c.bx.inv), c.head, ⟨c.loc.sc, c.loc.gl, c.loc.bl, c.loc.ns, c.loc.lown, fun y a e => ⟨upd_none_of (c.loc.cel y a e).1, (c.loc.cel y a e).2⟩, c.loc.ck, c.loc.hasc, c.loc.cown, c.loc.apart, fun a q => ⟨(c.loc.owmd a q).1, upd_none_of (c.loc.owmd a q).2.1, (c.loc.owmd a q).2.2⟩⟩, c.owfr, c.cellfr⟩
theorem go_untrack (g:Go stk ow σ₀ md₀ h₀ σ md h):Go stk ow σ₀ md₀ h₀ (upd σ x none) md h :=
  ⟨g.st, fun a q => g.d a fun z => q (upd_none_of z)⟩
noncomputable def patOk (pat:PV) (at_:Option Int):Prop:=match at_ with
  | none => pat = .none
  | some i => pat = .int i
theorem raise_my {C dx:Addr} {fs:Array Value} {Q:Flow → Shared → Prop} {E:Value → Shared → Prop} {v:Sem Value} (hh:A.handled = none) (EC:ExcCls w C) (hty:typeIn (KK w) (.ref C) = some (.type "type"))
    (h:wpAny (MD w) A v (fun u s₁ => u = .ref x ∧ (KK w).In s₁.heap ∧ s₁.heap.get? x = some (excObj C (some dx) fs) ∧ fs[1]? = some Value.none ∧ E (.ref x) s₁) E s) :
    wpAny (MD w) A (raiseStmt env (some v) none) Q E s:=by
  unfold raiseStmt
  refine wpAny_bind (wpAny_mono h (fun u s₁ h₁ => ?_) fun J J e => e)
  obtain ⟨rfl, X, hx, h1, hE⟩:=h₁
  obtain ⟨hp, g, d, tk, os⟩:=s₁
  have L0:Looks (MD w) hp (typeOf (.ref x)) (.ref C):=(Looks.ld hx).andThen .now
  have L1:Looks (MD w) hp (isInstance (.ref x) (.type "BaseException")) true:=L0.andThen (looks_mroIn X EC.base)
  obtain ⟨oC, hC, hcC⟩:=Option.map_eq_some_iff.mp hty
  have hC:=X _ _ hC
  have hxl:=hx
  refine wpAny_bind (wpAny_pure (wpAny_bind ?_))
  unfold excFromValue isExcClass isType
  repeat (first | with_reducible refine L1.at ?_ | with_reducible refine wpAny_loadPart_at hx ?_ | wp_step)
  rw [h1]
  refine wpAny_pure ?_
  rw [if_neg (by decide)]
  refine wpAny_pure ?_
  unfold raiseNew
  refine wpAny_bind (wpAny_handled ?_)
  rw [hh]
  first
    | exact wpAny_throw hE
    | exact wpAny_bind (wpAny_pure (wpAny_throw hE))
variable {Kn:Slots → Store → Prop} {Kr:PV → Slots → Store → Prop} {X:PExc → Slots → Store → Prop}
theorem St.raise {e:Expr} {p:Pos} (hh:EvE w H₀ S n e vs σ (fun q vs₁ σ₁ => ∃ x dx C fs what pat at_, q = .loc x ∧ ExcCls w C ∧ typeIn (KK w) (.ref C) = some (.type "type") ∧ σ x = none ∧ σ₁ x = some (.raw (excObj C (some dx) fs)) ∧ σ₁ dx = some (.ns [("what", .str what), ("at", pat)]) ∧
      patOk pat at_ ∧ x ≠ dx ∧ 1 < fs.size ∧ fs[1]? = some Value.none ∧ X ⟨C, what, at_⟩ vs₁ (upd (upd σ₁ x none) dx none)) X) (hN:4 ≤ n:=by first | exact Nat.le_add_left 4 _ | assumption):St w H₀ S n (.Raise (some e) none p) vs σ Kn Kr X:=by
  refine ⟨fun A env stk ow md s c => ?_⟩
  refine (?_:wpAny _ _ (do standAt p; raiseStmt env (some (do let v ← eval e env; standAt p; pure v)) none) _ _ _)
  refine wpAny_bind (wpAny_standAt ?_)
  have key:=hh.run A env stk ow md s c
  have:wpAny (MD w) A (do let v ← eval e env; standAt p; pure v) (fun u s₁ => ∃ x dx C fs, u = .ref x ∧ (KK w).In s₁.heap ∧ ExcCls w C ∧ typeIn (KK w) (.ref C) = some (.type "type") ∧ s₁.heap.get? x = some (excObj C (some dx) fs) ∧ fs[1]? = some Value.none ∧ GEx w H₀ S n A env stk ow md σ s X (.ref x) s₁) (GEx w H₀ S n A env stk ow md σ s X) s:=by
    refine wpAny_bind (hh.at c (fun J J e => e) fun v q vs₁ σ₁ md₁ h₁ tk k r c₁ kp₁ g₁ => wpAny_bind (wpAny_standAt (wpAny_pure ?_)))
    obtain ⟨x, dx, C, fs, what, pat, at_, rfl, EC, hty, e0, e1, e2, hp, ne, hz, h1, hX⟩:=k
    obtain rfl:v = .ref x:=r.inv
    obtain ⟨mx, hx⟩:=c₁.bx.inv.sto x _ e1
    have hx:h₁.get? x = some (excObj C (some dx) fs):=hx
    obtain ⟨md', es, m, hd, hr⟩:=c₁.bx.inv.sto dx _ e2
    refine ⟨x, dx, C, fs, rfl, c₁.bx.K, EC, hty, hx, h1, ?_⟩
    have hxn:s.heap.get? x = none:=(g₁.d x (by rw [e1]; exact fun z => nomatch z)).elim (fun z => absurd e0 z) id
    have c₂:=cx_untrack (x:=x) c₁
    have g₂:=go_untrack (x:=x) g₁
    have e2':upd σ₁ x none dx = some (.ns [("what", .str what), ("at", pat)]):=(upd_ne _ _ (Ne.symm ne)).trans e2
    have nd:upd σ₁ x none dx ≠ none:=by rw [e2']; exact fun z => nomatch z
    have c₃:=c₂.part (O:=fun b => b = dx) (σ':=upd (upd σ₁ x none) dx none) (h':=h₁) (fun b q => q ▸ md') (fun b q => by rw [q]; exact upd_same ..) (fun b q => upd_ne _ _ q) (fun b q z => by subst q; exact nd (c₂.bx.inv.frmd _ z).2) (fun b q z => by subst q; exact nd (c₂.loc.owmd _ z).2.1)
      (fun y b e q => by subst q; exact nd (c₂.loc.cel y _ e).1) fun J J J e => e
    have dn:σ dx = none ∨ σ dx ≠ none:=by cases q:σ dx with | none => exact .inl rfl | some m => exact .inr (fun z => nomatch z)
    have g₃:=g₂.part (O:=fun b => b = dx) (σ':=upd (upd σ₁ x none) dx none) (h':=h₁) (fun b q => by rw [q]; exact upd_same ..) (fun b q => upd_ne _ _ q) (fun b q => by
      subst q
      rcases g₁.d b (by rw [e2]; exact fun z => nomatch z) with z | z
      · exact .inr z
      · exact .inl z) (fun b q => .inr ⟨_, q ▸ hd, q ▸ hd⟩) fun J J J e => e
    have xn:upd (upd σ₁ x none) dx none x = none:=upd_none_of (upd_same ..)
    refine ⟨⟨C, what, at_⟩, vs₁, _, _, h₁, tk, rfl, hX, c₃, g₃, .new, .inl rfl, x, dx, _, fs, rfl, hx, rfl, rfl, rfl, hz, fun q => q.2 rfl, ⟨es, m, hd, ?_, ?_, ?_⟩, ⟨hxn, ⟨mx, ne⟩, xn, fun q => ?_⟩, h1⟩
    · have:=hr.get (name:="what")
      rw [show getP "what" [("what", PV.str what), ("at", pat)] = some (.str what) from by kernel_rfl] at this
      obtain ⟨v, e', r⟩:=this
      obtain ⟨_, rfl⟩:=r.inv
      exact ⟨_, e'⟩
    · have:=hr.get (name:="at")
      rw [show getP "at" [("what", PV.str what), ("at", pat)] = some pat from by kernel_rfl] at this
      obtain ⟨v, e', r⟩:=this
      refine ⟨v, e', ?_⟩
      unfold patOk at hp
      cases at_ with
      | none => dsimp only at hp; subst hp; exact r.inv
      | some i => dsimp only at hp; subst hp; exact r.inv
    · have:=hr.get (name:="told")
      rw [show getP "told" [("what", PV.str what), ("at", pat)] = none from by kernel_rfl] at this
      exact this
    · have:=(c₁.bx.inv.frmd x q).2
      rw [e1] at this; cases this
  unfold raiseStmt
  refine wpAny_bind (wpAny_mono this (fun u s₁ q => ?_) fun J J e => e)
  obtain ⟨x, dx, C, fs, rfl, XK, EC, hty, hx, h1, hE⟩:=q
  have:=raise_my (w:=w) (A:=A) (env:=env) (s:=s₁) (v:=pure (.ref x)) (Q:=GOk RelF w H₀ S n A env stk ow md σ s (kk Kn Kr)) (E:=GEx w H₀ S n A env stk ow md σ s X) (c.bx.handled hN) EC hty (wpAny_pure ⟨rfl, XK, hx, h1, hE⟩)
  unfold raiseStmt at this
  exact this
end
noncomputable def atPV:Option Int → PV
  | none => .none
  | some i => .int i
section
variable {prog:Program} {w:World} {A:Around} {E:Value → Shared → Prop} {s:Shared} {K:Frag} {x C f:Addr} {ox:Obj} {od:Option Obj} {name:Str} {pl:Sem Bool} {Q:Value × List Value → Shared → Prop}
theorem canon_bga:Manifest.canonical "BaseException.__getattribute__" = "object.__getattribute__":=by decide +kernel
theorem method_fnB (X:K.In s.heap) (I:InstAt s.heap x ox C od) (hga:findIn K (.ref C) "__getattribute__" = some (some (.builtin "BaseException.__getattribute__"))) (hk:findIn K (.ref C) "__getattr__" = some none)
    (hf:findIn K (.ref C) name = some (some (.ref f))) (ht:typeIn K (.ref f) = some (.type "function")) (hs:shadowIn od name = some false) (h:Q (.ref f, [.ref x]) s) :
    wpAny (model prog w) A (getMethod (.ref x) name pl) Q E s:=by
  have hcan:=canon_bga
  unfold getMethod specialOf
  refine wpAny_bind (wpAny_bind (I.type.here ((looks_findIn X hga).here ?_)))
  dsimp only
  rw [hcan, if_neg (by decide)]
  refine wpAny_bind (wpAny_bind (I.type.here ((looks_findIn X hk).here ?_)))
  refine wpAny_bind (wpAny_bind (I.type.here ((looks_findIn X hf).here (wpAny_bind ((looks_typeIn X ht).here ?_)))))
  rw [if_neg (by decide +kernel)]
  refine wpAny_bind (wpAny_loadPart I.at_ ?_)
  have hd:=I.dict
  cases e:ox.dict with
  | none => exact wpAny_bind (wpAny_rule (wpAny_pure h))
  | some dx =>
    cases od with
    | none => rw [e] at hd; exact hd.elim
    | some o =>
      rw [e] at hd
      obtain ⟨r, a, b⟩:=Option.map_eq_some_iff.mp hs
      refine wpAny_bind (wpAny_bind (wpAny_loadPart hd ?_))
      rw [nsLook_of a]
      refine wpAny_pure ?_
      rw [b]
      exact wpAny_bind (wpAny_rule (wpAny_pure h))
end
section
variable {w:World} {H₀:Heap} {S:Fx} {n:Nat} {A:Around} {env:Env} {stk:List Env} {ow md md':ASet} {σ σ':Store} {vs vs':Slots} {s:Shared} {h h':Heap}
theorem exc_inst {C:Addr} {what:Str} {at_:Option Int} {v:Value} (r:Rel md h v (.exc C what at_)):∃ a ox es m, v = .ref a ∧ InstAt h a ox C (some (dictOf es m)) ∧ (∃ t, getL "what" es = some (some (.str what t))) ∧ (∃ v, getL "at" es = some (some v) ∧ valOfOpt v at_) ∧ getL "told" es = some none:=by
  obtain ⟨a, dx, oe, fs, rfl, n1, n2, h1, h2, h3, h4, ⟨⟨es, m, h6, h7, h8, h9⟩⟩⟩:=r.inv
  exact ⟨a, oe, es, m, rfl, ⟨h1, h2, by unfold notCls; rw [h4], by rw [h3]; exact h6⟩, h7, h8, h9⟩
theorem rel_valOfOpt {at_:Option Int} {v:Value} (e:valOfOpt v at_):Rel md h v (atPV at_) ∧ handedIn v = true:=by
  cases at_ with
  | none => cases e; exact ⟨.none, rfl⟩
  | some i => obtain ⟨t, rfl⟩:=e; exact ⟨.int .., rfl⟩
theorem p_exwhat {K:PV → Store → Prop} {X:PExc → Store → Prop} {C:Addr} {what:Str} {at_:Option Int} (EC:ExcCls w C) (kk:K (.str what) σ):Prim w H₀ n [.exc C what at_] σ (p1 fun v => getAttr v (Str.ofString "what") true) K X:=by
  intro A stk md s vals bx r
  apply r.e1; intro _ r₁
  obtain ⟨a, ox, es, m, rfl, I, ⟨t, e⟩, _⟩:=exc_inst r₁
  exact get_exc bx.K I EC.ga EC.gat EC.base (findObj_own EC.dict EC.fWhat (by unfold noGet; rfl) e) rfl (.here bx kk (.str ..))
theorem p_exat {K:PV → Store → Prop} {X:PExc → Store → Prop} {C:Addr} {what:Str} {at_:Option Int} (EC:ExcCls w C) (kk:K (atPV at_) σ):Prim w H₀ n [.exc C what at_] σ (p1 fun v => getAttr v (Str.ofString "at") true) K X:=by
  intro A stk md s vals bx r
  apply r.e1; intro _ r₁
  obtain ⟨a, ox, es, m, rfl, I, _, ⟨v, e, ev⟩, _⟩:=exc_inst r₁
  obtain ⟨rv, hv⟩:=rel_valOfOpt (md:=md) (h:=s.heap) ev
  exact get_exc bx.K I EC.ga EC.gat EC.base (findObj_own EC.dict EC.fAt (by unfold noGet; rfl) e) hv (.here bx kk rv)
theorem EvE.toldE {K:PV → Slots → Store → Prop} {X:PExc → Slots → Store → Prop} {o:Expr} {ap p:Pos} (hb:∀ env, attributeBase o "told" env (eval o env) = eval o env) (hl:(ap.endLine == p.line) = true)
    (hh:EvE w H₀ S n o vs σ (fun q vs₁ σ₁ => ∃ C what at_, q = .exc C what at_ ∧ ExcCls w C ∧ Prim w H₀ n [.exc C what at_] σ₁ (fun vals => PySem.call (.ref 36) vals) (fun q => K q vs₁) (fun q => X q vs₁)) X) :
    EvE w H₀ S n (.Call (.Attribute o "told" ap) [] [] p) vs σ K X:=by
  refine EvE.meth hb (fun J => rfl) hl (by show 0 < 29; decide) (hh.mono (fun q vs₁ σ₁ hP => ?_) fun J J J x => x)
  obtain ⟨C, what, at_, e, EC, P⟩:=hP
  subst e
  refine ⟨.ref 36, Kept.ofK (by kernel_rfl), fun A stk md h v bx r pl s Q E eh q => ?_, EvL.nil P⟩
  subst eh
  obtain ⟨a, ox, es, m, rfl, I, _, _, ht⟩:=exc_inst r
  exact method_fnB bx.K I EC.ga EC.gat EC.fTold (by kernel_rfl) (by show Option.map _ (lookIn _ (dictOf es m)) = _; rw [lookIn_dict, ht]; rfl) q
theorem f_toldE {K:PV → Store → Prop} {X:PExc → Store → Prop} {C:Addr} {what:Str} {at_:Option Int} (EC:ExcCls w C) (kk:K (.tup [.str what, atPV at_]) σ):PrimC w H₀ (n + 1) [.exc C what at_] σ (.ref 36) K X:=by
  refine PrimC.def (params:=["self"]) (ns:=["self"]) (oc':=[]) (ks:=[.local]) (gs:=[]) (vs:=[some (.exc C what at_)])
    rfl (by kernel_rfl) ?_ rfl rfl rfl (by kernel_rfl) (by kernel_rfl) rfl rfl ?_
  · intro vals hv
    apply len1 hv; intros; rfl
  intro S G
  exact Bk.cons (St.ret (EvE.tuple (EvL.cons (EvE.attr (EvE.nam G .head rfl (p_exwhat EC (EvL.cons (EvE.attr (EvE.nam G .head rfl (p_exat EC (EvL.nil (p_tup (Nat.le_of_ble_eq_true rfl) kk)))) fun J => rfl)))) fun J => rfl))))
theorem f_toldO {K:PV → Store → Prop} {X:PExc → Store → Prop} {c jt jf k:Int} (kk:K (.tup [.int c, .int jt, .int jf, .int k]) σ):PrimC w H₀ (n + 1) [.ord c jt jf k] σ (.ref 99) K X:=by
  refine PrimC.def (params:=["self"]) (ns:=["self"]) (oc':=[]) (ks:=[.local]) (gs:=[]) (vs:=[some (.ord c jt jf k)])
    rfl (by kernel_rfl) ?_ rfl rfl rfl (by kernel_rfl) (by kernel_rfl) rfl rfl ?_
  · intro vals hv
    apply len1 hv; intros; rfl
  intro S G
  exact Bk.cons (St.ret (EvE.tuple (EvL.cons (EvE.attr (EvE.nam G .head rfl (p_code (EvL.cons (EvE.attr (EvE.nam G .head rfl (p_jt (EvL.cons (EvE.attr (EvE.nam G .head rfl (p_jf (EvL.cons (EvE.attr (EvE.nam G .head rfl (p_k (EvL.nil (p_tup (Nat.le_of_ble_eq_true rfl) kk)))) fun J => rfl)))) fun J => rfl)))) fun J => rfl)))) fun J => rfl))))
end
end Mine
end
section
open PySem PySem.W PySem.Spec PySem.Calls PyProof.Rows
set_option maxRecDepth 10000
namespace Mine
theorem find_erase_ne {name x:Str} (ne:x ≠ name):∀ (l:List DictEntry) (i:Nat), l.findIdx? (fun e => e.key.isStr name) = some i →
    (l.eraseIdx i).find? (fun e => e.key.isStr x) = l.find? (fun e => e.key.isStr x):=by
  intro l
  induction l with
  | nil => intro i hi; simp at hi
  | cons e l ih =>
    intro i hi
    rw [List.findIdx?_cons] at hi
    by_cases he:e.key.isStr name = true
    · simp only [he, if_true, Option.some.injEq] at hi; subst hi
      have:e.key.isStr x = false:=by
        cases hh:e.key.isStr x
        · rfl
        · exact absurd (Value.isStr_inj _ _ _ hh he) ne
      rw [List.eraseIdx_zero, List.tail_cons, List.find?_cons, this]
    · have he':e.key.isStr name = false:=by simpa using he
      simp only [he', Bool.false_eq_true, if_false] at hi
      cases hj:l.findIdx? (fun e => e.key.isStr name) with
      | none => simp [hj] at hi
      | some j =>
        simp only [hj, Option.map_some, Option.some.injEq] at hi; subst hi
        rw [List.eraseIdx_cons_succ, List.find?_cons, List.find?_cons, ih j hj]
theorem nsFind_erase_ne {es:Array DictEntry} {name x:Str} {i:Nat} (hi:es.findIdx? (·.key.isStr name) = some i) (ne:x ≠ name) :
    nsFind (es.eraseIdxIfInBounds i) x = nsFind es x:=by
  obtain ⟨l⟩:=es
  have h1:l.findIdx? (fun e => e.key.isStr name) = some i:=by simpa using hi
  have h2:(Array.eraseIdxIfInBounds ⟨l⟩ i:Array DictEntry) = ⟨l.eraseIdx i⟩:=by simp
  rw [h2]
  simp only [nsFind, findBy, List.find?_toArray, find_erase_ne ne l i h1]
section
variable {M:Model} {A:Around} {E:Value → Shared → Prop} {s:Shared} {env:Env}
theorem wpAny_nsDelO {a:Addr} {m} {name:Str} {Q:Bool → Shared → Prop} (hn:s.heap.Ns a m)
    (hQ:∀ h' m', h'.Ns a m' → (∀ x, x ≠ name → m' x = m x) → Heap.SameBut a s.heap h' → Q (m name).isSome { s with heap:=h' }):wpAny M A (nsDel a name) Q E s:=by
  obtain ⟨o, es, ep, ho, hd, hk, hm⟩:=id hn
  have hany:es.any (·.refKey) = false:=by
    rw [Array.any_eq_false']; intro e he; obtain ⟨n, t, h⟩:=hk e he; simp [DictEntry.refKey, h]
  have hsome:(m name).isSome = es.any (·.key.isStr name):=by
    rw [← hm name]; simp only [nsFind, findBy, Option.isSome_map]
    rw [Bool.eq_iff_iff]; simp only [Array.find?_isSome, Array.any_eq_true]
    constructor
    · rintro ⟨x, hx, hp⟩; obtain ⟨i, hi, rfl⟩:=Array.mem_iff_getElem.mp hx; exact ⟨i, hi, hp⟩
    · rintro ⟨i, hi, hp⟩; exact ⟨_, Array.getElem_mem hi, hp⟩
  have hhas:nsHas name o = pure (es.any (·.key.isStr name)):=by
    rw [nsHas_eq]; unfold nsHasByArray; rw [hd]
    refine (?_:(if (es.any fun x => x.key.isStr name) = true then _ else _) = _)
    generalize (es.any fun x => x.key.isStr name) = b
    cases b <;> simp [hany]
  unfold nsDel
  refine wpAny_bind (wpAny_loadPart ho ?_)
  rw [hhas]
  refine wpAny_bind (wpAny_pure ?_)
  rw [← hsome]
  cases hmn:(m name).isSome
  · have:=hQ s.heap m hn (fun J J => rfl) (.refl ..)
    rw [hmn] at this
    exact wpAny_pure this
  · refine wpAny_bind (wpAny_updatePart ho (wpAny_pure ?_))
    have key:∃ m', (s.heap.update a (Obj.dropName name)).Ns a m' ∧ ∀ x, x ≠ name → m' x = m x:=by
      obtain ⟨cl, d, dt, sl⟩:=o
      subst hd
      cases hi:es.findIdx? (·.key.isStr name) with
      | some i => exact ⟨_, ⟨_, _, ep + 1, Heap.get?_update_self _ ho (by simp only [Obj.dropName_eq, Obj.dropNameByArray, hi] <;> rfl), (by simp only [Obj.dropName_eq, Obj.dropNameByArray, hi] <;> rfl), hk.erase i, fun J => rfl⟩,
          fun x ne => by rw [nsFind_erase_ne hi ne, hm]⟩
      | none => exact ⟨_, ⟨_, _, ep, Heap.get?_update_self _ ho (by simp only [Obj.dropName_eq, Obj.dropNameByArray, hi] <;> rfl), (by simp only [Obj.dropName_eq, Obj.dropNameByArray, hi] <;> rfl), hk, fun J => rfl⟩, fun x J => by rw [hm]⟩
    obtain ⟨m', hm', hx⟩:=key
    have:=hQ _ m' hm' hx (Heap.SameBut.update ..)
    rw [hmn] at this
    exact this
theorem wpAny_nameGoesO {n:Str} {pos:Pos} {m:Str → Option Value} {Q:Unit → Shared → Prop} (hl:env.kindOf n = some .local) (hn:s.heap.Ns env.locals m)
    (hp:(env.scope.kind == .class || (env.scope.kind == .module && env.locals != env.globals)) = false)
    (h:∀ h' m', h'.Ns env.locals m' → (∀ x, x ≠ n → m' x = m x) → Heap.SameBut env.locals s.heap h' → Q () { s with heap:=h', toks:=s.toks + 1 }) :
    wpAny M A (do bindName env n .none; unbindBehindTheSuite env n pos) Q E s:=by
  refine wpAny_bind (wpAny_bindName (wpAny_storeName_local hl hn (fun h₁ hn₁ hs₁ => ?_) hp))
  unfold unbindBehindTheSuite
  refine wpAny_onRaise ?_
  unfold unbindName
  refine wpAny_bind (wpAny_point (wpAny_bind ?_))
  unfold deleteName
  simp only [hl, hp]
  rw [if_neg (by decide)]
  refine wpAny_bind (wpAny_nsDelO hn₁ fun h₂ m₂ hn₂ hm₂ hs₂ => ?_)
  simp only [if_true, Option.isSome_some, Bool.not_true, Bool.false_eq_true, if_false]
  exact wpAny_pure (wpAny_point (h h₂ m₂ hn₂ (fun x ne => by rw [hm₂ x ne]; simp [ne]) (hs₁.trans hs₂)))
end
end Mine
end
section
open PySem PySem.W PySem.Spec PySem.Calls PyProof.Rows Builtin Builtin.ObjectAttr
set_option maxRecDepth 100000
set_option maxHeartbeats 4000000
namespace Mine
section
variable {w:World} {H₀:Heap} {S:Fx} {n:Nat} {A:Around} {env:Env} {stk:List Env} {ow md md₀:ASet} {σ σ₀:Store} {vs:Slots} {s:Shared} {h h₀:Heap}
theorem excM_my {x C:Addr} {oe:Obj} {Q:Bool → Shared → Prop} {E:Value → Shared → Prop} (EC:ExcCls w C) (hty:typeIn (KK w) (.ref C) = some (.type "type")) (hself:mroIn (KK w) C (.ref C) = some true)
    (X:(KK w).In s.heap) (hx:s.heap.get? x = some oe) (hc:oe.cls = .ref C) (hQ:Q true s):wpAny (MD w) A (excMatches (.ref x) (.ref C)) Q E s:=by
  obtain ⟨hp, g, d, tk, os⟩:=s
  have L1:Looks (MD w) hp (isSubtype (.ref C) (.type "BaseException")) true:=looks_mroIn X EC.base
  have L2:Looks (MD w) hp (isSubtype (.ref C) (.ref C)) true:=looks_mroIn X hself
  obtain ⟨oC, hC, hcC⟩:=Option.map_eq_some_iff.mp hty
  have hC0:=hC
  have hC:=X _ _ hC
  have f:=tc_notTuple
  have hcl:∃ cd, oC.data = .cls cd:=by
    have q:=EC.cls
    obtain ⟨c1, c2, c3, c4⟩:=oC
    unfold clsIn at q
    cases c3 <;> first | exact ⟨_, rfl⟩ | (rw [hC0] at q; cases q)
  obtain ⟨cd, hcd⟩:=hcl
  unfold excMatches isInstance
  repeat (first | with_reducible refine L1.at ?_ | with_reducible refine L2.at ?_ | (with_reducible refine wpAny_loadPart_at hx ?_; rw [hc]) | (with_reducible refine wpAny_loadPart_at hC ?_; first | rw [hcC] | rw [hcd]) | wp_step)
  exact hQ
end
noncomputable abbrev NoE:Value → Shared → Prop:=fun J J => False
section
variable {w:World} {H₀:Heap} {S:Fx} {n:Nat} {A:Around} {env:Env} {stk:List Env} {ow md md₀:ASet} {σ σ₀:Store} {vs:Slots} {s:Shared} {h h₀:Heap}
theorem handleBy_my {e C:Addr} {t:Expr} {x:Str} {b₀:Stmt} {suite:List Stmt} {pos:Pos} {rest:List ExceptHandler} {Q:Flow → Shared → Prop} {E:Value → Shared → Prop}
    (EC:ExcCls w C) (hty:typeIn (KK w) (.ref C) = some (.type "type")) (hself:mroIn (KK w) C (.ref C) = some true)
    (h:wpAny (MD w) (A.mark (some (.ref e))) (eval t env) (fun c s₁ => c = .ref C ∧ (KK w).In s₁.heap ∧ (∃ oe, s₁.heap.get? e = some oe ∧ oe.cls = .ref C) ∧
      wpAny (MD w) (A.mark (some (.ref e))) (setFlight (.ref e) none) (fun J s₂ =>
          wpAny (MD w) (A.mark (some (.ref e))) (storeName env x (.ref e)) (fun J s₃ =>
            wpAny (MD w) (A.mark (some (.ref e))) (execs (b₀ :: suite) env)
              (fun f s₄ => wpAny (MD w) A (do bindName env x .none; unbindBehindTheSuite env x pos) (fun J s₅ => Q f s₅) E s₄) NoE s₃) NoE s₂) NoE s₁) NoE s) :
    wpAny (MD w) A (handleBy (.ref e) env (.ExceptHandler (some t) (some x) (b₀ :: suite) pos :: rest)) Q E s:=by
  refine wpAny_handleBy_cons (codeAny_handlers_test (wpAny_mono h (fun c s₁ h₁ => ?_) fun J J y => y.elim)) (by intro q; cases q)
  obtain ⟨rfl, X, ⟨oe, he, hcls⟩, hk⟩:=h₁
  refine excM_my EC hty hself X he hcls (codeAny_handlers_suite_as (wpAny_mono hk (fun J s₂ h₂ => wpAny_mono h₂ (fun J s₃ h₃ => wpAny_mono h₃ (fun f s₄ h₄ => h₄) fun J J y => y.elim) fun J J y => y.elim) fun J J y => y.elim))
end
section
variable {w:World} {H₀:Heap} {S:Fx} {n:Nat} {A:Around} {env:Env} {stk:List Env} {ow md md₁ md₀:ASet} {σ σ₀ σ₁:Store} {vs vs₁:Slots} {s:Shared} {h h₁ h₀:Heap} {ns oc:List Str} {ks:List NameKind} {gs:List Str}
theorem Bx.hand {v:Value} (b:Bx w H₀ n A stk md σ h) (hN:4 ≤ n):Bx w H₀ 3 (A.mark (some v)) stk md σ h:=by
  obtain ⟨b1, b2, b3, b4, b5, b6⟩:=b
  refine ⟨b1, b2, ?_, ?_, fun q => absurd q (by decide), b6⟩
  · refine (?_:A.depth + 3 < recursionLimit)
    lia
  · refine (?_:A.units + 16 * 3 + 64 < cLine)
    lia
theorem Cx.hand {v:Value} (c:Cx w H₀ S n A env stk ow md σ vs h) (hN:4 ≤ n):Cx w H₀ S 3 (A.mark (some v)) env stk ow md σ vs h :=
  ⟨c.bx.hand hN, c.head, c.loc, c.owfr, c.cellfr⟩
theorem Cx.back {A':Around} {n':Nat} (c₀:Cx w H₀ S n A env stk ow md σ vs h) (c:Cx w H₀ S n' A' env stk ow md₁ σ₁ vs₁ h₁):Cx w H₀ S n A env stk ow md₁ σ₁ vs₁ h₁ :=
  ⟨c₀.bx.with c.bx.inv, c.head, c.loc, c.owfr, c.cellfr⟩
theorem Thr.go {hs:Heap} {l:Option Addr} {v:Value} {pe:PExc} (t:Thr stk md σ hs h (.flew l) v pe) (c:Cx w H₀ S n A env stk ow md σ vs h) (al:∀ a, ow a → ∃ o, hs.get? a = some o) (g:Go stk ow σ md h σ md₁ h₁) :
    Thr stk md₁ σ hs h₁ (.flew l) v pe:=by
  obtain ⟨ea, dx, oe, fs, rfl, he, hc, hdx, hd, hz, nd, ed, xa, T, oT, ts, b1, b2, b3, b4, b5, b6⟩:=t
  have kx:∀ a o, Xa stk md σ hs a → h.get? a = some o → h₁.get? a = some o:=fun a o x e =>
    g.st.keep a o (fun q => q.elim (fun q => by obtain ⟨o', e'⟩:=al a q; rw [x.1] at e'; cases e') fun q => q x.2.2.1) x.2.2.2 e
  have gx:∀ a o, Xa stk md σ hs a → h.get? a = some o → Xa stk md₁ σ hs a:=fun a o x e =>
    ⟨x.1, g.st.grow a o x.2.1 (fun q => q x.2.2.1) e, x.2.2⟩
  have kd:Kp md h md₁ h₁:=c.kp g
  obtain ⟨es, m, hdd, r2⟩:=ed
  exact ⟨ea, dx, oe, fs, rfl, kx _ _ xa he, hc, hdx, hd, hz, kd.not hdd nd, ⟨es, m, kd.keep _ _ nd hdd, r2⟩, gx _ _ xa he, T, oT, ts, b1, kx _ _ b6 b2, b3, b4, b5, gx _ _ b6 b2⟩
end
section
variable {w:World} {H₀:Heap} {S:Fx} {n:Nat} {A:Around} {env:Env} {stk:List Env} {ow md md₁ md₀:ASet} {σ σ₀ σ₁:Store} {vs vs₁:Slots} {s:Shared} {h h₁ h₀:Heap} {ns oc:List Str} {ks:List NameKind} {gs:List Str}
theorem Cx.goes {x:Str} {i:Nat} {pos:Pos} {Q:Unit → Shared → Prop} {E:Value → Shared → Prop} (c:Cx w H₀ S n A env stk ow md σ vs s.heap) (G:S.Good ns oc ks gs) (hi:S.ns[i]? = some x) (hl:S.sc.names.lookup x = some .local)
    (hQ:∀ h' tk, Cx w H₀ S n A env stk ow md σ (vs.set i none) h' → Go stk ow σ md s.heap σ md h' → Q () { s with heap:=h', toks:=tk }):wpAny (MD w) A (do bindName env x .none; unbindBehindTheSuite env x pos) Q E s:=by
  have hkind:env.scope.kind = .function:=by rw [c.loc.sc]; exact G.kind
  have hkd:env.kindOf x = some .local:=by unfold Env.kindOf; rw [c.loc.sc]; exact hl
  have slot:∀ (j:Nat) (pv':PV), (vs.set i none)[j]? = some (some pv') → j ≠ i ∧ vs[j]? = some (some pv'):=fun j pv' e => by
    by_cases z:j = i
    · subst z
      rw [List.getElem?_set] at e
      simp only [if_true] at e
      split at e <;> cases e
    · rw [List.getElem?_set_ne (Ne.symm z)] at e
      exact ⟨z, e⟩
  obtain ⟨m, hns, f⟩:=c.loc.ns
  refine wpAny_nameGoesO hkd hns (by rw [hkind]; rfl) fun h' m' hn' hm' hs' => ?_
  have al':∃ o, h'.get? env.locals = some o:=let ⟨o, _, _, e, _⟩:=hn'; ⟨o, e⟩
  have g:Go stk ow σ md s.heap σ md h':=.same c.loc.lown hs' al'
  have kp:=c.kp g
  have hlm:=c.loc.owmd _ c.loc.lown
  refine hQ h' _ ⟨c.bx.with (c.bx.inv.same hlm.1 hlm.2.1 hs' al' fun o J J => ?_), c.head, ⟨c.loc.sc, c.loc.gl, c.loc.bl, ⟨_, hn', fun j y pv' e1 e2 e3 => ?_⟩, c.loc.lown, fun y ca e => ?_, c.loc.ck, c.loc.hasc, c.loc.cown, c.loc.apart, fun a q => ⟨(c.loc.owmd a q).1, (c.loc.owmd a q).2.1, ?_⟩⟩, c.owfr, c.cellfr⟩ g
  · obtain ⟨o', es, ep, e, d, _⟩:=hn'
    exact ⟨o', e, fun q z => by rw [d] at z; cases z⟩
  · obtain ⟨z, e2⟩:=slot j pv' e2
    obtain ⟨u, hu, hr⟩:=f j y pv' e1 e2 e3
    exact ⟨u, by rw [hm' y (fun q => z (nodup_at G.nodup e1 (q ▸ hi)))]; exact hu, hr.mono kp⟩
  · obtain ⟨a2, a3, v0, hc, fc⟩:=c.loc.cel y ca e
    refine ⟨a2, a3, v0, hc.sameBut hs' a3, fun j pv' e1 e2 => ?_⟩
    obtain ⟨z, e2⟩:=slot j pv' e2
    obtain ⟨u, hu, hr⟩:=fc j pv' e1 e2
    exact ⟨u, hu, hr.mono kp⟩
  · exact g.st.alive _ _ (c.loc.owmd a q).2.2.choose_spec
end
section
variable {w:World} {H₀:Heap} {S:Fx} {n:Nat} {A:Around} {env:Env} {stk:List Env} {ow md md₁ md₀:ASet} {σ σ₀ σ₁:Store} {vs vs₁:Slots} {s:Shared} {h h₁ h₀:Heap} {ns oc:List Str} {ks:List NameKind} {gs:List Str}
variable {Kn:Slots → Store → Prop} {Kr:PV → Slots → Store → Prop} {X:PExc → Slots → Store → Prop}
theorem St.tryAs {body suite:List Stmt} {b₀:Stmt} {t:Expr} {x:Str} {hpos p:Pos} {C:Addr} {i:Nat} (G:S.Good ns oc ks gs) (hx:KAt ns ks x .local i)
    (EC:ExcCls w C) (hty:typeIn (KK w) (.ref C) = some (.type "type")) (hself:mroIn (KK w) C (.ref C) = some true)
    (hB:Bk w H₀ S n body vs σ Kn Kr fun pe vs₁ σ₁ => pe.C = C ∧ EvE w H₀ S 3 t vs₁ σ₁ (fun q vs₂ σ₂ => q = .con (.ref C) ∧ vs₂ = vs₁ ∧ σ₂ = σ₁) (fun J J J => False) ∧
      ∃ vs₂, SAt ns ks vs₁ x .local (.exc C pe.what pe.at_) vs₂ ∧ Bk w H₀ S 3 (b₀ :: suite) vs₂ σ₁ (fun vs₃ σ₃ => Kn (vs₃.set i none) σ₃) (fun q vs₃ σ₃ => Kr q (vs₃.set i none) σ₃) (fun J J J => False))
    (hN:4 ≤ n:=by first | exact Nat.le_add_left 4 _ | assumption) :
    St w H₀ S n (.Try body [.ExceptHandler (some t) (some x) (b₀ :: suite) hpos] [] [] p) vs σ Kn Kr X:=by
  refine ⟨fun A env stk ow md s c => ?_⟩
  refine wpAny_Try_except (wpAny_mono (hB.run A env stk ow md s c) (fun f s' q => ?_) fun v s' q => ?_)
  · obtain ⟨pf, vs₁, σ₁, md₁, h₁, tk, rfl, k, r, c₁, g₁⟩:=q
    cases f with
    | next => exact wpAny_execs_nil ⟨pf, vs₁, σ₁, md₁, h₁, tk, rfl, k, r, c₁, g₁⟩
    | _ => exact ⟨pf, vs₁, σ₁, md₁, h₁, tk, rfl, k, r, c₁, g₁⟩
  · obtain ⟨pe, vs', σ', md', h', tk', rfl, ⟨hC, ht, vsx, hSA, hS⟩, c', g, st, hst, th⟩:=q
    obtain ⟨e, r, hs, hf⟩:=c'.head
    obtain ⟨a1, L, o, a2, a3⟩:=c'.bx.inv.ff e (by rw [hs]; exact .head _)
    rw [noteFrame_eq hf.symm]
    have hA:A.frames = some (e :: r):=by rw [← hs]; exact c'.bx.frames
    rw [← hf, a2] at hst
    rw [hs] at th
    have inv:=c'.bx.inv
    rw [hs] at inv
    have alive:∀ a o, s.heap.get? a = some o → ∃ o', h'.get? a = some o':=g.st.alive
    refine wpA_note (s:=⟨h', s.gens, s.drawn, tk', s.os⟩) hA a2 inv th hst alive fun md₂ h₂ i₂ st₂ t₂ => ?_
    refine wpA_setFlight (s:=⟨h₂, s.gens, s.drawn, tk', s.os⟩) (l':=none) i₂ t₂ fun h₃ i₃ st₃ t₃ => ?_
    have st₄:=st₂.transX st₃
    rw [← hs] at st₄ i₃ t₃
    have c₃:=c'.stepX c.alive i₃ st₄
    have g₃:=g.transX st₄
    obtain ⟨ea, dx, oe, fs, rfl, _⟩:=id t₃
    refine handleBy_my EC hty hself ?_
    refine wpAny_mono (ht.run (A.mark (some (.ref ea))) env stk ow md₂ ⟨h₃, s.gens, s.drawn, tk', s.os⟩ (c₃.hand hN)) (fun u s₅ q => ?_) fun J J q => ?_
    rotate_left
    · obtain ⟨_, _, _, _, _, _, _, k, _⟩:=q; exact k
    obtain ⟨pv, vs₅, σ₅, md₅, h₅, tk₅, rfl, ⟨rfl, rfl, rfl⟩, r₅, c₅, g₅⟩:=q
    obtain rfl:=(r₅.inv:_ = _)
    have t₅:=t₃.go (c₃.hand (v:=.ref ea) hN) (fun a q => c.alive a (.inl q)) g₅
    have g₆:=g₃.trans g₅
    have t₆:=id t₅
    obtain ⟨_, dx₅, oe₅, fs₅, e5, he5, hc5, _⟩:=t₆
    cases e5
    refine ⟨rfl, c₅.bx.K, ⟨oe₅, he5, by rw [hc5, hC]⟩, ?_⟩
    refine wpA_setFlight (s:=⟨h₅, s.gens, s.drawn, tk₅, s.os⟩) (l':=none) c₅.bx.inv t₅ fun h₆ i₆ st₆ t₆ => ?_
    have c₆:=c₅.stepX c.alive i₆ st₆
    have g₇:=g₆.transX st₆
    obtain ⟨ea', dx', oe', fs', e', he, hc, hdx, hd, hz, nd, ed, xa, tb⟩:=t₆
    cases e'
    have c₇:=c₆.part (O:=fun b => b = ea) (σ':=σ₅) (h':=h₆) (fun b q => q ▸ xa.2.1) (fun b q => q ▸ xa.2.2.1) (fun b J => rfl) (fun b q => q ▸ xa.2.2.2)
      (fun b q z => by subst q; obtain ⟨o', e'⟩:=c.alive b (.inl z); rw [xa.1] at e'; cases e')
      (fun y b e q => by subst q; obtain ⟨o', e'⟩:=c.alive b (.inr ⟨y, e⟩); rw [xa.1] at e'; cases e') (fun J J J e => e)
    have g₈:=g₇.part (O:=fun b => b = ea) (σ':=σ₅) (h':=h₆) (fun b q => q ▸ xa.2.2.1) (fun b J => rfl) (fun b q => .inl (q ▸ xa.1)) (fun b q => .inl (q ▸ xa.1)) (fun J J J e => e)
    have hr:Rel (rem md₅ fun b => b = ea) h₆ (.ref ea) (.exc C pe.what pe.at_):=.exc (fun q => q.2 rfl) (fun q => nd q.1) he (hC ▸ hc) hdx hd ed
    obtain ⟨i', hi', hset⟩:=G.sto (.l hSA)
    refine c₇.store (s:=⟨h₆, s.gens, s.drawn, tk₅, s.os⟩) hi' hr fun h₇ tk₇ c₈ g₉ => ?_
    rw [hset] at c₈
    refine wpAny_mono (hS.run (A.mark (some (.ref ea))) env stk ow _ ⟨h₇, s.gens, s.drawn, tk₇, s.os⟩ c₈) (fun f s₈ q => ?_) fun J J q => ?_
    rotate_left
    · obtain ⟨_, _, _, _, _, _, _, k, _⟩:=q; exact k
    obtain ⟨pf, vs₉, σ₉, md₉, h₉, tk₉, rfl, k, r₉, c₉, g₁₀⟩:=q
    have c₁₀:=c.back c₉
    have g₁₁:=(g₈.trans g₉).trans g₁₀
    refine c₁₀.goes (s:=⟨h₉, s.gens, s.drawn, tk₉, s.os⟩) G (by rw [G.ns]; exact hx.at.1) (G.nm i x .local (by rw [G.ns]; exact hx.at.1) hx.at.2).1 fun h₁₁ tk₁₁ c₁₁ g₁₂ => ?_
    refine ⟨pf, _, σ₉, md₉, h₁₁, tk₁₁, rfl, ?_, ?_, c₁₁, g₁₁.trans g₁₂⟩
    · cases pf <;> exact k
    · cases pf <;> cases f <;> first | exact r₉ | exact Rel.mono (c₁₀.kp g₁₂) r₉
end
end Mine
end
section
open PySem PySem.W PySem.Spec PySem.Calls PyProof.Rows
set_option maxRecDepth 100000
set_option maxHeartbeats 1000000
namespace Mine
section
variable {w:World} {H₀:Heap} {n:Nat} {A:Around} {stk:List Env} {md:ASet} {σ:Store} {s:Shared} {tt:Bool} {K:List PV → Prop}
theorem pi_core {args:List PV} {t:List Value → Sem Value}
    (h:∀ A s vals md (E:Value → Shared → Prop), RelL md s.heap vals args → (∀ a, s.heap.get? a = none → ¬ md a) → ∀ Q:Value → Shared → Prop,
      (∀ it l own h' tk, (own.length ≠ 1 → tt = true) → K l → It (addM md fun a => a ∈ own) h' it own l → (∀ a ∈ own, s.heap.get? a = none) → (∀ b o, s.heap.get? b = some o → h'.get? b = some o) → Q it { s with heap:=h', toks:=tk }) →
      wpAny (MD w) A (t vals) (fun x s₁ => wpAny (MD w) A (pyIter x) Q E s₁) E s):PrimI w H₀ n tt args σ t K:=by
  intro A stk md s vals b r
  refine h A s vals md _ r (fun a e m => by obtain ⟨o, q⟩:=b.inv.al a m; rw [e] at q; cases q) _ fun it l own h' tk htt k hi hn hk => ?_
  have hO:∀ a, a ∈ own → ∃ o, h'.get? a = some o:=hi.al
  exact ⟨l, _, h', tk, own, rfl, htt, k, hi, fun a m => ⟨.inr m, b.inv.nost (hn a m), hn a m⟩, b.inv.add (O:=fun a => a ∈ own) hn hO hk, .add (O:=fun a => a ∈ own) hn hk⟩
theorem rsize {a:Nat}:Builtin.Range.rangeSize 0 (a:Int) 1 = a:=by rw [rangeSize_one]; split <;> lia
theorem p_range1 {m:Nat} {i:Int} (hi:i = (m:Int)) (hm:m < 2 ^ 62) (k:K (rangeL 0 1 m)):PrimI w H₀ n tt [.int i] σ (fun vals => PySem.call (.type "range") vals) K:=by
  subst hi
  refine pi_core fun A s vals md E r hno Q hQ => ?_
  apply r.e1; intro _ r₁
  apply r₁.iInt; intro _
  refine call_range_1 ?_
  refine wpAny_pyIter_range (IsRange.new ..) (small_one (by decide) (by decide) (by lia) (by lia)) ?_
  rw [rsize]
  refine hQ _ (rangeL 0 1 m) [(s.heap.push { cls:=.type "range", data:=.fields #[.int 0 s.toks, .int (m:Int) _, .int 1 (s.toks + 1)] }).objs.size] _ _ (fun q => absurd rfl q) k (.range rfl (Heap.get?_push_size _ rfl)) (fun a m => ?_) fun b o e => Heap.get?_push_of_some _ (Heap.get?_push_of_some _ e)
  simp only [List.mem_singleton] at m
  subst m
  rw [Heap.size_push]
  exact Heap.get?_none_of_le (by lia)
theorem fits {x:Int} (h1:0 ≤ x) (h2:x < 4294967296):Builtin.Range.rangeFitsLong x = true:=by
  unfold Builtin.Range.rangeFitsLong
  rw [Bool.and_eq_true, decide_eq_true_eq, decide_eq_true_eq]
  lia
theorem p_range3 {m c:Nat} {i:Int} (hi:i = (m:Int)) (hm:m < 2 ^ 31) (hc:c = (m + 7) / 8) (k:K (rangeL 0 8 c)):PrimI w H₀ n tt [.int 0, .int i, .int 8] σ (fun vals => PySem.call (.type "range") vals) K:=by
  subst hi
  refine pi_core fun A s vals md E r hno Q hQ => ?_
  apply r.e3; intro _ _ _ r₁ r₂ r₃
  apply r₁.iInt; intro _
  apply r₂.iInt; intro _
  apply r₃.iInt; intro _
  refine call_range_3 (by decide) ?_ (.inl (PyProof.noPylong_small ?_))
  · have hs:Builtin.Range.rangeSize 0 (m:Int) 8 = (c:Int):=by
      unfold Builtin.Range.rangeSize
      simp only [show (8:Int) > 0 by decide, if_true]
      split <;> lia
    have hsm:Builtin.Range.small 0 (m:Int) 8 = true:=by
      unfold Builtin.Range.small
      rw [hs, fits (by lia) (by lia), fits (x:=(m:Int)) (by lia) (by lia), fits (x:=8) (by lia) (by lia), fits (x:=(c:Int)) (by lia) (by lia), if_pos (show (8:Int) > 0 by decide), fits (x:=(m:Int) + (8 - 1)) (by lia) (by lia), Bool.or_true]
      rfl
    refine wpAny_pyIter_range (IsRange.new ..) hsm ?_
    rw [hs]
    refine hQ _ (rangeL 0 8 c) [(s.heap.push { cls:=.type "range", data:=.fields #[.int 0 _, .int (m:Int) _, .int 8 _] }).objs.size] _ _ (fun q => absurd rfl q) k (.range rfl (Heap.get?_push_size _ rfl)) (fun a m => ?_) fun b o e => Heap.get?_push_of_some _ (Heap.get?_push_of_some _ e)
    simp only [List.mem_singleton] at m
    subst m
    rw [Heap.size_push]
    exact Heap.get?_none_of_le (by lia)
  · lia
theorem p_enum {l:List PV} (k:K (enumL 0 l)) (htt:tt = true):PrimI w H₀ n tt [.lst l] σ (fun vals => PySem.call (.type "enumerate") vals) K:=by
  refine pi_core fun A s vals md E r hno Q hQ => ?_
  apply r.e1; intro _ r₁
  apply r₁.iLst; intro a vs nm hl rl
  obtain ⟨nn, e⟩:=hl
  refine call_enumerate_1 e fun h' he hi hz hk => ?_
  refine wpAny_pyIter_enum (s:={ s with heap:=h' }) he ?_
  have hO:∀ b, b ∈ [s.heap.objs.size + 1, s.heap.objs.size] → s.heap.get? b = none:=fun b m => by
    simp only [List.mem_cons, List.not_mem_nil, or_false] at m
    exact Heap.get?_none_of_le (by lia)
  have kp:=Kp.add (md:=md) (O:=fun b => b ∈ [s.heap.objs.size + 1, s.heap.objs.size]) hO hk
  exact hQ _ (enumL 0 l) [s.heap.objs.size + 1, s.heap.objs.size] h' s.toks (fun J => htt) k
    (.enum rfl (Nat.succ_ne_self _) he hi (kp.not e nm) ⟨nn, kp.keep _ _ nm e⟩ (by simpa using rl.mono kp)) hO hk
theorem d3nd (N:Nat):([N + 5, N + 4, N, N + 1, N + 2]:List Nat).Nodup:=by
  simp only [List.nodup_cons, List.mem_cons, List.not_mem_nil, or_false, not_or, List.nodup_nil, and_true, not_false_eq_true]; lia
theorem d3nT (N:Nat):N + 3 ∉ ([N + 5, N + 4, N, N + 1, N + 2]:List Nat):=by
  simp only [List.mem_cons, List.not_mem_nil, or_false, not_or]; lia
theorem call_zip_3 {l1 l2 l3:Addr} {xs ys zs:Array Value} {A:Around} {E:Value → Shared → Prop} {Q:Value → Shared → Prop} (hl1:s.heap.IsList l1 xs) (hl2:s.heap.IsList l2 ys) (hl3:s.heap.IsList l3 zs)
    (h:Q (.ref (s.heap.objs.size + 5)) { s with heap:=zHz s.heap l1 l2 l3 }):wpAny (MD w) A (call (.type "zip") [.ref l1, .ref l2, .ref l3]) Q E s:=by
  refine callType_new F.called_zip (by decide) (typeCall_zip_3 _ _ _) (newCall_zip_3 _ _ _) (fun obj => args_object_init_4 obj _ _ _) F.entry_zip_new (meets_zip3 l1 l2 l3 xs ys zs) ⟨hl1, hl2, hl3, ?_⟩
  refine ⟨⟨{ cls:=.type "zip", data:=.fields #[.none, .bool false, .bool false, .ref (s.heap.objs.size + 3), .ref (s.heap.objs.size + 4)] }, ?_, rfl⟩, h⟩
  · have:s.heap.objs.size + 5 = (((zH3 s.heap l1 l2 l3).push { cls:=.type "tuple", data:=.seq #[.ref s.heap.objs.size, .ref (s.heap.objs.size + 1), .ref (s.heap.objs.size + 2)] }).push { cls:=.type "tuple", data:=.seq #[.none, .none, .none] }).objs.size:=by
      simp only [zH3, pL, Heap.size_push]
    rw [this]
    exact Heap.get?_push_size _ rfl
theorem p_zip3 {a b c:List PV} (hb:a.length = b.length) (hc:a.length = c.length) (k:K (zipL a b c)) (htt:tt = true):PrimI w H₀ n tt [.lst a, .lst b, .lst c] σ (fun vals => PySem.call (.type "zip") vals) K:=by
  refine pi_core fun A s vals md E r hno Q hQ => ?_
  apply r.e3; intro _ _ _ r₁ r₂ r₃
  apply r₁.iLst; intro l1 xs n1 m1 q1
  apply r₂.iLst; intro l2 ys n2 m2 q2
  apply r₃.iLst; intro l3 zs n3 m3 q3
  refine call_zip_3 m1.isList m2.isList m3.isList ?_
  have hk:∀ b o, s.heap.get? b = some o → (zHz s.heap l1 l2 l3).get? b = some o:=fun b o e => by
    unfold zHz zH3 pL
    exact Heap.get?_push_of_some _ (Heap.get?_push_of_some _ (Heap.get?_push_of_some _ (Heap.get?_push_of_some _ (Heap.get?_push_of_some _ (Heap.get?_push_of_some _ e)))))
  have at5:∀ (h:Heap) (o:Obj) (k:Nat), h.objs.size = k → o.isFreed = false → (h.push o).get? k = some o:=fun h o k e f => by subst e; exact Heap.get?_push_size _ f
  have g5:IsZip (zHz s.heap l1 l2 l3) (s.heap.objs.size + 5) (s.heap.objs.size + 3) (s.heap.objs.size + 4) .none:=at5 _ _ _ (by simp only [zH3, pL, Heap.size_push]) rfl
  have g4:IsTrip (zHz s.heap l1 l2 l3) (s.heap.objs.size + 4) .none .none .none:=Heap.get?_push_of_some _ (at5 _ _ _ (by simp only [zH3, pL, Heap.size_push]) rfl)
  have g3:IsTrip (zHz s.heap l1 l2 l3) (s.heap.objs.size + 3) (.ref s.heap.objs.size) (.ref (s.heap.objs.size + 1)) (.ref (s.heap.objs.size + 2)):=Heap.get?_push_of_some _ (Heap.get?_push_of_some _ (at5 _ _ _ (by simp only [zH3, pL, Heap.size_push]) rfl))
  have g2:(zHz s.heap l1 l2 l3).IsListIter (s.heap.objs.size + 2) l3 0:=⟨_, Heap.get?_push_of_some _ (Heap.get?_push_of_some _ (Heap.get?_push_of_some _ (at5 _ _ _ (by simp only [pL, Heap.size_push]) rfl))), rfl, rfl⟩
  have g1:(zHz s.heap l1 l2 l3).IsListIter (s.heap.objs.size + 1) l2 0:=⟨_, Heap.get?_push_of_some _ (Heap.get?_push_of_some _ (Heap.get?_push_of_some _ (Heap.get?_push_of_some _ (at5 _ _ _ (by simp only [pL, Heap.size_push]) rfl)))), rfl, rfl⟩
  have g0:(zHz s.heap l1 l2 l3).IsListIter s.heap.objs.size l1 0:=⟨_, Heap.get?_push_of_some _ (Heap.get?_push_of_some _ (Heap.get?_push_of_some _ (Heap.get?_push_of_some _ (Heap.get?_push_of_some _ (at5 _ _ _ rfl rfl))))), rfl, rfl⟩
  refine wpAny_pyIter_zip (s:={ s with heap:=zHz s.heap l1 l2 l3 }) g5 ?_
  have hO:∀ d, d ∈ [s.heap.objs.size + 5, s.heap.objs.size + 4, s.heap.objs.size, s.heap.objs.size + 1, s.heap.objs.size + 2] → s.heap.get? d = none:=fun d m => by
    simp only [List.mem_cons, List.not_mem_nil, or_false] at m
    exact Heap.get?_none_of_le (by lia)
  have kp:=Kp.add (md:=md) (O:=fun d => d ∈ [s.heap.objs.size + 5, s.heap.objs.size + 4, s.heap.objs.size, s.heap.objs.size + 1, s.heap.objs.size + 2]) hO hk
  have out:∀ {d o}, s.heap.get? d = some o → d ∉ [s.heap.objs.size + 5, s.heap.objs.size + 4, s.heap.objs.size, s.heap.objs.size + 1, s.heap.objs.size + 2]:=fun e m => by
    rw [hO _ m] at e; cases e
  obtain ⟨k1, e1⟩:=m1
  obtain ⟨k2, e2⟩:=m2
  obtain ⟨k3, e3⟩:=m3
  refine hQ _ (zipL a b c) [s.heap.objs.size + 5, s.heap.objs.size + 4, s.heap.objs.size, s.heap.objs.size + 1, s.heap.objs.size + 2] _ s.toks (fun J => htt) k
    (.zip3 (k:=0) rfl hb hc ⟨?_, ?_, out e1, out e2, out e3⟩ ⟨g5, g3, g4, g0, g1, g2, ?_, ?_, ?_⟩ ?_ (kp.not e1 n1) (kp.not e2 n2) (kp.not e3 n3) (by simpa using q1.mono kp) (by simpa using q2.mono kp) (by simpa using q3.mono kp)) hO hk
  · exact d3nd _
  · exact d3nT _
  · exact (Heap.PlainList.isList ⟨k1, hk _ _ e1⟩)
  · exact (Heap.PlainList.isList ⟨k2, hk _ _ e2⟩)
  · exact (Heap.PlainList.isList ⟨k3, hk _ _ e3⟩)
  · rintro (m | m)
    · exact hno _ (Heap.get?_none_of_le (by lia)) m
    · exact d3nT _ m
end
section
variable {w:World} {md C:ASet} {h:Heap}
theorem cell_ne {a:Addr} {o:Obj} (hC:∀ a, C a → ∃ v0, h.IsCell a v0) (n:¬ md a) (e:h.get? a = some o) (hd:∀ v, o.data ≠ .cell v):¬ addM md C a:=fun q => q.elim n fun q => by
  obtain ⟨v0, o', e', d'⟩:=hC a q
  rw [e] at e'; cases e'
  exact hd v0 d'
theorem Rel.widen (hC:∀ a, C a → ∃ v0, h.IsCell a v0) {v:Value} {p:PV} (r:Rel md h v p):Rel (addM md C) h v p:=r.map fun J J n e c => ⟨cell_ne hC n e c, e⟩
theorem RelL.widen (hC:∀ a, C a → ∃ v0, h.IsCell a v0) {v:List Value} {p:List PV} (r:RelL md h v p):RelL (addM md C) h v p:=r.ind (P:=RelL (addM md C) h) .nil fun a J x => .cons (a.widen hC) x
theorem NsRel.widen (hC:∀ a, C a → ∃ v0, h.IsCell a v0) {es:List DictEntry} {l:List (Str × PV)} (r:NsRel md h es l):NsRel (addM md C) h es l:=by
  induction r with
  | nil => exact .nil
  | cons a _ ih => exact .cons (a.widen hC) ih
theorem MoAt.widen {a:Addr} {m:MO} (hC:∀ a, C a → ∃ v0, h.IsCell a v0) (x:MoAt w md h a m):MoAt w (addM md C) h a m:=by
  cases m with
  | list l => obtain ⟨vs, e, r⟩:=x; exact ⟨vs, e, r.widen hC⟩
  | dict m => exact x
  | raw o => exact x
  | ns l => obtain ⟨es, n, e, r⟩:=x; exact ⟨es, n, e, r.widen hC⟩
  | tab q =>
    obtain ⟨ps, hp, ht, r⟩:=x
    refine ⟨ps, hp, ht, fun pos cv hc => ?_⟩
    obtain ⟨c, oc, fs, t, e1, e2, e3, e4, e5⟩:=r pos cv hc
    exact ⟨c, oc, fs, t, e1, cell_ne hC e2 e3 (fun v q => by rw [e4] at q; cases q), e3, e4, e5⟩
theorem RelF.widen (hC:∀ a, C a → ∃ v0, h.IsCell a v0) {v:Flow} {p:PF} (r:RelF md h v p):RelF (addM md C) h v p:=by
  cases v <;> cases p <;> first | trivial | exact r.elim | exact Rel.widen hC r
end
noncomputable def Fx.pin (S:Fx) (l:List (Str × Addr)):Fx:=⟨S.sc, S.ns, [], fun env => S.pe env ∧ env.cells = l⟩
theorem Fx.Good.pin {S:Fx} {ns oc gs:List Str} {ks:List NameKind} (G:S.Good ns oc ks gs) (l:List (Str × Addr)):(S.pin l).Good ns [] ks gs:=by
  obtain ⟨⟩:=G
  constructor <;> first | assumption | rfl
noncomputable def CellAt (H₀:Heap) (c:Addr) (pv:PV):Prop:=∃ v, H₀.IsCell c (some v) ∧ Rel (fun J => False) H₀ v pv
structure PinOk (w:World) (H₀:Heap) (S:Fx) (vs:Slots) (l:List (Str × Addr)):Prop where
  gl:Glb w H₀
  cel:∀ (x:Str) (c:Addr) (i:Nat) (pv:PV), l.lookup x = some c → S.ns[i]? = some x → vs[i]? = some (some pv) → CellAt H₀ c pv
  has:∀ x, (S.sc.names.lookup x = some .cell ∨ S.sc.names.lookup x = some .free) → ∃ c, l.lookup x = some c
  inj:∀ x y c, l.lookup x = some c → l.lookup y = some c → x = y
section
variable {α β:Type} {R:ASet → Heap → α → β → Prop} {w:World} {H₀:Heap} {S:Fx} {n:Nat} {A:Around} {env:Env} {stk:List Env} {ow md md':ASet} {σ σ':Store} {vs:Slots} {s:Shared} {h h':Heap} {K:β → Slots → Store → Prop} {X:PExc → Slots → Store → Prop}
noncomputable def stillOf (h:Heap) (M:ASet):Heap:=hideAll h ((List.range h.objs.size).filter fun a => @decide (M a) (Classical.propDecidable _))
theorem still_none {M:ASet} {a:Addr} (m:M a):(stillOf h M).get? a = none:=by
  unfold stillOf
  by_cases q:a < h.objs.size
  · refine hideAll_none _ (List.mem_filter.mpr ⟨List.mem_range.mpr q, ?_⟩)
    exact @decide_eq_true _ (Classical.propDecidable _) m
  · cases e:(hideAll h ((List.range h.objs.size).filter fun a => @decide (M a) (Classical.propDecidable _))).get? a with
    | none => rfl
    | some o => exact absurd (Heap.lt_size (of_hideAll _ e)) q
theorem still_get {M:ASet} {a:Addr} {o:Obj} (e:h.get? a = some o) (m:¬ M a):(stillOf h M).get? a = some o:=by
  unfold stillOf
  refine hideAll_get _ e fun q => m ?_
  exact @of_decide_eq_true _ (Classical.propDecidable _) (List.mem_filter.mp q).2
theorem still_of {M:ASet} {a:Addr} {o:Obj} (e:(stillOf h M).get? a = some o):h.get? a = some o:=of_hideAll _ e
theorem Tr.pin {t:Env → Sem α} (hR:∀ md h v p (C:ASet), (∀ a, C a → ∃ v0, h.IsCell a v0) → R md h v p → R (addM md C) h v p)
    (hh:∀ H₁ l, PinOk w H₁ S vs l → Tr R w H₁ (S.pin l) n t vs σ K X):Tr R w H₀ S n t vs σ K X:=by
  refine ⟨fun A env stk ow md s c => ?_⟩
  obtain ⟨Cl, hCl⟩:∃ Cl:ASet, ∀ a, Cl a ↔ ∃ x, env.cells.lookup x = some a:=⟨_, fun J => Iff.rfl⟩
  obtain ⟨C, hC⟩:∃ C:ASet, ∀ a, C a ↔ md a ∧ Cl a:=⟨_, fun J => Iff.rfl⟩
  obtain ⟨md₁, hmd₁⟩:∃ md₁:ASet, md₁ = rem md Cl:=⟨_, rfl⟩
  obtain ⟨ow₁, how₁⟩:∃ ow₁:ASet, ow₁ = rem ow Cl:=⟨_, rfl⟩
  obtain ⟨H₁, hH₁⟩:∃ H₁, H₁ = stillOf s.heap md₁:=⟨_, rfl⟩
  have inv:=c.bx.inv
  have cinfo:∀ a, Cl a → σ a = none ∧ a ≠ env.locals ∧ ¬ isFr stk a ∧ ∃ v0, s.heap.IsCell a v0:=fun a q => by
    obtain ⟨x, q⟩:=(hCl a).mp q
    obtain ⟨a1, a2, v0, a3, _⟩:=c.loc.cel x a q
    exact ⟨a1, a2, c.cellfr x a q, v0, a3⟩
  have m1:∀ a, md₁ a ↔ md a ∧ ¬ Cl a:=fun a => by rw [hmd₁]; exact Iff.rfl
  have o1:∀ a, ow₁ a ↔ ow a ∧ ¬ Cl a:=fun a => by rw [how₁]; exact Iff.rfl
  have none₁:∀ a, md₁ a → H₁.get? a = none:=fun a q => by rw [hH₁]; exact still_none q
  have get₁:∀ a o, s.heap.get? a = some o → ¬ md₁ a → H₁.get? a = some o:=fun a o e q => by rw [hH₁]; exact still_get e q
  have of₁:∀ a o, H₁.get? a = some o → s.heap.get? a = some o:=fun a o e => by rw [hH₁] at e; exact still_of e
  have up:∀ b o, H₀.get? b = some o → H₁.get? b = some o:=fun b o e => get₁ b o (inv.base b o e) fun q => by
    have:=inv.off b ((m1 b).mp q).1; rw [e] at this; cases this
  have gl₁:Glb w H₁:=inv.gl.keeps up
  have kp:Kp md s.heap md₁ s.heap:=⟨fun J J J e => e, fun a o J m => ((m1 a).mp m).1⟩
  have kp0:Kp md s.heap (fun J => False) H₁:=⟨fun a o m e => get₁ a o e fun q => m ((m1 a).mp q).1, fun J J J m => m.elim⟩
  have inv₁:Inv w H₁ stk md₁ σ s.heap:=by
    refine ⟨gl₁, of₁, none₁, fun a m => inv.al a ((m1 a).mp m).1, fun a m e => ⟨(m1 a).mpr ⟨(inv.sto a m e).1, fun q => ?_⟩, (inv.sto a m e).2.mono kp fun o q => q⟩, fun e he => ?_, fun a q => ⟨(m1 a).mpr ⟨(inv.frmd a q).1, fun z => (cinfo a z).2.2.1 q⟩, (inv.frmd a q).2⟩⟩
    · rw [(cinfo a q).1] at e; cases e
    · obtain ⟨a1, L, o, a2, a3, a4, a5⟩:=inv.ff e he
      have fr:isFr stk L:=⟨e, he, a2⟩
      exact ⟨a1, L, o, a2, none₁ L ((m1 L).mpr ⟨(inv.frmd L fr).1, fun z => (cinfo L z).2.2.1 fr⟩), a4, a5⟩
  have c₁:Cx w H₁ (S.pin env.cells) n A env stk ow₁ md₁ σ vs s.heap:=by
    obtain ⟨b1, b2, b3, b4, b5, b6⟩:=c.bx
    refine ⟨⟨b1, b2, b3, b4, b5, inv₁⟩, c.head, ⟨c.loc.sc, c.loc.gl, c.loc.bl, ?_, ?_, fun x a e => ?_, c.loc.ck, c.loc.hasc, fun x a q => (List.not_mem_nil q).elim, ⟨c.loc.apart.1, c.loc.apart.2, rfl⟩, fun a q => ?_⟩, fun a q => c.owfr a ((o1 a).mp q).1, c.cellfr⟩
    · obtain ⟨m, hn, f⟩:=c.loc.ns
      refine ⟨m, hn, fun i x pv a b d => ?_⟩
      obtain ⟨v, hv, hr⟩:=f i x pv a b d
      exact ⟨v, hv, hr.mono kp⟩
    · exact (o1 _).mpr ⟨c.loc.lown, fun q => (cinfo _ q).2.1 rfl⟩
    · obtain ⟨a1, a2, v0, a3, f⟩:=c.loc.cel x a e
      refine ⟨a1, a2, v0, a3, fun i pv a b => ?_⟩
      obtain ⟨v, hv, hr⟩:=f i pv a b
      exact ⟨v, hv, hr.mono kp⟩
    · obtain ⟨q1, q2⟩:=(o1 a).mp q
      obtain ⟨a1, a2, a3⟩:=c.loc.owmd a q1
      exact ⟨(m1 a).mpr ⟨a1, q2⟩, a2, a3⟩
  have ok:PinOk w H₁ S vs env.cells:=by
    refine ⟨gl₁, fun x a i pv e e1 e2 => ?_, c.loc.hasc, fun x y a e1 e2 => name_of_addr c.loc.apart.1 (mem_of_lookup e1) (mem_of_lookup e2)⟩
    obtain ⟨a1, a2, v0, ⟨o, a3, a4⟩, f⟩:=c.loc.cel x a e
    obtain ⟨v, rfl, hr⟩:=f i pv e1 e2
    exact ⟨v, ⟨o, get₁ a o a3 fun q => ((m1 a).mp q).2 ((hCl a).mpr ⟨x, e⟩), a4⟩, hr.mono kp0⟩
  have back:∀ (vs':Slots) (σ':Store) (md':ASet) (h':Heap), Cx w H₁ (S.pin env.cells) n A env stk ow₁ md' σ' vs' h' → Go stk ow₁ σ md₁ s.heap σ' md' h' →
      (∀ a, C a → ∃ v0, h'.IsCell a v0) ∧ Cx w H₀ S n A env stk ow (addM md' C) σ' vs' h' ∧ Go stk ow σ md s.heap σ' (addM md' C) h':=by
    intro vs' σ' md' h' c' g'
    have inv':=c'.bx.inv
    have hcells:∀ a, C a → ∃ v0, h'.IsCell a v0:=fun a q => by
      obtain ⟨q1, q2⟩:=(hC a).mp q
      obtain ⟨_, _, _, v0, o, a3, a4⟩:=cinfo a q2
      exact ⟨v0, o, inv'.base a o (get₁ a o a3 fun z => ((m1 a).mp z).2 q2), a4⟩
    have cnone:∀ a, C a → σ' a = none:=fun a q => by
      obtain ⟨q1, q2⟩:=(hC a).mp q
      obtain ⟨_, _, _, v0, o, a3, a4⟩:=cinfo a q2
      cases z:σ' a with
      | none => rfl
      | some m =>
        have:=inv'.off a (inv'.sto a m z).1
        rw [get₁ a o a3 fun z => ((m1 a).mp z).2 q2] at this; cases this
    have i':Inv w H₀ stk (addM md' C) σ' h':=by
      refine ⟨inv.gl, fun b o e => inv'.base b o (up b o e), fun a m => m.elim (fun m => ?_) fun m => inv.off a ((hC a).mp m).1, fun a m => m.elim (inv'.al a) fun m => ?_, fun a m e => ⟨.inl (inv'.sto a m e).1, (inv'.sto a m e).2.widen hcells⟩, fun e he => ?_, fun a q => ⟨.inl (inv'.frmd a q).1, (inv'.frmd a q).2⟩⟩
      · cases z:H₀.get? a with
        | none => rfl
        | some o => have:=inv'.off a m; rw [up a o z] at this; cases this
      · obtain ⟨_, o, e, _⟩:=hcells a m; exact ⟨o, e⟩
      · obtain ⟨a1, L, o, a2, a3, a4, a5⟩:=inv'.ff e he
        refine ⟨a1, L, o, a2, ?_, a4, a5⟩
        cases z:H₀.get? L with
        | none => rfl
        | some o => rw [up L o z] at a3; cases a3
    refine ⟨hcells, ?_, ?_⟩
    · obtain ⟨b1, b2, b3, b4, b5, b6⟩:=c'.bx
      refine ⟨⟨b1, b2, b3, b4, b5, i'⟩, c'.head, ⟨c'.loc.sc, c'.loc.gl, c'.loc.bl, ?_, c.loc.lown, fun x a e => ?_, c'.loc.ck, c'.loc.hasc, c.loc.cown, ⟨c'.loc.apart.1, c'.loc.apart.2.1⟩, fun a q => ?_⟩, c.owfr, c'.cellfr⟩
      · obtain ⟨m, hn, f⟩:=c'.loc.ns
        refine ⟨m, hn, fun i x pv a b d => ?_⟩
        obtain ⟨v, hv, hr⟩:=f i x pv a b d
        exact ⟨v, hv, hr.widen hcells⟩
      · obtain ⟨a1, a2, v0, a3, f⟩:=c'.loc.cel x a e
        refine ⟨a1, a2, v0, a3, fun i pv a b => ?_⟩
        obtain ⟨v, hv, hr⟩:=f i pv a b
        exact ⟨v, hv, hr.widen hcells⟩
      · by_cases z:Cl a
        · have hc:C a:=(hC a).mpr ⟨(c.loc.owmd a q).1, z⟩
          obtain ⟨_, o, e, _⟩:=hcells a hc
          exact ⟨.inr hc, cnone a hc, o, e⟩
        · obtain ⟨a1, a2, a3⟩:=c'.loc.owmd a ((o1 a).mpr ⟨q, z⟩)
          exact ⟨.inl a1, a2, a3⟩
    · refine ⟨⟨fun a o no nf e => g'.st.keep a o (fun q => no (q.imp (fun q => ((o1 a).mp q).1) id)) nf e, fun a o no e => g'.st.slots a o (fun q => no (q.imp (fun q => ((o1 a).mp q).1) id)) e, g'.st.alive, fun a o m nt e => ?_, fun a o e m => ?_⟩, g'.d⟩
      · by_cases z:Cl a
        · exact .inr ((hC a).mpr ⟨m, z⟩)
        · exact .inl (g'.st.grow a o ((m1 a).mpr ⟨m, z⟩) nt e)
      · rcases m with m | m
        · exact ((m1 a).mp (g'.st.fresh a o e m)).1
        · exact ((hC a).mp m).1
  refine wpAny_mono ((hh H₁ env.cells ok).run A env stk ow₁ md₁ s c₁) (fun v s' x => ?_) fun v s' x => ?_
  · apply x.el; intro pv vs' σ' md' h' tk k r c' g'
    obtain ⟨q1, q2, q3⟩:=back _ _ _ _ c' g'
    exact ⟨pv, vs', σ', _, h', tk, rfl, k, hR _ _ _ _ _ q1 r, q2, q3⟩
  · apply x.el; intro pe vs' σ' md' h' tk k c' g' st hst t
    obtain ⟨q1, q2, q3⟩:=back _ _ _ _ c' g'
    refine ⟨pe, vs', σ', _, h', tk, rfl, k, q2, q3, st, hst, ?_⟩
    obtain ⟨ea, dx, oe, fs, a1, a2, a3, a4, a5, a6, a7, ⟨⟨es, mm, ad, ar⟩⟩, a9, a10⟩:=t
    have xa:∀ a, Xa stk md' σ' s.heap a → Xa stk (addM md' C) σ' s.heap a:=fun a x => ⟨x.1, .inl x.2.1, x.2.2⟩
    refine ⟨ea, dx, oe, fs, a1, a2, a3, a4, a5, a6, cell_ne q1 a7 ad (fun v q => nomatch q), ⟨⟨es, mm, ad, ar⟩⟩, xa _ a9, ?_⟩
    cases st with
    | new => exact a10
    | flew l =>
      obtain ⟨T, oT, ts, b1, b2, b3, b4, b5, b6⟩:=a10
      exact ⟨T, oT, ts, b1, b2, b3, b4, b5, xa _ b6⟩
theorem EvE.pin {e:Expr} {K:PV → Slots → Store → Prop} (hh:∀ H₁ l, PinOk w H₁ S vs l → EvE w H₁ (S.pin l) n e vs σ K X):EvE w H₀ S n e vs σ K X:=Tr.pin (fun J J J J J hC r => r.widen hC) hh
theorem Bk.pin {b:List Stmt} {Kn:Slots → Store → Prop} {Kr:PV → Slots → Store → Prop} (hh:∀ H₁ l, PinOk w H₁ S vs l → Bk w H₁ (S.pin l) n b vs σ Kn Kr X):Bk w H₀ S n b vs σ Kn Kr X:=Tr.pin (fun J J J J J hC r => RelF.widen hC r) hh
end
theorem codeAmong_app {pos pos':Pos} {c cv:Value} (l:List Value) (h:TriplesOk l) (e:codeAmong pos' (l ++ [rawInt pos.line, rawInt pos.col, c]) = some cv):codeAmong pos' l = some cv ∨ cv = c:=by
  fun_induction TriplesOk l with
  | case1 =>
    simp only [List.nil_append, codeAmong, rawInt] at e
    split at e
    · cases e; exact .inr rfl
    · cases e
  | case2 a t b u x rest ih =>
    simp only [List.cons_append, codeAmong] at e ⊢
    split at e
    · rename_i hc; rw [if_pos hc]; exact .inl e
    · rename_i hc; rw [if_neg hc]; exact ih h e
  | case3 l h1 h2 => exact h.elim
inductive LamS (ns:List Str) (ks:List NameKind) (vs:Slots):List Str → List NameKind → Slots → Prop
  | nil:LamS ns ks vs [] [] []
  | cons {x:Str} {k:NameKind} {pv:PV} {ns':List Str} {ks':List NameKind} {vs':Slots}:NAt ns ks vs x k pv → (k == .cell || k == .free) = true → LamS ns ks vs ns' ks' vs' → LamS ns ks vs (x :: ns') (.free :: ks') (some pv :: vs')
theorem LamS.at {ns:List Str} {ks:List NameKind} {vs:Slots} {ns':List Str} {ks':List NameKind} {vs':Slots} (L:LamS ns ks vs ns' ks' vs'):∀ (i:Nat) (x:Str), ns'[i]? = some x → ∃ k pv, ks'[i]? = some .free ∧ vs'[i]? = some (some pv) ∧ NAt ns ks vs x k pv ∧ (k == .cell || k == .free) = true:=by
  induction L with
  | nil => intro i x e; simp at e
  | cons n hk _ ih =>
    intro i x e
    cases i with
    | zero => simp at e; subst e; exact ⟨_, _, rfl, rfl, n, hk⟩
    | succ i => simp at e; obtain ⟨k, pv, a, b, c, d⟩:=ih i x e; exact ⟨k, pv, by simpa using a, by simpa using b, c, d⟩
theorem LamS.len {ns:List Str} {ks:List NameKind} {vs:Slots} {ns':List Str} {ks':List NameKind} {vs':Slots} (L:LamS ns ks vs ns' ks' vs'):ns'.length = ks'.length ∧ ns'.length = vs'.length:=by
  induction L with
  | nil => exact ⟨rfl, rfl⟩
  | cons n hk _ ih => exact ⟨by simp [ih.1], by simp [ih.2]⟩
theorem LamS.free {ns:List Str} {ks:List NameKind} {vs:Slots} {ns' gs':List Str} {ks':List NameKind} {vs':Slots} (L:LamS ns ks vs ns' ks' vs'):∀ x k, (x, k) ∈ tagged ns' ks' gs' → (k = .free ∧ x ∈ ns') ∨ k = .globalImplicit:=by
  intro x k m
  rcases List.mem_append.mp m with m | m
  · obtain ⟨i, hi⟩:=List.mem_iff_getElem?.mp m
    obtain ⟨e1, e2⟩:=List.getElem?_zip_eq_some.mp hi
    obtain ⟨_, _, a, _⟩:=L.at i x e1
    rw [a] at e2; cases e2
    exact .inl ⟨rfl, List.mem_of_getElem? e1⟩
  · obtain ⟨g, _, e⟩:=List.mem_map.mp m
    cases e; exact .inr rfl
section
variable {w:World} {H₀:Heap} {S:Fx} {n:Nat} {A:Around} {env:Env} {stk:List Env} {ow md md':ASet} {σ σ':Store} {vs vs₀:Slots} {s:Shared} {h h':Heap} {X:PExc → Slots → Store → Prop} {ns oc gs:List Str} {ks:List NameKind} {l:List (Str × Addr)} {ns' gs':List Str} {ks':List NameKind} {vs':Slots}
theorem PinOk.lam (P:PinOk w H₀ S vs₀ l) (G:S.Good ns oc ks gs) (L:LamS ns ks vs₀ ns' ks' vs') (i:Nat) (x:Str) (hx:ns'[i]? = some x):∃ c pv, vs'[i]? = some (some pv) ∧ l.lookup x = some c ∧ CellAt H₀ c pv:=by
  obtain ⟨k, pv, _, e, na, hk⟩:=L.at i x hx
  obtain ⟨j, e1, e2, e3⟩:=na.at
  rw [← G.ns] at e1
  obtain ⟨hl, _⟩:=G.nm j x k e1 e2
  obtain ⟨c, hc⟩:=P.has x (by rw [hl]; simpa using hk)
  exact ⟨c, pv, e, hc, P.cel x c j pv hc e1 e3⟩
theorem Inv.grown {P:Addr} {m:MO} (i:Inv w H₀ stk md σ h) (hP:σ P = some m) (k:∀ b o, b ≠ P → h.get? b = some o → h'.get? b = some o) (hm:MoAt w md h' P m) (hal:∃ o, h'.get? P = some o):Inv w H₀ stk md σ h':=by
  obtain ⟨mP, mo⟩:=i.sto P m hP
  have kp:Kp md h md h':=⟨fun a o nm e => k a o (fun q => nm (q ▸ mP)) e, fun J J J m => m⟩
  refine ⟨i.gl, fun b o e => k b o (fun q => ?_) (i.base b o e), i.off, fun a m => ?_, fun a m' e => ⟨(i.sto a m' e).1, ?_⟩, fun e he => ?_, i.frmd⟩
  · have:=i.off P mP; rw [← q, e] at this; cases this
  · by_cases q:a = P
    · rw [q]; exact hal
    · obtain ⟨o, e⟩:=i.al a m; exact ⟨o, k a o q e⟩
  · by_cases q:a = P
    · subst q; rw [hP] at e; cases e; exact hm
    · exact (i.sto a m' e).2.mono kp fun o z => k a o q z
  · obtain ⟨a1, L, o, a2, a3, a4, a5⟩:=i.ff e he
    refine ⟨a1, L, o, a2, a3, k L o (fun q => ?_) a4, a5⟩
    have:=(i.frmd L ⟨e, he, a2⟩).2
    rw [q, hP] at this; cases this
theorem Go.grown {P:Addr} {m:MO} (hP:σ P = some m) (k:∀ b o, b ≠ P → h.get? b = some o → h'.get? b = some o) (hal:∃ o, h'.get? P = some o):Go stk (fun J => False) σ md h σ md h':=by
  have ne:∀ a, ¬ Owns (fun J => False) σ a → a ≠ P:=fun a q z => q (.inr (by unfold dom; rw [z, hP]; exact fun q => nomatch q))
  refine ⟨⟨fun a o no J e => k a o (ne a no) e, fun a o no e => ⟨o.slots, k a o (ne a no) e⟩, fun a o e => ?_, fun J J m J J => m, fun J J J m => m⟩, fun J q => .inl q⟩
  by_cases q:a = P
  · rw [q]; exact hal
  · exact ⟨o, k a o q e⟩
theorem EvE.lam {K:PV → Slots → Store → Prop} {params:Arguments} {body:Expr} {scope:Scope} {pos:Pos} {c P:Addr} {Q:Str} (hS:∀ env, S.pe env → (env.code = .ref c ∧ env.qual = Q) ∧ env.cells = l) (hcd:CodeHd H₀ c P) (hσ:σ P = some (.tab (Q ++ "<lambda>")))
    (hcl:∀ x, (x, .free) ∈ scope.names → ∃ c, l.lookup x = some c) (hdef:∀ env, defaultsOf params env = ([], []))
    (k:∀ cv ctv pm, K (.fn (kla_fn "<lambda>" (Q ++ "<lambda>") params body scope (closOf l scope.names []) pm cv ctv)) vs σ):EvE w H₀ S n (.Lambda params body scope pos) vs σ K X:=by
  refine ⟨fun A env stk ow md s c₀ => ?_⟩
  obtain ⟨⟨h1, h2⟩, h3⟩:=hS env c₀.loc.apart.2
  have inv:=c₀.bx.inv
  obtain ⟨mP, ps, hp, htr, htab⟩:=inv.sto P _ hσ
  obtain ⟨p', loose, mean, mg, mb, T⟩:=inv.gl.TT
  have hP0:H₀.get? P = none:=inv.off P mP
  have hgs:s.heap.Ns mainGlobals mg:=T.g.keeps inv.base
  have hgP:mainGlobals ≠ P:=fun q => by
    obtain ⟨o, es, ep, e, hd, _⟩:=T.g
    rw [q, hP0] at e; cases e
  have hb:s.heap.BuiltinsAt mg P:=by
    obtain ⟨bm, ob, b1, b2, b3, b4, b5, b6⟩:=T.bmain
    refine ⟨bm, ob, b1, b2, fun q => ?_, fun q => ?_, inv.base _ _ b3, b4, b5, b6⟩
    · obtain ⟨o, es, ep, e, hd, _⟩:=T.g
      rw [q, e] at b3; cases b3; rw [hd] at b6; cases b6
    · rw [q, hP0] at b3; cases b3
  have C:=hcd.keeps inv.base
  have hcl':closureFor scope env = pure (closOf l scope.names []):=by rw [← h3]; exact closureFor_eq (by rw [h3]; exact hcl)
  refine kla_eval (hdef env) ?_
  rw [h2]
  have notmd:∀ a, s.heap.objs.size ≤ a → ¬ md a:=fun a q m => by
    obtain ⟨o, e⟩:=inv.al a m
    rw [Heap.get?_none_of_le q] at e; cases e
  cases hca:codeAmong pos ps.toList with
  | none =>
    refine kla_makeFunction hcl' c₀.loc.gl hgs h1 C hp htr hca hgP hb fun c' ctv hh tk hx hge hlt hrec htb => ?_
    obtain ⟨c₂, occ, fs, t, e2, hoc, hdc, hq⟩:=hrec
    cases e2
    have keep:∀ o, ∀ b ob, b ≠ P → s.heap.get? b = some ob → (hh.push o).get? b = some ob:=fun o b ob q e => Heap.get?_push_of_some _ (hx b ob q e)
    have ncd:¬ md c':=notmd c' hge
    have ht':TriplesOk (ps ++ #[rawInt pos.line, rawInt pos.col, .ref c']).toList:=by
      rw [Array.toList_append]; exact TriplesOk_snoc _ _ _ _ htr
    have hm:∀ o, MoAt w md (hh.push o) P (.tab (Q ++ "<lambda>")):=fun o => by
      refine ⟨_, Heap.get?_push_of_some _ htb, ht', fun pos' cv e => ?_⟩
      rw [Array.toList_append] at e
      rcases codeAmong_app _ htr e with e | e
      · obtain ⟨d, od, fs', t', q1, q2, q3, q4, q5⟩:=htab pos' cv e
        exact ⟨d, od, fs', t', q1, q2, keep o d od (fun q => q2 (q ▸ mP)) q3, q4, q5⟩
      · exact ⟨c', occ, fs, t, e, ncd, Heap.get?_push_of_some _ hoc, hdc, hq⟩
    have i':=inv.grown (h':=hh.push (kla_obj "<lambda>" (Q ++ "<lambda>") params body scope (closOf l scope.names []) ((mg "__name__").getD .none) c' ctv)) hσ (keep _) (hm _) ⟨_, Heap.get?_push_of_some _ htb⟩
    have g':Go stk (fun J => False) σ md s.heap σ md (hh.push (kla_obj "<lambda>" (Q ++ "<lambda>") params body scope (closOf l scope.names []) ((mg "__name__").getD .none) c' ctv)):=Go.grown hσ (keep _) ⟨_, Heap.get?_push_of_some _ htb⟩
    exact ⟨_, vs, σ, md, _, tk, rfl, k (.ref c') ctv ((mg "__name__").getD .none), .fn (notmd _ (Nat.le_of_lt (Nat.lt_of_le_of_lt hge hlt))) (Heap.get?_push_size _ rfl) rfl rfl rfl ncd (Heap.get?_push_of_some _ hoc) hdc hq, c₀.step i' g', g'.ow fun J q => q.elim⟩
  | some cv =>
    obtain ⟨c', occ, fs, t, rfl, q2, q3, q4, q5⟩:=htab pos cv hca
    refine kla_makeFunctionHit hcl' c₀.loc.gl hgs h1 C hp htr hca hb fun ctv hh tk hk hsz => ?_
    have keep:∀ o, ∀ b ob, s.heap.get? b = some ob → (hh.push o).get? b = some ob:=fun o b ob e => Heap.get?_push_of_some _ (hk b ob e)
    have i':=inv.ext (h':=hh.push { cls:=.type "function", data:=.func (kla_fn "<lambda>" (Q ++ "<lambda>") params body scope (closOf l scope.names []) ((mg "__name__").getD .none) (.ref c') ctv) }) (keep _)
    have g':Go stk (fun J => False) σ md s.heap σ md (hh.push { cls:=.type "function", data:=.func (kla_fn "<lambda>" (Q ++ "<lambda>") params body scope (closOf l scope.names []) ((mg "__name__").getD .none) (.ref c') ctv) }):=Go.ext (keep _)
    exact ⟨_, vs, σ, md, _, tk, rfl, k (.ref c') ctv ((mg "__name__").getD .none), .fn (notmd _ hsz) (Heap.get?_push_size _ rfl) rfl rfl rfl q2 (keep _ _ _ q3) q4 q5, c₀.step i' g', g'.ow fun J q => q.elim⟩
noncomputable def PrimF (w:World) (H₀:Heap) (n:Nat) (fd:FuncData) (σ:Store) (K:PV → Store → Prop) (X:PExc → Store → Prop):Prop :=
  ∀ A stk md s f, Bx w H₀ n A stk md σ s.heap → Rel md s.heap f (.fn fd) → codeAny (MD w) A (.call f ⟨[], []⟩) (fun r s' => match r with | .ok (.ret v) => POk w H₀ stk md σ s K v s' | .ok _ => False | .error e => PEx w H₀ stk md σ s X e s') s
theorem EvE.callF {K:PV → Slots → Store → Prop} {f:Expr} {p:Pos} (he:∀ env, eval (.Call f [] [] p) env = (do callWith p (← eval f env) [] (backTo p (starEach [] env)) (backToKw p (keywordEach [] env))))
    (hh:EvE w H₀ S n f vs σ (fun q vs₁ σ₁ => ∃ fd, q = .fn fd ∧ PrimF w H₀ n fd σ₁ (fun q => K q vs₁) (fun q => X q vs₁)) X):EvE w H₀ S n (.Call f [] [] p) vs σ K X:=by
  refine ⟨fun A env stk ow md s c => ?_⟩
  rw [he]
  refine wpAny_bind (hh.at c (fun J J e => e) fun v q vs₁ σ₁ md₁ h₁ tk k r c₁ kp₁ g₁ => ?_)
  obtain ⟨fd, rfl, k⟩:=k
  have r':=r
  obtain ⟨a, cc, o, oc', fs, t, rfl, n1, e1, e2, e3, e4, n5, e5, e6, e7⟩:=r.inv
  refine wpA_callWith rfl (wpAny_items_nil ⟨keeps_F (M:=MD w) h₁ ⟨o.cls, o.dict, fd, o.slots, by rw [e1, ← e3]⟩, ?_⟩)
  have P:Prim w H₀ n [.fn fd] σ₁ (fun vals => PySem.call (vals.headD .none) []) (fun q => K q vs₁) (fun q => X q vs₁):=by
    intro A stk md s vals b r
    apply r.e1; intro _ r₁
    exact wpAny_call (k A stk md s _ b r₁)
  exact wpAny_mono (Prim.in (t:=fun vals => PySem.call (vals.headD .none) []) (vals:=[.ref a]) P c₁ (.cons r' .nil)) (fun J J e => e.lift g₁) fun J J e => e.lift g₁
end
theorem closOf_apart {l:List (Str × Addr)} (inj:∀ x y c, l.lookup x = some c → l.lookup y = some c → x = y):∀ (nm:List (Str × NameKind)) (acc:List (Str × Addr)), (nm.map (·.1)).Nodup → (∀ x, (x, .free) ∈ nm → ∃ c, l.lookup x = some c) →
    acc.Pairwise (fun x y => x.2 ≠ y.2) → (∀ y ∈ acc, l.lookup y.1 = some y.2 ∧ y.1 ∉ nm.map (·.1)) → (closOf l nm acc).Pairwise (fun x y => x.2 ≠ y.2)
  | [], acc, _, _, hp, _ => hp
  | (x, kd) :: nm, acc, hnd, hf, hp, ha => by
    rw [List.map_cons, List.nodup_cons] at hnd
    unfold closOf
    split
    · rename_i hkd
      obtain ⟨a, e⟩:=hf x (by rw [beq_iff_eq.mp hkd]; exact .head _)
      rw [e]
      refine closOf_apart inj nm _ hnd.2 (fun y q => hf y (.tail _ q)) (List.pairwise_cons.mpr ⟨fun y hy z => ?_, hp⟩) fun y q => ?_
      · obtain ⟨q1, q2⟩:=ha y hy
        have z:a = y.2:=z
        have:=inj x y.1 a e (by rw [z]; exact q1)
        exact q2 (by rw [← this]; simp)
      · rcases List.mem_cons.mp q with rfl | q
        · exact ⟨e, hnd.1⟩
        · exact ⟨(ha y q).1, fun z => (ha y q).2 (by simp [z])⟩
    · exact closOf_apart inj nm _ hnd.2 (fun y q => hf y (.tail _ q)) hp fun y q => ⟨(ha y q).1, fun z => (ha y q).2 (by simp [z])⟩
section
variable {w:World} {H₀:Heap} {S:Fx} {n:Nat} {A:Around} {env:Env} {stk:List Env} {ow md md' md'' O:ASet} {σ σ':Store} {vs vs₀:Slots} {s:Shared} {h h₁ h':Heap} {L:Addr}
theorem Stp.out2 {own own' tr tr':ASet} (x:Stp (isFr (env :: stk)) own' tr' (addM md O) h₁ md'' h') (hno:∀ a, O a → h.get? a = none) (hk:∀ a o, h.get? a = some o → h₁.get? a = some o) (hf:env.frame = some L) (hL:O L)
    (ho:∀ a, own' a → own a ∨ h.get? a = none) (ht:∀ a, tr' a → tr a ∨ h.get? a = none):Stp (isFr stk) own tr md h md'' h':=by
  have no:∀ a o, ¬ own a → h.get? a = some o → ¬ own' a:=fun a o q e z => (ho a z).elim q fun z => by rw [z] at e; cases e
  have nf:∀ a o, ¬ isFr stk a → h.get? a = some o → ¬ isFr (env :: stk) a:=fun a o q e ⟨en, he, hfe⟩ => by
    rcases List.mem_cons.mp he with rfl | he
    · rw [hf] at hfe; cases hfe
      rw [hno _ hL] at e; cases e
    · exact q ⟨en, he, hfe⟩
  exact ⟨fun a o q f e => x.keep a o (no a o q e) (nf a o f e) (hk a o e), fun a o q e => x.slots a o (no a o q e) (hk a o e), fun a o e => x.alive a o (hk a o e), fun a o m nt e => x.grow a o (.inl m) (fun q => (ht a q).elim nt fun q => by rw [e] at q; cases q) (hk a o e),
    fun a o e m => (x.fresh a o (hk a o e) m).elim id fun q => by rw [hno a q] at e; cases e⟩
theorem Go.out2 (x:Go (env :: stk) O σ (addM md O) h₁ σ' md'' h') (hno:∀ a, O a → h.get? a = none) (hk:∀ a o, h.get? a = some o → h₁.get? a = some o) (hf:env.frame = some L) (hL:O L):Go stk (fun J => False) σ md h σ' md'' h':=by
  refine ⟨x.st.out2 hno hk hf hL (fun a q => q.elim (fun q => .inr (hno a q)) fun q => .inl (.inr q)) fun J q => .inl q, fun a q => (x.d a q).imp id fun q => ?_⟩
  cases e:h.get? a with
  | none => rfl
  | some o => rw [hk a o e] at q; cases q
variable {ns oc gs:List Str} {ks:List NameKind} {l:List (Str × Addr)} {ns' gs':List Str} {ks':List NameKind} {vs':Slots}
theorem PrimF.lam {K:PV → Store → Prop} {X:PExc → Store → Prop} {params:Arguments} {body:Expr} {scope:Scope} {name qual:Str} {pm cv ctv:Value}
    (P:PinOk w H₀ S vs₀ l) (G:S.Good ns oc ks gs) (Lm:LamS ns ks vs₀ ns' ks' vs') (hn:scope.names = tagged ns' ks' gs') (hk:scope.kind = .function) (hco:scope.isCoroutine = false) (hgen:scope.isGenerator = false) (hz:hnd ((ns' ++ gs' ++ special).map hs) = true)
    (hbind:bindArgs (kla_fn name qual params body scope (closOf l scope.names []) pm cv ctv) ⟨[], []⟩ = pure [])
    (hB:∀ S':Fx, S'.Good ns' [] ks' gs' → EvE w H₀ S' n body vs' σ (fun p J σ' => K p σ') (fun pe J σ' => X pe σ')):PrimF w H₀ (n + 1) (kla_fn name qual params body scope (closOf l scope.names []) pm cv ctv) σ K X:=by
  intro A stk md s f b r
  obtain ⟨fd, hfd⟩:∃ fd, fd = kla_fn name qual params body scope (closOf l scope.names []) pm cv ctv:=⟨_, rfl⟩
  rw [← hfd] at r
  obtain ⟨a, cc, o, oc', fs, t, rfl, n1, e1, e2, e3, e4, n5, e5, e6, e7⟩:=r.inv
  subst hfd
  have e4:cv = .ref cc:=e4
  have inv:=b.inv
  obtain ⟨p', loose, mg, mb, T⟩:=inv.gl.T
  have hlim:s.heap.NoLimit:=T.nolimit.keeps inv.base
  have nd:(tagged ns' ks' gs' |>.map (·.1)).Nodup:=by
    rw [tagged_map Lm.len.1]
    have:=hnd_sound hz
    rw [List.nodup_append] at this
    exact this.1
  have fr:∀ x k, (x, k) ∈ scope.names → (k = .free ∧ x ∈ ns') ∨ k = .globalImplicit:=fun x k m => Lm.free (gs':=gs') x k (hn ▸ m)
  have hcell:∀ x ∈ scope.names, x.2 ≠ .cell:=fun x m e => by
    rcases fr x.1 x.2 m with ⟨q, _⟩ | q <;> rw [e] at q <;> cases q
  refine kla_callFunE (Nat.lt_of_le_of_lt (Nat.le_add_right _ _) b.depth) e1 e3 hco hgen rfl ⟨cc, oc', fs, t, e4, e5, e6, e7⟩ ?_
  rw [hbind]
  refine wpAny_pure (wpAny_newFunctionEnv hcell (fun y hy => by cases hy) (fun h₁ hns hsb => ⟨hlim.fresh _ hsb, ?_⟩) hk)
  obtain ⟨L, hL⟩:∃ L, L = s.heap.objs.size:=⟨_, rfl⟩
  rw [← hL] at hns hsb ⊢
  have hk₁:∀ b o, s.heap.get? b = some o → h₁.get? b = some o:=fun b o e => hsb.extBut b o (by rw [hL]; exact Nat.ne_of_lt (Heap.lt_size e)) (Heap.get?_push_of_some _ e)
  have hLn:s.heap.get? L = none:=by rw [hL]; exact none_size _
  obtain ⟨O, hO⟩:∃ O:ASet, O = fun a => a = L:=⟨_, rfl⟩
  have hOno:∀ a, O a → s.heap.get? a = none:=fun a q => by rw [hO] at q; have q:a = L:=q; rw [q]; exact hLn
  have hOL:O L:=by rw [hO]
  obtain ⟨oL, esL, epL, hoL, hdL, _⟩:=id hns
  have hOal:∀ a, O a → ∃ o, h₁.get? a = some o:=fun a q => by rw [hO] at q; have q:a = L:=q; rw [q]; exact ⟨oL, hoL⟩
  have i₁:=inv.add (O:=O) hOno hOal hk₁
  generalize hE:newEnv scope L mainGlobals (closOf l scope.names []) (qual ++ ".<locals>.") (some a) cv none builtinsNs = env
  have hfr:env.frame = some L:=by rw [← hE]; rfl
  have hloc:env.locals = L:=by rw [← hE]; rfl
  have hcs:env.cells = closOf l scope.names []:=by rw [← hE]; rfl
  have hsc:env.scope = scope:=by rw [← hE]; rfl
  have hL0:H₀.get? L = none:=by
    cases e:H₀.get? L with
    | none => rfl
    | some o => have:=inv.base L o e; rw [hLn] at this; cases this
  have i₂:Inv w H₀ (env :: stk) (addM md O) σ h₁:=by
    refine ⟨i₁.gl, i₁.base, i₁.off, i₁.al, i₁.sto, fun e he => ?_, fun a q => ?_⟩
    · rcases List.mem_cons.mp he with rfl | he
      · exact ⟨by rw [hsc, hk]; decide, L, oL, hfr, hL0, hoL, fun q z => by rw [hdL] at z; cases z⟩
      · exact i₁.ff e he
    · obtain ⟨e, he, hf⟩:=q
      rcases List.mem_cons.mp he with rfl | he
      · rw [hfr] at hf; cases hf
        exact ⟨.inr hOL, inv.nost hLn⟩
      · exact i₁.frmd a ⟨e, he, hf⟩
  have good:(Fx.mk3 scope ns' []).Good ns' [] ks' gs':=.of rfl rfl hk hn Lm.len.1 hz
  have lk:∀ x c, env.cells.lookup x = some c → (x, .free) ∈ scope.names ∧ l.lookup x = some c:=fun x c e => by
    rw [hcs] at e
    rcases closOf_mem (mem_of_lookup e) with q | ⟨q, e'⟩
    · cases q
    · rcases fr x _ q with ⟨_, m⟩ | q'
      · obtain ⟨i, hi⟩:=List.mem_iff_getElem?.mp m
        obtain ⟨d, pv, _, hd, _⟩:=P.lam G Lm i x hi
        rw [hd] at e'
        exact ⟨q, by rw [hd, e']; rfl⟩
      · cases q'
  have cin:∀ x c, env.cells.lookup x = some c → ∃ pv, CellAt H₀ c pv:=fun x c e => by
    obtain ⟨q, hl⟩:=lk x c e
    rcases fr x _ q with ⟨_, m⟩ | q'
    · obtain ⟨i, hi⟩:=List.mem_iff_getElem?.mp m
      obtain ⟨d, pv, _, hd, hc⟩:=P.lam G Lm i x hi
      rw [hl] at hd; cases hd
      exact ⟨pv, hc⟩
    · cases q'
  have c₁:Cx w H₀ (Fx.mk3 scope ns' []) n (A.deeper env) env (env :: stk) O (addM md O) σ vs' h₁:=by
    refine ⟨⟨Around.frames_deeper b.frames, ⟨_, _, rfl⟩, ?_, ?_, fun q => b.handled (Nat.le_succ_of_le q), i₂⟩, ⟨_, _, rfl, rfl⟩, ⟨hsc, by rw [← hE]; rfl, by rw [← hE]; rfl, ⟨_, by rw [hloc]; exact hns, fun i x pv q1 q2 q3 => ?_⟩, by rw [hloc]; exact hOL, fun x c e => ?_, fun x c e => ?_, fun x q => ?_, fun x c q => (List.not_mem_nil q).elim, ⟨?_, trivial⟩, fun a q => ⟨.inr q, inv.nost (hOno a q), hOal a q⟩⟩, fun a q z => ?_, fun x c e z => ?_⟩
    · have:=b.depth
      refine (?_:A.depth + 1 + n < _)
      lia
    · have:=b.units
      refine (?_:A.units + 3 + 16 * n + 64 < _)
      lia
    · obtain ⟨_, _, e, _⟩:=Lm.at i x q1
      have:=(good.nm i x _ q1 e).1
      rw [this] at q3; cases q3
    · obtain ⟨pv, v, ⟨oc, ho, hd⟩, hr⟩:=cin x c e
      obtain ⟨q, hl⟩:=lk x c e
      refine ⟨?_, fun z => ?_, some v, ⟨oc, i₂.base c oc ho, hd⟩, fun j pv' e1' e2' => ?_⟩
      · cases z:σ c with
        | none => rfl
        | some m => have:=inv.off c (inv.sto c m z).1; rw [ho] at this; cases this
      · rw [z, hloc, hL0] at ho; cases ho
      · obtain ⟨d, pv'', e3', hd', v', ⟨oc', ho', hd''⟩, hr'⟩:=P.lam G Lm j x e1'
        rw [hl] at hd'; cases hd'
        rw [e3'] at e2'; cases e2'
        rw [ho] at ho'; cases ho'
        rw [hd] at hd''; cases hd''
        exact ⟨v, rfl, hr'.mono ⟨fun a o J e => i₂.base a o e, fun a o e m => by have:=i₂.off a m; rw [e] at this; cases this⟩⟩
    · obtain ⟨q, hl⟩:=lk x c e
      refine .inr ?_
      refine (?_:scope.names.lookup x = _)
      exact lookup_at q (by rw [hn]; exact nd)
    · have q:(x, NameKind.free) ∈ scope.names:=by
        rcases q with q | q
        · exact absurd rfl (hcell _ (mem_of_lookup q))
        · exact mem_of_lookup q
      have:=closOf_has (cs:=l) (l:=scope.names) (acc:=[]) (x:=x) (.inl q)
      rw [← hcs] at this
      exact Option.isSome_iff_exists.mp (lookup_isSome_iff.mpr this)
    · rw [hcs]
      refine closOf_apart P.inj scope.names [] (by rw [hn]; exact nd) (fun x q => ?_) .nil fun y q => by cases q
      rcases fr x _ q with ⟨_, m⟩ | q'
      · obtain ⟨i, hi⟩:=List.mem_iff_getElem?.mp m
        obtain ⟨d, pv, _, hd, _⟩:=P.lam G Lm i x hi
        exact ⟨d, hd⟩
      · cases q'
    · obtain ⟨o, e⟩:=inv.al a (inv.frmd a z).1
      rw [hOno a q] at e; cases e
    · obtain ⟨pv, v, ⟨oc, ho, hd⟩, hr⟩:=cin x c e
      have:=i₂.off c (i₂.frmd c z).1
      rw [ho] at this; cases this
  refine kla_codeExpr (s:=⟨h₁, s.gens, s.drawn, _, s.os⟩) ?_
  refine wpAny_mono ((hB _ good).run _ _ _ _ _ _ c₁) (fun v s' x => ?_) fun v s' x => ?_
  · apply x.el; intro pv vs'' σ' md' h' tk' k rf c' g
    exact ⟨pv, σ', md', h', tk', rfl, k, rf, c'.bx.inv.pop, g.out2 hOno hk₁ hfr hOL⟩
  · apply x.el; intro pe vs'' σ' md' h' tk' k c' g st hst t
    rw [hfr] at hst
    refine wpA_leaving (s:=⟨h', s.gens, s.drawn, tk', s.os⟩) c'.bx.frames hfr c'.bx.inv t hst g.st.alive fun md'' h'' i'' st'' t'' => ?_
    have alive:∀ a o, s.heap.get? a = some o → ∃ o', h₁.get? a = some o':=fun a o q => ⟨o, hk₁ a o q⟩
    refine ⟨pe, σ', md'', h'', tk', rfl, k, i''.pop, ⟨?_, (g.out2 hOno hk₁ hfr hOL).d⟩, .flew none, .inr rfl, t''.pop alive⟩
    have:=g.st.trans st'' (fun a q => .inr q.2.1) fun J q => q.elim
    exact this.out2 hOno hk₁ hfr hOL (fun a q => q.elim (fun q => .inr (hOno a q)) fun q => .inl (.inr q)) fun J q => .inl q
end
section
variable {w:World} {H₀:Heap} {S:Fx} {n:Nat} {A:Around} {env:Env} {stk:List Env} {ow md md':ASet} {σ σ':Store} {vs:Slots} {s:Shared} {h h':Heap} {K:PV → Store → Prop} {X:PExc → Store → Prop}
theorem Prim.ext {args:List PV} {t:List Value → Sem Value}
    (h:∀ A stk md s vals, Bx w H₀ n A stk md σ s.heap → RelL md s.heap vals args → ∀ (Q:Value → Shared → Prop) (E:Value → Shared → Prop),
      (∀ v h' tk pv, (∀ b o, s.heap.get? b = some o → h'.get? b = some o) → Kp md s.heap md h' → K pv σ → Rel md h' v pv → Q v { s with heap:=h', toks:=tk }) → wpAny (MD w) A (t vals) Q E s):Prim w H₀ n args σ t K X:=by
  intro A stk md s vals b r
  refine h A stk md s vals b r _ _ fun v h' tk pv hk kp k rv => ?_
  exact ⟨pv, σ, md, h', tk, rfl, k, rv, b.inv.ext hk, .ext hk⟩
theorem Kp.ext (hk:∀ b o, h.get? b = some o → h'.get? b = some o):Kp md h md h':=⟨fun a o J e => hk a o e, fun J J J m => m⟩
theorem new_notmd (i:Inv w H₀ stk md σ h) {a:Addr} (e:h.get? a = none):¬ md a:=fun m => by
  obtain ⟨o, q⟩:=i.al a m; rw [e] at q; cases q
theorem p_lenL {l:List PV} (hz:l.length < 2 ^ 62) (k:K (.int l.length) σ):Prim w H₀ n [.lst l] σ (fun vals => PySem.call (.builtin "len") vals) K X:=.ext fun A stk md s vals b r Q E hQ => by
  apply r.e1; intro _ r₁
  apply r₁.iLst; intro a vs nm hl rl
  have e:=rl.length
  refine call_len_list hl.isList (by rw [List.size_toArray]; lia) ?_
  exact hQ _ s.heap _ (.int l.length) (fun J J e => e) (.ext fun J J e => e) k (by rw [List.size_toArray, e]; exact .int ..)
theorem p_lenB {b:Array UInt8} (hz:b.size ≤ 1099511627776) (k:K (.int b.size) σ):Prim w H₀ n [.bytes b] σ (fun vals => PySem.call (.builtin "len") vals) K X:=.ext fun A stk md s vals bx r Q E hQ => by
  apply r.e1; intro _ r₁
  apply r₁.iBytes; intro _
  refine KBw.len_K (ks:=KBw.bInts b) rfl (by rw [KBw.ints_length]; exact hz) ?_
  exact hQ _ s.heap _ (.int b.size) (fun J J e => e) (.ext fun J J e => e) k (by rw [KBw.ints_length]; exact .int ..)
theorem p_bytes {l:List Int} (hr:∀ i ∈ l, 0 ≤ i ∧ i < 256) (hz:l.length ≤ 1000) (k:K (.bytes (byteArr l)) σ) (hN:4 ≤ n:=by first | exact Nat.le_add_left 4 _ | assumption):Prim w H₀ n [.lst (pvI l)] σ (fun vals => PySem.call (.type "bytes") vals) K X:=.ext fun A stk md s vals bx r Q E hQ => by
  apply r.e1; intro _ r₁
  apply r₁.iLst; intro a vs nm hl rl
  have e:vs.length = l.length:=by rw [rl.length]; simp [pvI]
  exact call_bytes_ints hl.isList (intsAre rl) hr (by rw [e]; exact sizeOk_le hz) (bx.handled hN) fun h' t tk hk => hQ _ h' tk _ hk (.ext hk) k (.bytes ..)
theorem p_addB {b c:Array UInt8} (hz:b.size + c.size ≤ 16777216) (k:K (.bytes (b ++ c)) σ):Prim w H₀ n [.bytes b, .bytes c] σ (p2 (binaryOp .Add)) K X:=.ext fun A stk md s vals bx r Q E hQ => by
  apply r.e2; intro _ _ r₁ r₂
  apply r₁.iBytes; intro _
  apply r₂.iBytes; intro _
  exact KBy.add_bytes hz fun t' tk => hQ _ s.heap tk _ (fun J J e => e) (.ext fun J J e => e) k (.bytes ..)
theorem p_itemB {value slice:Expr} {b:Array UInt8} {i r:Int} (hz:b.size ≤ 1099511627776) (h0:0 ≤ i) (h1:i < b.size) (er:(KBw.bInts b).getD i.toNat 0 = r) (k:K (.int r) σ)
    (hs:∀ t u, subscripted slice false (.bytes b t) (.int i u) = operate [.bytes b t, .int i u] (getItem (.bytes b t) (.int i u)))
    (ht:∀ t r, letTemporaryGo value (.bytes b t) r = pure ()):Prim w H₀ n [.bytes b, .int i] σ (p2 (subscriptTail value slice)) K X:=.ext fun A stk md s vals bx r Q E hQ => by
  apply r.e2; intro _ _ r₁ r₂
  apply r₁.iBytes; intro _
  apply r₂.iInt; intro _
  refine KBw.item_K (ks:=KBw.bInts b) rfl (by rw [KBw.ints_length]; exact hz) h0 (by rw [KBw.ints_length]; exact h1) (fun t' tk J J => ?_) (hs _ _) (ht _)
  rw [er]
  exact hQ _ s.heap tk _ (fun J J e => e) (.ext fun J J e => e) k (.int ..)
theorem p_sum {l:List Int} (k:K (.int l.sum) σ) (hN:4 ≤ n:=by first | exact Nat.le_add_left 4 _ | assumption):Prim w H₀ n [.lst (pvI l)] σ (fun vals => PySem.call (.builtin "sum") vals) K X:=.ext fun A stk md s vals bx r Q E hQ => by
  apply r.e1; intro _ r₁
  apply r₁.iLst; intro a vs nm hl rl
  have hi:=intsAre rl
  obtain ⟨xs, e⟩:=hi.allInts.items
  have hns:l = xs.toList.map (·.1):=by rw [← hi.numsOf, ← nums_intItems, ← e]
  have hl':=hl.isList
  rw [e] at hl'
  refine sum_intListG (bx.handled hN) hl' fun h' tk t' hk => ?_
  refine hQ _ h' tk (.int l.sum) hk (.ext hk) k ?_
  rw [preSum_eq, List.take_of_length_le (by simp), hns]
  exact .int ..
theorem p_max {l:List Int} (hne:0 < l.length) (k:∀ M, M ∈ l → (∀ a ∈ l, a ≤ M) → K (.int M) σ) (hN:4 ≤ n:=by first | exact Nat.le_add_left 4 _ | assumption):Prim w H₀ n [.lst (pvI l)] σ (fun vals => PySem.call (.builtin "max") vals) K X:=.ext fun A stk md s vals bx r Q E hQ => by
  apply r.e1; intro _ r₁
  apply r₁.iLst; intro a vs nm hl rl
  have hi:=intsAre rl
  obtain ⟨xs, e⟩:=hi.allInts.items
  have hns:l = xs.toList.map (·.1):=by rw [← hi.numsOf, ← nums_intItems, ← e]
  have hl':=hl.isList
  rw [e] at hl'
  have hsz:0 < xs.size:=by
    have h3:=hne; rw [hns, List.length_map, Array.length_toList] at h3; exact h3
  refine max_intList (bx.handled hN) hl' hsz fun v h' tk hv hk => ?_
  obtain ⟨t, rfl⟩:=intItems_at hv
  obtain ⟨h1, h2⟩:=argBest_gt (numAt xs) (xs.size - 1)
  have num:∀ j, j < xs.size → numAt xs j ∈ l:=fun j hj => by
    rw [hns, numAt_eq]; exact getD_mem (by rw [List.length_map, Array.length_toList]; exact hj)
  refine hQ _ h' tk _ hk (.ext hk) (k _ (num _ (by lia)) fun a ha => ?_) (.int ..)
  rw [hns] at ha
  obtain ⟨j, hj, rfl⟩:=mem_getD ha
  rw [List.length_map, Array.length_toList] at hj
  rw [← numAt_eq]; exact h2 j (by lia)
noncomputable def pvB (l:List Bool):List PV:=l.map .bool
theorem boolAt {l:List Bool} {vals:List Value} (r:RelL md h vals (pvB l)) {i:Nat} {v:Value} (e:vals[i]? = some v):v = .bool (l.getD i false):=by
  obtain ⟨p, e2, r⟩:=r.get' e
  rw [pvB, List.getElem?_map] at e2
  obtain ⟨b, e3, rfl⟩:=Option.map_eq_some_iff.mp e2
  rw [List.getD_eq_getElem?_getD, e3]
  exact r.inv
theorem all_range:∀ (l:List Bool), (List.range l.length).all (fun i => l.getD i false) = l.all id:=fun l => by
  rw [Bool.eq_iff_iff, List.all_eq_true, List.all_eq_true]
  refine ⟨fun h x hx => ?_, fun h i hi => ?_⟩
  · obtain ⟨i, hi⟩:=List.mem_iff_getElem?.mp hx
    have:=h i (List.mem_range.mpr (List.getElem?_eq_some_iff.mp hi).1)
    simpa [List.getD, hi] using this
  · have hi':=List.mem_range.mp hi
    have:l[i]? = some l[i]:=List.getElem?_eq_getElem hi'
    rw [List.getD, this]
    exact h _ (List.getElem_mem hi')
theorem p_all {l:List Bool} (k:K (.bool (l.all id)) σ) (hN:4 ≤ n:=by first | exact Nat.le_add_left 4 _ | assumption):Prim w H₀ n [.lst (pvB l)] σ (fun vals => PySem.call (.builtin "all") vals) K X:=.ext fun A stk md s vals bx r Q E hQ => by
  apply r.e1; intro _ r₁
  apply r₁.iLst; intro a vs nm hl rl
  have e:vs.length = l.length:=by rw [rl.length]; simp [pvB]
  have hL:=hl.isList
  have hlt:a < s.heap.objs.size:=by obtain ⟨_, e, _⟩:=hL; exact Heap.lt_size e
  refine call_all_walk (wpAny_pyIter_list hL ?_)
  refine ⟨_, _, _, _, _, _, fun i => l.getD i false, rfl, Walks.list (A:=A.in1) (bx.handled hN) _ a (Nat.ne_of_lt hlt) vs.toArray, ⟨⟨_, Heap.get?_push_size _ rfl, rfl, rfl⟩, hL.push _⟩, fun i v s Q E hP hq => ?_, fun h' tk hk => ?_⟩
  · have hP':vs[i]? = some v:=by simpa using hP
    have:=boolAt rl hP'
    subst this
    exact wpAny_truthy_bool hq
  · have hk':∀ b o, s.heap.get? b = some o → h'.get? b = some o:=fun b o e => hk b o (fun m => by
      simp only [List.mem_singleton] at m
      rw [m, none_size] at e; cases e) (Heap.get?_push_of_some _ e)
    have:=hQ (.bool (l.all id)) h' tk _ hk' (.ext hk') k (.bool _)
    rw [List.size_toArray, e, all_range]
    exact this
end
theorem RelL.rep {md:ASet} {h:Heap} {vs:List Value} {ps:List PV} (r:RelL md h vs ps):∀ k, RelL md h (List.replicate k vs).flatten (List.replicate k ps).flatten
  | 0 => .nil
  | k + 1 => by rw [List.replicate_succ, List.replicate_succ, List.flatten_cons, List.flatten_cons]; exact r.append (r.rep k)
theorem relStrs {md:ASet} {h:Heap}:∀ (L:List Str) (tk:Nat), RelL md h (strsFrom tk L) (pvS L)
  | [], _ => .nil
  | x :: L, tk => .cons (.str ..) (relStrs L (tk + 1))
section
variable {w:World} {H₀:Heap} {S:Fx} {n:Nat} {A:Around} {env:Env} {stk:List Env} {ow md md':ASet} {σ σ':Store} {vs:Slots} {s:Shared} {h h':Heap}
section
variable {K:PV → Store → Prop} {X:PExc → Store → Prop}
theorem p_addS {x y:Str} (hz:x.length + y.length ≤ sizeLine) (k:K (.str (x ++ y)) σ):Prim w H₀ n [.str x, .str y] σ (p2 (binaryOp .Add)) K X:=.ext fun A stk md s vals bx r Q E hQ => by
  apply r.e2; intro _ _ r₁ r₂
  apply r₁.iStr; intro _
  apply r₂.iStr; intro _
  exact add_str (hsz:=hz) fun t' tk => hQ _ s.heap tk _ (fun J J e => e) (.ext fun J J e => e) k (.str ..)
theorem p_addL {a b:List PV} (hz:a.length + b.length ≤ 1000) (k:K (.lst (a ++ b)) σ):Prim w H₀ n [.lst a, .lst b] σ (p2 (binaryOp .Add)) K X:=.ext fun A stk md s vals bx r Q E hQ => by
  apply r.e2; intro _ _ r₁ r₂
  apply r₁.iLst; intro l1 xs n1 m1 q1
  apply r₂.iLst; intro l2 ys n2 m2 q2
  obtain ⟨k1, e1⟩:=m1
  obtain ⟨k2, e2⟩:=m2
  have hsz:xs.toArray.size + ys.toArray.size ≤ sizeLine:=by rw [List.size_toArray, List.size_toArray, q1.length, q2.length]; exact sizeOk_le hz
  refine concat_meets ⟨_, e1, rfl⟩ ⟨_, e2, rfl⟩ noFill_list_add seq_list_add PySem.F.slot_list_add PySem.F.entry_list_add (PySem.F.args_list_add_2 _ _) (list_addW l1 l2 xs.toArray ys.toArray k1 k2 _ _ _ _ hsz) ⟨e1, e2, ?_⟩
  have hk:∀ b o, s.heap.get? b = some o → (s.heap.push { cls:=.type "list", data:=.seq (xs.toArray ++ ys.toArray) }).get? b = some o:=fun b o e => Heap.get?_push_of_some _ e
  refine hQ _ _ s.toks (.lst (a ++ b)) hk (.ext hk) k (.lst (new_notmd bx.inv (none_size _)) (vs:=xs ++ ys) ⟨0, ?_⟩ ((q1.mono (.ext hk)).append (q2.mono (.ext hk))))
  rw [show (xs ++ ys).toArray = xs.toArray ++ ys.toArray by simp]
  exact Heap.get?_push_size _ rfl
theorem p_mulL {a:List PV} {x:Int} (h0:0 ≤ x) (hz:a.length * x.toNat ≤ 1000) (hx:x ≤ 1000) (k:K (.lst (List.replicate x.toNat a).flatten) σ):Prim w H₀ n [.lst a, .int x] σ (p2 (binaryOp .Mult)) K X:=.ext fun A stk md s vals bx r Q E hQ => by
  apply r.e2; intro _ _ r₁ r₂
  apply r₂.iInt; intro u
  apply r₁.iLst; intro l xs n1 m1 q1
  obtain ⟨k1, ho⟩:=m1
  have hsz:xs.toArray.size * x.toNat ≤ 1000:=by rw [List.size_toArray, q1.length]; exact hz
  have hfit:¬(!Builtin.List.listFitsIndex x) = true:=by simp [Builtin.List.listFitsIndex]; lia
  have h3:¬Builtin.List.listTooLong (xs.toArray.size * x.toNat) = true:=by simp only [Builtin.List.listTooLong, sizeLine_eq, decide_eq_true_eq]; lia
  refine wpAny_binaryOp_repeat_ref (T:="list") (U:="int") (by decide) ⟨_, ho, rfl⟩ (fun s' => typeIs_int s' x u) noFill_list_mul F.fills_int_mul F.slot_int_rmul repeat_list F.slot_int_index.lookup
    (call_meets F.slot_int_rmul (typeIs_int s x u) F.entry_int_rmul (F.args_int_rmul_2 _ _) (lm_int_rmul_list_any x u l xs.toArray k1 _ _)
      ⟨ho, rfl, ⟨_, ho, rfl⟩, call_meets F.slot_list_mul ⟨_, ho, rfl⟩ F.entry_list_mul (F.args_list_mul_2 _ _)
        (lm_list_mul_any l xs.toArray k1 _ _ x u hfit (by lia) h3) ⟨ho, ?_⟩⟩)
  rw [listMul_foldl_if]
  have hk:∀ b o, s.heap.get? b = some o → (s.heap.push { cls:=.type "list", data:=.seq (List.replicate x.toNat xs.toArray.toList).flatten.toArray }).get? b = some o:=fun b o e => Heap.get?_push_of_some _ e
  exact hQ _ _ s.toks (.lst (List.replicate x.toNat a).flatten) hk (.ext hk) k (.lst (new_notmd bx.inv (none_size _)) (vs:=(List.replicate x.toNat xs).flatten) ⟨0, Heap.get?_push_size _ rfl⟩ ((q1.mono (.ext hk)).rep _))
end
noncomputable abbrev EvP (w:World) (H₀:Heap) (S:Fx) (n:Nat) (e:Option Expr) (vs:Slots) (σ:Store) (K:Option Int → Slots → Store → Prop) (X:PExc → Slots → Store → Prop):Prop:=Tr (fun J J v o => IsPart v o) w H₀ S n (evalPart e) vs σ K X
variable {X:PExc → Slots → Store → Prop}
theorem EvP.none {K:Option Int → Slots → Store → Prop} (k:K Option.none vs σ):EvP w H₀ S n Option.none vs σ K X:=⟨fun A env stk ow md s c => evalPart_none_step (.here (tk:=s.toks) c k .none)⟩
theorem EvP.some {e:Expr} {K:Option Int → Slots → Store → Prop} (hh:EvE w H₀ S n e vs σ (fun q vs₁ σ₁ => ∃ i, q = .int i ∧ K (Option.some i) vs₁ σ₁) X):EvP w H₀ S n (Option.some e) vs σ K X:=by
  refine ⟨fun A env stk ow md s c => ?_⟩
  refine evalPart_some_step (hh.at c (fun J J e => e) fun v q vs₁ σ₁ md₁ h₁ tk k r c₁ kp₁ g₁ => ?_)
  obtain ⟨i, rfl, k⟩:=k
  apply r.iInt; intro _
  exact .of g₁ c₁ k (.int ..)
theorem Rel.bytesInv {v:Value} {b:Array UInt8} (r:Rel md h v (.bytes b)):∃ t, v = .bytes b t:=r.inv
theorem EvE.sliceB {K:PV → Slots → Store → Prop} {value:Expr} {lo hi:Option Expr} {p pos:Pos} (ht:∀ o r, letTemporaryGo value o r = pure ())
    (hh:EvE w H₀ S n value vs σ (fun q vs₁ σ₁ => ∃ b, q = .bytes b ∧ b.size ≤ 1000 ∧ EvP w H₀ S n lo vs₁ σ₁ (fun l vs₂ σ₂ => EvP w H₀ S n hi vs₂ σ₂ (fun u => K (.bytes (KBy.picked b l u))) X) X) X) :
    EvE w H₀ S n (.Subscript value (.Slice lo hi none p) pos) vs σ K X:=by
  refine ⟨fun A env stk ow md s c => ?_⟩
  refine wpAny_Subscript_Slice (T:="bytes") FB.slot_bytes_getitem.lookup (hh.at c (fun J J e => e) fun v q vs₁ σ₁ md₁ h₁ tk k r c₁ kp₁ g₁ => ?_) ht
  obtain ⟨b, rfl, hz, k⟩:=k
  obtain ⟨t, rfl⟩:=r.bytesInv
  refine wpAny_Slice (k.at c₁ (fun J J e => e.lift g₁) fun vl l vs₂ σ₂ md₂ h₂ tk₂ k₂ pl c₂ kp₂ g₂ => ?_)
  refine k₂.at c₂ (fun J J e => (e.lift g₂).lift g₁) fun vu u vs₃ σ₃ md₃ h₃ tk₃ k₃ pu c₃ kp₃ g₃ => ?_
  refine wpAny_pure ⟨typeIs_bytes _ _ _, getItem_meets (typeIs_bytes _ _ _) (by decide) FB.slot_bytes_getitem FB.entry_bytes_getitem (FB.args_bytes_getitem_2 _ _) (KBc.meets_slice2 b t _ pl pu) ⟨Heap.IsSliceOf.new _ _ _ _, Nat.le_trans (KBc.size_picked_le b l u) (sizeOk_le hz), fun t' tk' => ?_⟩⟩
  have hk:∀ b o, h₃.get? b = some o → (h₃.push { cls:=.type "slice", data:=.fields #[vl, vu, .none] }).get? b = some o:=fun b o e => Heap.get?_push_of_some _ e
  exact ((GOk.of (s:=⟨h₃, s.gens, s.drawn, tk₃, s.os⟩) (tk:=tk') (Go.ext hk) (c₃.ext hk) k₃ (.bytes _ t')).lift g₃ |>.lift g₂).lift g₁
theorem Rel.lstInv {v:Value} {l:List PV} (r:Rel md h v (.lst l)):∃ a vs, v = .ref a ∧ ¬ md a ∧ h.PlainList a vs.toArray ∧ RelL md h vs l:=r.inv
theorem EvE.sliceTo {K:PV → Slots → Store → Prop} {value:Expr} {hi:Expr} {p pos:Pos} (ht:∀ o r, letTemporaryGo value o r = pure ())
    (hh:EvE w H₀ S n value vs σ (fun q vs₁ σ₁ => ∃ l, q = .lst l ∧ l.length ≤ 1000 ∧ EvE w H₀ S n hi vs₁ σ₁ (fun p vs₂ σ₂ => ∃ j, p = .int j ∧ 0 ≤ j ∧ K (.lst (l.take j.toNat)) vs₂ σ₂) X) X) :
    EvE w H₀ S n (.Subscript value (.Slice Option.none (Option.some hi) Option.none p) pos) vs σ K X:=by
  refine ⟨fun A env stk ow md s c => ?_⟩
  refine wpAny_Subscript_list_slice (hh.at c (fun J J e => e) fun v q vs₁ σ₁ md₁ h₁ tk k r c₁ kp₁ g₁ => ?_) ht
  obtain ⟨l, rfl, hz, k⟩:=k
  refine evalPart_none_step (evalPart_some_step (k.at c₁ (fun J J e => e.lift g₁) fun vu u vs₂ σ₂ md₂ h₂ tk₂ k₂ pu c₂ kp₂ g₂ => ?_))
  obtain ⟨a, xs, rfl, nm, hl, q⟩:=(r.mono kp₂).lstInv
  obtain ⟨j, rfl, h0, k₂⟩:=k₂
  apply pu.iInt; intro tj
  refine ⟨a, xs.toArray, Option.none, Option.some j, rfl, hl.isList, by rw [List.size_toArray, q.length]; exact sizeOk_le hz, .none, .int _ _, ?_⟩
  obtain ⟨m, rfl⟩:∃ m:Nat, j = (m:Int):=⟨j.toNat, by lia⟩
  have e:slicePick xs.toArray Option.none (Option.some (m:Int)) Option.none = (xs.take m).toArray:=by
    rw [slicePick_upto' xs.toArray m]
  have k₂:K (.lst (l.take m)) vs₂ σ₂:=k₂
  rw [e]
  have hk:∀ b o, h₂.get? b = some o → ((h₂.push { cls:=.type "slice", data:=.fields #[.none, .int (m:Int) tj, .none] }).push { cls:=.type "list", data:=.seq (xs.take m).toArray }).get? b = some o:=fun b o e => Heap.get?_push_of_some _ (Heap.get?_push_of_some _ e)
  have c₃:=c₂.ext hk
  have hn:h₂.get? (h₂.objs.size + 1) = Option.none:=Heap.get?_none_of_le (Nat.le_succ _)
  refine ((GOk.of (s:=⟨h₂, s.gens, s.drawn, tk₂, s.os⟩) (tk:=tk₂) (Go.ext hk) c₃ k₂ (.lst (new_notmd c₂.bx.inv hn) (vs:=xs.take m) ⟨0, ?_⟩ ((q.take _).mono (.ext hk)))).lift g₂).lift g₁
  have:=Heap.get?_push_size (h₂.push { cls:=.type "slice", data:=.fields #[.none, .int (m:Int) tj, .none] }) (o:={ cls:=.type "list", data:=.seq (xs.take m).toArray }) rfl
  rw [Heap.size_push] at this
  exact this
theorem EvE.split {K:PV → Slots → Store → Prop} {o:Expr} {ap p:Pos} (hb:∀ env, attributeBase o "split" env (eval o env) = eval o env) (hl:(ap.endLine == p.line) = true)
    (hh:EvE w H₀ S n o vs σ (fun q vs₁ σ₁ => ∃ x L, q = .str x ∧ (Builtin.Str.spaceWords x (x.length + 1) == [(0, x.length)]) = false ∧ PySem.wordsOf x = L ∧ (Nat.ble x.length 1000 && Nat.ble L.length 1000) = true ∧ K (.lst (pvS L)) vs₁ σ₁) X) :
    EvE w H₀ S n (.Call (.Attribute o "split" ap) [] [] p) vs σ K X:=by
  refine EvE.meth hb (fun J => rfl) hl (by show 0 < 29; decide) (hh.mono (fun q vs₁ σ₁ hP => ?_) fun J J J x => x)
  obtain ⟨x, L, e, hw, hL, hz, k⟩:=hP
  subst e
  simp only [Bool.and_eq_true, Nat.ble_eq] at hz
  refine ⟨.builtin "str.split", Kept.builtin, fun A stk md h v bx r pl s Q E eh q => ?_, EvL.nil (.ext fun A stk md s vals bx r Q E hQ => ?_)⟩
  · obtain ⟨_, rfl⟩:=r.inv
    exact GM.split q
  · apply r.e1; intro _ r₁
    apply r₁.iStr; intro _
    refine call_meets F.slot_str_split (typeIs_str _ _ _) F.entry_str_split (F.args_str_split_1 _) (meets_str_split_space x _ (sizeOk_le hz.1) (by rw [← hL] at hz; simp only [PySem.wordsOf, List.length_map] at hz; exact sizeOk_le hz.2)) ?_
    rw [hw]
    have hk:∀ b o, s.heap.get? b = some o → (s.heap.push { cls:=.type "list", data:=.seq (strsFrom s.toks (PySem.wordsOf x)).toArray }).get? b = some o:=fun b o e => Heap.get?_push_of_some _ e
    exact hQ _ _ _ (.lst (pvS L)) hk (.ext hk) k (.lst (new_notmd bx.inv (none_size _)) ⟨0, Heap.get?_push_size _ rfl⟩ (by rw [hL]; exact relStrs ..))
theorem EvE.index {K:PV → Slots → Store → Prop} {o e:Expr} {ap p:Pos} (hb:∀ env, attributeBase o "index" env (eval o env) = eval o env) (hl:(ap.endLine == p.line) = true) (he:∀ env, starEach [e] env = (false, eval e env) :: starEach [] env)
    (hh:EvE w H₀ S n o vs σ (fun q vs₁ σ₁ => ∃ L, q = .lst (pvS L) ∧ EvE w H₀ S n e vs₁ σ₁ (fun y vs₂ σ₂ => ∃ x j, y = .str x ∧ j < L.length ∧ L[j]? = some x ∧ (∀ m, m < j → L[m]? ≠ some x) ∧ L.length ≤ 1000 ∧ K (.int j) vs₂ σ₂) X) X) :
    EvE w H₀ S n (.Call (.Attribute o "index" ap) [e] [] p) vs σ K X:=by
  refine EvE.meth hb (fun env => by rw [he]; rfl) hl (by show 1 < 29; decide) (hh.mono (fun q vs₁ σ₁ hP => ?_) fun J J J x => x)
  obtain ⟨L, eq, k⟩:=hP
  subst eq
  refine ⟨.builtin "list.index", Kept.builtin, fun A stk md h v bx r pl s Q E eh q => ?_, EvL.cons (k.mono (fun y vs₂ σ₂ hQ => EvL.nil ?_) fun J J J x => x) he⟩
  · subst eh
    obtain ⟨a, xs, rfl, nm, ⟨nn, hp⟩, q'⟩:=r.lstInv
    exact getMethod_builtin ⟨_, hp, rfl⟩ PySem.F.plainAttrs_list PySem.F.slot_list_index PySem.F.type_list_index (fun a e => by cases e; exact ⟨_, hp, rfl⟩) q
  · obtain ⟨x, j, ey, hj, hx, hno, hz, k⟩:=hQ
    subst ey
    refine .ext fun A stk md s vals bx r Q E hQ => ?_
    apply r.e2; intro _ _ r₁ r₂
    apply r₂.iStr; intro _
    obtain ⟨a, xs, rfl, nm, ⟨nn, hp⟩, q'⟩:=r₁.lstInv
    have hi:=strsAre q'
    have len:xs.length = L.length:=by rw [q'.length]; simp [pvS]
    have at_:∀ (m:Nat) (hm:m < xs.length) (y:Str), L[m]? = some y → isStrOf x xs[m] = (y == x):=fun m hm y ey => by
      have h1:(pvS L)[m]? = some (.str y):=by simp [pvS, ey]
      obtain ⟨v, hv, rv⟩:=q'.get h1
      have h2:xs[m] = v:=by
        have:=List.getElem?_eq_getElem hm
        rw [this] at hv; cases hv; rfl
      rw [h2]
      obtain ⟨_, rfl⟩:=rv.inv
      rfl
    refine call_meets PySem.F.slot_list_index ⟨_, hp, rfl⟩ PySem.F.entry_list_index (PySem.F.args_list_index_2 _ _)
      (MeetsSeq.list_index a xs.toArray nn (.str x _) (isStrOf x) (fun y hy => eq_isStrOf x _ hi y (by simpa using hy)) j (by rw [List.size_toArray, len]; exact hj) (by lia) ?_ fun m hm hlt => ?_) ⟨hp, ?_⟩
    · have:=at_ j (by rw [len]; exact hj) x hx
      simpa using this
    · have hm':m < xs.length:=by simpa using hm
      have:=at_ m hm' L[m] (List.getElem?_eq_getElem (by rw [← len]; exact hm'))
      have ne:(L[m]'(by rw [← len]; exact hm') == x) = false:=by
        rw [beq_eq_false_iff_ne]
        intro z
        exact hno m hlt (by rw [List.getElem?_eq_getElem (by rw [← len]; exact hm'), z])
      rw [ne] at this
      simpa using this
    · exact hQ _ s.heap _ (.int j) (fun J J e => e) (.ext fun J J e => e) k (.int ..)
end
noncomputable def PV.dat (p:PV):PyData :=
  PV.rec (motive_1:=fun J => PyData) (motive_2:=fun J => List PyData) .none .bool .int .str (fun J => .dict []) (fun J l => .tuple l) (fun J l => .list l) (fun J J J J => .dict []) (fun J J J => .dict []) (fun J => .dict []) (fun J => .dict []) (fun J J J => .dict []) (fun J => .dict []) [] (fun J J p l => p :: l) p
noncomputable def datL (p:List PV):List PyData :=
  PV.rec_1 (motive_1:=fun J => PyData) (motive_2:=fun J => List PyData) .none .bool .int .str (fun J => .dict []) (fun J l => .tuple l) (fun J l => .list l) (fun J J J J => .dict []) (fun J J J => .dict []) (fun J => .dict []) (fun J => .dict []) (fun J J J => .dict []) (fun J => .dict []) [] (fun J J p l => p :: l) p
theorem datNo {p:PV} {P:Prop} (e:p.dat.canLay0 = true) (h:p.dat = .dict []):P:=by rw [h] at e; exact nomatch (show false = true from e)
theorem Rel.reads {md:ASet} {h:Heap} {v:Value} {p:PV} (r:Rel md h v p):p.dat.canLay0 = true → ∃ as, Reads h v p.dat as :=
  Rel.rec (motive_1:=fun v p J => p.dat.canLay0 = true → ∃ as, Reads h v p.dat as) (motive_2:=fun v l J => PyData.canLayAll0 (datL l) = true → ∃ as, ReadsAll h v (datL l) as)
    (fun J => ⟨_, .none⟩) (fun b J => ⟨_, .bool b⟩) (fun i t J => ⟨_, .int i t⟩) (fun x t J => ⟨_, .str x t⟩) (fun J J e => datNo e rfl) (fun J e => datNo e rfl) (fun J e => datNo e rfl)
    (fun n t J x e => t.elim fun o q => (x e).elim fun as ra => q.2.2.elim fun J d => ⟨_, .tuple q.1 q.2.1 d (by simp only [List.toList_toArray]; exact ra)⟩)
    (fun n t J x e => t.elim fun m q => (x e).elim fun as ra => ⟨_, .list q rfl rfl (by simp only [List.toList_toArray]; exact ra)⟩)
    (fun J J J e => datNo e rfl) (fun J J J J J J J e => datNo e rfl) (fun J J e => datNo e rfl) (fun J J J J J J J J J e => datNo e rfl) (fun J => ⟨_, .nil⟩)
    (fun J J x y e => (x (Bool.and_eq_true_iff.mp e).1).elim fun as ra => (y (Bool.and_eq_true_iff.mp e).2).elim fun bs rb => ⟨_, .cons ra rb⟩) r
mutual
theorem eqv_refl:∀ d:PyData, d.canLay0 = true → PyData.eqv d d = true
  | .none, _ => by simp [PyData.eqv]
  | .bool b, _ => by simp [PyData.eqv]
  | .int i, _ => by simp [PyData.eqv]
  | .str x, _ => by simp [PyData.eqv]
  | .list l, e => by rw [PyData.eqv]; exact eqvAll_refl l (by rw [PyData.canLay0] at e; exact e)
  | .tuple l, e => by rw [PyData.eqv]; exact eqvAll_refl l (by rw [PyData.canLay0] at e; exact e)
  | .dict _, e => by rw [PyData.canLay0] at e; cases e
theorem eqvAll_refl:∀ l:List PyData, PyData.canLayAll0 l = true → PyData.eqvAll l l = true
  | [], _ => by simp [PyData.eqvAll]
  | d :: l, e => by
    rw [PyData.canLayAll0, Bool.and_eq_true] at e
    rw [PyData.eqvAll, eqv_refl d e.1, eqvAll_refl l e.2]; rfl
end
noncomputable def shapedN (n:Nat) (d:PyData):Bool:=d.canLay0 && Nat.ble d.depth n
theorem shapedN.all {n:Nat} {l:List PV} (e:∀ p ∈ l, shapedN n p.dat = true):PyData.canLayAll0 (datL l) = true ∧ PyData.depthAll (datL l) ≤ n:=by
  induction l with
  | nil =>
    exact ⟨rfl, Nat.zero_le _⟩
  | cons p l ih =>
    have h1:=e p (.head _)
    obtain ⟨a, b⟩:=ih fun q m => e q (.tail _ m)
    simp only [shapedN, Bool.and_eq_true, Nat.ble_eq] at h1
    exact ⟨Bool.and_eq_true_iff.mpr ⟨h1.1, a⟩, Nat.max_le.mpr ⟨h1.2, b⟩⟩
theorem shapedN.lst {n:Nat} {l:List PV} (h:∀ p ∈ l, shapedN n p.dat = true):shapedN (n + 1) (PV.lst l).dat = true:=by
  obtain ⟨a, b⟩:=shapedN.all h
  simp only [shapedN, Bool.and_eq_true, Nat.ble_eq]
  exact ⟨a, Nat.succ_le_succ b⟩
theorem shapedN.tup {n:Nat} {l:List PV} (h:∀ p ∈ l, shapedN n p.dat = true):shapedN (n + 1) (PV.tup l).dat = true:=by
  obtain ⟨a, b⟩:=shapedN.all h
  simp only [shapedN, Bool.and_eq_true, Nat.ble_eq]
  exact ⟨a, Nat.succ_le_succ b⟩
theorem shapedN.at {n:Nat} {d:PyData} (h:shapedN n d = true) (hn:n ≤ 64):SeqAt.shaped d = true:=by
  simp only [shapedN, Bool.and_eq_true, Nat.ble_eq] at h
  unfold SeqAt.shaped
  rw [h.1, Bool.true_and]
  exact decide_eq_true (Nat.le_trans h.2 hn)
theorem shapedN.int {n:Nat} {i:Int}:shapedN n (PV.int i).dat = true:=by
  simp only [shapedN, Bool.and_eq_true, Nat.ble_eq]; exact ⟨rfl, Nat.zero_le _⟩
section
variable {w:World} {H₀:Heap} {S:Fx} {n:Nat} {A:Around} {env:Env} {stk:List Env} {ow md md':ASet} {σ σ':Store} {vs:Slots} {s:Shared} {h h':Heap} {K:PV → Store → Prop} {X:PExc → Store → Prop}
theorem Bx.u64 (b:Bx w H₀ n A stk md σ h):A.units + 64 < cLine:=by have:=b.units; lia
theorem p_eqD {p q:PV} (k:K (.bool (PyData.eqv p.dat q.dat)) σ) (hp:SeqAt.shaped p.dat = true) (hq:SeqAt.shaped q.dat = true):Prim w H₀ n [p, q] σ (p2 (compareOp .Eq)) K X:=.ext fun A stk md s vals bx r Q E hQ => by
  apply r.e2; intro _ _ r₁ r₂
  obtain ⟨as, ra⟩:=r₁.reads (SeqAt.canLay_of_shaped hp)
  obtain ⟨bs, rb⟩:=r₂.reads (SeqAt.canLay_of_shaped hq)
  exact eq_dataH ra rb hp hq bx.u64 (hQ _ s.heap s.toks _ (fun J J e => e) (.ext fun J J e => e) k (.bool _))
theorem p_neD {p q:PV} (k:K (.bool (!PyData.eqv p.dat q.dat)) σ) (hp:SeqAt.shaped p.dat = true) (hq:SeqAt.shaped q.dat = true):Prim w H₀ n [p, q] σ (p2 (compareOp .NotEq)) K X:=.ext fun A stk md s vals bx r Q E hQ => by
  apply r.e2; intro _ _ r₁ r₂
  obtain ⟨as, ra⟩:=r₁.reads (SeqAt.canLay_of_shaped hp)
  obtain ⟨bs, rb⟩:=r₂.reads (SeqAt.canLay_of_shaped hq)
  exact ne_dataH ra rb hp hq bx.u64 (hQ _ s.heap s.toks _ (fun J J e => e) (.ext fun J J e => e) k (.bool _))
theorem p_eqR {p q:PV} (e:p = q) (hp:SeqAt.shaped p.dat = true) (k:K (.bool true) σ):Prim w H₀ n [p, q] σ (p2 (compareOp .Eq)) K X:=by
  subst e
  exact p_eqD (by rw [eqv_refl _ (SeqAt.canLay_of_shaped hp)]; exact k) hp hp
theorem p_neR {p q:PV} (e:p = q) (hp:SeqAt.shaped p.dat = true) (k:K (.bool false) σ):Prim w H₀ n [p, q] σ (p2 (compareOp .NotEq)) K X:=by
  subst e
  exact p_neD (by rw [eqv_refl _ (SeqAt.canLay_of_shaped hp)]; exact k) hp hp
theorem p_ne0 {l:List PV} (k:K (.bool (!l.isEmpty)) σ) (hp:l.length ≤ 1000):Prim w H₀ n [.lst l, .lst []] σ (p2 (compareOp .NotEq)) K X:=.ext fun A stk md s vals bx r Q E hQ => by
  apply r.e2; intro _ _ r₁ r₂
  obtain ⟨a, xs, rfl, n1, m1, q1⟩:=r₁.lstInv
  obtain ⟨b, ys, rfl, n2, m2, q2⟩:=r₂.lstInv
  cases q2
  have hu:A.units < cLine:=by have:=bx.u64; lia
  cases q1 with
  | nil => exact SeqAt.RcNeAt.lists (e:=fun J => true) m1.isList m2.isList rfl hu (fun j h1 => absurd h1 (by simp)) _ w E Q (hQ _ s.heap s.toks (.bool false) (fun J J e => e) (.ext fun J J e => e) k (.bool _))
  | cons a b => exact SeqAt.RcNeAt.lists_lengths m1.isList m2.isList (by simp) hu _ w E Q (hQ _ s.heap s.toks (.bool true) (fun J J e => e) (.ext fun J J e => e) k (.bool _))
theorem p_neB {b c:Array UInt8} (k:K (.bool (b.toList != c.toList)) σ):Prim w H₀ n [.bytes b, .bytes c] σ (p2 (compareOp .NotEq)) K X:=.ext fun A stk md s vals bx r Q E hQ => by
  apply r.e2; intro _ _ r₁ r₂
  apply r₁.iBytes; intro _
  apply r₂.iBytes; intro _
  exact ne_bytes (hQ _ s.heap s.toks _ (fun J J e => e) (.ext fun J J e => e) k (.bool _))
theorem EqAt_bytes (b c:Array UInt8) (t u:Tok):SeqAt.EqAt A s (.bytes b t) (.bytes c u) (b.toList == c.toList):=by
  intro prog w E Q h
  unfold eqBool
  refine wpAny_holding ?_
  refine wpAny_ite_split (fun hab => ?_) (fun hab => ?_)
  · have e:b = c:=by have:=eq_of_beq hab; injection this
    subst e
    exact wpAny_bind (wpAny_rule (wpAny_pure (by simpa using h)))
  · exact wpAny_bind (richCompare_gives (op:=.Eq) (T:="bytes") rfl rfl FB.slot_bytes_eq FB.entry_bytes_eq (FB.args_bytes_eq_2 _ _) (gives_bytes_eq b c t u) (fun x => nomatch x) (wpAny_truthy_bool h))
theorem p_neB1 {b c:Array UInt8} (e:b = c) (k:K (.bool false) σ):Prim w H₀ n [.lst [.bytes b], .lst [.bytes c]] σ (p2 (compareOp .NotEq)) K X:=.ext fun A stk md s vals bx r Q E hQ => by
  apply r.e2; intro _ _ r₁ r₂
  subst e
  obtain ⟨a, xs, rfl, n1, m1, q1⟩:=r₁.lstInv
  obtain ⟨d, ys, rfl, n2, m2, q2⟩:=r₂.lstInv
  cases q1 with | cons a1 q1 => cases q1; cases q2 with | cons a2 q2 =>
  cases q2; cases a1; cases a2
  have hu:A.units < cLine:=by have:=bx.u64; lia
  refine SeqAt.RcNeAt.lists (e:=fun J => true) m1.isList m2.isList rfl hu (fun j h1 h2 => ?_) _ w E Q (hQ _ s.heap s.toks (.bool false) (fun J J e => e) (.ext fun J J e => e) k (.bool _))
  have hj:j = 0:=by simpa using h1
  subst hj
  have:=EqAt_bytes (A:=A.in1) (s:=s) b b
  simpa using this _ _
end
noncomputable def dget (m:List (Int × Int)) (k:Int):Option Int:=(m.find? fun kv => kv.1 = k).map (·.2)
noncomputable def dput (m:List (Int × Int)) (k v:Int):List (Int × Int):=if m.any (fun kv => kv.1 = k) then m.map (fun kv => if kv.1 = k then (kv.1, v) else kv) else m ++ [(k, v)]
theorem dput_len (m:List (Int × Int)) (k v:Int):(dput m k v).length ≤ m.length + 1:=by
  unfold dput
  split <;> simp
theorem dget_map (k v k':Int) (m:List (Int × Int)) (h:m.any (fun kv => kv.1 = k) = true):dget (m.map fun kv => if kv.1 = k then (kv.1, v) else kv) k' = if k' = k then some v else dget m k':=by
  induction m with
  | nil =>
    simp at h
  | cons p m ih₀ =>
    obtain ⟨a, b⟩:=p
    by_cases e:a = k
    · subst e
      by_cases q:k' = a
      · subst q; simp [dget]
      · have q':¬ a = k':=fun z => q z.symm
        rw [if_neg q]
        cases hm:m.any (fun kv => kv.1 = a) with
        | true =>
          have ih:=ih₀ hm
          rw [if_neg q] at ih
          simp only [dget] at ih ⊢
          simp [q']
          simpa using ih
        | false =>
          have:m.map (fun kv => if kv.1 = a then (kv.1, v) else kv) = m:=by
            rw [List.any_eq_false] at hm
            calc m.map (fun kv => if kv.1 = a then (kv.1, v) else kv) = m.map id:=List.map_congr_left fun x hx => by
                  have:=hm x hx
                  simp only [decide_eq_true_eq] at this
                  simp [this]
              _ = m:=List.map_id m
          simp only [List.map_cons, if_true]
          rw [this]
          simp [dget, q']
    · have h':m.any (fun kv => kv.1 = k) = true:=by simpa [e] using h
      have ih:=ih₀ h'
      simp only [List.map_cons, if_neg e]
      by_cases q:k' = k
      · rw [if_pos q] at ih ⊢
        have q':¬ a = k':=fun z => e (z.trans q)
        simp only [dget] at ih ⊢
        simpa [q'] using ih
      · rw [if_neg q] at ih ⊢
        by_cases q':a = k'
        · simp [dget, q']
        · simp only [dget] at ih ⊢
          simpa [q'] using ih
theorem dget_put (m:List (Int × Int)) (k v k':Int):dget (dput m k v) k' = if k' = k then some v else dget m k':=by
  unfold dput
  cases h:m.any (fun kv => kv.1 = k) with
  | true => simp only [if_true]; exact dget_map k v k' m h
  | false =>
    simp only [Bool.false_eq_true, if_false]
    unfold dget
    rw [List.find?_append]
    by_cases q:k' = k
    · subst q
      have:m.find? (fun kv => kv.1 = k') = none:=by
        rw [List.find?_eq_none]; intro x hx
        rw [List.any_eq_false] at h
        simpa using h x hx
      rw [this, if_pos rfl]
      simp
    · rw [if_neg q]
      have q':¬ k = k':=fun z => q z.symm
      cases m.find? (fun kv => kv.1 = k') <;> simp [q']
theorem KvAll.len {kvs:List (Int × Value)} {m:List (Int × Int)} (r:KvAll kvs m):kvs.length = m.length:=by
  induction r with
  | nil => rfl
  | cons _ ih => simp [ih]
theorem KvAll.get {kvs:List (Int × Value)} {m:List (Int × Int)} (r:KvAll kvs m) (k:Int):match dget m k with
    | none => valueAt kvs k = none
    | some i => ∃ t, valueAt kvs k = some (.int i t):=by
  induction r with
  | nil => rfl
  | @cons a i t l m _ ih =>
    by_cases e:a = k
    · subst e; simp [dget, valueAt]
    · have h1:dget ((a, i) :: m) k = dget m k:=by simp [dget, e]
      have h2:valueAt ((a, .int i t) :: l) k = valueAt l k:=by simp [valueAt, e]
      rw [h1, h2]; exact ih
theorem KvAll.any {kvs:List (Int × Value)} {m:List (Int × Int)} (r:KvAll kvs m) (k:Int):kvs.any (fun kv => kv.1 = k) = m.any (fun kv => kv.1 = k):=by
  induction r with
  | nil => rfl
  | cons _ ih => simp [ih]
theorem KvAll.app {kvs kvs':List (Int × Value)} {m m':List (Int × Int)} (r:KvAll kvs m) (r':KvAll kvs' m'):KvAll (kvs ++ kvs') (m ++ m'):=by
  induction r with
  | nil => exact r'
  | cons _ ih => exact .cons ih
theorem KvAll.mapk {kvs:List (Int × Value)} {m:List (Int × Int)} (r:KvAll kvs m) (k v:Int) (t:Tok):KvAll (kvs.map fun kv => if kv.1 = k then (kv.1, .int v t) else kv) (m.map fun kv => if kv.1 = k then (kv.1, v) else kv):=by
  induction r with
  | nil => exact .nil
  | @cons a i u l m _ ih =>
    simp only [List.map_cons]
    by_cases e:a = k
    · rw [if_pos e, if_pos e]; exact .cons ih
    · rw [if_neg e, if_neg e]; exact .cons ih
theorem KvAll.put {kvs:List (Int × Value)} {m:List (Int × Int)} (r:KvAll kvs m) (k v:Int) (t:Tok):KvAll (stored kvs k (.int v t)) (dput m k v):=by
  unfold stored dput
  rw [r.any]
  split
  · exact r.mapk k v t
  · exact r.app (.cons .nil)
theorem isI {w:World} (i:Int) (t:Tok):(intKind PRG w).is i (.int i t) = true:=by show Value.isInt i (.int i t) = true; simp [Value.isInt]
section
variable {w:World} {H₀:Heap} {S:Fx} {n:Nat} {A:Around} {env:Env} {stk:List Env} {ow md md':ASet} {σ σ':Store} {vs:Slots} {s:Shared} {h h':Heap}
theorem notSys (i:Inv w H₀ stk md σ h):(h.objs.size == sysModules) = false:=by
  obtain ⟨o, _, _, _, _, _, _, _, _, e, _⟩:=i.gl.cd.1
  have h1:405 < h.objs.size:=Heap.lt_size (i.base _ _ e)
  have h2:h.objs.size ≠ 1:=by lia
  exact beq_eq_false_iff_ne.mpr h2
theorem Cx.newM {m:MO} (c:Cx w H₀ S n A env stk ow md σ vs h) (hk:∀ b o, h.get? b = some o → h'.get? b = some o) (al:∃ o, h'.get? h.objs.size = some o) (mo:MoAt w (addM md fun a => a = h.objs.size) h' h.objs.size m) :
    Cx w H₀ S n A env stk ow (addM md fun a => a = h.objs.size) (upd σ h.objs.size (some m)) vs h' ∧ Go stk ow σ md h (upd σ h.objs.size (some m)) (addM md fun a => a = h.objs.size) h':=by
  have hno:∀ a, a = h.objs.size → h.get? a = none:=fun a e => by rw [e]; exact none_size _
  have i:=c.bx.inv.add (O:=fun a => a = h.objs.size) hno (fun a e => by rw [e]; exact al) hk
  have g:Go stk (fun J => False) σ md h σ (addM md fun a => a = h.objs.size) h':=.add hno hk
  have c':=c.step i g
  refine ⟨c'.track (.inr rfl) (fun q => ?_) (fun q => ?_) (fun x a e z => ?_) mo, (g.ow fun J q => q.elim).track (.inl (none_size _))⟩
  · obtain ⟨o, e⟩:=c.bx.inv.al _ (c.bx.inv.frmd _ q).1
    rw [none_size] at e; cases e
  · obtain ⟨_, _, o, e⟩:=c.loc.owmd _ q
    rw [none_size] at e; cases e
  · obtain ⟨o, e'⟩:=c.alive a (.inr ⟨x, e⟩)
    rw [z, none_size] at e'; cases e'
variable {X:PExc → Slots → Store → Prop}
theorem EvE.dict0 {K:PV → Slots → Store → Prop} {p:Pos} (k:∀ a, σ a = none → (a == sysModules) = false → K (.loc a) vs (upd σ a (some (.dict [])))):EvE w H₀ S n (.Dict [] [] p) vs σ K X:=by
  refine ⟨fun A env stk ow md s c => ?_⟩
  refine wpAny_Dict_empty ?_
  obtain ⟨c', g'⟩:=c.newM (m:=.dict []) (h':=s.heap.push { cls:=.type "dict", data:=.dict #[] }) (fun J J e => Heap.get?_push_of_some _ e) ⟨_, Heap.get?_push_size _ rfl⟩ ⟨[], Heap.DictOf.new _, .nil⟩
  exact ⟨_, vs, _, _, _, s.toks, rfl, k _ (c.bx.inv.nost (none_size _)) (notSys c.bx.inv), .loc _, c', g'⟩
inductive CP:List (Option Expr) → List Expr → List (Int × Int) → Prop
  | nil:CP [] [] []
  | cons {i j:Int} {a b:Nat} {p q:Pos} {ks:List (Option Expr)} {es:List Expr} {l:List (Int × Int)}:CP ks es l → CP (some (.Constant (.int i) a p) :: ks) (.Constant (.int j) b q :: es) ((i, j) :: l)
inductive CV:List (Value × Value) → List (Int × Int) → Prop
  | nil:CV [] []
  | cons {i j:Int} {t u:Tok} {vs:List (Value × Value)} {l:List (Int × Int)}:CV vs l → CV ((.int i t, .int j u) :: vs) ((i, j) :: l)
theorem CP.all {ks:List (Option Expr)} {es:List Expr} {l:List (Int × Int)} (c:CP ks es l):ks.all (·.isSome) = true ∧ ks.length = es.length ∧ ks.length = l.length:=by
  induction c with
  | nil => exact ⟨rfl, rfl, rfl⟩
  | cons _ ih => exact ⟨by simpa using ih.1, by simp [ih.2.1], by simp [ih.2.2]⟩
theorem CP.eval {ks:List (Option Expr)} {es:List Expr} {l:List (Int × Int)} (c:CP ks es l):∀ {pos:Pos} {s:Shared} {Q:List (Value × Value) → Shared → Prop} {E:Value → Shared → Prop}, (∀ v tk, CV v l → Q v { s with toks:=tk }) → wpAny (MD w) A (evalPairs (pairTrees ks es env pos)) Q E s:=by
  induction c with
  | nil => intro pos s Q E hQ; exact pairTrees_nil_walk (hQ [] s.toks .nil)
  | @cons i j a b p q ks es l _ ih =>
    intro pos s Q E hQ
    refine pairTrees_cons_walk (wpAny_Constant_int (wpAny_Constant_int ?_))
    refine ih fun v tk hv => ?_
    exact hQ _ tk (.cons hv)
theorem CV.carries {v:List (Value × Value)} {l:List (Int × Int)} (c:CV v l):∃ kvs, Carries (intKind PRG w) v kvs ∧ KvAll kvs l:=by
  induction c with
  | nil => exact ⟨[], trivial, .nil⟩
  | @cons i j t u v l _ ih =>
    obtain ⟨kvs, a, b⟩:=ih
    exact ⟨(i, .int j u) :: kvs, ⟨isI i t, rfl, a⟩, .cons b⟩
noncomputable def dmerge (m:List (Int × Int)) (l:List (Int × Int)):List (Int × Int):=l.foldl (fun acc kv => dput acc kv.1 kv.2) m
theorem KvAll.merge {more:List (Int × Value)} {l:List (Int × Int)} (r:KvAll more l):∀ {kvs:List (Int × Value)} {m:List (Int × Int)}, KvAll kvs m → KvAll (merged kvs more) (dmerge m l):=by
  induction r with
  | nil => intro kvs m h; exact h
  | @cons k i t more l _ ih => intro kvs m h; exact ih (h.put k i t)
theorem EvE.dictC {K:PV → Slots → Store → Prop} {ks:List (Option Expr)} {es:List Expr} {l:List (Int × Int)} {p:Pos} (cp:CP ks es l) (h0:l ≠ []) (hz:l.length ≤ 15) (k:∀ a, σ a = none → (a == sysModules) = false → K (.loc a) vs (upd σ a (some (.dict (dmerge [] l))))):EvE w H₀ S n (.Dict ks es p) vs σ K X:=by
  refine ⟨fun A env stk ow md s c => ?_⟩
  obtain ⟨q1, q2, q3⟩:=cp.all
  refine wpAny_Dict_walk (knd:=intKind PRG w) q1 q2 (fun z => h0 (List.length_eq_zero_iff.mp (by rw [← q3, z]; rfl))) (by rw [q3]; exact hz) (cp.eval fun v tk hv => ?_)
  obtain ⟨kvs, hc, ha⟩:=hv.carries (w:=w)
  refine ⟨kvs, hc, Heap.DictOf.new _, fun h' hd hs => ?_⟩
  have hk:∀ b o, s.heap.get? b = some o → h'.get? b = some o:=fun b o e => hs.extBut b o (fun z => by rw [z, none_size] at e; cases e) (Heap.get?_push_of_some _ e)
  have al:∃ o, h'.get? s.heap.objs.size = some o:=by obtain ⟨o, _, _, e, _⟩:=id hd; exact ⟨o, e⟩
  obtain ⟨c', g'⟩:=c.newM (m:=.dict (dmerge [] l)) hk al ⟨_, hd, ha.merge .nil⟩
  exact ⟨_, vs, _, _, _, _, rfl, k _ (c.bx.inv.nost (none_size _)) (notSys c.bx.inv), .loc _, c', g'⟩
theorem p_itemD {K:PV → Store → Prop} {X:PExc → Store → Prop} {value slice:Expr} {a:Addr} {i j:Int} {m:List (Int × Int)} (hσ:σ a = some (.dict m)) (hg:dget m i = some j) (k:K (.int j) σ)
    (hs:∀ a u, subscripted slice false (.ref a) (.int i u) = operate [.ref a, .int i u] (getItem (.ref a) (.int i u))):Prim w H₀ n [.loc a, .int i] σ (p2 (subscriptTail value slice)) K X:=.ext fun A stk md s vals bx r Q E hQ => by
  apply r.e2; intro _ _ r₁ r₂
  apply r₂.iInt; intro _
  apply r₁.iLoc
  obtain ⟨_, kvs, hd, ha⟩:=bx.inv.sto a _ hσ
  have hv:=ha.get i
  rw [hg] at hv
  obtain ⟨t, hv⟩:=hv
  refine tail_any hd.typeIs F.slot_dict_getitem.lookup (wpAny_getItem_of (knd:=intKind PRG w) (isI i _) hd.mapOf hv ?_) (hs _ _)
  exact hQ _ s.heap _ _ (fun J J e => e) (.ext fun J J e => e) k (.int ..)
theorem EvE.getD {K:PV → Slots → Store → Prop} {o e₁ e₂:Expr} {ap p:Pos} (hb:∀ env, attributeBase o "get" env (eval o env) = eval o env) (hp:∀ env, (backTo p (starEach [e₁, e₂] env)).any (·.1) = false) (hl:(ap.endLine == p.line) = true)
    (hh:EvE w H₀ S n o vs σ (fun q vs₁ σ₁ => ∃ a m, q = .loc a ∧ (a == sysModules) = false ∧ σ₁ a = some (.dict m) ∧ EvL w H₀ S n [e₁, e₂] vs₁ σ₁ (fun args vs₂ σ₂ => ∃ i d m, args = [.int i, .int d] ∧ σ₂ a = some (.dict m) ∧ K (.int ((dget m i).getD d)) vs₂ σ₂) X) X) :
    EvE w H₀ S n (.Call (.Attribute o "get" ap) [e₁, e₂] [] p) vs σ K X:=by
  refine EvE.meth hb hp hl (by show 2 < 29; decide) (hh.mono (fun q vs₁ σ₁ hP => ?_) fun J J J x => x)
  obtain ⟨a, m, e1, hsys, e2, e3⟩:=hP
  subst e1
  refine ⟨.builtin "dict.get", .builtin, fun A stk md h v bx r pl s Q E eh q => ?_, fun p => (e3 p).mono (fun args vs₂ σ₂ hQ => ?_) fun J J J x => x⟩
  · subst eh
    obtain rfl:v = .ref a:=r.inv
    obtain ⟨_, kvs, hd, ha⟩:=bx.inv.sto a _ e2
    exact getMethod_builtin hd.typeIs F.plainAttrs_dict F.slot_dict_get F.type_dict_get hd.mapOf.noDict q
  · obtain ⟨i, d, m', f1, f2, f3⟩:=hQ
    subst f1
    refine Prim.ext fun A stk md s vals bx r Q E hQ => ?_
    apply r.e3; intro _ _ _ r₁ r₂ r₃
    apply r₂.iInt; intro _
    apply r₃.iInt; intro _
    apply r₁.iLoc
    obtain ⟨_, kvs, hd, ha⟩:=bx.inv.sto a _ f2
    refine call_meetsIn F.slot_dict_get hd.typeIs F.entry_dict_get (F.args_dict_get_3 _ _ _) (meets_dict_get_default (intKind PRG w) a (isI i _) hsys _) ⟨_, hd.mapOf, ?_⟩
    have hv:=ha.get i
    cases hg:dget m' i with
    | none =>
      rw [hg] at hv
      rw [hv]
      rw [hg] at f3
      exact hQ _ s.heap _ (.int d) (fun J J e => e) (.ext fun J J e => e) f3 (.int ..)
    | some j =>
      rw [hg] at hv
      obtain ⟨t, hv⟩:=hv
      rw [hv]
      rw [hg] at f3
      exact hQ _ s.heap _ (.int j) (fun J J e => e) (.ext fun J J e => e) f3 (.int ..)
theorem St.setD {Kn:Slots → Store → Prop} {Kr:PV → Slots → Store → Prop} {o i value:Expr} {pos pos':Pos} (hs:∀ env, swapsWith value (some (.Subscript o i pos')) pos.line env = pure false)
    (hh:EvE w H₀ S n value vs σ (fun pv vs₁ σ₁ => ∃ x, pv = .int x ∧ EvE w H₀ S n o vs₁ σ₁ (fun q vs₂ σ₂ => ∃ a, q = .loc a ∧ EvE w H₀ S n i vs₂ σ₂ (fun r vs₃ σ₃ => ∃ k m, r = .int k ∧ σ₃ a = some (.dict m) ∧ m.length ≤ 1000 ∧ Kn vs₃ (upd σ₃ a (some (.dict (dput m k x))))) X) X) X) :
    St w H₀ S n (.Assign [.Subscript o i pos'] value pos) vs σ Kn Kr X:=by
  refine ⟨fun A env stk ow md s c => ?_⟩
  refine wpAny_Assign_Subscript (hh.at c (fun J J e => e) fun v pv vs₁ σ₁ md₁ h₁ tk k r c₁ kp₁ g₁ => ?_) (hs env)
  obtain ⟨x, rfl, k⟩:=k
  refine k.at c₁ (fun J J e => e.lift g₁) fun v₂ q vs₂ σ₂ md₂ h₂ tk₂ k₂ r₂ c₂ kp₂ g₂ => ?_
  obtain ⟨a, rfl, k₂⟩:=k₂
  refine k₂.at c₂ (fun J J e => (e.lift g₂).lift g₁) fun v₃ q₃ vs₃ σ₃ md₃ h₃ tk₃ k₃ r₃ c₃ kp₃ g₃ => ?_
  obtain ⟨k, m, rfl, hσ, hz, kk⟩:=k₃
  apply r.iInt; intro _
  apply r₂.iLoc
  apply r₃.iInt; intro _
  obtain ⟨ha, kvs, hd, hr⟩:=c₃.bx.inv.sto a _ hσ
  refine wpAny_setItem_pairs (s:=⟨h₃, s.gens, s.drawn, tk₃, s.os⟩) (knd:=intKind PRG w) (k:=k) (isI k _) hd (fun h' hd' hs' => ?_) (by rw [hr.len]; exact sizeOk_le hz)
  have al:∃ o, h'.get? a = some o:=by obtain ⟨o, _, _, e, _⟩:=id hd'; exact ⟨o, e⟩
  have g:Go stk (fun J => False) σ₃ md₃ h₃ (upd σ₃ a (some (.dict (dput m k x)))) md₃ h':=.upd hσ hs' al
  have c₄:=c₃.step (c₃.bx.inv.upd (m':=.dict (dput m k x)) hσ hs' ⟨_, hd', hr.put k x _⟩ al) g
  exact ⟨.next, vs₃, _, md₃, h', _, rfl, kk, trivial, c₄, (g₁.trans (g₂.trans g₃)).trans (g.ow fun J q => q.elim)⟩
end
theorem slot_bytes_join:Slot "bytes" "join" "bytes.join" :=
  .of (owner:="bytes") (n:="join") (by rw [typeLookup_type, builtinLookup_eq_fast]; kernel_rfl) (by decide +kernel) (by decide +kernel) (by decide +kernel)
    (by first | exact .inl (by decide +kernel) | exact .inr (by decide +kernel)) (by rw [isSubtype_type]; kernel_rfl)
theorem entry_bytes_join:entryFor table "bytes.join" = some Builtin.«bytes.join»:=entryFor_of_tree (by kernel_rfl)
theorem args_bytes_join_2 (a b:Value):argsOk "bytes.join" ⟨[a, b], []⟩:=by
  unfold argsOk; rw [signature?_of (id:="bytes.join") (n:=['n', 'i', 'o', 'j']) (o:=['s', 'e', 't', 'y', 'b']) (by kernel_rfl) FB.owner_bytes]; kernel_rfl
theorem type_bytes_join:typeOf (.builtin "bytes.join") = pure (.type "method_descriptor"):=by show builtinType _ = _; rw [builtinType_eq_fast]; kernel_rfl
section
variable {w:World} {A:Around} {E:Value → Shared → Prop} {s:Shared} {b:Array UInt8} {t:Tok}
theorem take_eq {id:String}:Builtin.Bytes.takeBuffer? id (.bytes b t) 0 = pure (some (b, none)):=by
  have e:∀ f, f = false → Builtin.Bytes.buffer? id (.bytes b t) f = pure (some b):=fun f e => by subst e; exact KBy.buffer_eq
  unfold Builtin.Bytes.takeBuffer?
  rw [KBy.special_eq KBy.look_buffer, KBy.own_buffer]
  rw [pure_bind]
  rw [e _ (by decide +kernel)]
  rfl
theorem takeq_eq {id:String}:Builtin.Bytes.takeBufferQuiet? id (.bytes b t) 0 = pure (some (b, none)):=by
  unfold Builtin.Bytes.takeBufferQuiet?
  rw [take_eq]
  rfl
noncomputable def joinB (bs:List (Array UInt8)):Array UInt8:=bs.foldl (· ++ ·) #[]
theorem joined_nil (bs:List (Array UInt8)):Builtin.Bytes.joined #[] bs = joinB bs:=by
  have key:∀ (l:List (Array UInt8)) (k:Nat) (out:Array UInt8), (l.zipIdx k).foldl (fun out (p:Array UInt8 × Nat) => (if p.2 > 0 then out ++ #[] else out) ++ p.1) out = l.foldl (· ++ ·) out:=by
    intro l
    induction l with
    | nil => intro k out; rfl
    | cons x l ih =>
      intro k out
      rw [List.zipIdx_cons, List.foldl_cons, List.foldl_cons, ih]
      congr 1
      split <;> simp
  exact key bs 0 #[]
theorem letGo_join {Q:Unit → Shared → Prop}:∀ (l:List Value) {keep:List Value}, Q () s → wpAny (MD w) A (Builtin.Bytes.joinLetGo (l.map fun v => (v, none)) keep) Q E s
  | [], keep, h => wpAny_pure h
  | v :: l, keep, h => by
    refine (?_:wpAny _ _ (letGo _ _ >>= _) _ _ _)
    refine wpAny_bind (wpAny_letGo ?_)
    exact letGo_join l h
noncomputable def isB:List Value → List (Array UInt8) → Prop
  | [], [] => True
  | v :: vs, b :: bs => (∃ t, v = .bytes b t) ∧ isB vs bs
  | _, _ => False
theorem isB.len {vs:List Value} {bs:List (Array UInt8)} (h:isB vs bs):vs.length = bs.length:=by
  induction vs generalizing bs with
  | nil =>
    cases bs with
    | nil => rfl
    | cons => exact h.elim
  | cons v vs ih =>
    cases bs with
    | nil => exact h.elim
    | cons b bs => exact congrArg Nat.succ (ih h.2)
theorem isB.at {vs:List Value} {bs:List (Array UInt8)} (h:isB vs bs) (i:Nat) (hi:i < vs.length):∃ b t, vs[i]? = some (.bytes b t) ∧ bs[i]? = some b:=by
  induction vs generalizing bs i with
  | nil => cases hi
  | cons v vs ih =>
    cases bs with
    | nil => exact h.elim
    | cons b bs =>
      cases i with
      | zero => obtain ⟨⟨t, rfl⟩, _⟩:=h; exact ⟨b, t, rfl, rfl⟩
      | succ i => exact ih h.2 i (Nat.lt_of_succ_lt_succ hi)
theorem skip1 {α:Type} (arr:Array Value) (h1:Value → α) (h2:Array Value → α) (h:arr.size ≠ 1):PySem.Builtin.Bytes.joinM.match_1 (fun J => α) arr h1 h2 = h2 arr:=by
  delta PySem.Builtin.Bytes.joinM.match_1
  exact dif_neg h
inductive JInv {δ:Type} (f1:δ → List (Array UInt8)) (f2:δ → List Value → Prop) (s:Shared) (vs:List Value) (bs:List (Array UInt8)) (rest:List Nat) (st:δ) (s':Shared):Prop
  | mk (i:Nat) (e:s' = s) (hr:rest = List.range' i (vs.length - i)) (hi:i ≤ vs.length) (hp:f1 st = bs.take i) (tv:List Value) (ht:f2 st tv) (hno:∀ v ∈ tv, v.onHeap = false)
theorem join_two {l:Addr} {ts:Tok} {vs:List Value} {bs:List (Array UInt8)} {Q:Fin → Shared → Prop} (hl:s.heap.IsList l vs.toArray) (hb:isB vs bs) (h2:2 ≤ vs.length) (hz:(joinB bs).size ≤ sizeLine) (hz2:(bs.map (·.size)).sum ≤ sizeLine)
    (hQ:∀ t' tk, Q (.done (.ret (.bytes (joinB bs) t'))) { s with toks:=tk }):wpAny (MD w) A (Builtin.«bytes.join» ⟨[.bytes #[] ts, .ref l], []⟩) Q E s:=by
  obtain ⟨o, ho, hc, n, hd⟩:=id hl
  have hT:s.TypeIs (.ref l) "list":=⟨o, ho, hc⟩
  refine (?_:wpAny _ _ (Builtin.Bytes.joinItems (.ref l) >>= _) _ _ _)
  unfold Builtin.Bytes.joinItems
  refine wpAny_bind (wpAny_bind (wpAny_typeOf hT ?_))
  refine wpAny_pure ?_
  refine wpAny_bind (wpAny_seqItems ho hd ?_)
  have hne:vs.toArray.size ≠ 1:=by rw [List.size_toArray]; lia
  refine (?_:wpAny _ _ (if (Builtin.Bytes.Kind.bytes == Builtin.Bytes.Kind.bytes) = true then _ else _) _ _ _)
  rw [if_pos (show (Builtin.Bytes.Kind.bytes == Builtin.Bytes.Kind.bytes) = true from by decide), skip1 _ _ _ hne]
  have len:=hb.len
  refine wpAny_bind ?_
  rw [Std.Legacy.Range.forIn_eq_forIn_range']
  refine wpAny_forIn_list _
    (JInv (fun st => st.1.toList) (fun st tv => st.2 = tv.map (fun v => (v, none))) s vs bs)
    _ ?_ ?_ _ _ ⟨0, rfl, by simp [Std.Legacy.Range.size], Nat.zero_le _, by simp, [], rfl, fun v m => by cases m⟩
  · rintro x rest st s' ⟨i, rfl, hr, hi, hp, tv, ht, hno⟩
    have hp:st.1.toList = bs.take i:=hp
    have ht:st.2 = tv.map (fun v => (v, none)):=ht
    have hlt:i < vs.length:=by
      rcases Nat.lt_or_ge i vs.length with h | h
      · exact h
      · rw [Nat.sub_eq_zero_of_le h] at hr; simp at hr
    obtain ⟨rfl, hrest⟩:x = i ∧ rest = List.range' (i + 1) (vs.length - (i + 1)):=by
      have e:vs.length - i = (vs.length - (i + 1)) + 1:=by lia
      rw [e, List.range'_succ] at hr
      injection hr with h1 h2
      exact ⟨h1, h2⟩
    obtain ⟨b, t, e1, e2⟩:=hb.at x hlt
    refine wpAny_bind (wpAny_seqItems ho hd ?_)
    have hx:vs.toArray.getD x .none = .bytes b t:=by
      rw [Array.getD_eq_getD_getElem?]
      simp [e1]
    have hany:(Builtin.Bytes.Kind.bytes == Builtin.Bytes.Kind.bytearray || st.2.any fun x => x.1.onHeap) = false:=by
      rw [ht, show (Builtin.Bytes.Kind.bytes == Builtin.Bytes.Kind.bytearray) = false from by decide, Bool.false_or, List.any_map, List.any_eq_false]
      intro v m
      rw [Function.comp, hno v m]; decide
    show wpAny _ _ (if _ then _ else _) _ _ _
    rw [if_neg (by rw [hany]; decide), hx]
    refine wpAny_bind (wpAny_holding (wpAny_of_eq takeq_eq ?_))
    refine wpAny_bind (wpAny_seqItems ho hd ?_)
    show wpAny _ _ (if _ then _ else _) _ _ _
    rw [if_neg (by simp)]
    refine wpAny_pure ⟨x + 1, rfl, hrest, hlt, ?_, tv ++ [.bytes b t], by rw [ht]; simp, fun v m => ?_⟩
    · refine (?_:(st.1.push b).toList = _)
      rw [Array.toList_push, hp]
      exact (List.take_succ_eq_append_getElem (by rw [← len]; exact hlt)).symm ▸ by
        have:bs[x]'(by rw [← len]; exact hlt) = b:=by
          have q:=List.getElem?_eq_getElem (l:=bs) (i:=x) (by rw [← len]; exact hlt)
          rw [q] at e2; cases e2; rfl
        rw [this]
    · rcases List.mem_append.mp m with m | m
      · exact hno v m
      · rw [List.mem_singleton] at m; subst m; rfl
  · rintro st s' ⟨i, rfl, hr, hi, hp, tv, ht, hno⟩
    have hp:st.1.toList = bs.take i:=hp
    have ht:st.2 = tv.map (fun v => (v, none)):=ht
    have hi':i = vs.length:=by
      rcases Nat.lt_or_ge i vs.length with h | h
      · have e:vs.length - i = (vs.length - (i + 1)) + 1:=by lia
        rw [e, List.range'_succ] at hr; cases hr
      · lia
    subst hi'
    rw [len, List.take_length] at hp
    refine wpAny_bind (wpAny_of_eq (a:=#[]) rfl ?_)
    have hfold:∀ (l:List (Array UInt8)) (k:Nat), l.foldl (fun (a:Nat) (x:Array UInt8) => a + x.size) k = k + (l.map (·.size)).sum:=by
      intro l
      induction l with
      | nil => intro k; simp
      | cons x l ih => intro k; rw [List.foldl_cons, ih, List.map_cons, List.sum_cons, Nat.add_assoc]
    have hsz:Builtin.Bytes.tooLong (Array.foldl (fun (x1:Nat) (x2:Array UInt8) => x1 + x2.size) ((#[]:Array UInt8).size * (st.1.size - 1)) st.1) = false:=by
      rw [← Array.foldl_toList, hp, hfold]
      refine KBy.tooLong_not ?_
      rw [sizeLine_eq] at hz2
      simpa using hz2
    rw [if_neg (by rw [hsz]; decide), hp, joined_nil]
    refine (?_:wpAny _ _ (mkBytes _ >>= _) _ _ _)
    refine wpAny_bind (wpAny_mkBytes (wpAny_bind (wpAny_holding (wpAny_point (wpAny_bind ?_)))) hz)
    rw [ht]
    exact letGo_join tv (wpAny_pure (hQ _ _))
theorem join_one {l:Addr} {ts t:Tok} {b:Array UInt8} {Q:Fin → Shared → Prop} (hl:s.heap.IsList l #[.bytes b t]) (hQ:Q (.done (.ret (.bytes b t))) s):wpAny (MD w) A (Builtin.«bytes.join» ⟨[.bytes #[] ts, .ref l], []⟩) Q E s:=by
  obtain ⟨o, ho, hc, n, hd⟩:=id hl
  have hT:s.TypeIs (.ref l) "list":=⟨o, ho, hc⟩
  refine (?_:wpAny _ _ (Builtin.Bytes.joinItems (.ref l) >>= _) _ _ _)
  unfold Builtin.Bytes.joinItems
  refine wpAny_bind (wpAny_bind (wpAny_typeOf hT ?_))
  refine wpAny_pure ?_
  refine wpAny_bind (wpAny_seqItems ho hd ?_)
  refine (?_:wpAny _ _ (typeOf (.bytes b t) >>= _) _ _ _)
  refine wpAny_bind (wpAny_typeOf (typeIs_bytes s b t) ?_)
  exact wpAny_bind (wpAny_rule (wpAny_pure hQ))
end
section
variable {w:World} {H₀:Heap} {S:Fx} {n:Nat} {A:Around} {env:Env} {stk:List Env} {ow md md':ASet} {σ σ':Store} {vs:Slots} {s:Shared} {h h':Heap} {X:PExc → Slots → Store → Prop}
noncomputable def pvBy (l:List (Array UInt8)):List PV:=l.map .bytes
theorem isBytesL {md:ASet} {h:Heap} {bs:List (Array UInt8)} {vs:List Value} (r:RelL md h vs (pvBy bs)):isB vs bs:=by
  induction bs generalizing vs with
  | nil => exact r.i0 (P:=fun vs => isB vs []) trivial
  | cons b bs ih => exact r.i1 (P:=fun vs => isB vs (b :: bs)) fun J J a c => ⟨a.inv, ih c⟩
theorem joinB_one (b:Array UInt8):joinB [b] = b:=by simp [joinB]
theorem EvE.joinB {K:PV → Slots → Store → Prop} {o e:Expr} {ap p:Pos} (hb:∀ env, attributeBase o "join" env (eval o env) = eval o env) (hl:(ap.endLine == p.line) = true) (he:∀ env, starEach [e] env = (false, eval e env) :: starEach [] env)
    (hh:EvE w H₀ S n o vs σ (fun q vs₁ σ₁ => q = .bytes #[] ∧ EvE w H₀ S n e vs₁ σ₁ (fun y vs₂ σ₂ => ∃ bs, y = .lst (pvBy bs) ∧ bs ≠ [] ∧ (Mine.joinB bs).size ≤ sizeLine ∧ (bs.map (·.size)).sum ≤ sizeLine ∧ K (.bytes (Mine.joinB bs)) vs₂ σ₂) X) X) :
    EvE w H₀ S n (.Call (.Attribute o "join" ap) [e] [] p) vs σ K X:=by
  refine EvE.meth hb (fun env => by rw [he]; rfl) hl (by show 1 < 29; decide) (hh.mono (fun q vs₁ σ₁ hP => ?_) fun J J J x => x)
  obtain ⟨eq, k⟩:=hP
  subst eq
  refine ⟨.builtin "bytes.join", Kept.builtin, fun A stk md h v bx r pl s Q E eh q => ?_, EvL.cons (k.mono (fun y vs₂ σ₂ hQ => EvL.nil ?_) fun J J J x => x) he⟩
  · obtain ⟨t, rfl⟩:=r.bytesInv
    exact KBd.method_of (.bytes #[] t) (typeIs_bytes _ _ _) slot_bytes_join type_bytes_join (fun J e => nomatch e) q
  · obtain ⟨bs, rfl, h0, hz, hz2, k⟩:=hQ
    refine .ext fun A stk md s vals bx r Q E hQ => ?_
    apply r.e2; intro _ _ r₁ r₂
    obtain ⟨t, rfl⟩:=r₁.bytesInv
    obtain ⟨a, xs, rfl, nm, hp, q'⟩:=r₂.lstInv
    have hB:=isBytesL q'
    have len:=hB.len
    have fin:∀ t' tk, Q (.bytes (Mine.joinB bs) t') { s with toks:=tk }:=fun t' tk => hQ _ s.heap tk _ (fun J J e => e) (.ext fun J J e => e) k (.bytes ..)
    refine wpAny_call_entry slot_bytes_join (typeIs_bytes _ _ _) entry_bytes_join ?_ (args_bytes_join_2 _ _)
    cases bs with
    | nil => exact absurd rfl h0
    | cons b br =>
      cases br with
      | nil =>
        obtain ⟨v, rfl⟩:=len1 (P:=fun xs => ∃ v, xs = [v]) len fun v => ⟨v, rfl⟩
        obtain ⟨⟨tb, rfl⟩, _⟩:=hB
        refine join_one (by simpa using hp.isList) ⟨_, rfl, ?_⟩
        have:=fin tb s.toks
        rw [joinB_one] at this
        exact this
      | cons b2 br => exact join_two hp.isList hB (by rw [len]; simp) hz hz2 fun t' tk => ⟨_, rfl, fin t' tk⟩
end
noncomputable abbrev Out:=Except PExc PV
noncomputable def ro (K:PV → Store → Prop) (X:PExc → Store → Prop) (σ:Store):Out → Prop
  | .ok p => K p σ
  | .error e => X e σ
theorem iteR {K:PV → Store → Prop} {X:PExc → Store → Prop} {σ:Store} {b:Bool} {x y:Out} {G₁ G₂:Prop} (k:ro K X σ (if b = true then x else y)) (h₁:b = true → ro K X σ x → G₁) (h₂:b = false → ro K X σ y → G₂):if b = true then G₁ else G₂:=by
  cases b
  · exact h₂ rfl k
  · exact h₁ rfl k
section
variable {w:World} {H₀:Heap} {S:Fx} {n:Nat} {A:Around} {env:Env} {stk:List Env} {ow md md':ASet} {σ σ':Store} {vs vs':Slots} {s:Shared} {h h':Heap} {X:PExc → Slots → Store → Prop} {ns oc gs:List Str} {ks:List NameKind}
noncomputable abbrev NX0:PExc → Slots → Store → Prop:=fun J J J => False
noncomputable abbrev VP (w:World) (H₀:Heap) (S:Fx) (n:Nat) (vs:Slots) (σ:Store) (e:Expr) (p:PV):Prop:=EvE w H₀ S n e vs σ (fun q vs' σ' => q = p ∧ vs' = vs ∧ σ' = σ) NX0
noncomputable abbrev TP (w:World) (H₀:Heap) (S:Fx) (n:Nat) (vs:Slots) (σ:Store) (e:Expr) (b:Bool):Prop:=EvT w H₀ S n e vs σ (fun q vs' σ' => q = b ∧ vs' = vs ∧ σ' = σ) NX0
structure VL (w:World) (H₀:Heap) (S:Fx) (n:Nat) (vs:Slots) (σ:Store) (es:List Expr) (ps:List PV):Prop where
  out:EvL w H₀ S n es vs σ (fun q vs' σ' => q = ps ∧ vs' = vs ∧ σ' = σ) NX0
noncomputable abbrev PP (w:World) (H₀:Heap) (n:Nat) (σ:Store) (args:List PV) (t:List Value → Sem Value) (r:PV):Prop:=Prim w H₀ n args σ t (fun q σ' => q = r ∧ σ' = σ) (fun J J => False)
noncomputable abbrev PQ (w:World) (H₀:Heap) (n:Nat) (σ:Store) (args:List PV) (f:Value) (r:PV):Prop:=PrimC w H₀ n args σ f (fun q σ' => q = r ∧ σ' = σ) (fun J J => False)
theorem VP.use {e:Expr} {p:PV} {K:PV → Slots → Store → Prop} (h:VP w H₀ S n vs σ e p) (k:K p vs σ):EvE w H₀ S n e vs σ K X:=h.mono (fun _ _ _ ⟨a, b, c⟩ => by subst a b c; exact k) fun J J J x => x.elim
theorem TP.use {e:Expr} {b:Bool} {K:Bool → Slots → Store → Prop} (h:TP w H₀ S n vs σ e b) (k:K b vs σ):EvT w H₀ S n e vs σ K X:=h.mono (fun _ _ _ ⟨a, b, c⟩ => by subst a b c; exact k) fun J J J x => x.elim
theorem VL.use {es:List Expr} {ps:List PV} {K:List PV → Slots → Store → Prop} (h:VL w H₀ S n vs σ es ps) (k:K ps vs σ):EvL w H₀ S n es vs σ K X:=fun p => (h.out p).mono (fun _ _ _ ⟨a, b, c⟩ => by subst a b c; exact k) fun J J J x => x.elim
theorem Prim.mono {args:List PV} {t:List Value → Sem Value} {K K':PV → Store → Prop} {X X':PExc → Store → Prop} (h:Prim w H₀ n args σ t K X) (hk:∀ p σ', K p σ' → K' p σ') (hx:∀ p σ', X p σ' → X' p σ'):Prim w H₀ n args σ t K' X':=by
  intro A stk md s vals b r
  refine wpAny_mono (h A stk md s vals b r) (fun v s' x => ?_) fun v s' x => ?_
  · obtain ⟨pv, σ', md', h', tk, e, k, r, i, g⟩:=x; exact ⟨pv, σ', md', h', tk, e, hk _ _ k, r, i, g⟩
  · obtain ⟨pv, σ', md', h', tk, e, k, i, g, st, hs, t⟩:=x; exact ⟨pv, σ', md', h', tk, e, hx _ _ k, i, g, st, hs, t⟩
theorem PP.use {args:List PV} {t:List Value → Sem Value} {r:PV} {K:PV → Store → Prop} {X:PExc → Store → Prop} (h:PP w H₀ n σ args t r) (k:K r σ):Prim w H₀ n args σ t K X:=h.mono (fun _ _ ⟨a, b⟩ => by subst a b; exact k) fun J J x => x.elim
theorem lf {p:PV} {vs:Slots} {σ:Store}:p = p ∧ vs = vs ∧ σ = σ:=⟨rfl, rfl, rfl⟩
noncomputable def nk:Nat → List Str → List NameKind → Slots → Option (Str × NameKind × PV)
  | 0, x :: _, k :: _, some v :: _ => some (x, k, v)
  | i + 1, _ :: ns, _ :: ks, _ :: vs => nk i ns ks vs
  | _, _, _, _ => none
theorem nk_at {i:Nat} {ns:List Str} {ks:List NameKind} {vs:Slots} {x:Str} {k:NameKind} {v:PV} (e:nk i ns ks vs = some (x, k, v)):NAt ns ks vs x k v:=by
  induction i generalizing ns ks vs with
  | zero =>
    cases ns with
    | nil => cases e
    | cons =>
      cases ks with
      | nil => cases e
      | cons =>
        cases vs with
        | nil => cases e
        | cons o =>
          cases o with
          | none => cases e
          | some => cases e; exact .head
  | succ i ih =>
    cases ns with
    | nil => cases e
    | cons =>
      cases ks with
      | nil => cases e
      | cons =>
        cases vs with
        | nil => cases e
        | cons => exact .tail (ih e)
theorem nv {ns oc gs:List Str} {ks:List NameKind} {x:Str} {p:Pos} {k:NameKind} {v:PV} (G:S.Good ns oc ks gs) (i:Nat) (e:nk i ns ks vs = some (x, k, v)) (h:(k == .local || k == .cell || k == .free) = true:=by rfl):VP w H₀ S n vs σ (.Name x p) v:=EvE.nam G (nk_at e) h lf
theorem cI {i:Int} {k:Nat} {p:Pos}:VP w H₀ S n vs σ (.Constant (.int i) k p) (.int i):=EvE.cint lf
theorem cS {x:Str} {k:Nat} {p:Pos}:VP w H₀ S n vs σ (.Constant (.str x) k p) (.str x):=EvE.cstr lf
theorem cN {k:Nat} {p:Pos}:VP w H₀ S n vs σ (.Constant .none k p) .none:=EvE.cnone lf
theorem cB {b:Bool} {k:Nat} {p:Pos}:VP w H₀ S n vs σ (.Constant (.bool b) k p) (.bool b):=EvE.cbool lf
theorem lp {p:PV} {σ:Store}:p = p ∧ σ = σ:=⟨rfl, rfl⟩
theorem VP.bin {a b:Expr} {op:Operator} {p:Pos} {x y r:PV} (ha:VP w H₀ S n vs σ a x) (hb:VP w H₀ S n vs σ b y) (hp:PP w H₀ n σ [x, y] (p2 (binaryOp op)) r):VP w H₀ S n vs σ (.BinOp a op b p) r :=
  EvE.bin (ha.use (hb.use (hp.use lf)))
theorem VP.cmp {a b:Expr} {op:CmpOp} {p:Pos} {x y r:PV} (ha:VP w H₀ S n vs σ a x) (hb:VP w H₀ S n vs σ b y) (hp:PP w H₀ n σ [x, y] (p2 (compareOp op)) r) (hm:behindInMarks op b = false:=by rfl):VP w H₀ S n vs σ (.Compare a [op] [b] p) r :=
  EvE.cmp (ha.use (hb.use (hp.use lf))) hm
theorem TP.cmp {a b:Expr} {op:CmpOp} {p:Pos} {x y:PV} {r:Bool} (ha:VP w H₀ S n vs σ a x) (hb:VP w H₀ S n vs σ b y) (hp:PP w H₀ n σ [x, y] (p2 (compareOp op)) (.bool r)) (hm:behindInMarks op b = false:=by rfl):TP w H₀ S n vs σ (.Compare a [op] [b] p) r :=
  EvT.cmp (ha.use (hb.use (hp.use ⟨r, rfl, rfl, rfl, rfl⟩))) hm
theorem VP.cmp2 {a b d:Expr} {o₁ o₂:CmpOp} {p:Pos} {x y z:PV} {r₁ r₂:Bool} (ha:VP w H₀ S n vs σ a x) (hb:VP w H₀ S n vs σ b y) (hp:PP w H₀ n σ [x, y] (p2 (compareOp o₁)) (.bool r₁)) (hd:VP w H₀ S n vs σ d z) (hq:PP w H₀ n σ [y, z] (p2 (compareOp o₂)) (.bool r₂))
    (hm:behindInMarks o₂ d = false:=by rfl):VP w H₀ S n vs σ (.Compare a [o₁, o₂] [b, d] p) (.bool (r₁ && r₂)):=by
  refine EvE.cmp2 (ha.use (hb.use (hp.use ⟨r₁, rfl, ?_⟩))) hm
  cases r₁
  · exact lf
  · exact hd.use (hq.use lf)
theorem TP.cmp2 {a b d:Expr} {o₁ o₂:CmpOp} {p:Pos} {x y z:PV} {r₁ r₂:Bool} (ha:VP w H₀ S n vs σ a x) (hb:VP w H₀ S n vs σ b y) (hp:PP w H₀ n σ [x, y] (p2 (compareOp o₁)) (.bool r₁)) (hd:VP w H₀ S n vs σ d z) (hq:PP w H₀ n σ [y, z] (p2 (compareOp o₂)) (.bool r₂))
    (hm:behindInMarks o₂ d = false:=by rfl):TP w H₀ S n vs σ (.Compare a [o₁, o₂] [b, d] p) (r₁ && r₂):=by
  refine EvT.cmp2 (ha.use (hb.use (hp.use ⟨r₁, rfl, ?_⟩))) hm
  cases r₁
  · exact ⟨rfl, rfl, rfl⟩
  · exact hd.use (hq.use ⟨r₂, rfl, rfl, rfl, rfl⟩)
theorem TP.val {e:Expr} {b:Bool} (hh:VP w H₀ S n vs σ e (.bool b)) (he:∀ env whole, isTrue e env whole = (do let v ← whole; standAt e.pos; holding [v] (truthy v))):TP w H₀ S n vs σ e b:=EvT.val he (hh.use ⟨b, rfl, rfl, rfl, rfl⟩)
theorem TP.not {e:Expr} {p:Pos} {b:Bool} (h:TP w H₀ S n vs σ e b):TP w H₀ S n vs σ (.UnaryOp .Not e p) (!b):=EvT.not (h.use ⟨rfl, rfl, rfl⟩)
theorem TP.and1 {e:Expr} {p:Pos} {b:Bool} (h:TP w H₀ S n vs σ e b):TP w H₀ S n vs σ (.BoolOp .And [e] p) b:=by
  refine EvT.and (h.use ?_)
  cases b
  · exact ⟨rfl, rfl, rfl⟩
  · exact EvT.and0 ⟨rfl, rfl, rfl⟩
theorem TP.or1 {e:Expr} {p:Pos} {b:Bool} (h:TP w H₀ S n vs σ e b):TP w H₀ S n vs σ (.BoolOp .Or [e] p) b:=by
  refine EvT.or (h.use ?_)
  cases b
  · exact EvT.or0 ⟨rfl, rfl, rfl⟩
  · exact ⟨rfl, rfl, rfl⟩
theorem TP.and {e:Expr} {es:List Expr} {p:Pos} {b b':Bool} (h:TP w H₀ S n vs σ e b) (k:b = true → TP w H₀ S n vs σ (.BoolOp .And es p) b'):TP w H₀ S n vs σ (.BoolOp .And (e :: es) p) (b && b'):=by
  refine EvT.and (h.use ?_)
  cases b
  · exact ⟨rfl, rfl, rfl⟩
  · exact k rfl
theorem TP.or {e:Expr} {es:List Expr} {p:Pos} {b b':Bool} (h:TP w H₀ S n vs σ e b) (k:b = false → TP w H₀ S n vs σ (.BoolOp .Or es p) b'):TP w H₀ S n vs σ (.BoolOp .Or (e :: es) p) (b || b'):=by
  refine EvT.or (h.use ?_)
  cases b
  · exact k rfl
  · exact ⟨rfl, rfl, rfl⟩
theorem VP.bool1 {e:Expr} {o:BoolOp} {p:Pos} {r:PV} (h:VP w H₀ S n vs σ e r):VP w H₀ S n vs σ (.BoolOp o [e] p) r:=EvE.bool1 h
theorem VP.and {e e₂:Expr} {es:List Expr} {p:Pos} {b b':Bool} (h:VP w H₀ S n vs σ e (.bool b)) (k:b = true → VP w H₀ S n vs σ (.BoolOp .And (e₂ :: es) p) (.bool b')):VP w H₀ S n vs σ (.BoolOp .And (e :: e₂ :: es) p) (.bool (b && b')):=by
  refine EvE.and (h.use ⟨b, rfl, ?_⟩)
  cases b
  · exact lf
  · exact k rfl
theorem VP.or {e e₂:Expr} {es:List Expr} {p:Pos} {b b':Bool} (h:VP w H₀ S n vs σ e (.bool b)) (k:b = false → VP w H₀ S n vs σ (.BoolOp .Or (e₂ :: es) p) (.bool b')):VP w H₀ S n vs σ (.BoolOp .Or (e :: e₂ :: es) p) (.bool (b || b')):=by
  refine EvE.or (h.use ⟨b, rfl, ?_⟩)
  cases b
  · exact k rfl
  · exact lf
theorem VP.neg {e:Expr} {p:Pos} {i:Int} (h:VP w H₀ S n vs σ e (.int i)):VP w H₀ S n vs σ (.UnaryOp .USub e p) (.int (-i)):=EvE.neg (h.use ⟨i, rfl, lf⟩)
theorem VP.ifI {t a c:Expr} {p:Pos} {b:Bool} {x y:Int} (ht:TP w H₀ S n vs σ t b) (ha:b = true → VP w H₀ S n vs σ a (.int x)) (hc:b = false → VP w H₀ S n vs σ c (.int y)):VP w H₀ S n vs σ (.IfExp t a c p) (.int (if b = true then x else y)):=by
  refine EvE.ifexp (ht.use ?_)
  cases b
  · exact hc rfl
  · exact ha rfl
theorem VP.ifS {t a c:Expr} {p:Pos} {b:Bool} {x y:Str} (ht:TP w H₀ S n vs σ t b) (ha:b = true → VP w H₀ S n vs σ a (.str x)) (hc:b = false → VP w H₀ S n vs σ c (.str y)):VP w H₀ S n vs σ (.IfExp t a c p) (.str (if b = true then x else y)):=by
  refine EvE.ifexp (ht.use ?_)
  cases b
  · exact hc rfl
  · exact ha rfl
theorem VP.ifV {t a c:Expr} {p:Pos} {b:Bool} {x y:PV} (ht:TP w H₀ S n vs σ t b) (ha:b = true → VP w H₀ S n vs σ a x) (hc:b = false → VP w H₀ S n vs σ c y):VP w H₀ S n vs σ (.IfExp t a c p) (if b = true then x else y):=by
  refine EvE.ifexp (ht.use ?_)
  cases b
  · exact hc rfl
  · exact ha rfl
theorem VP.item {a b:Expr} {p:Pos} {x y r:PV} (ha:VP w H₀ S n vs σ a x) (hb:VP w H₀ S n vs σ b y) (hp:PP w H₀ n σ [x, y] (p2 (subscriptTail a b)) r):VP w H₀ S n vs σ (.Subscript a b p) r:=EvE.item (ha.use (hb.use (hp.use lf)))
theorem VP.code {a:Expr} {p:Pos} {c t f k:Int} (ha:VP w H₀ S n vs σ a (.ord c t f k)) (he:∀ env, attributeBase a (Str.ofString "code") env (eval a env) = eval a env:=by intro _; rfl):VP w H₀ S n vs σ (.Attribute a (Str.ofString "code") p) (.int c):=EvE.attr (ha.use (p_code lf)) he
theorem VP.jt {a:Expr} {p:Pos} {c t f k:Int} (ha:VP w H₀ S n vs σ a (.ord c t f k)) (he:∀ env, attributeBase a (Str.ofString "jt") env (eval a env) = eval a env:=by intro _; rfl):VP w H₀ S n vs σ (.Attribute a (Str.ofString "jt") p) (.int t):=EvE.attr (ha.use (p_jt lf)) he
theorem VP.jf {a:Expr} {p:Pos} {c t f k:Int} (ha:VP w H₀ S n vs σ a (.ord c t f k)) (he:∀ env, attributeBase a (Str.ofString "jf") env (eval a env) = eval a env:=by intro _; rfl):VP w H₀ S n vs σ (.Attribute a (Str.ofString "jf") p) (.int f):=EvE.attr (ha.use (p_jf lf)) he
theorem VP.k {a:Expr} {p:Pos} {c t f k:Int} (ha:VP w H₀ S n vs σ a (.ord c t f k)) (he:∀ env, attributeBase a (Str.ofString "k") env (eval a env) = eval a env:=by intro _; rfl):VP w H₀ S n vs σ (.Attribute a (Str.ofString "k") p) (.int k):=EvE.attr (ha.use (p_k lf)) he
theorem VL.nil:VL w H₀ S n vs σ [] []:=⟨EvL.nil ⟨rfl, rfl, rfl⟩⟩
theorem starEach_ns {e:Expr} {es:List Expr} {env:Env} (h:starred e = false):starEach (e :: es) env = (false, eval e env) :: starEach es env:=by
  cases e <;> first | rfl | exact absurd h (fun h => nomatch h)
theorem VL.cons {e:Expr} {es:List Expr} {p:PV} {ps:List PV} (h:VP w H₀ S n vs σ e p) (k:VL w H₀ S n vs σ es ps) (he:starred e = false:=by rfl):VL w H₀ S n vs σ (e :: es) (p :: ps):=⟨EvL.cons (h.use (k.use ⟨rfl, rfl, rfl⟩)) fun J => starEach_ns he⟩
section
variable {e e₂ e₃ e₄:Expr} {p p₂ p₃ p₄:PV}
theorem VL.one (h:VP w H₀ S n vs σ e p) (i:starred e = false:=by rfl):VL w H₀ S n vs σ [e] [p]:=VL.cons h VL.nil i
theorem VL.two (h:VP w H₀ S n vs σ e p) (h₂:VP w H₀ S n vs σ e₂ p₂) (i:(starred e || starred e₂) = false:=by rfl):VL w H₀ S n vs σ [e, e₂] [p, p₂]:=VL.cons h (VL.one h₂ (Bool.or_eq_false_iff.mp i).2) (Bool.or_eq_false_iff.mp i).1
theorem VL.three (h:VP w H₀ S n vs σ e p) (h₂:VP w H₀ S n vs σ e₂ p₂) (h₃:VP w H₀ S n vs σ e₃ p₃) (i:(starred e || (starred e₂ || starred e₃)) = false:=by rfl):VL w H₀ S n vs σ [e, e₂, e₃] [p, p₂, p₃] :=
  VL.cons h (VL.two h₂ h₃ (Bool.or_eq_false_iff.mp i).2) (Bool.or_eq_false_iff.mp i).1
theorem VL.four (h:VP w H₀ S n vs σ e p) (h₂:VP w H₀ S n vs σ e₂ p₂) (h₃:VP w H₀ S n vs σ e₃ p₃) (h₄:VP w H₀ S n vs σ e₄ p₄) (i:(starred e || (starred e₂ || (starred e₃ || starred e₄))) = false:=by rfl):VL w H₀ S n vs σ [e, e₂, e₃, e₄] [p, p₂, p₃, p₄] :=
  VL.cons h (VL.three h₂ h₃ h₄ (Bool.or_eq_false_iff.mp i).2) (Bool.or_eq_false_iff.mp i).1
end
theorem VP.tuple {es:List Expr} {k:Nat} {p:Pos} {ps:List PV} (h:VL w H₀ S n vs σ es ps) (hz:Nat.ble ps.length 1000 = true:=by rfl):VP w H₀ S n vs σ (.Tuple es k p) (.tup ps):=EvE.tuple (h.use (p_tup (Nat.le_of_ble_eq_true hz) lf))
theorem VP.list {es:List Expr} {p:Pos} {ps:List PV} (h:VL w H₀ S n vs σ es ps) (hz:Nat.ble ps.length 1000 = true:=by rfl):VP w H₀ S n vs σ (.List es p) (.lst ps):=EvE.list (h.use (p_lst (Nat.le_of_ble_eq_true hz) lf))
theorem VP.call {f:Expr} {es:List Expr} {p:Pos} {fv:Value} {ps:List PV} {r:PV} (hf:VP w H₀ S n vs σ f (.con fv)) (hK:Kept w fv) (h:VL w H₀ S n vs σ es ps) (hp:PP w H₀ n σ ps (fun vals => PySem.call fv vals) r)
    (he:∀ env, eval (.Call f es [] p) env = (do callWith p (← eval f env) [] (backTo p (starEach es env)) (backToKw p (keywordEach [] env))):=by intro _; rfl) (ha:∀ env, (backTo p (starEach es env)).any (·.1) = false:=by intro _; rfl):VP w H₀ S n vs σ (.Call f es [] p) r :=
  EvE.call he ha (hf.use ⟨fv, rfl, hK, h.use (hp.use lf)⟩)
theorem VP.fn {f:Expr} {es:List Expr} {p:Pos} {fa:Addr} {ps:List PV} {r:PV} (hf:VP w H₀ S n vs σ f (.con (.ref fa))) (hK:keepIn (hd.heap_1 w.params) (.ref fa) = true) (h:VL w H₀ S n vs σ es ps) (hp:PQ w H₀ n σ ps (.ref fa) r)
    (he:∀ env, eval (.Call f es [] p) env = (do callWith p (← eval f env) [] (backTo p (starEach es env)) (backToKw p (keywordEach [] env))):=by intro _; rfl) (ha:∀ env, (backTo p (starEach es env)).any (·.1) = false:=by intro _; rfl):VP w H₀ S n vs σ (.Call f es [] p) r :=
  VP.call hf (Kept.ofK hK) h hp.prim he ha
theorem EvE.fn {K:PV → Slots → Store → Prop} {f:Expr} {es:List Expr} {p:Pos} {fa:Addr} {ps:List PV} (hf:VP w H₀ S n vs σ f (.con (.ref fa))) (hK:keepIn (hd.heap_1 w.params) (.ref fa) = true) (h:VL w H₀ S n vs σ es ps) (hp:PrimC w H₀ n ps σ (.ref fa) (fun q => K q vs) (fun q => X q vs))
    (he:∀ env, eval (.Call f es [] p) env = (do callWith p (← eval f env) [] (backTo p (starEach es env)) (backToKw p (keywordEach [] env))):=by intro _; rfl) (ha:∀ env, (backTo p (starEach es env)).any (·.1) = false:=by intro _; rfl):EvE w H₀ S n (.Call f es [] p) vs σ K X :=
  EvE.call he ha (hf.use ⟨_, rfl, Kept.ofK hK, h.use hp.prim⟩)
variable {Kn:Slots → Store → Prop} {Kr:PV → Slots → Store → Prop}
theorem St.retV {e:Expr} {p:Pos} {q:PV} (h:VP w H₀ S n vs σ e q) (k:Kr q vs σ):St w H₀ S n (.Return (some e) p) vs σ Kn Kr X:=St.ret (h.use k)
theorem St.asnV {x:Str} {e:Expr} {px p:Pos} {q:PV} (G:S.Good ns oc ks gs) (h:VP w H₀ S n vs σ e q) (hs:Sto ns ks oc x vs q vs') (k:Kn vs' σ) (hsw:∀ env, swapsWith e (some (.Name x px)) p.line env = pure false:=by intro _; rfl):St w H₀ S n (.Assign [.Name x px] e p) vs σ Kn Kr X:=St.asn G (h.use ⟨vs', hs, k⟩) hsw
theorem St.iteV {t:Expr} {a b:List Stmt} {p:Pos} {c:Bool} (h:TP w H₀ S n vs σ t c) (k:if c = true then Bk w H₀ S n a vs σ Kn Kr X else Bk w H₀ S n b vs σ Kn Kr X):St w H₀ S n (.If t a b p) vs σ Kn Kr X:=St.ite (h.use k)
end
section
variable {w:World} {H₀:Heap} {n:Nat} {σ:Store}
theorem PrimC.defP {f:Addr} {oc:Value} {od:Option Addr} {osl:_} {name qual:Str} {pars:Arguments} {body:List Stmt} {sc:Scope} {dV kV doc pm an cdv ct:_} {params ns oc' gs:List Str} {ks:List NameKind}
    {args:List PV} {vs:Slots} {K:PV → Store → Prop} {X:PExc → Store → Prop} (pe:Env → Prop)
    (hl:(hd.heap_1 w.params).lookup f = some ⟨oc, od, .func (fnOf name qual pars body sc dV kV doc pm an cdv ct), osl⟩) (hpe:∀ a, pe (callEnvC (fnOf name qual pars body sc dV kV doc pm an cdv ct) a f)) (hc:codeIn (hd.heap_1 w.params) cdv qual = true)
    (hb:∀ vals:List Value, vals.length = params.length → bindArgs (fnOf name qual pars body sc dV kV doc pm an cdv ct) ⟨vals, []⟩ = pure (params.zip vals))
    (hn:sc.names = tagged ns ks gs) (hk:sc.kind = .function) (hL:ns.length = ks.length) (hz:hnd ((ns ++ gs ++ special).map hs) = true) (hok:Def.ok ⟨params, body, ⟨sc, ns, oc', pe⟩⟩ = true) (hlen:args.length = params.length)
    (hs:slots0 ⟨params, body, ⟨sc, ns, oc', pe⟩⟩ args = vs)
    (hB:∀ S:Fx, S.Good ns oc' ks gs → S.pe = pe → Bk w H₀ S n body vs σ (fun J σ' => K .none σ') (fun p J σ' => K p σ') (fun pe J σ' => X pe σ')):PrimC w H₀ (n + 1) args σ (.ref f) K X :=
  .fnS (d:=⟨params, body, ⟨sc, ns, oc', pe⟩⟩) ⟨oc, od, name, qual, pars, dV, kV, doc, pm, cdv, ct, an, osl, hl, hc, hb, hpe⟩ hok hlen hs ((hB _ (.of rfl rfl hk hn hL hz) rfl).mono (fun p J J k => by cases p <;> exact k) fun J J J x => x)
end
section
variable {w:World} {H₀:Heap} {S:Fx} {n:Nat} {A:Around} {env:Env} {stk:List Env} {ow md md':ASet} {σ σ':Store} {vs vs':Slots} {s:Shared} {h h':Heap} {X:PExc → Slots → Store → Prop} {ns oc gs:List Str} {ks:List NameKind} {Kn:Slots → Store → Prop} {Kr:PV → Slots → Store → Prop}
theorem excSt_x {σ:Store} {x C dx:Addr} {fs:Array Value} {what:Str} {pat:PV} (ne:x ≠ dx):excSt σ x C dx fs what pat x = some (.raw (excObj C (some dx) fs)):=by
  unfold excSt
  rw [upd_ne _ _ ne, upd_ne _ _ ne]; exact upd_same ..
theorem excSt_dx {σ:Store} {x C dx:Addr} {fs:Array Value} {what:Str} {pat:PV} (ne:x ≠ dx):excSt σ x C dx fs what pat dx = some (.ns [("what", .str what), ("at", pat)]):=by
  unfold excSt
  exact upd_same ..
theorem excSt_back {σ:Store} {x C dx:Addr} {fs:Array Value} {what:Str} {pat:PV} (ne:x ≠ dx) (hx:σ x = none) (hd:σ dx = none):upd (upd (excSt σ x C dx fs what pat) x none) dx none = σ:=by
  funext b
  by_cases z:b = dx
  · subst z; rw [upd_same, hd]
  · rw [upd_ne _ _ z]
    by_cases y:b = x
    · subst y; rw [upd_same, hx]
    · rw [upd_ne _ _ y]
      unfold excSt
      rw [upd_ne _ _ z, upd_ne _ _ z, upd_ne _ _ y]
theorem St.raise1 {f a:Expr} {p q:Pos} {C:Addr} {what:Str} (EC:ExcCls w C) (hty:typeIn (KK w) (.ref C) = some (.type "type")) (hK:keepIn (hd.heap_1 w.params) (.ref C) = true) (hf:VP w H₀ S (n + 4) vs σ f (.con (.ref C))) (ha:VL w H₀ S (n + 4) vs σ [a] [.str what])
    (kx:X ⟨C, what, none⟩ vs σ) (he:∀ env, eval (.Call f [a] [] p) env = (do callWith p (← eval f env) [] (backTo p (starEach [a] env)) (backToKw p (keywordEach [] env))):=by intro _; rfl) (hp:∀ env, (backTo p (starEach [a] env)).any (·.1) = false:=by intro _; rfl) :
    St w H₀ S (n + 4) (.Raise (some (.Call f [a] [] p)) none q) vs σ Kn Kr X :=
  St.raise (EvE.call he hp (hf.use ⟨_, rfl, Kept.ofK hK, ha.use (p_exc1 (n:=n + 2) EC fun x dx fs h1 h2 h3 h4 h5 => ⟨x, dx, C, fs, what, .none, none, rfl, EC, hty, h1, excSt_x h3, excSt_dx h3, by first | rfl | trivial | exact .inl rfl, h3, h4, h5, by rw [excSt_back h3 h1 h2]; exact kx⟩).prim⟩))
theorem St.raise2 {f a b:Expr} {p q:Pos} {C:Addr} {what:Str} {i:Int} (EC:ExcCls w C) (hty:typeIn (KK w) (.ref C) = some (.type "type")) (hK:keepIn (hd.heap_1 w.params) (.ref C) = true) (hf:VP w H₀ S (n + 4) vs σ f (.con (.ref C))) (ha:VL w H₀ S (n + 4) vs σ [a, b] [.str what, .int i])
    (kx:X ⟨C, what, some i⟩ vs σ) (he:∀ env, eval (.Call f [a, b] [] p) env = (do callWith p (← eval f env) [] (backTo p (starEach [a, b] env)) (backToKw p (keywordEach [] env))):=by intro _; rfl) (hp:∀ env, (backTo p (starEach [a, b] env)).any (·.1) = false:=by intro _; rfl) :
    St w H₀ S (n + 4) (.Raise (some (.Call f [a, b] [] p)) none q) vs σ Kn Kr X :=
  St.raise (EvE.call he hp (hf.use ⟨_, rfl, Kept.ofK hK, ha.use (p_exc2 (n:=n + 2) EC fun x dx fs h1 h2 h3 h4 h5 => ⟨x, dx, C, fs, what, .int i, some i, rfl, EC, hty, h1, excSt_x h3, excSt_dx h3, rfl, h3, h4, h5, by rw [excSt_back h3 h1 h2]; exact kx⟩).prim⟩))
end
section
noncomputable def rn (K:PV → Store → Prop) (X:PExc → Store → Prop) (σ:Store):Option PExc → Prop
  | none => K .none σ
  | some e => X e σ
noncomputable def thenO (m:Option PExc) (o:Out):Out:=match m with
  | some e => .error e
  | none => o
theorem iteN {K:PV → Store → Prop} {X:PExc → Store → Prop} {σ:Store} {b:Bool} {x y:Option PExc} {G₁ G₂:Prop} (k:rn K X σ (if b = true then x else y)) (h₁:b = true → rn K X σ x → G₁) (h₂:b = false → rn K X σ y → G₂):if b = true then G₁ else G₂:=by
  cases b
  · exact h₂ rfl k
  · exact h₁ rfl k
end
theorem ty52 {w:World}:typeIn (KK w) (.ref 52) = some (.type "type"):=by kernel_rfl
theorem ty64 {w:World}:typeIn (KK w) (.ref 64) = some (.type "type"):=by kernel_rfl
structure Row where
  c:Int
  t:Int
  f:Int
  k:Int
noncomputable abbrev ordP (r:Row):PV:=.ord r.c r.t r.f r.k
noncomputable abbrev rowP (r:Row):PV:=.tup [.int r.c, .int r.t, .int r.f, .int r.k]
section
variable {w:World}
theorem kp_CodeError:keepIn (hd.heap_1 w.params) (.ref 52) = true:=by kernel_rfl
theorem kp_ProgramError:keepIn (hd.heap_1 w.params) (.ref 64) = true:=by kernel_rfl
theorem kp_little:keepIn (hd.heap_1 w.params) (.ref 71) = true:=by kernel_rfl
theorem kp_from_little:keepIn (hd.heap_1 w.params) (.ref 78) = true:=by kernel_rfl
theorem kp_ClassicOrder:keepIn (hd.heap_1 w.params) (.ref 102) = true:=by kernel_rfl
theorem kp_mode_name:keepIn (hd.heap_1 w.params) (.ref 113) = true:=by kernel_rfl
theorem kp_alu_name:keepIn (hd.heap_1 w.params) (.ref 120) = true:=by kernel_rfl
theorem kp_jump_name:keepIn (hd.heap_1 w.params) (.ref 127) = true:=by kernel_rfl
theorem kp_is_by_x:keepIn (hd.heap_1 w.params) (.ref 134) = true:=by kernel_rfl
theorem kp_is_return:keepIn (hd.heap_1 w.params) (.ref 141) = true:=by kernel_rfl
theorem kp_is_jump_order:keepIn (hd.heap_1 w.params) (.ref 148) = true:=by kernel_rfl
theorem kp_is_known_code:keepIn (hd.heap_1 w.params) (.ref 155) = true:=by kernel_rfl
theorem kp_read_cell:keepIn (hd.heap_1 w.params) (.ref 162) = true:=by kernel_rfl
theorem kp_written_cell:keepIn (hd.heap_1 w.params) (.ref 169) = true:=by kernel_rfl
theorem kp_goals_of_classic:keepIn (hd.heap_1 w.params) (.ref 176) = true:=by kernel_rfl
theorem kp_check_field:keepIn (hd.heap_1 w.params) (.ref 183) = true:=by kernel_rfl
theorem kp_pack_classic:keepIn (hd.heap_1 w.params) (.ref 190) = true:=by kernel_rfl
theorem kp_unpack_classic:keepIn (hd.heap_1 w.params) (.ref 198) = true:=by kernel_rfl
theorem kp_pack_filter:keepIn (hd.heap_1 w.params) (.ref 203) = true:=by kernel_rfl
theorem kp_unpack_filter:keepIn (hd.heap_1 w.params) (.ref 210) = true:=by kernel_rfl
theorem kp_spot_in:keepIn (hd.heap_1 w.params) (.ref 217) = true:=by kernel_rfl
theorem kp_ld:keepIn (hd.heap_1 w.params) (.ref 224) = true:=by kernel_rfl
theorem kp_ldx:keepIn (hd.heap_1 w.params) (.ref 231) = true:=by kernel_rfl
theorem kp_st:keepIn (hd.heap_1 w.params) (.ref 238) = true:=by kernel_rfl
theorem kp_stx:keepIn (hd.heap_1 w.params) (.ref 245) = true:=by kernel_rfl
theorem kp_alu_k:keepIn (hd.heap_1 w.params) (.ref 252) = true:=by kernel_rfl
theorem kp_alu_x:keepIn (hd.heap_1 w.params) (.ref 259) = true:=by kernel_rfl
theorem kp_jump_code:keepIn (hd.heap_1 w.params) (.ref 266) = true:=by kernel_rfl
theorem kp_jump_k:keepIn (hd.heap_1 w.params) (.ref 273) = true:=by kernel_rfl
theorem kp_jump_x:keepIn (hd.heap_1 w.params) (.ref 280) = true:=by kernel_rfl
theorem kp_ja:keepIn (hd.heap_1 w.params) (.ref 287) = true:=by kernel_rfl
theorem kp_ret_k:keepIn (hd.heap_1 w.params) (.ref 294) = true:=by kernel_rfl
theorem kp_ret_a:keepIn (hd.heap_1 w.params) (.ref 301) = true:=by kernel_rfl
theorem kp_tax:keepIn (hd.heap_1 w.params) (.ref 308) = true:=by kernel_rfl
theorem kp_txa:keepIn (hd.heap_1 w.params) (.ref 315) = true:=by kernel_rfl
theorem kp_check_known:keepIn (hd.heap_1 w.params) (.ref 322) = true:=by kernel_rfl
theorem kp_check_number:keepIn (hd.heap_1 w.params) (.ref 329) = true:=by kernel_rfl
theorem kp_written_cells:keepIn (hd.heap_1 w.params) (.ref 336) = true:=by kernel_rfl
theorem kp_reached_orders:keepIn (hd.heap_1 w.params) (.ref 341) = true:=by kernel_rfl
theorem kp_check_classic:keepIn (hd.heap_1 w.params) (.ref 348) = true:=by kernel_rfl
theorem kp__law_known:keepIn (hd.heap_1 w.params) (.ref 353) = true:=by kernel_rfl
theorem kp__law_row:keepIn (hd.heap_1 w.params) (.ref 358) = true:=by kernel_rfl
theorem kp__law_goals:keepIn (hd.heap_1 w.params) (.ref 365) = true:=by kernel_rfl
theorem kp__law_ways:keepIn (hd.heap_1 w.params) (.ref 372) = true:=by kernel_rfl
theorem kp__law_row_fault:keepIn (hd.heap_1 w.params) (.ref 379) = true:=by kernel_rfl
theorem kp__law_fault:keepIn (hd.heap_1 w.params) (.ref 384) = true:=by kernel_rfl
theorem kp__law_told_right:keepIn (hd.heap_1 w.params) (.ref 389) = true:=by kernel_rfl
theorem kp__law_octets:keepIn (hd.heap_1 w.params) (.ref 394) = true:=by kernel_rfl
theorem kp__law_heard:keepIn (hd.heap_1 w.params) (.ref 401) = true:=by kernel_rfl
theorem kp__law_octets_right:keepIn (hd.heap_1 w.params) (.ref 406) = true:=by kernel_rfl
theorem kp__law_makers_right:keepIn (hd.heap_1 w.params) (.ref 411) = true:=by kernel_rfl
end
theorem iteP {α:Type} {P:α → Prop} {b:Bool} {x y:α} {G₁ G₂:Prop} (k:P (if b = true then x else y)) (h₁:b = true → P x → G₁) (h₂:b = false → P y → G₂):if b = true then G₁ else G₂:=by
  cases b
  · exact h₂ rfl k
  · exact h₁ rfl k
section
variable {w:World} {H₀:Heap} {n:Nat} {σ:Store} {K:PV → Store → Prop} {X:PExc → Store → Prop}
noncomputable def L_is_by_x (order_:Row):Bool:=((Builtin.bitAnd order_.c (8:Int)) != (0:Int))
theorem f_is_by_x {order_:Row}  (k:K (.bool (L_is_by_x order_)) σ):PrimC w H₀ (n + 5) [ordP order_] σ (.ref 134) K X:=by
  refine PrimC.def (params:=["order"]) (ns:=["order"]) (ks:=[.local]) (gs:=["BY_X"]) (vs:=[some (ordP order_)]) (oc':=[]) rfl (by kernel_rfl) ?_ rfl rfl rfl (by kernel_rfl) (by kernel_rfl) rfl rfl ?_
  · intro vals hv
    apply len1 hv; intros; rfl
  intro S G
  exact Bk.cons (St.retV (VP.cmp (VP.bin (VP.code (nv G 0 rfl)) (G_BY_X G mem1 lf) (p_band lp)) cI (p_ne lp)) k)
noncomputable def L_is_return (order_:Row):Bool:=((Builtin.bitAnd order_.c (7:Int)) == (6:Int))
theorem f_is_return {order_:Row}  (k:K (.bool (L_is_return order_)) σ):PrimC w H₀ (n + 5) [ordP order_] σ (.ref 141) K X:=by
  refine PrimC.def (params:=["order"]) (ns:=["order"]) (ks:=[.local]) (gs:=["RET"]) (vs:=[some (ordP order_)]) (oc':=[]) rfl (by kernel_rfl) ?_ rfl rfl rfl (by kernel_rfl) (by kernel_rfl) rfl rfl ?_
  · intro vals hv
    apply len1 hv; intros; rfl
  intro S G
  exact Bk.cons (St.retV (VP.cmp (VP.bin (VP.code (nv G 0 rfl)) cI (p_band lp)) (G_RET G mem1 lf) (p_eq lp)) k)
noncomputable def L_is_jump_order (order_:Row):Bool:=((Builtin.bitAnd order_.c (7:Int)) == (5:Int))
theorem f_is_jump_order {order_:Row}  (k:K (.bool (L_is_jump_order order_)) σ):PrimC w H₀ (n + 5) [ordP order_] σ (.ref 148) K X:=by
  refine PrimC.def (params:=["order"]) (ns:=["order"]) (ks:=[.local]) (gs:=["JMP"]) (vs:=[some (ordP order_)]) (oc':=[]) rfl (by kernel_rfl) ?_ rfl rfl rfl (by kernel_rfl) (by kernel_rfl) rfl rfl ?_
  · intro vals hv
    apply len1 hv; intros; rfl
  intro S G
  exact Bk.cons (St.retV (VP.cmp (VP.bin (VP.code (nv G 0 rfl)) cI (p_band lp)) (G_JMP G mem1 lf) (p_eq lp)) k)
noncomputable def L_is_known_code (code_:Int):Bool:=(if (!((decide ((0:Int) ≤ code_)) && (decide (code_ ≤ (255:Int))))) = true then false else (if ((Builtin.bitAnd code_ (7:Int)) == (4:Int)) = true then ((decide ((Int.fdiv code_ (2 ^ Int.toNat (4:Int))) < (11:Int))) && (((Int.fdiv code_ (2 ^ Int.toNat (4:Int))) != (8:Int)) || ((Builtin.bitAnd code_ (8:Int)) == (0:Int)))) else (if ((Builtin.bitAnd code_ (7:Int)) == (5:Int)) = true then ((decide ((Int.fdiv code_ (2 ^ Int.toNat (4:Int))) < (5:Int))) && (((Int.fdiv code_ (2 ^ Int.toNat (4:Int))) != (0:Int)) || ((Builtin.bitAnd code_ (8:Int)) == (0:Int)))) else (if ((Builtin.bitAnd code_ (7:Int)) == (6:Int)) = true then ((code_ == (6:Int)) || (code_ == ((6:Int) + (16:Int)))) else (if ((Builtin.bitAnd code_ (7:Int)) == (7:Int)) = true then ((code_ == (7:Int)) || (code_ == ((7:Int) + (128:Int)))) else (if (((Builtin.bitAnd code_ (7:Int)) == (2:Int)) || ((Builtin.bitAnd code_ (7:Int)) == (3:Int))) = true then (code_ == (Builtin.bitAnd code_ (7:Int))) else (if ((Builtin.bitAnd code_ (7:Int)) == (1:Int)) = true then ((code_ == (177:Int)) || (((Builtin.bitAnd code_ (24:Int)) == (0:Int)) && (((Int.fdiv code_ (2 ^ Int.toNat (5:Int))) == (0:Int)) || (((Int.fdiv code_ (2 ^ Int.toNat (5:Int))) == (3:Int)) || ((Int.fdiv code_ (2 ^ Int.toNat (5:Int))) == (4:Int)))))) else (if (((Int.fdiv code_ (2 ^ Int.toNat (5:Int))) == (1:Int)) || ((Int.fdiv code_ (2 ^ Int.toNat (5:Int))) == (2:Int))) = true then ((Builtin.bitAnd code_ (24:Int)) != (24:Int)) else (((Builtin.bitAnd code_ (24:Int)) == (0:Int)) && (((Int.fdiv code_ (2 ^ Int.toNat (5:Int))) == (0:Int)) || (((Int.fdiv code_ (2 ^ Int.toNat (5:Int))) == (3:Int)) || ((Int.fdiv code_ (2 ^ Int.toNat (5:Int))) == (4:Int)))))))))))))
theorem f_is_known_code {code_:Int}  (k:K (.bool (L_is_known_code code_)) σ):PrimC w H₀ (n + 5) [.int code_] σ (.ref 155) K X:=by
  refine PrimC.def (params:=["code"]) (ns:=["code", "kind", "high", "sort", "mode"]) (ks:=[.local, .local, .local, .local, .local]) (gs:=["ALU", "BY_X", "JMP", "RET", "RETURN_A", "MISC", "TXA", "ST", "STX", "LDX", "MSH_CODE"]) (vs:=[some (.int code_), none, none, none, none]) (oc':=[]) rfl (by kernel_rfl) ?_ rfl rfl rfl (by kernel_rfl) (by kernel_rfl) rfl rfl ?_
  · intro vals hv
    apply len1 hv; intros; rfl
  intro S G
  refine Bk.cons (St.sw3 G (.tail .head) (.tail (.tail .head)) (.tail (.tail (.tail .head))) rfl (VP.use (VP.tuple (VL.three (VP.bin (nv G 0 rfl) cI (p_band lp)) (VP.bin (nv G 0 rfl) cI (p_shr (by first | assumption | decide | lia) lp)) (VP.bin (nv G 0 rfl) cI (p_band lp)))) ⟨_, _, _, rfl, AsB.nam G (.l (.tail (.tail (.tail .head)))) (AsB.nam G (.l (.tail (.tail .head))) (AsB.nam G (.l (.tail .head)) (AsB.nil ?_)))⟩))
  refine Bk.cons (St.iteV (TP.not (TP.cmp2 cI (nv G 0 rfl) (p_le lp) cI (p_le lp))) (iteP (P:=fun x => K (.bool x) σ) k (fun h k => ?_) (fun h k => ?_)))
  · -- yes
    exact Bk.cons (St.retV cB k)
  · -- no
    refine Bk.nil ?_
    refine Bk.cons (St.iteV (TP.cmp (nv G 1 rfl) (G_ALU G mem1 lf) (p_eq lp)) (iteP (P:=fun x => K (.bool x) σ) k (fun h k => ?_) (fun h k => ?_)))
    · -- yes
      exact Bk.cons (St.retV (VP.and (VP.cmp (nv G 2 rfl) cI (p_lt lp)) (fun hh => (VP.bool1 (VP.or (VP.cmp (nv G 2 rfl) cI (p_ne lp)) (fun hh => (VP.bool1 (VP.cmp (VP.bin (nv G 0 rfl) (G_BY_X G (mem2 mem1) lf) (p_band lp)) cI (p_eq lp)))))))) k)
    · -- no
      refine Bk.nil ?_
      refine Bk.cons (St.iteV (TP.cmp (nv G 1 rfl) (G_JMP G (mem2 (mem2 mem1)) lf) (p_eq lp)) (iteP (P:=fun x => K (.bool x) σ) k (fun h k => ?_) (fun h k => ?_)))
      · -- yes
        exact Bk.cons (St.retV (VP.and (VP.cmp (nv G 2 rfl) cI (p_lt lp)) (fun hh => (VP.bool1 (VP.or (VP.cmp (nv G 2 rfl) cI (p_ne lp)) (fun hh => (VP.bool1 (VP.cmp (VP.bin (nv G 0 rfl) (G_BY_X G (mem2 mem1) lf) (p_band lp)) cI (p_eq lp)))))))) k)
      · -- no
        refine Bk.nil ?_
        refine Bk.cons (St.iteV (TP.cmp (nv G 1 rfl) (G_RET G (mem2 (mem2 (mem2 mem1))) lf) (p_eq lp)) (iteP (P:=fun x => K (.bool x) σ) k (fun h k => ?_) (fun h k => ?_)))
        · -- yes
          exact Bk.cons (St.retV (VP.or (VP.cmp (nv G 0 rfl) (G_RET G (mem2 (mem2 (mem2 mem1))) lf) (p_eq lp)) (fun hh => (VP.bool1 (VP.cmp (nv G 0 rfl) (VP.bin (G_RET G (mem2 (mem2 (mem2 mem1))) lf) (G_RETURN_A G (mem2 (mem2 (mem2 (mem2 mem1)))) lf) (p_add lp)) (p_eq lp))))) k)
        · -- no
          refine Bk.nil ?_
          refine Bk.cons (St.iteV (TP.cmp (nv G 1 rfl) (G_MISC G (mem2 (mem2 (mem2 (mem2 (mem2 mem1))))) lf) (p_eq lp)) (iteP (P:=fun x => K (.bool x) σ) k (fun h k => ?_) (fun h k => ?_)))
          · -- yes
            exact Bk.cons (St.retV (VP.or (VP.cmp (nv G 0 rfl) (G_MISC G (mem2 (mem2 (mem2 (mem2 (mem2 mem1))))) lf) (p_eq lp)) (fun hh => (VP.bool1 (VP.cmp (nv G 0 rfl) (VP.bin (G_MISC G (mem2 (mem2 (mem2 (mem2 (mem2 mem1))))) lf) (G_TXA G (mem2 (mem2 (mem2 (mem2 (mem2 (mem2 mem1)))))) lf) (p_add lp)) (p_eq lp))))) k)
          · -- no
            refine Bk.nil ?_
            refine Bk.cons (St.iteV (TP.or (TP.cmp (nv G 1 rfl) (G_ST G (mem2 (mem2 (mem2 (mem2 (mem2 (mem2 (mem2 mem1))))))) lf) (p_eq lp)) (fun hh => (TP.or1 (TP.cmp (nv G 1 rfl) (G_STX G (mem2 (mem2 (mem2 (mem2 (mem2 (mem2 (mem2 (mem2 mem1)))))))) lf) (p_eq lp))))) (iteP (P:=fun x => K (.bool x) σ) k (fun h k => ?_) (fun h k => ?_)))
            · -- yes
              exact Bk.cons (St.retV (VP.cmp (nv G 0 rfl) (nv G 1 rfl) (p_eq lp)) k)
            · -- no
              refine Bk.nil ?_
              refine Bk.cons (St.asnV G (VP.bin (nv G 0 rfl) cI (p_shr (by first | assumption | decide | lia) lp)) (.l (.tail (.tail (.tail (.tail .head))))) ?_)
              refine Bk.cons (St.iteV (TP.cmp (nv G 1 rfl) (G_LDX G (mem2 (mem2 (mem2 (mem2 (mem2 (mem2 (mem2 (mem2 (mem2 mem1))))))))) lf) (p_eq lp)) (iteP (P:=fun x => K (.bool x) σ) k (fun h k => ?_) (fun h k => ?_)))
              · -- yes
                exact Bk.cons (St.retV (VP.or (VP.cmp (nv G 0 rfl) (G_MSH_CODE G (mem2 (mem2 (mem2 (mem2 (mem2 (mem2 (mem2 (mem2 (mem2 (mem2 mem1)))))))))) lf) (p_eq lp)) (fun hh => (VP.bool1 (VP.and (VP.cmp (nv G 3 rfl) cI (p_eq lp)) (fun hh => (VP.bool1 (VP.or (VP.cmp (nv G 4 rfl) cI (p_eq lp)) (fun hh => (VP.or (VP.cmp (nv G 4 rfl) cI (p_eq lp)) (fun hh => (VP.bool1 (VP.cmp (nv G 4 rfl) cI (p_eq lp))))))))))))) k)
              · -- no
                refine Bk.nil ?_
                refine Bk.cons (St.iteV (TP.or (TP.cmp (nv G 4 rfl) cI (p_eq lp)) (fun hh => (TP.or1 (TP.cmp (nv G 4 rfl) cI (p_eq lp))))) (iteP (P:=fun x => K (.bool x) σ) k (fun h k => ?_) (fun h k => ?_)))
                · -- yes
                  exact Bk.cons (St.retV (VP.cmp (nv G 3 rfl) cI (p_ne lp)) k)
                · -- no
                  refine Bk.nil ?_
                  exact Bk.cons (St.retV (VP.and (VP.cmp (nv G 3 rfl) cI (p_eq lp)) (fun hh => (VP.bool1 (VP.or (VP.cmp (nv G 4 rfl) cI (p_eq lp)) (fun hh => (VP.or (VP.cmp (nv G 4 rfl) cI (p_eq lp)) (fun hh => (VP.bool1 (VP.cmp (nv G 4 rfl) cI (p_eq lp)))))))))) k)
noncomputable def L_written_cell (order_:Row):Int:=(if (((Builtin.bitAnd order_.c (7:Int)) == (2:Int)) || ((Builtin.bitAnd order_.c (7:Int)) == (3:Int))) = true then order_.k else (-(1:Int)))
theorem f_written_cell {order_:Row}  (k:K (.int (L_written_cell order_)) σ):PrimC w H₀ (n + 5) [ordP order_] σ (.ref 169) K X:=by
  refine PrimC.def (params:=["order"]) (ns:=["order", "kind"]) (ks:=[.local, .local]) (gs:=["ST", "STX"]) (vs:=[some (ordP order_), none]) (oc':=[]) rfl (by kernel_rfl) ?_ rfl rfl rfl (by kernel_rfl) (by kernel_rfl) rfl rfl ?_
  · intro vals hv
    apply len1 hv; intros; rfl
  intro S G
  refine Bk.cons (St.asnV G (VP.bin (VP.code (nv G 0 rfl)) cI (p_band lp)) (.l (.tail .head)) ?_)
  exact Bk.cons (St.retV (VP.ifI (TP.or (TP.cmp (nv G 1 rfl) (G_ST G mem1 lf) (p_eq lp)) (fun hh => (TP.or1 (TP.cmp (nv G 1 rfl) (G_STX G (mem2 mem1) lf) (p_eq lp))))) (fun hh => (VP.k (nv G 0 rfl))) (fun hh => (VP.neg cI))) k)
end
noncomputable def modeNames:List Str:=["imm", "abs", "ind", "mem", "len", "msh"]
noncomputable def aluNames:List Str:=["add", "sub", "mul", "div", "or", "and", "lsh", "rsh", "neg", "mod", "xor"]
noncomputable def jumpNames:List Str:=["ja", "jeq", "jgt", "jge", "jset"]
noncomputable def sizeNames:List Str:=["w", "h", "b"]
structure SplitOk (x:Str) (L:List Str):Prop where
  ns:(Builtin.Str.spaceWords x (x.length + 1) == [(0, x.length)]) = false
  ws:PySem.wordsOf x = L
  sz:(Nat.ble x.length 1000 && Nat.ble L.length 1000) = true
theorem sp_MODE:SplitOk (Str.ofString "imm abs ind mem len msh") modeNames:=⟨by decide +kernel, by decide +kernel, by decide +kernel⟩
theorem sp_ALU:SplitOk (Str.ofString "add sub mul div or and lsh rsh neg mod xor") aluNames:=⟨by decide +kernel, by decide +kernel, by decide +kernel⟩
theorem sp_JUMP:SplitOk (Str.ofString "ja jeq jgt jge jset") jumpNames:=⟨by decide +kernel, by decide +kernel, by decide +kernel⟩
theorem sp_SIZE:SplitOk (Str.ofString "w h b") sizeNames:=⟨by decide +kernel, by decide +kernel, by decide +kernel⟩
section
variable {w:World} {H₀:Heap} {S:Fx} {n:Nat} {σ:Store} {vs:Slots}
theorem VP.split {o:Expr} {ap p:Pos} {x:Str} {L:List Str} (hb:∀ env, attributeBase o "split" env (eval o env) = eval o env) (hl:(ap.endLine == p.line) = true) (ok:SplitOk x L) (h:VP w H₀ S n vs σ o (.str x)):VP w H₀ S n vs σ (.Call (.Attribute o "split" ap) [] [] p) (.lst (pvS L)) :=
  EvE.split hb hl (h.use ⟨x, L, rfl, ok.ns, ok.ws, ok.sz, lf⟩)
theorem p_itemS {value slice:Expr} {L:List Str} {i:Int} (h0:0 ≤ i) (h1:decide (i < ((pvS L).length:Int)) = true) (hz:Nat.ble L.length 1000 = true:=by rfl)
    (hs:∀ a u, subscripted slice false (.ref a) (.int i u) = operate [.ref a, .int i u] (getItem (.ref a) (.int i u)):=by intro _ _; rfl):PP w H₀ n σ [.lst (pvS L), .int i] (p2 (subscriptTail value slice)) (.str (L.getD i.toNat "")):=by
  have h1:=of_decide_eq_true h1
  have hz:=Nat.le_of_ble_eq_true hz
  simp only [pvS, List.length_map] at h1
  refine p_itemL h0 (p:=.str (L.getD i.toNat "")) ?_ (by lia) lp hs
  have hlt:i.toNat < L.length:=by lia
  simp [pvS, List.getD, List.getElem?_eq_getElem hlt]
theorem p_itemO {value slice:Expr} {l:List Row} {i:Int} {r:Row} (h0:0 ≤ i) (h1:l[i.toNat]? = some r) (hz:l.length ≤ 1000)
    (hs:∀ a u, subscripted slice false (.ref a) (.int i u) = operate [.ref a, .int i u] (getItem (.ref a) (.int i u)):=by intro _ _; rfl):PP w H₀ n σ [.lst (l.map ordP), .int i] (p2 (subscriptTail value slice)) (ordP r):=by
  have hlt:i.toNat < l.length:=(List.getElem?_eq_some_iff.mp h1).1
  exact p_itemL h0 (p:=ordP r) (by simp [h1]) (by lia) lp hs
theorem p_itemR {value slice:Expr} {l:List Row} {i:Int} {r:Row} (h0:0 ≤ i) (h1:l[i.toNat]? = some r) (hz:l.length ≤ 1000)
    (hs:∀ a u, subscripted slice false (.ref a) (.int i u) = operate [.ref a, .int i u] (getItem (.ref a) (.int i u)):=by intro _ _; rfl):PP w H₀ n σ [.lst (l.map rowP), .int i] (p2 (subscriptTail value slice)) (rowP r):=by
  have hlt:i.toNat < l.length:=(List.getElem?_eq_some_iff.mp h1).1
  exact p_itemL h0 (p:=rowP r) (by simp [h1]) (by lia) lp hs
end
section
variable {w:World} {H₀:Heap} {n:Nat} {σ:Store} {K:PV → Store → Prop} {X:PExc → Store → Prop}
noncomputable def L_mode_name (order_:Row):Str:=(if (decide ((Builtin.bitAnd (Int.fdiv order_.c (2 ^ Int.toNat (5:Int))) (7:Int)) < ((pvS modeNames).length:Int))) = true then (modeNames.getD (Int.toNat (Builtin.bitAnd (Int.fdiv order_.c (2 ^ Int.toNat (5:Int))) (7:Int))) "") else (Str.ofString ""))
theorem f_mode_name {order_:Row}  (k:K (.str (L_mode_name order_)) σ):PrimC w H₀ (n + 5) [ordP order_] σ (.ref 113) K X:=by
  refine PrimC.def (params:=["order"]) (ns:=["order", "names", "spot"]) (ks:=[.local, .local, .local]) (gs:=["MODE_NAMES", "len"]) (vs:=[some (ordP order_), none, none]) (oc':=[]) rfl (by kernel_rfl) ?_ rfl rfl rfl (by kernel_rfl) (by kernel_rfl) rfl rfl ?_
  · intro vals hv
    apply len1 hv; intros; rfl
  intro S G
  refine Bk.cons (St.sw2 G (.tail .head) (.tail (.tail .head)) rfl (VP.use (VP.tuple (VL.two (VP.split (fun J => rfl) rfl sp_MODE (G_MODE_NAMES G mem1 lf)) (VP.bin (VP.bin (VP.code (nv G 0 rfl)) cI (p_shr (by first | assumption | decide | lia) lp)) cI (p_band lp)))) ⟨_, _, rfl, AsB.nam G (.l (.tail (.tail .head))) (AsB.nam G (.l (.tail .head)) (AsB.nil ?_))⟩))
  exact Bk.cons (St.retV (VP.ifS (TP.cmp (nv G 2 rfl) (VP.call (B_len G (mem2 mem1) lf) Kept.builtin (VL.one (nv G 1 rfl)) (p_lenL (by decide) lp)) (p_lt lp)) (fun hh => (VP.item (nv G 1 rfl) (nv G 2 rfl) (p_itemS (bitAnd_range _ (by decide)).1 hh))) (fun hh => cS)) k)
noncomputable def L_alu_name (order_:Row):Str:=(if (decide ((Builtin.bitAnd (Int.fdiv order_.c (2 ^ Int.toNat (4:Int))) (15:Int)) < ((pvS aluNames).length:Int))) = true then (aluNames.getD (Int.toNat (Builtin.bitAnd (Int.fdiv order_.c (2 ^ Int.toNat (4:Int))) (15:Int))) "") else (Str.ofString ""))
theorem f_alu_name {order_:Row}  (k:K (.str (L_alu_name order_)) σ):PrimC w H₀ (n + 5) [ordP order_] σ (.ref 120) K X:=by
  refine PrimC.def (params:=["order"]) (ns:=["order", "names", "spot"]) (ks:=[.local, .local, .local]) (gs:=["ALU_NAMES", "len"]) (vs:=[some (ordP order_), none, none]) (oc':=[]) rfl (by kernel_rfl) ?_ rfl rfl rfl (by kernel_rfl) (by kernel_rfl) rfl rfl ?_
  · intro vals hv
    apply len1 hv; intros; rfl
  intro S G
  refine Bk.cons (St.sw2 G (.tail .head) (.tail (.tail .head)) rfl (VP.use (VP.tuple (VL.two (VP.split (fun J => rfl) rfl sp_ALU (G_ALU_NAMES G mem1 lf)) (VP.bin (VP.bin (VP.code (nv G 0 rfl)) cI (p_shr (by first | assumption | decide | lia) lp)) cI (p_band lp)))) ⟨_, _, rfl, AsB.nam G (.l (.tail (.tail .head))) (AsB.nam G (.l (.tail .head)) (AsB.nil ?_))⟩))
  exact Bk.cons (St.retV (VP.ifS (TP.cmp (nv G 2 rfl) (VP.call (B_len G (mem2 mem1) lf) Kept.builtin (VL.one (nv G 1 rfl)) (p_lenL (by decide) lp)) (p_lt lp)) (fun hh => (VP.item (nv G 1 rfl) (nv G 2 rfl) (p_itemS (bitAnd_range _ (by decide)).1 hh))) (fun hh => cS)) k)
noncomputable def L_jump_name (order_:Row):Str:=(if (decide ((Builtin.bitAnd (Int.fdiv order_.c (2 ^ Int.toNat (4:Int))) (15:Int)) < ((pvS jumpNames).length:Int))) = true then (jumpNames.getD (Int.toNat (Builtin.bitAnd (Int.fdiv order_.c (2 ^ Int.toNat (4:Int))) (15:Int))) "") else (Str.ofString ""))
theorem f_jump_name {order_:Row}  (k:K (.str (L_jump_name order_)) σ):PrimC w H₀ (n + 5) [ordP order_] σ (.ref 127) K X:=by
  refine PrimC.def (params:=["order"]) (ns:=["order", "names", "spot"]) (ks:=[.local, .local, .local]) (gs:=["JUMP_NAMES", "len"]) (vs:=[some (ordP order_), none, none]) (oc':=[]) rfl (by kernel_rfl) ?_ rfl rfl rfl (by kernel_rfl) (by kernel_rfl) rfl rfl ?_
  · intro vals hv
    apply len1 hv; intros; rfl
  intro S G
  refine Bk.cons (St.sw2 G (.tail .head) (.tail (.tail .head)) rfl (VP.use (VP.tuple (VL.two (VP.split (fun J => rfl) rfl sp_JUMP (G_JUMP_NAMES G mem1 lf)) (VP.bin (VP.bin (VP.code (nv G 0 rfl)) cI (p_shr (by first | assumption | decide | lia) lp)) cI (p_band lp)))) ⟨_, _, rfl, AsB.nam G (.l (.tail (.tail .head))) (AsB.nam G (.l (.tail .head)) (AsB.nil ?_))⟩))
  exact Bk.cons (St.retV (VP.ifS (TP.cmp (nv G 2 rfl) (VP.call (B_len G (mem2 mem1) lf) Kept.builtin (VL.one (nv G 1 rfl)) (p_lenL (by decide) lp)) (p_lt lp)) (fun hh => (VP.item (nv G 1 rfl) (nv G 2 rfl) (p_itemS (bitAnd_range _ (by decide)).1 hh))) (fun hh => cS)) k)
noncomputable def L_read_cell (order_:Row):Int:=(if ((((Builtin.bitAnd order_.c (7:Int)) == (0:Int)) || ((Builtin.bitAnd order_.c (7:Int)) == (1:Int))) && ((L_mode_name order_) == (Str.ofString "mem"))) = true then order_.k else (-(1:Int)))
theorem f_read_cell {order_:Row}  (k:K (.int (L_read_cell order_)) σ):PrimC w H₀ (n + 6) [ordP order_] σ (.ref 162) K X:=by
  refine PrimC.def (params:=["order"]) (ns:=["order", "kind"]) (ks:=[.local, .local]) (gs:=["LD", "LDX", "mode_name"]) (vs:=[some (ordP order_), none]) (oc':=[]) rfl (by kernel_rfl) ?_ rfl rfl rfl (by kernel_rfl) (by kernel_rfl) rfl rfl ?_
  · intro vals hv
    apply len1 hv; intros; rfl
  intro S G
  refine Bk.cons (St.asnV G (VP.bin (VP.code (nv G 0 rfl)) cI (p_band lp)) (.l (.tail .head)) ?_)
  exact Bk.cons (St.retV (VP.ifI (TP.and (TP.or (TP.cmp (nv G 1 rfl) (G_LD G mem1 lf) (p_eq lp)) (fun hh => (TP.or1 (TP.cmp (nv G 1 rfl) (G_LDX G (mem2 mem1) lf) (p_eq lp))))) (fun hh => (TP.and1 (TP.cmp (VP.fn (G_mode_name G (mem2 (mem2 mem1)) lf) kp_mode_name (VL.one (nv G 0 rfl)) (f_mode_name lp)) cS (p_eqS lp))))) (fun hh => (VP.k (nv G 0 rfl))) (fun hh => (VP.neg cI))) k)
noncomputable def L_check_field (worth_:Int) (size_:Int):Option PExc:=(if (!((decide ((0:Int) ≤ worth_)) && (decide (worth_ < ((1:Int) * 2 ^ Int.toNat size_))))) = true then (some ⟨52, (Str.ofString "field out of range"), none⟩) else none)
theorem f_check_field {worth_:Int} {size_:Int} (h0_:0 ≤ size_) (h1_:size_ ≤ 1000000) (k:rn K X σ (L_check_field worth_ size_)):PrimC w H₀ (n + 6) [.int worth_, .int size_] σ (.ref 183) K X:=by
  refine PrimC.def (params:=["worth", "size"]) (ns:=["worth", "size"]) (ks:=[.local, .local]) (gs:=["CodeError"]) (vs:=[some (.int worth_), some (.int size_)]) (oc':=[]) rfl (by kernel_rfl) ?_ rfl rfl rfl (by kernel_rfl) (by kernel_rfl) rfl rfl ?_
  · intro vals hv
    apply len2 hv; intros; rfl
  intro S G
  refine Bk.cons (St.iteV (TP.not (TP.cmp2 cI (nv G 0 rfl) (p_le lp) (VP.bin cI (nv G 1 rfl) (p_shl (by first | assumption | decide | lia) (by first | assumption | decide | lia) (by first | assumption | decide | lia) lp)) (p_lt lp))) (iteN k (fun h k => ?_) (fun h k => ?_)))
  · -- yes
    exact Bk.cons (St.raise1 (excCls52 w) ty52 kp_CodeError (G_CodeError G mem1 lf) (VL.one cS) k)
  · -- no
    refine Bk.nil ?_
    exact Bk.nil k
noncomputable def L_check_known (order_:Row) (at_:Int):Option PExc:=(if (!(L_is_known_code order_.c)) = true then (some ⟨64, (Str.ofString "no such order"), (some at_)⟩) else (if ((!((decide ((0:Int) ≤ order_.t)) && (decide (order_.t ≤ (255:Int))))) || ((!((decide ((0:Int) ≤ order_.f)) && (decide (order_.f ≤ (255:Int))))) || (!((decide ((0:Int) ≤ order_.k)) && (decide (order_.k ≤ (4294967295:Int))))))) = true then (some ⟨64, (Str.ofString "field out of range"), (some at_)⟩) else none))
theorem f_check_known {order_:Row} {at_:Int}  (k:rn K X σ (L_check_known order_ at_)):PrimC w H₀ (n + 6) [ordP order_, .int at_] σ (.ref 322) K X:=by
  refine PrimC.def (params:=["order", "at"]) (ns:=["order", "at"]) (ks:=[.local, .local]) (gs:=["is_known_code", "ProgramError", "U32"]) (vs:=[some (ordP order_), some (.int at_)]) (oc':=[]) rfl (by kernel_rfl) ?_ rfl rfl rfl (by kernel_rfl) (by kernel_rfl) rfl rfl ?_
  · intro vals hv
    apply len2 hv; intros; rfl
  intro S G
  refine Bk.cons (St.iteV (TP.not (TP.val (VP.fn (G_is_known_code G mem1 lf) kp_is_known_code (VL.one (VP.code (nv G 0 rfl))) (f_is_known_code lp)) (fun J J => rfl))) (iteN k (fun h k => ?_) (fun h k => ?_)))
  · -- yes
    exact Bk.cons (St.raise2 (excCls64 w) ty64 kp_ProgramError (G_ProgramError G (mem2 mem1) lf) (VL.two cS (nv G 1 rfl)) k)
  · -- no
    refine Bk.nil ?_
    refine Bk.cons (St.iteV (TP.or (TP.not (TP.cmp2 cI (VP.jt (nv G 0 rfl)) (p_le lp) cI (p_le lp))) (fun hh => (TP.or (TP.not (TP.cmp2 cI (VP.jf (nv G 0 rfl)) (p_le lp) cI (p_le lp))) (fun hh => (TP.or1 (TP.not (TP.cmp2 cI (VP.k (nv G 0 rfl)) (p_le lp) (G_U32 G (mem2 (mem2 mem1)) lf) (p_le lp)))))))) (iteN k (fun h k => ?_) (fun h k => ?_)))
    · -- yes
      exact Bk.cons (St.raise2 (excCls64 w) ty64 kp_ProgramError (G_ProgramError G (mem2 mem1) lf) (VL.two cS (nv G 1 rfl)) k)
    · -- no
      refine Bk.nil ?_
      exact Bk.nil k
end
theorem sz_le {m:Nat} (h:m ≤ 1000):m ≤ sizeLine:=sizeOk_le h
theorem idx_lt {L:List Str} {x:Str} (hm:L.any (· == x) = true):L.idxOf x < L.length:=by
  rw [List.any_eq_true] at hm
  obtain ⟨y, hy, e⟩:=hm
  exact List.idxOf_lt_length_iff.mpr (beq_iff_eq.mp e ▸ hy)
theorem idxOf_ne:∀ {L:List Str} {x:Str} {m:Nat}, m < L.idxOf x → L[m]? ≠ some x
  | [], x, m, h => by simp at h
  | y :: L, x, m, h => by
    rw [List.idxOf_cons] at h
    cases hy:y == x with
    | true => rw [hy] at h; simp at h
    | false =>
      rw [hy] at h
      simp only [cond_false] at h
      cases m with
      | zero => simp; exact fun e => by simp [e] at hy
      | succ m => simpa using idxOf_ne (by lia)
noncomputable def maxI (l:List Int):Int:=List.rec 0 (fun a l ih => List.casesOn l a fun J J => max a ih) l
theorem maxI_ge:∀ {l:List Int} {a:Int}, a ∈ l → a ≤ maxI l
  | [b], a, h => by simp at h; subst h; exact Int.le_refl _
  | b :: c :: l, a, h => by
    rcases List.mem_cons.mp h with rfl | h
    · exact Int.le_max_left _ _
    · exact Int.le_trans (maxI_ge h) (Int.le_max_right _ _)
theorem maxI_mem:∀ {l:List Int}, 0 < l.length → maxI l ∈ l
  | [b], _ => .head _
  | b :: c :: l, _ => by
    have:=maxI_mem (l:=c :: l) (by simp)
    show max b (maxI (c :: l)) ∈ _
    rcases Int.le_total b (maxI (c :: l)) with h | h
    · rw [Int.max_eq_right h]; exact List.mem_cons_of_mem _ this
    · rw [Int.max_eq_left h]; exact List.mem_cons_self
section
variable {w:World} {H₀:Heap} {S:Fx} {n:Nat} {σ:Store} {vs:Slots}
theorem VP.index {o e:Expr} {ap p:Pos} {L:List Str} {x:Str} (hb:∀ env, attributeBase o "index" env (eval o env) = eval o env) (hl:(ap.endLine == p.line) = true) (ho:VP w H₀ S n vs σ o (.lst (pvS L))) (ha:VP w H₀ S n vs σ e (.str x)) (hm:L.any (· == x) = true) (hz:L.length ≤ 1000)
    (he:∀ env, starEach [e] env = (false, eval e env) :: starEach [] env:=by intro _; rfl):VP w H₀ S n vs σ (.Call (.Attribute o "index" ap) [e] [] p) (.int (L.idxOf x:Nat)) :=
  EvE.index hb hl he (ho.use ⟨L, rfl, ha.use ⟨x, L.idxOf x, rfl, idx_lt hm, List.getElem?_eq_some_iff.mpr ⟨idx_lt hm, List.getElem_idxOf (idx_lt hm)⟩, fun m hlt => idxOf_ne hlt, hz, lf⟩⟩)
theorem VP.ifL {t a c:Expr} {p:Pos} {b:Bool} {x y:List Int} (ht:TP w H₀ S n vs σ t b) (ha:b = true → VP w H₀ S n vs σ a (.lst (pvI x))) (hc:b = false → VP w H₀ S n vs σ c (.lst (pvI y))):VP w H₀ S n vs σ (.IfExp t a c p) (.lst (pvI (if b = true then x else y))):=by
  refine EvE.ifexp (ht.use ?_)
  cases b
  · exact hc rfl
  · exact ha rfl
theorem p_maxV {l:List Int} (hne:0 < l.length) (hN:4 ≤ n:=by first | exact Nat.le_add_left 4 _ | assumption):PP w H₀ n σ [.lst (pvI l)] (fun vals => PySem.call (.builtin "max") vals) (.int (maxI l)) :=
  p_max hne (fun M hM hle => ⟨by rw [show M = maxI l from Int.le_antisymm (maxI_ge hM) (hle _ (maxI_mem hne))], rfl⟩) hN
theorem idxA {L:List Str} {x:Str} (hz:Nat.ble L.length 1000 = true:=by rfl):((L.idxOf x:Nat):Int).natAbs < 2 ^ 64:=by
  have:=List.idxOf_le_length (a:=x) (l:=L)
  have:=Nat.le_of_ble_eq_true hz
  rw [Int.natAbs_natCast]; lia
end
section
variable {w:World} {H₀:Heap} {n:Nat} {σ:Store} {K:PV → Store → Prop} {X:PExc → Store → Prop}
noncomputable def L_check_number (order_:Row) (at_:Int):Option PExc:=(if (((Builtin.bitAnd order_.c (7:Int)) == (4:Int)) && (!(L_is_by_x order_))) = true then (if ((order_.k == (0:Int)) && (((L_alu_name order_) == (Str.ofString "div")) || ((L_alu_name order_) == (Str.ofString "mod")))) = true then (some ⟨64, (Str.ofString "division by zero"), (some at_)⟩) else (if ((decide ((31:Int) < order_.k)) && (((L_alu_name order_) == (Str.ofString "lsh")) || ((L_alu_name order_) == (Str.ofString "rsh")))) = true then (some ⟨64, (Str.ofString "shift out of range"), (some at_)⟩) else (if ((decide ((16:Int) ≤ (L_read_cell order_))) || (decide ((16:Int) ≤ (L_written_cell order_)))) = true then (some ⟨64, (Str.ofString "no such cell"), (some at_)⟩) else none))) else (if ((decide ((16:Int) ≤ (L_read_cell order_))) || (decide ((16:Int) ≤ (L_written_cell order_)))) = true then (some ⟨64, (Str.ofString "no such cell"), (some at_)⟩) else none))
theorem f_check_number {order_:Row} {at_:Int}   (k:rn K X σ (L_check_number order_ at_)):PrimC w H₀ (n + 7) [ordP order_, .int at_] σ (.ref 329) K X:=by
  refine PrimC.def (params:=["order", "at"]) (ns:=["order", "at", "name"]) (ks:=[.local, .local, .local]) (gs:=["ALU", "is_by_x", "alu_name", "ProgramError", "read_cell", "CELLS", "written_cell"]) (vs:=[some (ordP order_), some (.int at_), none]) (oc':=[]) rfl (by kernel_rfl) ?_ rfl rfl rfl (by kernel_rfl) (by kernel_rfl) rfl rfl ?_
  · intro vals hv
    apply len2 hv; intros; rfl
  intro S G
  refine Bk.cons (St.iteV (TP.and (TP.cmp (VP.bin (VP.code (nv G 0 rfl)) cI (p_band lp)) (G_ALU G mem1 lf) (p_eq lp)) (fun hh => (TP.and1 (TP.not (TP.val (VP.fn (G_is_by_x G (mem2 mem1) lf) kp_is_by_x (VL.one (nv G 0 rfl)) (f_is_by_x lp)) (fun J J => rfl)))))) (iteN k (fun h k => ?_) (fun h k => ?_)))
  · -- yes
    refine Bk.cons (St.asnV G (VP.fn (G_alu_name G (mem2 (mem2 mem1)) lf) kp_alu_name (VL.one (nv G 0 rfl)) (f_alu_name lp)) (.l (.tail (.tail .head))) ?_)
    refine Bk.cons (St.iteV (TP.and (TP.cmp (VP.k (nv G 0 rfl)) cI (p_eq lp)) (fun hh => (TP.and1 (TP.or (TP.cmp (nv G 2 rfl) cS (p_eqS lp)) (fun hh => (TP.or1 (TP.cmp (nv G 2 rfl) cS (p_eqS lp)))))))) (iteN k (fun h k => ?_) (fun h k => ?_)))
    · -- yes
      exact Bk.cons (St.raise2 (excCls64 w) ty64 kp_ProgramError (G_ProgramError G (mem2 (mem2 (mem2 mem1))) lf) (VL.two cS (nv G 1 rfl)) k)
    · -- no
      refine Bk.nil ?_
      refine Bk.cons (St.iteV (TP.and (TP.cmp (VP.k (nv G 0 rfl)) cI (p_gt lp)) (fun hh => (TP.and1 (TP.or (TP.cmp (nv G 2 rfl) cS (p_eqS lp)) (fun hh => (TP.or1 (TP.cmp (nv G 2 rfl) cS (p_eqS lp)))))))) (iteN k (fun h k => ?_) (fun h k => ?_)))
      · -- yes
        exact Bk.cons (St.raise2 (excCls64 w) ty64 kp_ProgramError (G_ProgramError G (mem2 (mem2 (mem2 mem1))) lf) (VL.two cS (nv G 1 rfl)) k)
      · -- no
        refine Bk.nil ?_
        refine Bk.nil ?_
        refine Bk.cons (St.iteV (TP.or (TP.cmp (VP.fn (G_read_cell G (mem2 (mem2 (mem2 (mem2 mem1)))) lf) kp_read_cell (VL.one (nv G 0 rfl)) (f_read_cell lp)) (G_CELLS G (mem2 (mem2 (mem2 (mem2 (mem2 mem1))))) lf) (p_ge lp)) (fun hh => (TP.or1 (TP.cmp (VP.fn (G_written_cell G (mem2 (mem2 (mem2 (mem2 (mem2 (mem2 mem1)))))) lf) kp_written_cell (VL.one (nv G 0 rfl)) (f_written_cell lp)) (G_CELLS G (mem2 (mem2 (mem2 (mem2 (mem2 mem1))))) lf) (p_ge lp))))) (iteN k (fun h k => ?_) (fun h k => ?_)))
        · -- yes
          exact Bk.cons (St.raise2 (excCls64 w) ty64 kp_ProgramError (G_ProgramError G (mem2 (mem2 (mem2 mem1))) lf) (VL.two cS (nv G 1 rfl)) k)
        · -- no
          refine Bk.nil ?_
          exact Bk.nil k
  · -- no
    refine Bk.nil ?_
    refine Bk.cons (St.iteV (TP.or (TP.cmp (VP.fn (G_read_cell G (mem2 (mem2 (mem2 (mem2 mem1)))) lf) kp_read_cell (VL.one (nv G 0 rfl)) (f_read_cell lp)) (G_CELLS G (mem2 (mem2 (mem2 (mem2 (mem2 mem1))))) lf) (p_ge lp)) (fun hh => (TP.or1 (TP.cmp (VP.fn (G_written_cell G (mem2 (mem2 (mem2 (mem2 (mem2 (mem2 mem1)))))) lf) kp_written_cell (VL.one (nv G 0 rfl)) (f_written_cell lp)) (G_CELLS G (mem2 (mem2 (mem2 (mem2 (mem2 mem1))))) lf) (p_ge lp))))) (iteN k (fun h k => ?_) (fun h k => ?_)))
    · -- yes
      exact Bk.cons (St.raise2 (excCls64 w) ty64 kp_ProgramError (G_ProgramError G (mem2 (mem2 (mem2 mem1))) lf) (VL.two cS (nv G 1 rfl)) k)
    · -- no
      refine Bk.nil ?_
      exact Bk.nil k
noncomputable def L_goals_of_classic (r_:Row) (at_:Int):List Int:=(if (L_is_return r_) = true then [] else (if (!(L_is_jump_order r_)) = true then [(at_ + (1:Int))] else (if ((L_jump_name r_) == (Str.ofString "ja")) = true then [((at_ + (1:Int)) + r_.k)] else (if (r_.t == r_.f) = true then [((at_ + (1:Int)) + r_.t)] else [((at_ + (1:Int)) + r_.t), ((at_ + (1:Int)) + r_.f)]))))
theorem f_goals_of_classic {orders_:List Row} {at_:Int} {r_:Row} (h0_:0 ≤ at_) (hx_:orders_[at_.toNat]? = some r_) (hz_:orders_.length ≤ 1000) (k:K (.lst (pvI (L_goals_of_classic r_ at_))) σ):PrimC w H₀ (n + 6) [.lst (List.map ordP orders_), .int at_] σ (.ref 176) K X:=by
  refine PrimC.def (params:=["orders", "at"]) (ns:=["orders", "at", "order"]) (ks:=[.local, .local, .local]) (gs:=["is_return", "is_jump_order", "jump_name"]) (vs:=[some (.lst (List.map ordP orders_)), some (.int at_), none]) (oc':=[]) rfl (by kernel_rfl) ?_ rfl rfl rfl (by kernel_rfl) (by kernel_rfl) rfl rfl ?_
  · intro vals hv
    apply len2 hv; intros; rfl
  intro S G
  refine Bk.cons (St.asnV G (VP.item (nv G 0 rfl) (nv G 1 rfl) (p_itemO h0_ hx_ hz_)) (.l (.tail (.tail .head))) ?_)
  refine Bk.cons (St.iteV (TP.val (VP.fn (G_is_return G mem1 lf) kp_is_return (VL.one (nv G 2 rfl)) (f_is_return lp)) (fun J J => rfl)) (iteP (P:=fun x => K (.lst (pvI x)) σ) k (fun h k => ?_) (fun h k => ?_)))
  · -- yes
    exact Bk.cons (St.retV (VP.list VL.nil) k)
  · -- no
    refine Bk.nil ?_
    refine Bk.cons (St.iteV (TP.not (TP.val (VP.fn (G_is_jump_order G (mem2 mem1) lf) kp_is_jump_order (VL.one (nv G 2 rfl)) (f_is_jump_order lp)) (fun J J => rfl))) (iteP (P:=fun x => K (.lst (pvI x)) σ) k (fun h k => ?_) (fun h k => ?_)))
    · -- yes
      exact Bk.cons (St.retV (VP.list (VL.one (VP.bin (nv G 1 rfl) cI (p_add lp)))) k)
    · -- no
      refine Bk.nil ?_
      refine Bk.cons (St.iteV (TP.cmp (VP.fn (G_jump_name G (mem2 (mem2 mem1)) lf) kp_jump_name (VL.one (nv G 2 rfl)) (f_jump_name lp)) cS (p_eqS lp)) (iteP (P:=fun x => K (.lst (pvI x)) σ) k (fun h k => ?_) (fun h k => ?_)))
      · -- yes
        exact Bk.cons (St.retV (VP.list (VL.one (VP.bin (VP.bin (nv G 1 rfl) cI (p_add lp)) (VP.k (nv G 2 rfl)) (p_add lp)))) k)
      · -- no
        refine Bk.nil ?_
        refine Bk.cons (St.iteV (TP.cmp (VP.jt (nv G 2 rfl)) (VP.jf (nv G 2 rfl)) (p_eq lp)) (iteP (P:=fun x => K (.lst (pvI x)) σ) k (fun h k => ?_) (fun h k => ?_)))
        · -- yes
          exact Bk.cons (St.retV (VP.list (VL.one (VP.bin (VP.bin (nv G 1 rfl) cI (p_add lp)) (VP.jt (nv G 2 rfl)) (p_add lp)))) k)
        · -- no
          refine Bk.nil ?_
          exact Bk.cons (St.retV (VP.list (VL.two (VP.bin (VP.bin (nv G 1 rfl) cI (p_add lp)) (VP.jt (nv G 2 rfl)) (p_add lp)) (VP.bin (VP.bin (nv G 1 rfl) cI (p_add lp)) (VP.jf (nv G 2 rfl)) (p_add lp)))) k)
noncomputable def L_law_goals (r_:Row) (at_:Int):List Int:=(if ((Int.fmod r_.c (8:Int)) == (6:Int)) = true then [] else (if ((Int.fmod r_.c (8:Int)) != (5:Int)) = true then [(at_ + (1:Int))] else (if (r_.c == (5:Int)) = true then [((at_ + (1:Int)) + r_.k)] else (if (r_.t == r_.f) = true then [((at_ + (1:Int)) + r_.t)] else [((at_ + (1:Int)) + r_.t), ((at_ + (1:Int)) + r_.f)]))))
theorem f_law_goals {rows_:List Row} {at_:Int} {r_:Row} (h0_:0 ≤ at_) (hx_:rows_[at_.toNat]? = some r_) (hz_:rows_.length ≤ 1000) (k:K (.lst (pvI (L_law_goals r_ at_))) σ):PrimC w H₀ (n + 6) [.lst (List.map rowP rows_), .int at_] σ (.ref 365) K X:=by
  refine PrimC.def (params:=["rows", "at"]) (ns:=["rows", "at", "code", "jt", "jf", "k"]) (ks:=[.local, .local, .local, .local, .local, .local]) (gs:=[]) (vs:=[some (.lst (List.map rowP rows_)), some (.int at_), none, none, none, none]) (oc':=[]) rfl (by kernel_rfl) ?_ rfl rfl rfl (by kernel_rfl) (by kernel_rfl) rfl rfl ?_
  · intro vals hv
    apply len2 hv; intros; rfl
  intro S G
  refine Bk.cons (St.tup (VP.use (VP.item (nv G 0 rfl) (nv G 1 rfl) (p_itemR h0_ hx_ hz_)) (AsT.tup (fun J => rfl) (fun J => rfl) (AsL.cons (AsT.nam G (.l (.tail (.tail .head))) (AsL.cons (AsT.nam G (.l (.tail (.tail (.tail .head)))) (AsL.cons (AsT.nam G (.l (.tail (.tail (.tail (.tail .head))))) (AsL.cons (AsT.nam G (.l (.tail (.tail (.tail (.tail (.tail .head)))))) (AsL.nil ?_))))))))))) (fun J => rfl) (fun J => rfl))
  refine Bk.cons (St.iteV (TP.cmp (VP.bin (nv G 2 rfl) cI (p_mod (by first | assumption | decide | lia) lp)) cI (p_eq lp)) (iteP (P:=fun x => K (.lst (pvI x)) σ) k (fun h k => ?_) (fun h k => ?_)))
  · -- yes
    exact Bk.cons (St.retV (VP.list VL.nil) k)
  · -- no
    refine Bk.nil ?_
    refine Bk.cons (St.iteV (TP.cmp (VP.bin (nv G 2 rfl) cI (p_mod (by first | assumption | decide | lia) lp)) cI (p_ne lp)) (iteP (P:=fun x => K (.lst (pvI x)) σ) k (fun h k => ?_) (fun h k => ?_)))
    · -- yes
      exact Bk.cons (St.retV (VP.list (VL.one (VP.bin (nv G 1 rfl) cI (p_add lp)))) k)
    · -- no
      refine Bk.nil ?_
      exact Bk.cons (St.retV (VP.ifL (x:=[((at_ + (1:Int)) + r_.k)]) (y:=(if (r_.t == r_.f) = true then [((at_ + (1:Int)) + r_.t)] else [((at_ + (1:Int)) + r_.t), ((at_ + (1:Int)) + r_.f)])) (TP.cmp (nv G 2 rfl) cI (p_eq lp)) (fun hh => (VP.list (VL.one (VP.bin (VP.bin (nv G 1 rfl) cI (p_add lp)) (nv G 5 rfl) (p_add lp))))) (fun hh => (VP.ifL (x:=[((at_ + (1:Int)) + r_.t)]) (y:=[((at_ + (1:Int)) + r_.t), ((at_ + (1:Int)) + r_.f)]) (TP.cmp (nv G 3 rfl) (nv G 4 rfl) (p_eq lp)) (fun hh => (VP.list (VL.one (VP.bin (VP.bin (nv G 1 rfl) cI (p_add lp)) (nv G 3 rfl) (p_add lp))))) (fun hh => (VP.list (VL.two (VP.bin (VP.bin (nv G 1 rfl) cI (p_add lp)) (nv G 3 rfl) (p_add lp)) (VP.bin (VP.bin (nv G 1 rfl) cI (p_add lp)) (nv G 4 rfl) (p_add lp)))))))) k)
noncomputable def L_spot_in (L_:List Str) (name_:Str):Out:=(if (!((L_).any (· == name_))) = true then (.error ⟨52, (Str.ofString "no order " ++ name_), none⟩) else (.ok (.int ((L_.idxOf name_:Nat):Int))))
theorem f_spot_in {names_:Str} {name_:Str} {L_:List Str} (sp_:SplitOk names_ L_) (hn_:name_.length ≤ 991) (k:ro K X σ (L_spot_in L_ name_)):PrimC w H₀ (n + 6) [.str names_, .str name_] σ (.ref 217) K X:=by
  refine PrimC.def (params:=["names", "name"]) (ns:=["names", "name", "found"]) (ks:=[.local, .local, .local]) (gs:=["CodeError"]) (vs:=[some (.str names_), some (.str name_), none]) (oc':=[]) rfl (by kernel_rfl) ?_ rfl rfl rfl (by kernel_rfl) (by kernel_rfl) rfl rfl ?_
  · intro vals hv
    apply len2 hv; intros; rfl
  intro S G
  refine Bk.cons (St.asnV G (VP.split (fun J => rfl) rfl sp_ (nv G 0 rfl)) (.l (.tail (.tail .head))) ?_)
  refine Bk.cons (St.iteV (TP.cmp (nv G 1 rfl) (nv G 2 rfl) (p_ninS lp)) (iteR k (fun h k => ?_) (fun h k => ?_)))
  · -- yes
    exact Bk.cons (St.raise1 (excCls52 w) ty52 kp_CodeError (G_CodeError G mem1 lf) (VL.one (VP.bin cS (nv G 1 rfl) (p_addS (sz_le (Nat.add_le_add (b:=9) (by decide) hn_)) lp))) k)
  · -- no
    refine Bk.nil ?_
    exact Bk.cons (St.retV (VP.index (fun J => rfl) rfl (nv G 2 rfl) (nv G 1 rfl) (by simpa using h) (by have:=sp_.sz; simp only [Bool.and_eq_true, Nat.ble_eq] at this; exact this.2)) k)
theorem f_spot_ok {names_ name_:Str} {L_:List Str} (sp_:SplitOk names_ L_) (hn_:name_.length ≤ 991) (hm:L_.any (· == name_) = true) (k:K (.int (L_.idxOf name_:Nat)) σ):PrimC w H₀ (n + 6) [.str names_, .str name_] σ (.ref 217) K X :=
  f_spot_in sp_ hn_ (by unfold L_spot_in; rw [hm]; exact k)
noncomputable def L_ld (size_:Str) (mode_:Str) (k_:Int):Out:=(if (!(L_is_known_code (((0:Int) + (((sizeNames.idxOf size_:Nat):Int) * 2 ^ Int.toNat (3:Int))) + (((modeNames.idxOf mode_:Nat):Int) * 2 ^ Int.toNat (5:Int))))) = true then (.error ⟨52, (Str.ofString "no load " ++ mode_), none⟩) else (.ok (ordP (Row.mk (((0:Int) + (((sizeNames.idxOf size_:Nat):Int) * 2 ^ Int.toNat (3:Int))) + (((modeNames.idxOf mode_:Nat):Int) * 2 ^ Int.toNat (5:Int))) (0:Int) (0:Int) k_))))
theorem f_ld {size_:Str} {mode_:Str} {k_:Int}  (hs_:sizeNames.any (· == size_) = true) (hs2_:size_.length ≤ 991) (hm_:modeNames.any (· == mode_) = true) (hm2_:mode_.length ≤ 991) (k:ro K X σ (L_ld size_ mode_ k_)):PrimC w H₀ (n + 7) [.str size_, .str mode_, .int k_] σ (.ref 224) K X:=by
  refine PrimC.def (params:=["size", "mode", "k"]) (ns:=["size", "mode", "k", "code"]) (ks:=[.local, .local, .local, .local]) (gs:=["LD", "spot_in", "SIZE_NAMES", "MODE_NAMES", "is_known_code", "CodeError", "ClassicOrder"]) (vs:=[some (.str size_), some (.str mode_), some (.int k_), none]) (oc':=[]) rfl (by kernel_rfl) ?_ rfl rfl rfl (by kernel_rfl) (by kernel_rfl) rfl rfl ?_
  · intro vals hv
    apply len3 hv; intros; rfl
  intro S G
  refine Bk.cons (St.asnV G (VP.bin (VP.bin (G_LD G mem1 lf) (VP.bin (VP.fn (G_spot_in G (mem2 mem1) lf) kp_spot_in (VL.two (G_SIZE_NAMES G (mem2 (mem2 mem1)) lf) (nv G 0 rfl)) (f_spot_ok sp_SIZE hs2_ hs_ lp)) cI (p_shl (by decide) (by decide) idxA lp)) (p_add lp)) (VP.bin (VP.fn (G_spot_in G (mem2 mem1) lf) kp_spot_in (VL.two (G_MODE_NAMES G (mem2 (mem2 (mem2 mem1))) lf) (nv G 1 rfl)) (f_spot_ok sp_MODE hm2_ hm_ lp)) cI (p_shl (by decide) (by decide) idxA lp)) (p_add lp)) (.l (.tail (.tail (.tail .head)))) ?_)
  refine Bk.cons (St.iteV (TP.not (TP.val (VP.fn (G_is_known_code G (mem2 (mem2 (mem2 (mem2 mem1)))) lf) kp_is_known_code (VL.one (nv G 3 rfl)) (f_is_known_code lp)) (fun J J => rfl))) (iteR k (fun h k => ?_) (fun h k => ?_)))
  · -- yes
    exact Bk.cons (St.raise1 (excCls52 w) ty52 kp_CodeError (G_CodeError G (mem2 (mem2 (mem2 (mem2 (mem2 mem1))))) lf) (VL.one (VP.bin cS (nv G 1 rfl) (p_addS (sz_le (Nat.add_le_add (b:=9) (by decide) hm2_)) lp))) k)
  · -- no
    refine Bk.nil ?_
    exact Bk.cons (St.retV (VP.fn (G_ClassicOrder G (mem2 (mem2 (mem2 (mem2 (mem2 (mem2 mem1)))))) lf) kp_ClassicOrder (VL.four (nv G 3 rfl) cI cI (nv G 2 rfl)) (p_order lp)) k)
noncomputable def L_ldx (mode_:Str) (k_:Int):Out:=(if (mode_ == (Str.ofString "msh")) = true then (.ok (ordP (Row.mk (177:Int) (0:Int) (0:Int) k_))) else (if (!(L_is_known_code ((1:Int) + (((modeNames.idxOf mode_:Nat):Int) * 2 ^ Int.toNat (5:Int))))) = true then (.error ⟨52, (Str.ofString "no load " ++ mode_), none⟩) else (.ok (ordP (Row.mk ((1:Int) + (((modeNames.idxOf mode_:Nat):Int) * 2 ^ Int.toNat (5:Int))) (0:Int) (0:Int) k_)))))
theorem f_ldx {mode_:Str} {k_:Int}  (hm_:modeNames.any (· == mode_) = true) (hm2_:mode_.length ≤ 991) (k:ro K X σ (L_ldx mode_ k_)):PrimC w H₀ (n + 7) [.str mode_, .int k_] σ (.ref 231) K X:=by
  refine PrimC.def (params:=["mode", "k"]) (ns:=["mode", "k", "code"]) (ks:=[.local, .local, .local]) (gs:=["ClassicOrder", "MSH_CODE", "LDX", "spot_in", "MODE_NAMES", "is_known_code", "CodeError"]) (vs:=[some (.str mode_), some (.int k_), none]) (oc':=[]) rfl (by kernel_rfl) ?_ rfl rfl rfl (by kernel_rfl) (by kernel_rfl) rfl rfl ?_
  · intro vals hv
    apply len2 hv; intros; rfl
  intro S G
  refine Bk.cons (St.iteV (TP.cmp (nv G 0 rfl) cS (p_eqS lp)) (iteR k (fun h k => ?_) (fun h k => ?_)))
  · -- yes
    exact Bk.cons (St.retV (VP.fn (G_ClassicOrder G mem1 lf) kp_ClassicOrder (VL.four (G_MSH_CODE G (mem2 mem1) lf) cI cI (nv G 1 rfl)) (p_order lp)) k)
  · -- no
    refine Bk.nil ?_
    refine Bk.cons (St.asnV G (VP.bin (G_LDX G (mem2 (mem2 mem1)) lf) (VP.bin (VP.fn (G_spot_in G (mem2 (mem2 (mem2 mem1))) lf) kp_spot_in (VL.two (G_MODE_NAMES G (mem2 (mem2 (mem2 (mem2 mem1)))) lf) (nv G 0 rfl)) (f_spot_ok sp_MODE hm2_ hm_ lp)) cI (p_shl (by decide) (by decide) idxA lp)) (p_add lp)) (.l (.tail (.tail .head))) ?_)
    refine Bk.cons (St.iteV (TP.not (TP.val (VP.fn (G_is_known_code G (mem2 (mem2 (mem2 (mem2 (mem2 mem1))))) lf) kp_is_known_code (VL.one (nv G 2 rfl)) (f_is_known_code lp)) (fun J J => rfl))) (iteR k (fun h k => ?_) (fun h k => ?_)))
    · -- yes
      exact Bk.cons (St.raise1 (excCls52 w) ty52 kp_CodeError (G_CodeError G (mem2 (mem2 (mem2 (mem2 (mem2 (mem2 mem1)))))) lf) (VL.one (VP.bin cS (nv G 0 rfl) (p_addS (sz_le (Nat.add_le_add (b:=9) (by decide) hm2_)) lp))) k)
    · -- no
      refine Bk.nil ?_
      exact Bk.cons (St.retV (VP.fn (G_ClassicOrder G mem1 lf) kp_ClassicOrder (VL.four (nv G 2 rfl) cI cI (nv G 1 rfl)) (p_order lp)) k)
noncomputable def L_st (k_:Int):Row:=(Row.mk (2:Int) (0:Int) (0:Int) k_)
theorem f_st {k_:Int}   (k:K (ordP (L_st k_)) σ):PrimC w H₀ (n + 5) [.int k_] σ (.ref 238) K X:=by
  refine PrimC.def (params:=["k"]) (ns:=["k"]) (ks:=[.local]) (gs:=["ClassicOrder", "ST"]) (vs:=[some (.int k_)]) (oc':=[]) rfl (by kernel_rfl) ?_ rfl rfl rfl (by kernel_rfl) (by kernel_rfl) rfl rfl ?_
  · intro vals hv
    apply len1 hv; intros; rfl
  intro S G
  exact Bk.cons (St.retV (VP.fn (G_ClassicOrder G mem1 lf) kp_ClassicOrder (VL.four (G_ST G (mem2 mem1) lf) cI cI (nv G 0 rfl)) (p_order lp)) k)
noncomputable def L_stx (k_:Int):Row:=(Row.mk (3:Int) (0:Int) (0:Int) k_)
theorem f_stx {k_:Int}   (k:K (ordP (L_stx k_)) σ):PrimC w H₀ (n + 5) [.int k_] σ (.ref 245) K X:=by
  refine PrimC.def (params:=["k"]) (ns:=["k"]) (ks:=[.local]) (gs:=["ClassicOrder", "STX"]) (vs:=[some (.int k_)]) (oc':=[]) rfl (by kernel_rfl) ?_ rfl rfl rfl (by kernel_rfl) (by kernel_rfl) rfl rfl ?_
  · intro vals hv
    apply len1 hv; intros; rfl
  intro S G
  exact Bk.cons (St.retV (VP.fn (G_ClassicOrder G mem1 lf) kp_ClassicOrder (VL.four (G_STX G (mem2 mem1) lf) cI cI (nv G 0 rfl)) (p_order lp)) k)
noncomputable def L_ja (k_:Int):Row:=(Row.mk (5:Int) (0:Int) (0:Int) k_)
theorem f_ja {k_:Int}   (k:K (ordP (L_ja k_)) σ):PrimC w H₀ (n + 5) [.int k_] σ (.ref 287) K X:=by
  refine PrimC.def (params:=["k"]) (ns:=["k"]) (ks:=[.local]) (gs:=["ClassicOrder", "JMP"]) (vs:=[some (.int k_)]) (oc':=[]) rfl (by kernel_rfl) ?_ rfl rfl rfl (by kernel_rfl) (by kernel_rfl) rfl rfl ?_
  · intro vals hv
    apply len1 hv; intros; rfl
  intro S G
  exact Bk.cons (St.retV (VP.fn (G_ClassicOrder G mem1 lf) kp_ClassicOrder (VL.four (G_JMP G (mem2 mem1) lf) cI cI (nv G 0 rfl)) (p_order lp)) k)
noncomputable def L_ret_k (k_:Int):Row:=(Row.mk (6:Int) (0:Int) (0:Int) k_)
theorem f_ret_k {k_:Int}   (k:K (ordP (L_ret_k k_)) σ):PrimC w H₀ (n + 5) [.int k_] σ (.ref 294) K X:=by
  refine PrimC.def (params:=["k"]) (ns:=["k"]) (ks:=[.local]) (gs:=["ClassicOrder", "RET"]) (vs:=[some (.int k_)]) (oc':=[]) rfl (by kernel_rfl) ?_ rfl rfl rfl (by kernel_rfl) (by kernel_rfl) rfl rfl ?_
  · intro vals hv
    apply len1 hv; intros; rfl
  intro S G
  exact Bk.cons (St.retV (VP.fn (G_ClassicOrder G mem1 lf) kp_ClassicOrder (VL.four (G_RET G (mem2 mem1) lf) cI cI (nv G 0 rfl)) (p_order lp)) k)
noncomputable def L_ret_a :Row:=(Row.mk ((6:Int) + (16:Int)) (0:Int) (0:Int) (0:Int))
theorem f_ret_a    (k:K (ordP (L_ret_a )) σ):PrimC w H₀ (n + 5) [] σ (.ref 301) K X:=by
  refine PrimC.def (params:=[]) (ns:=[]) (ks:=[]) (gs:=["ClassicOrder", "RET", "RETURN_A"]) (vs:=[]) (oc':=[]) rfl (by kernel_rfl) ?_ rfl rfl rfl (by kernel_rfl) (by kernel_rfl) rfl rfl ?_
  · intro vals hv
    apply len0 hv; rfl
  intro S G
  exact Bk.cons (St.retV (VP.fn (G_ClassicOrder G mem1 lf) kp_ClassicOrder (VL.four (VP.bin (G_RET G (mem2 mem1) lf) (G_RETURN_A G (mem2 (mem2 mem1)) lf) (p_add lp)) cI cI cI) (p_order lp)) k)
noncomputable def L_tax :Row:=(Row.mk (7:Int) (0:Int) (0:Int) (0:Int))
theorem f_tax    (k:K (ordP (L_tax )) σ):PrimC w H₀ (n + 5) [] σ (.ref 308) K X:=by
  refine PrimC.def (params:=[]) (ns:=[]) (ks:=[]) (gs:=["ClassicOrder", "MISC"]) (vs:=[]) (oc':=[]) rfl (by kernel_rfl) ?_ rfl rfl rfl (by kernel_rfl) (by kernel_rfl) rfl rfl ?_
  · intro vals hv
    apply len0 hv; rfl
  intro S G
  exact Bk.cons (St.retV (VP.fn (G_ClassicOrder G mem1 lf) kp_ClassicOrder (VL.four (G_MISC G (mem2 mem1) lf) cI cI cI) (p_order lp)) k)
noncomputable def L_txa :Row:=(Row.mk ((7:Int) + (128:Int)) (0:Int) (0:Int) (0:Int))
theorem f_txa    (k:K (ordP (L_txa )) σ):PrimC w H₀ (n + 5) [] σ (.ref 315) K X:=by
  refine PrimC.def (params:=[]) (ns:=[]) (ks:=[]) (gs:=["ClassicOrder", "MISC", "TXA"]) (vs:=[]) (oc':=[]) rfl (by kernel_rfl) ?_ rfl rfl rfl (by kernel_rfl) (by kernel_rfl) rfl rfl ?_
  · intro vals hv
    apply len0 hv; rfl
  intro S G
  exact Bk.cons (St.retV (VP.fn (G_ClassicOrder G mem1 lf) kp_ClassicOrder (VL.four (VP.bin (G_MISC G (mem2 mem1) lf) (G_TXA G (mem2 (mem2 mem1)) lf) (p_add lp)) cI cI cI) (p_order lp)) k)
noncomputable def L_alu_k (op_:Str) (k_:Int):Row:=(Row.mk ((4:Int) + (((aluNames.idxOf op_:Nat):Int) * 2 ^ Int.toNat (4:Int))) (0:Int) (0:Int) k_)
theorem f_alu_k {op_:Str} {k_:Int}  (hm_:aluNames.any (· == op_) = true) (hm2_:op_.length ≤ 991) (k:K (ordP (L_alu_k op_ k_)) σ):PrimC w H₀ (n + 7) [.str op_, .int k_] σ (.ref 252) K X:=by
  refine PrimC.def (params:=["op", "k"]) (ns:=["op", "k"]) (ks:=[.local, .local]) (gs:=["ClassicOrder", "ALU", "spot_in", "ALU_NAMES"]) (vs:=[some (.str op_), some (.int k_)]) (oc':=[]) rfl (by kernel_rfl) ?_ rfl rfl rfl (by kernel_rfl) (by kernel_rfl) rfl rfl ?_
  · intro vals hv
    apply len2 hv; intros; rfl
  intro S G
  exact Bk.cons (St.retV (VP.fn (G_ClassicOrder G mem1 lf) kp_ClassicOrder (VL.four (VP.bin (G_ALU G (mem2 mem1) lf) (VP.bin (VP.fn (G_spot_in G (mem2 (mem2 mem1)) lf) kp_spot_in (VL.two (G_ALU_NAMES G (mem2 (mem2 (mem2 mem1))) lf) (nv G 0 rfl)) (f_spot_ok sp_ALU hm2_ hm_ lp)) cI (p_shl (by decide) (by decide) idxA lp)) (p_add lp)) cI cI (nv G 1 rfl)) (p_order lp)) k)
noncomputable def L_alu_x (op_:Str):Out:=(if (op_ == (Str.ofString "neg")) = true then (.error ⟨52, (Str.ofString "no order neg"), none⟩) else (.ok (ordP (Row.mk (((4:Int) + (8:Int)) + (((aluNames.idxOf op_:Nat):Int) * 2 ^ Int.toNat (4:Int))) (0:Int) (0:Int) (0:Int)))))
theorem f_alu_x {op_:Str}  (hm_:aluNames.any (· == op_) = true) (hm2_:op_.length ≤ 991) (k:ro K X σ (L_alu_x op_)):PrimC w H₀ (n + 7) [.str op_] σ (.ref 259) K X:=by
  refine PrimC.def (params:=["op"]) (ns:=["op"]) (ks:=[.local]) (gs:=["CodeError", "ClassicOrder", "ALU", "BY_X", "spot_in", "ALU_NAMES"]) (vs:=[some (.str op_)]) (oc':=[]) rfl (by kernel_rfl) ?_ rfl rfl rfl (by kernel_rfl) (by kernel_rfl) rfl rfl ?_
  · intro vals hv
    apply len1 hv; intros; rfl
  intro S G
  refine Bk.cons (St.iteV (TP.cmp (nv G 0 rfl) cS (p_eqS lp)) (iteR k (fun h k => ?_) (fun h k => ?_)))
  · -- yes
    exact Bk.cons (St.raise1 (excCls52 w) ty52 kp_CodeError (G_CodeError G mem1 lf) (VL.one cS) k)
  · -- no
    refine Bk.nil ?_
    exact Bk.cons (St.retV (VP.fn (G_ClassicOrder G (mem2 mem1) lf) kp_ClassicOrder (VL.four (VP.bin (VP.bin (G_ALU G (mem2 (mem2 mem1)) lf) (G_BY_X G (mem2 (mem2 (mem2 mem1))) lf) (p_add lp)) (VP.bin (VP.fn (G_spot_in G (mem2 (mem2 (mem2 (mem2 mem1)))) lf) kp_spot_in (VL.two (G_ALU_NAMES G (mem2 (mem2 (mem2 (mem2 (mem2 mem1))))) lf) (nv G 0 rfl)) (f_spot_ok sp_ALU hm2_ hm_ lp)) cI (p_shl (by decide) (by decide) idxA lp)) (p_add lp)) cI cI cI) (p_order lp)) k)
noncomputable def L_jump_code (op_:Str):Out:=(if (op_ == (Str.ofString "ja")) = true then (.error ⟨52, (Str.ofString "no condition ja"), none⟩) else (.ok (.int ((5:Int) + (((jumpNames.idxOf op_:Nat):Int) * 2 ^ Int.toNat (4:Int))))))
theorem f_jump_code {op_:Str}  (hm_:jumpNames.any (· == op_) = true) (hm2_:op_.length ≤ 991) (k:ro K X σ (L_jump_code op_)):PrimC w H₀ (n + 7) [.str op_] σ (.ref 266) K X:=by
  refine PrimC.def (params:=["op"]) (ns:=["op"]) (ks:=[.local]) (gs:=["CodeError", "JMP", "spot_in", "JUMP_NAMES"]) (vs:=[some (.str op_)]) (oc':=[]) rfl (by kernel_rfl) ?_ rfl rfl rfl (by kernel_rfl) (by kernel_rfl) rfl rfl ?_
  · intro vals hv
    apply len1 hv; intros; rfl
  intro S G
  refine Bk.cons (St.iteV (TP.cmp (nv G 0 rfl) cS (p_eqS lp)) (iteR k (fun h k => ?_) (fun h k => ?_)))
  · -- yes
    exact Bk.cons (St.raise1 (excCls52 w) ty52 kp_CodeError (G_CodeError G mem1 lf) (VL.one cS) k)
  · -- no
    refine Bk.nil ?_
    exact Bk.cons (St.retV (VP.bin (G_JMP G (mem2 mem1) lf) (VP.bin (VP.fn (G_spot_in G (mem2 (mem2 mem1)) lf) kp_spot_in (VL.two (G_JUMP_NAMES G (mem2 (mem2 (mem2 mem1))) lf) (nv G 0 rfl)) (f_spot_ok sp_JUMP hm2_ hm_ lp)) cI (p_shl (by decide) (by decide) idxA lp)) (p_add lp)) k)
end
theorem rangeL_eq (m:Nat):rangeL 0 1 m = (List.range m).map fun i => PV.int (i:Nat):=by
  have key:∀ (m a:Nat), rangeL (a:Int) 1 m = (List.range' a m).map fun i => PV.int (i:Nat):=by
    intro m
    induction m with
    | zero => intro a; rfl
    | succ m ih =>
      intro a
      rw [List.range'_succ, List.map_cons, ← ih]
      refine (?_:PV.int a :: rangeL ((a:Int) + 1) 1 m = _)
      rw [show ((a:Int) + 1) = ((a + 1:Nat):Int) by lia]
  rw [List.range_eq_range', ← key]
  rfl
theorem rangeL8_eq (m:Nat):rangeL 0 8 m = (List.range m).map fun i => PV.int ((8 * i:Nat):Int):=by
  have key:∀ (m a:Nat), rangeL ((8 * a:Nat):Int) 8 m = (List.range' a m).map fun i => PV.int ((8 * i:Nat):Int):=by
    intro m
    induction m with
    | zero => intro a; rfl
    | succ m ih =>
      intro a
      rw [List.range'_succ, List.map_cons, ← ih]
      refine (?_:PV.int ((8 * a:Nat):Int) :: rangeL (((8 * a:Nat):Int) + 8) 8 m = _)
      rw [show (((8 * a:Nat):Int) + 8) = ((8 * (a + 1):Nat):Int) by lia]
  have:=key m 0
  rw [List.range_eq_range', ← this]
  rfl
theorem enumL_eq (l:List PV) (k:Nat):enumL k l = (l.zipIdx k).map fun q => PV.tup [.int (q.2:Nat), q.1]:=by
  induction l generalizing k with
  | nil => rfl
  | cons p l ih => rw [List.zipIdx_cons, List.map_cons, ← ih]; rfl
section
variable {w:World} {H₀:Heap} {S:Fx} {n:Nat} {A:Around} {env:Env} {stk:List Env} {ow md md':ASet} {σ σ':Store} {vs vs':Slots} {s:Shared} {h h':Heap} {X:PExc → Slots → Store → Prop} {ns oc gs:List Str} {ks:List NameKind} {tt:Bool}
theorem EvI.mono {iter:Expr} {K K':List PV → Slots → Store → Prop} {X':PExc → Slots → Store → Prop} (hh:EvI w H₀ S n tt iter vs σ K X) (hk:∀ p vs' σ', K p vs' σ' → K' p vs' σ') (hx:∀ p vs' σ', X p vs' σ' → X' p vs' σ'):EvI w H₀ S n tt iter vs σ K' X':=by
  refine ⟨fun A env stk ow md s c => ?_⟩
  have ex:∀ v s', GEx w H₀ S n A env stk ow md σ s X v s' → GEx w H₀ S n A env stk ow md σ s X' v s':=fun v s' x => by
    obtain ⟨pv, vs', σ', md', h', tk', e, k, c, g, st, hs, t⟩:=x; exact ⟨pv, vs', σ', md', h', tk', e, hx _ _ _ k, c, g, st, hs, t⟩
  refine wpAny_mono (hh.run A env stk ow md s c) (fun x s₁ q => wpAny_mono q (fun it s₂ q => ?_) ex) ex
  obtain ⟨l, vs', σ', md', h', tk, own, e, htt, k, r, o, c, g⟩:=q
  exact ⟨l, vs', σ', md', h', tk, own, e, htt, hk _ _ _ k, r, o, c, g⟩
noncomputable abbrev VI (w:World) (H₀:Heap) (S:Fx) (n:Nat) (vs:Slots) (σ:Store) (tt:Bool) (e:Expr) (l:List PV):Prop:=EvI w H₀ S n tt e vs σ (fun q vs' σ' => q = l ∧ vs' = vs ∧ σ' = σ) NX0
theorem VI.use {e:Expr} {l:List PV} {K:List PV → Slots → Store → Prop} (h:VI w H₀ S n vs σ tt e l) (k:K l vs σ):EvI w H₀ S n tt e vs σ K X:=h.mono (fun _ _ _ ⟨a, b, c⟩ => by subst a b c; exact k) fun J J J x => x.elim
theorem VI.lst {e:Expr} {l:List PV} (h:VP w H₀ S n vs σ e (.lst l)):VI w H₀ S n vs σ tt e l:=EvI.lst (h.use ⟨l, rfl, rfl, rfl, rfl⟩)
theorem VI.tup {e:Expr} {l:List PV} (h:VP w H₀ S n vs σ e (.tup l)):VI w H₀ S n vs σ tt e l:=EvI.tup (h.use ⟨l, rfl, rfl, rfl, rfl⟩)
theorem PrimI.mono {args:List PV} {t:List Value → Sem Value} {K K':List PV → Prop} (hh:PrimI w H₀ n tt args σ t K) (hk:∀ l, K l → K' l):PrimI w H₀ n tt args σ t K':=by
  intro A stk md s vals b r
  refine wpAny_mono (hh A stk md s vals b r) (fun x s₁ q => wpAny_mono q (fun it s₂ q => ?_) fun J J f => f) fun J J f => f
  obtain ⟨l, md', h', tk, own, e, htt, k, r⟩:=q
  exact ⟨l, md', h', tk, own, e, htt, hk _ k, r⟩
theorem VI.call {f:Expr} {es:List Expr} {p:Pos} {fv:Value} {ps l:List PV} (hf:VP w H₀ S n vs σ f (.con fv)) (hK:Kept w fv) (h:VL w H₀ S n vs σ es ps) (hp:PrimI w H₀ n tt ps σ (fun vals => PySem.call fv vals) (fun q => q = l))
    (he:∀ env, eval (.Call f es [] p) env = (do callWith p (← eval f env) [] (backTo p (starEach es env)) (backToKw p (keywordEach [] env))):=by intro _; rfl) (ha:∀ env, (backTo p (starEach es env)).any (·.1) = false:=by intro _; rfl):VI w H₀ S n vs σ tt (.Call f es [] p) l :=
  EvI.call he ha (hf.use ⟨fv, rfl, hK, h.use (hp.mono fun J e => ⟨e, rfl, rfl⟩)⟩)
theorem VI.range {f e:Expr} {p:Pos} {m:Nat} {i:Int} (hf:VP w H₀ S n vs σ f (.con (.type "range"))) (h:VP w H₀ S n vs σ e (.int i)) (hi:i = (m:Int)) (hm:m < 2 ^ 62)
    (he:∀ env, eval (.Call f [e] [] p) env = (do callWith p (← eval f env) [] (backTo p (starEach [e] env)) (backToKw p (keywordEach [] env))):=by intro _; rfl) (ha:∀ env, (backTo p (starEach [e] env)).any (·.1) = false:=by intro _; rfl) (hc:starred e = false:=by rfl):VI w H₀ S n vs σ tt (.Call f [e] [] p) ((List.range m).map fun i => PV.int (i:Nat)) :=
  VI.call hf Kept.type (VL.cons h VL.nil hc) (p_range1 hi hm (rangeL_eq m)) he ha
theorem VI.enum {f e:Expr} {p:Pos} {l:List PV} (hf:VP w H₀ S n vs σ f (.con (.type "enumerate"))) (h:VP w H₀ S n vs σ e (.lst l)) (htt:tt = true)
    (he:∀ env, eval (.Call f [e] [] p) env = (do callWith p (← eval f env) [] (backTo p (starEach [e] env)) (backToKw p (keywordEach [] env))):=by intro _; rfl) (ha:∀ env, (backTo p (starEach [e] env)).any (·.1) = false:=by intro _; rfl) (hc:starred e = false:=by rfl):VI w H₀ S n vs σ tt (.Call f [e] [] p) (l.zipIdx.map fun q => PV.tup [.int (q.2:Nat), q.1]) :=
  VI.call hf Kept.type (VL.cons h VL.nil hc) (p_enum (enumL_eq l 0) htt) he ha
theorem CompT.filt {α:Type} {t elt c:Expr} {f g:α → PV} {b:α → Bool} {V:Option α → Slots} {K:List PV → Store → Prop}:∀ (items:List α) (acc:List PV) (o:Option α), (∀ o a, a ∈ items → ∀ K X, K (V (some a)) σ → AsT w H₀ S n t (f a) (V o) σ K X) → (∀ a ∈ items, TP w H₀ S n (V (some a)) σ c (b a)) → (∀ a ∈ items, b a = true → VP w H₀ S n (V (some a)) σ elt (g a)) →
    acc.length + items.length ≤ 1000 → K (acc ++ (items.filter b).map g) σ → CompT w H₀ S n t [c] elt K (items.map f) acc (V o) σ
  | [], acc, o, _, _, _, _, k => by
    refine (?_:K acc σ)
    simpa using k
  | a :: items, acc, o, hs, hc, he, hz, k => by
    refine hs o a (.head _) _ _ ((hc a (.head _)).use ?_)
    simp only [List.length_cons] at hz
    cases hb:b a with
    | true =>
      rw [if_pos rfl]
      refine (he a (.head _) hb).use ⟨by lia, ?_⟩
      refine CompT.filt items _ _ (fun o a m => hs o a (.tail _ m)) (fun a m => hc a (.tail _ m)) (fun a m => he a (.tail _ m)) (by simp; lia) ?_
      rw [List.filter_cons_of_pos hb, List.map_cons] at k
      simpa using k
    | false =>
      rw [if_neg (by decide)]
      refine CompT.filt items _ _ (fun o a m => hs o a (.tail _ m)) (fun a m => hc a (.tail _ m)) (fun a m => he a (.tail _ m)) (by lia) ?_
      rw [List.filter_cons_of_neg (by rw [hb]; decide)] at k
      exact k
theorem CompT.map {α:Type} {t elt:Expr} {f g:α → PV} {V:Option α → Slots} {K:List PV → Store → Prop}:∀ (items:List α) (acc:List PV) (o:Option α), (∀ o a, a ∈ items → ∀ K X, K (V (some a)) σ → AsT w H₀ S n t (f a) (V o) σ K X) → (∀ a ∈ items, VP w H₀ S n (V (some a)) σ elt (g a)) →
    acc.length + items.length ≤ 1000 → K (acc ++ items.map g) σ → CompT w H₀ S n t [] elt K (items.map f) acc (V o) σ
  | [], acc, o, _, _, _, k => by
    refine (?_:K acc σ)
    simpa using k
  | a :: items, acc, o, hs, he, hz, k => by
    simp only [List.length_cons] at hz
    refine hs o a (.head _) _ _ ?_
    refine (?_:if true = true then EvE w H₀ S n elt (V (some a)) σ (fun q vs₃ σ₃ => acc.length < 1000 ∧ CompT w H₀ S n t [] elt K (items.map f) (acc ++ [q]) vs₃ σ₃) NoX else CompT w H₀ S n t [] elt K (items.map f) acc (V (some a)) σ)
    rw [if_pos rfl]
    refine (he a (.head _)).use ⟨by lia, ?_⟩
    refine CompT.map items _ _ (fun o a m => hs o a (.tail _ m)) (fun a m => he a (.tail _ m)) (by simp; lia) ?_
    simpa using k
theorem VP.comp {elt t iter:Expr} {ifs:List Expr} {scope:Scope} {pos:Pos} {l out:List PV} {ns' gs':List Str} {ks':List NameKind} (oc':List Str) (ht:TargetOk t = true) (G:S.Good ns oc ks gs) (hf:FreeOk ns ks scope.names) (hk:scope.kind = .function) (hz:hnd ((scope.names.map (·.1) ++ special).map hs) = true) (hoc:∀ x ∈ oc', (x, .cell) ∈ scope.names)
    (hI:VI w H₀ S n vs σ (isTupT t) iter l) (cs:CS ns ks vs scope.names ns' ks' gs' vs') (hC:∀ S':Fx, S'.Good ns' oc' ks' gs' → ∀ K:List PV → Store → Prop, K out σ → CompT w H₀ S' n t ifs elt K l [] vs' σ)
    (hs:∀ env x, foldedSetIterable iter env x = pure x:=by intro _ _; rfl) (hN:4 ≤ n:=by first | exact Nat.le_add_left 4 _ | assumption):VP w H₀ S n vs σ (.ListComp elt [⟨t, iter, ifs, 0⟩] scope pos) (.lst out) :=
  EvE.comp oc' ht G hf hk hz hoc hs (hI.use ⟨ns', ks', gs', vs', cs, fun S' G' => hC S' G' _ ⟨rfl, rfl, rfl⟩⟩) hN
theorem ForT.inv {α:Type} {t:Expr} {body:List Stmt} {Kn:Slots → Store → Prop} {Kr:PV → Slots → Store → Prop} (f:α → PV) (I:List α → Slots → Store → Prop)
    (step:∀ a rest vs σ, I (a :: rest) vs σ → AsT w H₀ S n t (f a) vs σ (fun vs₁ σ₁ => Bk w H₀ S n body vs₁ σ₁ (fun vs₂ σ₂ => I rest vs₂ σ₂) Kr X) X) (fin:∀ vs σ, I [] vs σ → Kn vs σ):∀ (items:List α) (vs:Slots) (σ:Store), I items vs σ → ForT w H₀ S n t body Kn Kr X (items.map f) vs σ
  | [], vs, σ, h => fin vs σ h
  | a :: items, vs, σ, h => by
    intro A env stk ow md s x c r
    refine wpAny_mono (step a items vs σ h A env stk ow md s x c r) (fun J s' q => ?_) fun J J e => e
    obtain ⟨u, vs₁, σ₁, md₁, h₁, tk, e, k, r, c, g⟩:=q
    refine ⟨u, vs₁, σ₁, md₁, h₁, tk, e, ?_, r, c, g⟩
    exact k.mono (fun p vs₂ σ₂ q => by
      cases p with
      | next => exact ForT.inv f I step fin items vs₂ σ₂ q
      | ret p => exact q) fun J J J x => x
theorem St.forV {t iter:Expr} {body:List Stmt} {p:Pos} {l:List PV} {Kn:Slots → Store → Prop} {Kr:PV → Slots → Store → Prop} (ht:TargetOk t = true) (hh:VI w H₀ S n vs σ (isTupT t) iter l) (k:ForT w H₀ S n t body Kn Kr X l vs σ)
    (hs:∀ env x, foldedSetIterable iter env x = pure x:=by intro _ _; rfl) (hN:4 ≤ n:=by first | exact Nat.le_add_left 4 _ | assumption):St w H₀ S n (.For t iter body [] p) vs σ Kn Kr X:=St.for ht (hh.use k) hs hN
end
theorem bitAnd_255 (x:Int):0 ≤ Builtin.bitAnd x 255 ∧ Builtin.bitAnd x 255 < 256:=by
  have:=bitAnd_range x (y:=255) (by decide)
  lia
section
variable {w:World} {H₀:Heap} {S:Fx} {n:Nat} {σ:Store} {vs:Slots}
noncomputable abbrev VQ (w:World) (H₀:Heap) (S:Fx) (n:Nat) (vs:Slots) (σ:Store) (e:Option Expr) (o:Option Int):Prop:=EvP w H₀ S n e vs σ (fun q vs' σ' => q = o ∧ vs' = vs ∧ σ' = σ) NX0
theorem VQ.some {e:Expr} {i:Int} (h:VP w H₀ S n vs σ e (.int i)):VQ w H₀ S n vs σ (Option.some e) (Option.some i):=EvP.some (h.use ⟨i, rfl, rfl, rfl, rfl⟩)
theorem VQ.use {e:Option Expr} {o:Option Int} {K:Option Int → Slots → Store → Prop} {X:PExc → Slots → Store → Prop} (h:VQ w H₀ S n vs σ e o) (k:K o vs σ):EvP w H₀ S n e vs σ K X:=h.mono (fun _ _ _ ⟨a, b, c⟩ => by subst a b c; exact k) fun J J J x => x.elim
theorem VP.sliceB {value:Expr} {lo hi:Option Expr} {p pos:Pos} {b:Array UInt8} {l u:Option Int} (h:VP w H₀ S n vs σ value (.bytes b)) (hz:b.size ≤ 1000) (hl:VQ w H₀ S n vs σ lo l) (hu:VQ w H₀ S n vs σ hi u) (ht:∀ o r, letTemporaryGo value o r = pure ():=by intro _ _; rfl):VP w H₀ S n vs σ (.Subscript value (.Slice lo hi none p) pos) (.bytes (KBy.picked b l u)) :=
  EvE.sliceB ht (h.use ⟨b, rfl, hz, hl.use (hu.use lf)⟩)
end
section
variable {w:World} {H₀:Heap} {n:Nat} {σ:Store} {K:PV → Store → Prop} {X:PExc → Store → Prop}
noncomputable def L_little (worth_:Int) (m_:Nat):List Int:=(List.map (fun (a:Nat) => (Builtin.bitAnd (Int.fdiv worth_ (2 ^ Int.toNat (8 * (a:Int)))) (255:Int))) (List.range m_))
theorem f_little {worth_:Int} {m_:Nat} (hm_:m_ ≤ 100) (k:K (.bytes (byteArr (L_little worth_ m_))) σ):PrimC w H₀ (n + 6) [.int worth_, .int m_] σ (.ref 71) K X:=by
  refine PrimC.def (params:=["worth", "width"]) (ns:=["worth", "width"]) (ks:=[.cell, .local]) (gs:=["bytes", "range"]) (vs:=[some (.int worth_), some (.int m_)]) (oc':=["worth"]) rfl (by kernel_rfl) ?_ rfl rfl rfl (by kernel_rfl) (by kernel_rfl) rfl rfl ?_
  · intro vals hv
    apply len2 hv; intros; rfl
  intro S G
  exact Bk.cons (St.retV (VP.call (B_bytes G mem1 lf) Kept.type (VL.one (VP.comp (out:=(pvI (List.map (fun (a:Nat) => (Builtin.bitAnd (Int.fdiv worth_ (2 ^ Int.toNat (8 * (a:Int)))) (255:Int))) (List.range m_)))) [] rfl G (FreeOk.loc (FreeOk.loc (FreeOk.freeC .head FreeOk.nil))) rfl (by kernel_rfl) (fun J h => by first | exact (List.not_mem_nil h).elim | (simp only [List.mem_cons, List.not_mem_nil, or_false] at h; rcases h with rfl | rfl <;> simp)) (VI.range (B_range G (mem2 mem1) lf) (nv G 1 rfl) rfl (by lia)) (CS.loc (CS.loc (CS.freeC .head CS.nil))) (fun S' G' K k => CompT.map (V:=fun o => [none, o.map (fun (a:Nat) => PV.int (a:Nat)), some (PV.int (worth_))]) (f:=(fun i => PV.int (i:Nat))) (g:=fun (a:Nat) => PV.int ((Builtin.bitAnd (Int.fdiv worth_ (2 ^ Int.toNat (8 * (a:Int)))) (255:Int)))) (List.range m_) [] none (fun o a m K X k => AsT.nam G' (.l (.tail .head)) k) (fun a m => (VP.bin (VP.bin (nv G' 2 rfl) (VP.bin cI (nv G' 1 rfl) (p_mul (IntMulOk.of_left (by decide)) lp)) (p_shr (by lia) lp)) cI (p_band lp))) (by simp; lia) (by simpa only [pvI, pvB, pvS, pvBy, List.map_map, Function.comp_def, List.nil_append] using k)))) (p_bytes (l:=L_little worth_ m_) (by intro i hi; simp only [L_little, List.mem_map] at hi; obtain ⟨_, _, rfl⟩:=hi; exact bitAnd_255 _) (by simp [L_little]; lia) lp)) k)
noncomputable def stepFL (b:Array UInt8) (w:Int) (i:Nat):Int:=w + (KBw.bInts b).getD (Int.toNat (i:Int)) 0 * 2 ^ Int.toNat (8 * (i:Int))
noncomputable def L_from_little (b:Array UInt8):Int:=(List.range b.size).foldl (stepFL b) 0
theorem bInts_nat (b:Array UInt8) (i:Nat):((KBw.bInts b).getD i 0).natAbs < 2 ^ 64:=by
  rw [List.getD]
  cases e:(KBw.bInts b)[i]? with
  | none => decide
  | some v =>
    have:=KBw.ints_in (List.mem_of_getElem? e)
    simp only [Option.getD_some]; lia
inductive FiInv (b_:Array UInt8) (σ:Store) (P:List Nat → Int → Prop) (rest:List Nat) (vs:Slots) (σ':Store):Prop
  | mk (w:Int) (o:Option PV) (ev:vs = [some (.bytes b_), some (.int w), o]) (es:σ' = σ) (hi:∀ i ∈ rest, i < b_.size) (k:P rest w)
theorem f_from_little {b_:Array UInt8} (hz_:b_.size ≤ 100) (k:K (.int (L_from_little b_)) σ):PrimC w H₀ (n + 6) [.bytes b_] σ (.ref 78) K X:=by
  refine PrimC.def (params:=["octets"]) (ns:=["octets", "worth", "at"]) (ks:=[.local, .local, .local]) (gs:=["range", "len"]) (vs:=[some (.bytes b_), none, none]) (oc':=[]) rfl (by kernel_rfl) ?_ rfl rfl rfl (by kernel_rfl) (by kernel_rfl) rfl rfl ?_
  · intro vals hv
    apply len1 hv; intros; rfl
  intro S G
  refine Bk.cons (St.asnV G cI (.l (.tail .head)) ?_)
  refine Bk.cons (St.forV rfl (VI.range (m:=b_.size) (B_range G mem1 lf) (VP.call (B_len G (mem2 mem1) lf) Kept.builtin (VL.one (nv G 0 rfl)) (p_lenB (by lia) lp)) rfl (by lia)) (ForT.inv _ (FiInv b_ σ (fun rest w => K (.int (rest.foldl (stepFL b_) w)) σ)) ?_ ?_ _ _ _ ⟨0, none, rfl, rfl, fun i m => List.mem_range.mp m, k⟩))
  · rintro i rest _ _ ⟨w_, o, rfl, rfl, hr, k⟩
    have hi:=hr i (.head _)
    refine AsT.nam G (.l (.tail (.tail .head))) ?_
    refine Bk.cons (St.asnV G (VP.bin (nv G 1 rfl) (VP.bin (VP.item (nv G 0 rfl) (nv G 2 rfl) (p_itemB (by lia) (by lia) (by lia) rfl lp (fun J J => rfl) (fun J J => rfl))) (VP.bin cI (nv G 2 rfl) (p_mul (IntMulOk.of_left (by decide)) lp)) (p_shl (by lia) (by lia) (bInts_nat _ _) lp)) (p_add lp)) (.l (.tail .head)) ?_)
    exact Bk.nil ⟨_, _, rfl, rfl, fun j m => hr j (.tail _ m), k⟩
  · rintro _ _ ⟨w_, o, rfl, rfl, _, k⟩
    exact Bk.cons (St.retV (nv G 1 rfl) k)
theorem rn_thenE {K K₁:PV → Store → Prop} {X:PExc → Store → Prop} {σ:Store} {m:Option PExc} {o:Out} (k:ro K X σ (thenO m o)) (h:m = none → ro K X σ o → K₁ .none σ):rn K₁ X σ m:=by
  cases m with
  | none => exact h rfl k
  | some e => exact k
theorem chk_none {a s:Int} (h:L_check_field a s = none):0 ≤ a ∧ a < 1 * 2 ^ s.toNat:=by
  unfold L_check_field at h
  by_cases q:(!((decide ((0:Int) ≤ a)) && (decide (a < ((1:Int) * 2 ^ Int.toNat s))))) = true
  · rw [if_pos q] at h; cases h
  · simpa using q
noncomputable def packB (r:Row):Array UInt8:=byteArr (L_little r.c 2) ++ byteArr [r.t, r.f] ++ byteArr (L_little r.k 4)
noncomputable def L_pack (r:Row):Out:=thenO (L_check_field r.c 16) (thenO (L_check_field r.t 8) (thenO (L_check_field r.f 8) (thenO (L_check_field r.k 32) (.ok (.bytes (packB r))))))
theorem little_len (a:Int) (m:Nat):(byteArr (L_little a m)).size = m:=by rw [byteArr_size]; simp [L_little]
theorem f_pack_classic {r_:Row} (k:ro K X σ (L_pack r_)):PrimC w H₀ (n + 7) [ordP r_] σ (.ref 190) K X:=by
  refine PrimC.def (params:=["order"]) (ns:=["order"]) (ks:=[.local]) (gs:=["check_field", "little", "bytes"]) (vs:=[some (ordP r_)]) (oc':=[]) rfl (by kernel_rfl) ?_ rfl rfl rfl (by kernel_rfl) (by kernel_rfl) rfl rfl ?_
  · intro vals hv
    apply len1 hv; intros; rfl
  intro S G
  refine Bk.cons (St.drop G (fun J => rfl) (EvE.fn (G_check_field G mem1 lf) kp_check_field (VL.two (VP.code (nv G 0 rfl)) cI) (f_check_field (by decide) (by decide) (rn_thenE k fun h1 k => ⟨rfl, ?_⟩))))
  refine Bk.cons (St.drop G (fun J => rfl) (EvE.fn (G_check_field G mem1 lf) kp_check_field (VL.two (VP.jt (nv G 0 rfl)) cI) (f_check_field (by decide) (by decide) (rn_thenE k fun h2 k => ⟨rfl, ?_⟩))))
  refine Bk.cons (St.drop G (fun J => rfl) (EvE.fn (G_check_field G mem1 lf) kp_check_field (VL.two (VP.jf (nv G 0 rfl)) cI) (f_check_field (by decide) (by decide) (rn_thenE k fun h3 k => ⟨rfl, ?_⟩))))
  refine Bk.cons (St.drop G (fun J => rfl) (EvE.fn (G_check_field G mem1 lf) kp_check_field (VL.two (VP.k (nv G 0 rfl)) cI) (f_check_field (by decide) (by decide) (rn_thenE k fun h4 k => ⟨rfl, ?_⟩))))
  have b2:=chk_none h2
  have b3:=chk_none h3
  exact Bk.cons (St.retV (VP.bin (VP.bin (VP.fn (G_little G (mem2 mem1) lf) kp_little (VL.two (VP.code (nv G 0 rfl)) cI) (f_little (m_:=2) (by decide) lp)) (VP.call (B_bytes G (mem2 (mem2 mem1)) lf) Kept.type (VL.one (VP.list (VL.two (VP.jt (nv G 0 rfl)) (VP.jf (nv G 0 rfl))))) (p_bytes (l:=[r_.t, r_.f]) (by intro i hi; simp only [List.mem_cons, List.not_mem_nil, or_false] at hi; rcases hi with rfl | rfl; exact b2; exact b3) (by show 2 ≤ 1000; decide) lp)) (p_addB (by rw [little_len, byteArr_size]; show 2 + 2 ≤ 16777216; decide) lp)) (VP.fn (G_little G (mem2 mem1) lf) kp_little (VL.two (VP.k (nv G 0 rfl)) cI) (f_little (m_:=4) (by decide) lp)) (p_addB (by rw [Array.size_append, little_len, little_len, byteArr_size]; show 2 + 2 + 4 ≤ 16777216; decide) lp)) k)
end
theorem clipN (n i:Nat):clipAt n (i:Int) = min i n:=clipAt_nat n i
theorem picked_len (b:Array UInt8) (a c:Int) (h0:0 ≤ a) (h1:a ≤ c):((KBy.picked b (some a) (some c)).size:Int) ≤ c - a:=by
  obtain ⟨x, rfl⟩:=Int.eq_ofNat_of_zero_le h0
  obtain ⟨y, rfl⟩:=Int.eq_ofNat_of_zero_le (Int.le_trans h0 h1)
  have e:=congrArg List.length (KBc.ints_picked (b:=b) rfl (some (x:Int)) (some (y:Int)))
  rw [KBw.ints_length] at e
  rw [e]
  simp only [Option.elim, List.length_take, List.length_drop, KBw.ints_length, clipN]
  have h1':x ≤ y:=Int.ofNat_le.mp h1
  have key:∀ n, min y n - min x n ≤ y - x:=fun n => by
    rcases Nat.le_total x n with hx | hx
    · rw [Nat.min_eq_left hx]; exact Nat.sub_le_sub_right (Nat.min_le_left _ _) _
    · rw [Nat.min_eq_right hx]; exact Nat.le_trans (Nat.sub_le_sub_right (Nat.min_le_right _ _) _) (by rw [Nat.sub_self]; exact Nat.zero_le _)
  exact Int.le_trans (Int.ofNat_le.mpr (Nat.le_trans (Nat.min_le_left _ _) (key _))) (by rw [Int.ofNat_sub h1']; exact Int.le_refl _)
section
variable {w:World} {H₀:Heap} {S:Fx} {n:Nat} {σ:Store} {vs:Slots}
theorem VP.joinB {o e:Expr} {ap p:Pos} {bs:List (Array UInt8)} (hb:∀ env, attributeBase o "join" env (eval o env) = eval o env) (hl:(ap.endLine == p.line) = true) (ho:VP w H₀ S n vs σ o (.bytes #[])) (ha:VP w H₀ S n vs σ e (.lst (pvBy bs))) (h0:bs ≠ []) (hz:(Mine.joinB bs).size ≤ sizeLine) (hz2:(bs.map (·.size)).sum ≤ sizeLine)
    (he:∀ env, starEach [e] env = (false, eval e env) :: starEach [] env:=by intro _; rfl):VP w H₀ S n vs σ (.Call (.Attribute o "join" ap) [e] [] p) (.bytes (Mine.joinB bs)) :=
  EvE.joinB hb hl he (ho.use ⟨rfl, ha.use ⟨bs, rfl, h0, hz, hz2, lf⟩⟩)
end
section
variable {w:World} {H₀:Heap} {n:Nat} {σ:Store} {K:PV → Store → Prop} {X:PExc → Store → Prop}
noncomputable def unpackRow (b_:Array UInt8) (at_:Int):Row:=⟨(L_from_little (KBy.picked b_ (some at_) (some (at_ + (2:Int))))), ((KBw.bInts b_).getD (Int.toNat (at_ + (2:Int))) 0), ((KBw.bInts b_).getD (Int.toNat (at_ + (3:Int))) 0), (L_from_little (KBy.picked b_ (some (at_ + (4:Int))) (some (at_ + (8:Int)))))⟩
noncomputable def L_unpack (b_:Array UInt8) (at_:Int):Out:=if (decide ((b_.size:Int) - at_ < 8)) = true then .error ⟨52, "half of an order", none⟩ else .ok (ordP (unpackRow b_ at_))
theorem f_unpack_classic {b_:Array UInt8} {at_:Int} (h0_:0 ≤ at_) (hz_:b_.size ≤ 1000) (k:ro K X σ (L_unpack b_ at_)):PrimC w H₀ (n + 7) [.bytes b_, .int at_] σ (.ref 198) K X:=by
  refine PrimC.defD (params:=["octets", "at"]) (ns:=["octets", "at", "code", "k"]) (ks:=[.local, .local, .local, .local]) (gs:=["len", "WIDTH", "CodeError", "from_little", "ClassicOrder"]) (vs:=[some (.bytes b_), some (.int at_), none, none]) (oc':=[]) (dargs:=[]) (dv:=[]) rfl (by kernel_rfl) ?_ (fun J J => .nil) rfl rfl rfl (by kernel_rfl) (by kernel_rfl) rfl rfl ?_
  · intro vals hv s X
    apply len2 hv; intro a b
    exact binds_K (K:=KK w) X rfl rfl rfl rfl rfl
  intro S G
  refine Bk.cons (St.iteV (TP.cmp (VP.bin (VP.call (B_len G mem1 lf) Kept.builtin (VL.one (nv G 0 rfl)) (p_lenB (by lia) lp)) (nv G 1 rfl) (p_sub lp)) (G_WIDTH G (mem2 mem1) lf) (p_lt lp)) (iteR k (fun h k => ?_) (fun h k => ?_)))
  · exact Bk.cons (St.raise1 (excCls52 w) ty52 kp_CodeError (G_CodeError G (mem2 (mem2 mem1)) lf) (VL.one cS) k)
  refine Bk.nil ?_
  have h8:¬ ((b_.size:Int) - at_ < 8):=of_decide_eq_false h
  refine Bk.cons (St.sw2 G (.tail (.tail .head)) (.tail (.tail (.tail .head))) rfl (VP.use (VP.tuple (VL.two (VP.fn (G_from_little G (mem2 (mem2 (mem2 mem1))) lf) kp_from_little (VL.one (VP.sliceB (nv G 0 rfl) (by lia) (VQ.some (nv G 1 rfl)) (VQ.some (VP.bin (nv G 1 rfl) cI (p_add lp))))) (f_from_little (Nat.le_trans (Int.ofNat_le.mp (Int.le_trans (picked_len _ _ _ (by lia) (by lia)) (by lia:_ ≤ ((2:Nat):Int)))) (by decide)) lp)) (VP.fn (G_from_little G (mem2 (mem2 (mem2 mem1))) lf) kp_from_little (VL.one (VP.sliceB (nv G 0 rfl) (by lia) (VQ.some (VP.bin (nv G 1 rfl) cI (p_add lp))) (VQ.some (VP.bin (nv G 1 rfl) cI (p_add lp))))) (f_from_little (Nat.le_trans (Int.ofNat_le.mp (Int.le_trans (picked_len _ _ _ (by lia) (by lia)) (by lia:_ ≤ ((4:Nat):Int)))) (by decide)) lp)))) ⟨_, _, rfl, AsB.nam G (.l (.tail (.tail (.tail .head)))) (AsB.nam G (.l (.tail (.tail .head))) (AsB.nil ?_))⟩))
  exact Bk.cons (St.retV (VP.fn (G_ClassicOrder G (mem2 (mem2 (mem2 (mem2 mem1)))) lf) kp_ClassicOrder (VL.four (nv G 2 rfl) (VP.item (nv G 0 rfl) (VP.bin (nv G 1 rfl) cI (p_add lp)) (p_itemB (by lia) (by lia) (by lia) rfl lp (fun J J => rfl) (fun J J => rfl))) (VP.item (nv G 0 rfl) (VP.bin (nv G 1 rfl) cI (p_add lp)) (p_itemB (by lia) (by lia) (by lia) rfl lp (fun J J => rfl) (fun J J => rfl))) (nv G 3 rfl)) (p_order lp)) k)
theorem pack_size {l:List Row}:(joinB (l.map packB)).size = 8 * l.length:=by
  have key:∀ (l:List Row) (acc:Array UInt8), ((l.map packB).foldl (· ++ ·) acc).size = acc.size + 8 * l.length:=by
    intro l
    induction l with
    | nil => intro acc; simp
    | cons r l ih =>
      intro acc
      rw [List.map_cons, List.foldl_cons, ih, Array.size_append]
      have:(packB r).size = 8:=by
        unfold packB
        rw [Array.size_append, Array.size_append, little_len, little_len, byteArr_size]; rfl
      rw [this, List.length_cons]; lia
  have:=key l #[]
  simpa [joinB] using this
theorem pack_sum {l:List Row}:((l.map packB).map (·.size)).sum = 8 * l.length:=by
  induction l with
  | nil => rfl
  | cons r l ih =>
    have:(packB r).size = 8:=by
      unfold packB
      rw [Array.size_append, Array.size_append, little_len, little_len, byteArr_size]; rfl
    rw [List.map_cons, List.map_cons, List.sum_cons, ih, this, List.length_cons]; lia
theorem f_pack_filter {l_:List Row} (hz_:l_.length ≤ 100) (h0_:l_ ≠ []) (hg_:∀ r ∈ l_, L_pack r = .ok (.bytes (packB r))) (k:K (.bytes (joinB (l_.map packB))) σ):PrimC w H₀ (n + 8) [.lst (l_.map ordP)] σ (.ref 203) K X:=by
  refine PrimC.def (params:=["orders"]) (ns:=["orders"]) (ks:=[.local]) (gs:=[]) (vs:=[some (.lst (l_.map ordP))]) (oc':=[]) rfl (by kernel_rfl) ?_ rfl rfl rfl (by kernel_rfl) (by kernel_rfl) rfl rfl ?_
  · intro vals hv
    apply len1 hv; intros; rfl
  intro S G
  exact Bk.cons (St.retV (VP.joinB (bs:=l_.map packB) (fun J => rfl) rfl (EvE.cbytes lf) (VP.comp (out:=(pvBy (List.map (fun (a:Row) => (packB a)) l_))) [] rfl G (FreeOk.loc (FreeOk.loc (FreeOk.glb FreeOk.nil))) rfl (by kernel_rfl) (fun J h => by first | exact (List.not_mem_nil h).elim | (simp only [List.mem_cons, List.not_mem_nil, or_false] at h; rcases h with rfl | rfl <;> simp)) (VI.lst (nv G 0 rfl)) (CS.loc (CS.loc (CS.glb CS.nil))) (fun S' G' K k => CompT.map (V:=fun o => [none, o.map (fun (a:Row) => ordP a)]) (f:=ordP) (g:=fun (a:Row) => PV.bytes ((packB a))) l_ [] none (fun o a m K X k => AsT.nam G' (.l (.tail .head)) k) (fun a m => (VP.fn (G_pack_classic G' mem1 lf) kp_pack_classic (VL.one (nv G' 1 rfl)) (f_pack_classic (by rw [hg_ _ m]; exact lp)))) (by simp; lia) (by simpa only [pvI, pvB, pvS, pvBy, List.map_map, Function.comp_def, List.nil_append] using k))) (by simpa using h0_) (by rw [pack_size, sizeLine_eq]; lia) (by rw [pack_sum, sizeLine_eq]; lia)) k)
end
noncomputable def Sub (σ' σ:Store):Prop:=∀ a, σ' a = none ∨ σ' a = σ a
theorem Sub.refl (σ:Store):Sub σ σ:=fun J => .inr rfl
theorem Sub.upd {σ:Store} {a:Addr} {m:Option MO} (h:σ a = none):Sub σ (upd σ a m):=fun b => by
  by_cases z:b = a
  · subst z; exact .inl h
  · exact .inr (upd_ne _ _ z).symm
section
variable {w:World} {H₀:Heap} {S:Fx} {n:Nat} {A:Around} {env:Env} {stk:List Env} {ow md md':ASet} {σ σ' σ'':Store} {vs vs':Slots} {s:Shared} {h h':Heap} {ns oc gs:List Str} {ks:List NameKind}
theorem Inv.drop (i:Inv w H₀ stk md σ' h) (sb:Sub σ'' σ'):Inv w H₀ stk md σ'' h :=
  ⟨i.gl, i.base, i.off, i.al, fun a m e => i.sto a m ((sb a).elim (fun q => by rw [q] at e; cases e) fun q => q ▸ e), i.ff, fun a q => ⟨(i.frmd a q).1, (sb a).elim id fun z => z.trans (i.frmd a q).2⟩⟩
theorem Go.drop (g:Go stk ow σ md h σ' md' h') (sb:Sub σ'' σ'):Go stk ow σ md h σ'' md' h':=⟨g.st, fun a q => g.d a fun z => q ((sb a).elim id fun e => e.trans z)⟩
theorem Thr.drop {h₁:Heap} {st:Tb} {v:Value} {pe:PExc} (t:Thr stk md σ' h₁ h st v pe) (sb:Sub σ'' σ'):Thr stk md σ'' h₁ h st v pe:=by
  have xa:∀ a, Xa stk md σ' h₁ a → Xa stk md σ'' h₁ a:=fun a x => ⟨x.1, x.2.1, (sb a).elim id fun e => e.trans x.2.2.1, x.2.2.2⟩
  obtain ⟨ea, dx, oe, fs, a1, a2, a3, a4, a5, a6, a7, a8, a9, a10⟩:=t
  refine ⟨ea, dx, oe, fs, a1, a2, a3, a4, a5, a6, a7, a8, xa _ a9, ?_⟩
  cases st with
  | new => exact a10
  | flew l =>
    obtain ⟨T, oT, ts, b1, b2, b3, b4, b5, b6⟩:=a10
    exact ⟨T, oT, ts, b1, b2, b3, b4, b5, xa _ b6⟩
theorem PrimC.drop {args:List PV} {f:Value} {K:PV → Store → Prop} {X:PExc → Store → Prop} (hh:PrimC w H₀ n args σ f (fun p σ' => ∃ σ'', Sub σ'' σ' ∧ K p σ'') (fun p σ' => ∃ σ'', Sub σ'' σ' ∧ X p σ'')):PrimC w H₀ n args σ f K X:=by
  intro A stk md s vals b r
  refine codeAny_mono (hh A stk md s vals b r) fun rr s' z => ?_
  have ok:∀ v, POk w H₀ stk md σ s (fun p σ' => ∃ σ'', Sub σ'' σ' ∧ K p σ'') v s' → POk w H₀ stk md σ s K v s':=fun v z => by
    obtain ⟨pv, σ', md', h', tk, e, ⟨σ'', sb, k⟩, rv, i, g⟩:=z
    exact ⟨pv, σ'', md', h', tk, e, k, rv, i.drop sb, g.drop sb⟩
  rcases rr with e | (v | _ | _ | _)
  rotate_left
  · exact z
  · exact z
  · exact z
  · exact ok _ z
  · obtain ⟨pe, σ', md', h', tk, e', ⟨σ'', sb, k⟩, i, g, st, hst, t⟩:=z
    exact ⟨pe, σ'', md', h', tk, e', k, i.drop sb, g.drop sb, st, hst, t.drop sb⟩
variable {X:PExc → Slots → Store → Prop} {Kn:Slots → Store → Prop} {Kr:PV → Slots → Store → Prop}
theorem St.asnS {x:Str} {e:Expr} {px p:Pos} (G:S.Good ns oc ks gs) (hh:EvE w H₀ S n e vs σ (fun q vs₁ σ₁ => ∃ vs', Sto ns ks oc x vs₁ q vs' ∧ Kn vs' σ₁) X)
    (hsw:∀ env:Env, env.scope = S.sc → swapsWith e (some (.Name x px)) p.line env = pure false):St w H₀ S n (.Assign [.Name x px] e p) vs σ Kn Kr X:=by
  refine ⟨fun A env stk ow md s c => ?_⟩
  refine wpAny_Assign_Name (hh.at c (fun J J e => e) fun v q vs₁ σ₁ md₁ h₁ tk k r c₁ kp₁ g₁ => ?_) (hsw env c.loc.sc)
  obtain ⟨vs', hs', k⟩:=k
  obtain ⟨i, a, b⟩:=G.sto hs'
  subst b
  exact c₁.store a r fun h' tk' c' g' => ⟨.next, _, σ₁, md₁, h', tk', rfl, k, trivial, c', g₁.trans g'⟩
theorem swaps_cell (G:S.Good ns oc ks gs) {env:Env} (he:env.scope = S.sc) {x:Str} {px:Pos} {line i:Nat} {elt:Expr} {gens:List Comprehension} {scope:Scope} {pos:Pos} (hx:KAt ns ks x .cell i) :
    swapsWith (.ListComp elt gens scope pos) (some (.Name x px)) line env = pure false:=by
  have hkd:=G.kd he hx
  unfold swapsWith
  simp only [hkd]
  rw [show (some NameKind.cell == some NameKind.local) = false from by decide, Bool.and_false, Bool.false_and, Bool.false_and]
theorem VI.range8 {f e:Expr} {a b:Expr} {p:Pos} {m c:Nat} {i:Int} {tt:Bool} (hf:VP w H₀ S n vs σ f (.con (.type "range"))) (ha:VP w H₀ S n vs σ a (.int 0)) (h:VP w H₀ S n vs σ e (.int i)) (hb:VP w H₀ S n vs σ b (.int 8)) (hi:i = (m:Int)) (hm:m < 2 ^ 31) (hc:c = (m + 7) / 8)
    (he:∀ env, eval (.Call f [a, e, b] [] p) env = (do callWith p (← eval f env) [] (backTo p (starEach [a, e, b] env)) (backToKw p (keywordEach [] env))):=by intro _; rfl) (hA:∀ env, (backTo p (starEach [a, e, b] env)).any (·.1) = false:=by intro _; rfl)
    (hl:VL w H₀ S n vs σ [a, e, b] [.int 0, .int i, .int 8]):VI w H₀ S n vs σ tt (.Call f [a, e, b] [] p) ((List.range c).map fun i => PV.int ((8 * i:Nat):Int)) :=
  VI.call hf Kept.type hl (p_range3 hi hm hc (rangeL8_eq c)) he hA
theorem p_itemBack {value slice:Expr} {l:List PV} {p:PV} {K:PV → Store → Prop} {X:PExc → Store → Prop} (hx:l.getLast? = some p) (hz:l.length ≤ 1000) (k:K p σ)
    (hs:∀ a u, subscripted slice false (.ref a) (.int (-1) u) = operate [.ref a, .int (-1) u] (getItem (.ref a) (.int (-1) u))):Prim w H₀ n [.lst l, .int (-1)] σ (p2 (subscriptTail value slice)) K X:=.ext fun A stk md s vals bx r Q E hQ => by
  apply r.e2; intro _ _ r₁ r₂
  apply r₂.iInt; intro _
  obtain ⟨a, xs, rfl, nm, hl, q⟩:=r₁.lstInv
  rw [List.getLast?_eq_getElem?] at hx
  obtain ⟨v, hv, rv⟩:=q.get hx
  have hlt:l.length - 1 < l.length:=by
    rcases Nat.eq_zero_or_pos l.length with h0 | h0
    · have:l = []:=List.length_eq_zero_iff.mp h0
      subst this; simp at hx
    · lia
  refine tail_any hl.isList.typeIs slot_list_getitem.lookup (wpAny_getItem_list_neg (x:=v) hl.isList (by decide) (by rw [List.size_toArray, q.length]; lia) (by decide) ?_ ?_) (hs _ _)
  · rw [List.size_toArray, q.length, show ((-1:Int) + (l.length:Int)).toNat = l.length - 1 by lia]
    simpa using hv
  · exact hQ _ s.heap s.toks _ (fun J J e => e) (.ext fun J J e => e) k rv
theorem p_itemI {value slice:Expr} {l:List Int} {i r:Int} (h0:0 ≤ i) (h1:l[i.toNat]? = some r) (hz:l.length ≤ 1000)
    (hs:∀ a u, subscripted slice false (.ref a) (.int i u) = operate [.ref a, .int i u] (getItem (.ref a) (.int i u)):=by intro _ _; rfl):PP w H₀ n σ [.lst (pvI l), .int i] (p2 (subscriptTail value slice)) (.int r):=by
  have hlt:i.toNat < l.length:=(List.getElem?_eq_some_iff.mp h1).1
  exact p_itemL h0 (p:=.int r) (by simp [pvI, h1]) (by lia) lp hs
end
theorem FzS.o {a:Addr} {l:List PV} {x y:Slots} (h:FzS a l x y):∀ o:Option PV, FzS a l (o :: x) (o :: y)
  | none => .no h
  | some p => .yes (.same _) h
section
variable {w:World} {H₀:Heap} {S:Fx} {n:Nat} {σ:Store} {vs:Slots} {X:PExc → Slots → Store → Prop} {Kn:Slots → Store → Prop} {Kr:PV → Slots → Store → Prop}
theorem Bk.weak {b:List Stmt} {P:Slots → Store → Prop} (h:Bk w H₀ S n b vs σ P (fun J J J => False) NX0) (k:∀ vs' σ', P vs' σ' → Kn vs' σ'):Bk w H₀ S n b vs σ Kn Kr X :=
  Tr.mono h (fun p vs' σ' q => by cases p with | next => exact k _ _ q | ret p => exact q.elim) fun J J J x => x.elim
theorem St.ifP {t:Expr} {a:List Stmt} {p:Pos} {c:Bool} (P:Slots → Store → Prop) (h:TP w H₀ S n vs σ t c) (ha:c = true → Bk w H₀ S n a vs σ P (fun J J J => False) NX0) (hb:c = false → P vs σ) (k:∀ vs' σ', P vs' σ' → Kn vs' σ'):St w H₀ S n (.If t a [] p) vs σ Kn Kr X:=by
  refine St.iteV h ?_
  cases c
  · exact Bk.nil (k _ _ (hb rfl))
  · exact Bk.weak (ha rfl) k
end
section
variable {w:World} {H₀:Heap} {n:Nat} {σ:Store} {K:PV → Store → Prop} {X:PExc → Store → Prop}
noncomputable def goU (b:Array UInt8):List Nat → List Row → Out
  | [], acc => .ok (.lst (acc.map ordP))
  | i :: rest, acc => if decide ((b.size:Int) - ((8 * i:Nat):Int) < 8) = true then .error ⟨52, "half of an order", some (acc.length:Int)⟩ else goU b rest (acc ++ [unpackRow b ((8 * i:Nat):Int)])
inductive GuInv (b_:Array UInt8) (a:Addr) (σ:Store) (P:List Nat → List Row → Prop) (rest:List Nat) (vs:Slots) (σ':Store):Prop
  | mk (acc:List Row) (o:Option PV) (ev:vs = [some (.bytes b_), some (.loc a), o]) (es:σ' = upd σ a (some (.list (acc.map ordP)))) (hl:acc.length + rest.length ≤ 999) (k:P rest acc)
theorem f_unpack_filter {b_:Array UInt8} (hz_:b_.size ≤ 1000) (k:ro K X σ (goU b_ (List.range ((b_.size + 7) / 8)) [])):PrimC w H₀ (n + 8) [.bytes b_] σ (.ref 210) K X:=by
  refine PrimC.def (params:=["octets"]) (ns:=["octets", "found", "at"]) (ks:=[.local, .local, .local]) (gs:=["range", "len", "WIDTH", "CodeError", "unpack_classic"]) (vs:=[some (.bytes b_), none, none]) (oc':=[]) rfl (by kernel_rfl) ?_ rfl rfl rfl (by kernel_rfl) (by kernel_rfl) rfl rfl ?_
  · intro vals hv
    apply len1 hv; intros; rfl
  intro S G
  refine Bk.cons (St.asn G (EvE.list (EvL.nil (p_lstM (by decide) fun a ha => ⟨_, (.l (.tail .head)), ?_⟩))) (fun J => rfl))
  refine Bk.cons (St.forV rfl (VI.range8 (m:=b_.size) (B_range G mem1 lf) cI (VP.call (B_len G (mem2 mem1) lf) Kept.builtin (VL.one (nv G 0 rfl)) (p_lenB (by lia) lp)) (G_WIDTH G (mem2 (mem2 mem1)) lf) rfl (by lia) rfl (hl:=VL.cons cI (VL.two (VP.call (B_len G (mem2 mem1) lf) Kept.builtin (VL.one (nv G 0 rfl)) (p_lenB (by lia) lp)) (G_WIDTH G (mem2 (mem2 mem1)) lf))))
    (ForT.inv _ (GuInv b_ a σ (fun rest acc => ro K X σ (goU b_ rest acc))) ?_ ?_ _ _ _ ⟨[], none, rfl, rfl, by simp; lia, k⟩))
  · rintro i rest _ _ ⟨acc, o, rfl, rfl, hl, k⟩
    simp only [List.length_cons] at hl
    refine AsT.nam G (.l (.tail (.tail .head))) ?_
    refine Bk.cons (St.iteV (TP.cmp (VP.bin (VP.call (B_len G (mem2 mem1) lf) Kept.builtin (VL.one (nv G 0 rfl)) (p_lenB (by lia) lp)) (nv G 2 rfl) (p_sub lp)) (G_WIDTH G (mem2 (mem2 mem1)) lf) (p_lt lp)) (iteR k (fun h k => ?_) (fun h k => ?_)))
    · refine Tr.freeze (a:=a) (l:=acc.map ordP) (upd_same ..) (FzS.yes (.same _) (.yes .loc (.yes (.same _) .nil))) ?_
      rw [upd_back ha]
      exact Bk.cons (St.raise2 (excCls52 w) ty52 kp_CodeError (G_CodeError G (mem2 (mem2 (mem2 mem1))) lf) (VL.two cS (VP.call (B_len G (mem2 mem1) lf) Kept.builtin (VL.one (nv G 1 rfl)) (p_lenL (by simp; lia) lp))) (by rw [List.length_map]; exact k))
    · refine Bk.nil ?_
      have hu:L_unpack b_ ((8 * i:Nat):Int) = .ok (ordP (unpackRow b_ ((8 * i:Nat):Int))):=by
        unfold L_unpack; rw [h]; rfl
      refine Bk.cons (St.drop G (fun J => rfl) (EvE.app (fun J => rfl) (fun J => rfl) rfl (EvE.nam G (.tail .head) rfl ⟨a, _, rfl, upd_same .., EvL.cons (EvE.fn (G_unpack_classic G (mem2 (mem2 (mem2 (mem2 mem1)))) lf) kp_unpack_classic (VL.two (nv G 0 rfl) (nv G 2 rfl)) (f_unpack_classic (by lia) hz_ ?_))⟩)))
      rw [hu]
      refine EvL.nil ⟨_, _, rfl, upd_same .., by simp; lia, rfl, Bk.nil ⟨acc ++ [unpackRow b_ ((8 * i:Nat):Int)], _, rfl, by rw [upd_upd]; simp, by simp; lia, k⟩⟩
  · rintro _ _ ⟨acc, o, rfl, rfl, _, k⟩
    refine Tr.freeze (a:=a) (l:=acc.map ordP) (upd_same ..) (FzS.yes (.same _) (.yes .loc (FzS.o .nil o))) ?_
    rw [upd_back ha]
    exact Bk.cons (St.retV (nv G 1 rfl) k)
structure WS where
  m:List (Int × Int)
  found:List Int
  held:Int
noncomputable def wH1 (s:WS) (i:Nat):Int:=Builtin.bitAnd s.held ((dget s.m (i:Int)).getD 65535)
noncomputable def wH2 (r:Row) (s:WS) (i:Nat):Int:=if (decide ((0:Int) ≤ L_written_cell r)) = true then Builtin.bitOr (wH1 s i) ((1:Int) * 2 ^ Int.toNat (L_written_cell r)) else wH1 s i
noncomputable def wGoal (h2:Int) (m:List (Int × Int)) (g:Int):List (Int × Int):=dput m g (Builtin.bitAnd ((dget m g).getD 65535) h2)
noncomputable def wM (r:Row) (s:WS) (i:Nat):List (Int × Int):=if L_is_jump_order r = true then (L_goals_of_classic r (i:Int)).foldl (wGoal (wH2 r s i)) s.m else s.m
noncomputable def wH3 (r:Row) (s:WS) (i:Nat):Int:=if (L_is_jump_order r || L_is_return r) = true then 65535 else wH2 r s i
noncomputable def wStep (s:WS) (p:Nat × Row):WS:=⟨wM p.2 s p.1, s.found ++ [wH1 s p.1], wH3 p.2 s p.1⟩
noncomputable def numR (l:List Row):List (Nat × Row):=l.zipIdx.map fun q => (q.2, q.1)
noncomputable def L_written_cells (l:List Row):List Int:=((numR l).foldl wStep ⟨[], [], 0⟩).found
theorem numR_len (l:List Row):(numR l).length = l.length:=by simp [numR]
theorem numR_at {l:List Row} {p:Nat × Row} (h:p ∈ numR l):l[p.1]? = some p.2:=by
  obtain ⟨q, hq, rfl⟩:=List.mem_map.mp h
  obtain ⟨a, i⟩:=q
  rw [List.mem_zipIdx_iff_getElem?] at hq
  exact hq
theorem range_numR (l:List Row):(List.range l.length).map (fun i => PV.int (i:Nat)) = (numR l).map fun p => PV.int (p.1:Nat):=by
  unfold numR
  rw [List.map_map]
  have:(List.range l.length) = l.zipIdx.map (·.2):=by rw [List.zipIdx_map_snd, List.range_eq_range']
  rw [this, List.map_map]
  rfl
theorem goals_len (r:Row) (i:Int):(L_goals_of_classic r i).length ≤ 2:=by
  unfold L_goals_of_classic
  split
  · exact Nat.zero_le _
  · split
    · exact Nat.le_of_ble_eq_true rfl
    · split
      · exact Nat.le_of_ble_eq_true rfl
      · split <;> exact Nat.le_of_ble_eq_true rfl
theorem wGoals_len (h2:Int) (gs:List Int) (m:List (Int × Int)):(gs.foldl (wGoal h2) m).length ≤ m.length + gs.length:=by
  induction gs generalizing m with
  | nil =>
    simp
  | cons g gs ih =>
    rw [List.foldl_cons]
    have:=ih (wGoal h2 m g)
    have h3:(wGoal h2 m g).length ≤ m.length + 1:=dput_len ..
    simp only [List.length_cons]; lia
inductive WgInv (l_:List Row) (d a:Addr) (σ:Store) (r:Row) (s:WS) (i:Nat) (gs:List Int) (vs:Slots) (σ':Store):Prop
  | mk (m:List (Int × Int)) (o:Option PV) (ev:vs = [some (.lst (l_.map ordP)), some (.loc d), some (.loc a), some (.int (wH2 r s i)), some (.int (i:Int)), some (ordP r), o]) (es:σ' = upd (upd σ d (some (.dict m))) a (some (.list (pvI s.found ++ [.int (wH1 s i)])))) (hl:m.length + gs.length ≤ 1000) (e:gs.foldl (wGoal (wH2 r s i)) m = wM r s i)
inductive WsInv (l_:List Row) (d a:Addr) (σ:Store) (KK:List Int → Prop) (rest:List (Nat × Row)) (vs:Slots) (σ':Store):Prop
  | mk (s:WS) (o1 o2 o3:Option PV) (ev:vs = [some (.lst (l_.map ordP)), some (.loc d), some (.loc a), some (.int s.held), o1, o2, o3]) (es:σ' = upd (upd σ d (some (.dict s.m))) a (some (.list (pvI s.found)))) (hf:s.found.length + rest.length ≤ 999) (hm:s.m.length + 2 * rest.length ≤ 999) (hr:∀ p ∈ rest, l_[p.1]? = some p.2) (k:KK (rest.foldl wStep s).found)
theorem f_written_cells {l_:List Row} (hz_:l_.length ≤ 100) (hw_:∀ r ∈ l_, L_written_cell r ≤ 1000) (k:K (.lst (pvI (L_written_cells l_))) σ):PrimC w H₀ (n + 8) [.lst (l_.map ordP)] σ (.ref 336) K X:=by
  refine PrimC.drop ?_
  refine PrimC.def (params:=["orders"]) (ns:=["orders", "masks", "found", "held", "at", "order", "goal"]) (ks:=[.local, .local, .local, .local, .local, .local, .local]) (gs:=["range", "len", "ALL_CELLS", "written_cell", "is_jump_order", "goals_of_classic", "is_return"]) (vs:=[some (.lst (l_.map ordP)), none, none, none, none, none, none]) (oc':=[]) rfl (by kernel_rfl) ?_ rfl rfl rfl (by kernel_rfl) (by kernel_rfl) rfl rfl ?_
  · intro vals hv
    apply len1 hv; intros; rfl
  intro S G
  refine Bk.cons (St.sw3 G (.tail .head) (.tail (.tail .head)) (.tail (.tail (.tail .head))) rfl (EvE.tuple (EvL.cons (EvE.dict0 fun d hd hsys => EvL.cons (EvE.list (EvL.nil (p_lstM (by decide) fun a ha => EvL.cons (EvE.cint (EvL.nil (p_tup (Nat.le_of_ble_eq_true rfl) ⟨_, _, _, rfl, AsB.nam G (.l (.tail (.tail (.tail .head)))) (AsB.nam G (.l (.tail (.tail .head))) (AsB.nam G (.l (.tail .head)) (AsB.nil ?_)))⟩)))))) fun J => rfl))))
  have nda:d ≠ a:=fun e => by rw [← e, upd_same] at ha; cases ha
  have ha':σ a = none:=by rw [upd_ne _ _ (Ne.symm nda)] at ha; exact ha
  refine Bk.cons (St.forV rfl (VI.range (m:=l_.length) (B_range G mem1 lf) (VP.call (B_len G (mem2 mem1) lf) Kept.builtin (VL.one (nv G 0 rfl)) (p_lenL (by simp; lia) lp)) (by simp) (by lia)) ?_)
  rw [range_numR]
  refine ForT.inv _ (WsInv l_ d a σ (fun f => K (.lst (pvI f)) σ)) ?_ ?_ _ _ _
    ⟨⟨[], [], 0⟩, none, none, none, rfl, rfl, by simp [numR_len]; lia, by simp [numR_len]; lia, fun p m => numR_at m, k⟩
  · rintro ⟨i, r⟩ rest _ _ ⟨s, o1, o2, o3, rfl, rfl, hf, hm, hr, k⟩
    have hx:l_[(i:Int).toNat]? = some r:=hr (i, r) (.head _)
    have hmem:r ∈ l_:=List.mem_of_getElem? hx
    have hw:=hw_ r hmem
    simp only [List.length_cons] at hf hm
    refine AsT.nam G (.l (.tail (.tail (.tail (.tail .head))))) ?_
    refine Bk.cons (St.asn G (EvE.bin (VP.use (nv G 3 rfl) (EvE.getD (fun J => rfl) (fun J => rfl) rfl (EvE.nam G (.tail .head) rfl ⟨d, s.m, rfl, hsys, (upd_ne _ _ nda).trans (upd_same ..), VL.use (VL.two (nv G 4 rfl) (G_ALL_CELLS G (mem2 (mem2 mem1)) lf)) ⟨_, _, s.m, rfl, (upd_ne _ _ nda).trans (upd_same ..), p_band ⟨_, (.l (.tail (.tail (.tail .head)))), ?_⟩⟩⟩)))) (fun J => rfl))
    refine Bk.cons (St.drop G (fun J => rfl) (EvE.app (fun J => rfl) (fun J => rfl) rfl (EvE.nam G (.tail (.tail .head)) rfl ⟨a, _, rfl, upd_same .., VL.use (VL.one (nv G 3 rfl)) ⟨_, _, rfl, upd_same .., by simp [pvI]; lia, rfl, ?_⟩⟩)))
    rw [upd_upd]
    refine Bk.cons (St.asnV G (VP.item (nv G 0 rfl) (nv G 4 rfl) (p_itemO (by lia) hx (by lia))) (.l (.tail (.tail (.tail (.tail (.tail .head)))))) ?_)
    refine Bk.cons (St.ifP (fun vs' σ' => vs' = [some (.lst (l_.map ordP)), some (.loc d), some (.loc a), some (.int (wH2 r s i)), some (.int (i:Int)), some (ordP r), o3] ∧ σ' = upd (upd σ d (some (.dict s.m))) a (some (.list (pvI s.found ++ [.int (wH1 s i)])))) (TP.cmp (VP.fn (G_written_cell G (mem2 (mem2 (mem2 mem1))) lf) kp_written_cell (VL.one (nv G 5 rfl)) (f_written_cell lp)) cI (p_ge lp)) (fun hc => ?_) (fun hc => ⟨by rw [show wH2 r s i = wH1 s i from if_neg (by rw [hc]; decide)]; rfl, rfl⟩) ?_)
    · refine Bk.cons (St.asnV G (VP.bin (nv G 3 rfl) (VP.bin cI (VP.fn (G_written_cell G (mem2 (mem2 (mem2 mem1))) lf) kp_written_cell (VL.one (nv G 5 rfl)) (f_written_cell lp)) (p_shl (of_decide_eq_true hc) (by lia) (by decide) lp)) (p_bor lp)) (.l (.tail (.tail (.tail .head)))) ?_)
      exact Bk.nil ⟨by rw [show wH2 r s i = Builtin.bitOr (wH1 s i) ((1:Int) * 2 ^ Int.toNat (L_written_cell r)) from if_pos hc]; rfl, rfl⟩
    rintro _ _ ⟨rfl, rfl⟩
    have hgl:(L_goals_of_classic r (i:Int)).length ≤ 2:=goals_len ..
    refine Bk.cons (St.ifP (fun vs' σ' => ∃ o:Option PV, vs' = [some (.lst (l_.map ordP)), some (.loc d), some (.loc a), some (.int (wH2 r s i)), some (.int (i:Int)), some (ordP r), o] ∧ σ' = upd (upd σ d (some (.dict (wM r s i)))) a (some (.list (pvI s.found ++ [.int (wH1 s i)])))) (TP.val (VP.fn (G_is_jump_order G (mem2 (mem2 (mem2 (mem2 mem1)))) lf) kp_is_jump_order (VL.one (nv G 5 rfl)) (f_is_jump_order lp)) (fun J J => rfl)) (fun hj => ?_) (fun hj => ⟨o3, rfl, by rw [show wM r s i = s.m from if_neg (by rw [hj]; decide)]⟩) ?_)
    · have em:wM r s i = (L_goals_of_classic r (i:Int)).foldl (wGoal (wH2 r s i)) s.m:=if_pos hj
      refine Bk.cons (St.forV rfl (VI.lst (VP.fn (G_goals_of_classic G (mem2 (mem2 (mem2 (mem2 (mem2 mem1))))) lf) kp_goals_of_classic (VL.two (nv G 0 rfl) (nv G 4 rfl)) (f_goals_of_classic (by lia) hx (by lia) lp))) ?_)
      refine ForT.inv PV.int (WgInv l_ d a σ r s i) ?_ ?_ _ _ _ ⟨s.m, o3, rfl, rfl, by lia, em.symm⟩
      · rintro g gs _ _ ⟨m, o, rfl, rfl, hl, e⟩
        simp only [List.length_cons] at hl
        refine AsT.nam G (.l (.tail (.tail (.tail (.tail (.tail (.tail .head))))))) ?_
        refine Bk.cons (St.setD (fun J => rfl) (EvE.bin (EvE.getD (fun J => rfl) (fun J => rfl) rfl (EvE.nam G (.tail .head) rfl ⟨d, m, rfl, hsys, (upd_ne _ _ nda).trans (upd_same ..), VL.use (VL.two (nv G 6 rfl) (G_ALL_CELLS G (mem2 (mem2 mem1)) lf)) ⟨_, _, m, rfl, (upd_ne _ _ nda).trans (upd_same ..), VP.use (nv G 3 rfl) (p_band ⟨_, rfl, EvE.nam G (.tail .head) rfl ⟨d, rfl, EvE.nam G (.tail (.tail (.tail (.tail (.tail (.tail .head)))))) rfl ⟨g, m, rfl, (upd_ne _ _ nda).trans (upd_same ..), by lia, ?_⟩⟩⟩)⟩⟩))))
        have sw:upd (upd (upd σ d (some (.dict m))) a (some (.list (pvI s.found ++ [.int (wH1 s i)])))) d (some (.dict (dput m g (Builtin.bitAnd ((dget m g).getD 65535) (wH2 r s i))))) = upd (upd σ d (some (.dict (wGoal (wH2 r s i) m g)))) a (some (.list (pvI s.found ++ [.int (wH1 s i)]))):=by
          funext b
          by_cases z:b = d
          · subst z; rw [upd_same, upd_ne _ _ nda, upd_same]; rfl
          · rw [upd_ne _ _ z]
            by_cases y:b = a
            · subst y; rw [upd_same, upd_same]
            · rw [upd_ne _ _ y, upd_ne _ _ y, upd_ne _ _ z, upd_ne _ _ z]
        rw [sw]
        refine Bk.nil ⟨_, _, rfl, rfl, ?_, e⟩
        have:(wGoal (wH2 r s i) m g).length ≤ m.length + 1:=dput_len ..
        lia
      · rintro _ _ ⟨m, o, rfl, rfl, hl, e⟩
        have e:m = wM r s i:=e
        subst e
        exact Bk.nil ⟨o, rfl, rfl⟩
    rintro _ _ ⟨o3', rfl, rfl⟩
    refine Bk.cons (St.ifP (fun vs' σ' => vs' = [some (.lst (l_.map ordP)), some (.loc d), some (.loc a), some (.int (wH3 r s i)), some (.int (i:Int)), some (ordP r), o3'] ∧ σ' = upd (upd σ d (some (.dict (wM r s i)))) a (some (.list (pvI s.found ++ [.int (wH1 s i)])))) (TP.or (TP.val (VP.fn (G_is_jump_order G (mem2 (mem2 (mem2 (mem2 mem1)))) lf) kp_is_jump_order (VL.one (nv G 5 rfl)) (f_is_jump_order lp)) (fun J J => rfl)) (fun hh => TP.or1 (TP.val (VP.fn (G_is_return G (mem2 (mem2 (mem2 (mem2 (mem2 (mem2 mem1)))))) lf) kp_is_return (VL.one (nv G 5 rfl)) (f_is_return lp)) (fun J J => rfl)))) (fun hj => ?_) (fun hj => ⟨by rw [show wH3 r s i = wH2 r s i from if_neg (by rw [hj]; decide)], rfl⟩) ?_)
    · refine Bk.cons (St.asnV G (G_ALL_CELLS G (mem2 (mem2 mem1)) lf) (.l (.tail (.tail (.tail .head)))) ?_)
      exact Bk.nil ⟨by rw [show wH3 r s i = 65535 from if_pos hj], rfl⟩
    rintro _ _ ⟨rfl, rfl⟩
    refine Bk.nil ⟨wStep s (i, r), _, _, _, rfl, by simp [wStep, pvI], by simp [wStep]; lia, ?_, fun p m => hr p (.tail _ m), k⟩
    refine (?_:(wM r s i).length + _ ≤ _)
    have:(wM r s i).length ≤ s.m.length + 2:=by
      unfold wM
      split
      · exact Nat.le_trans (wGoals_len ..) (by lia)
      · lia
    lia
  · rintro _ _ ⟨s, o1, o2, o3, rfl, rfl, _, _, _, k⟩
    refine Tr.freeze (a:=a) (l:=pvI s.found) (upd_same ..) (FzS.yes (.same _) (.yes (.same _) (.yes .loc (.yes (.same _) (FzS.o (FzS.o (FzS.o .nil o3) o2) o1))))) ?_
    rw [upd_back (by rw [upd_ne _ _ (Ne.symm nda)]; exact ha')]
    exact Bk.cons (St.retV (nv G 2 rfl) ⟨σ, Sub.upd hd, k⟩)
end
section
variable {w:World} {H₀:Heap} {n:Nat} {σ:Store} {K:PV → Store → Prop} {X:PExc → Store → Prop}
noncomputable def setF (fl:List Bool) (g:Int):List Bool:=fl.set g.toNat true
noncomputable def fStep (fl:List Bool) (p:Nat × Row):List Bool:=if fl.getD p.1 false = true then (L_goals_of_classic p.2 (p.1:Int)).foldl setF fl else fl
noncomputable def L_flags (l:List Row):List Bool:=(numR l).foldl fStep ((List.range l.length).map fun (i:Nat) => ((i:Int) == 0))
noncomputable def L_reached (l:List Row):List Int:=List.map (fun (a:Nat) => (a:Int)) (List.filter (fun (a:Nat) => (L_flags l).getD a false) (List.range l.length))
theorem setF_len:∀ (gs:List Int) (fl:List Bool), (gs.foldl setF fl).length = fl.length
  | [], _ => rfl
  | g :: gs, fl => by rw [List.foldl_cons, setF_len gs]; exact List.length_set
theorem fStep_len (fl:List Bool) (p:Nat × Row):(fStep fl p).length = fl.length:=by
  unfold fStep; split
  · exact setF_len ..
  · rfl
theorem pvB_at {fl:List Bool} {i:Nat} (h:i < fl.length):(pvB fl)[i]? = some (.bool (fl.getD i false)):=by
  simp [pvB, List.getD, List.getElem?_eq_getElem h]
inductive FlInv (l_:List Row) (a:Addr) (σ:Store) (rest:List (Nat × Row)) (vs:Slots) (σ':Store):Prop
  | mk (fl:List Bool) (o1 o2:Option PV) (ev:vs = [(some (PV.lst (l_.map ordP))), o1, some (.loc a), o2]) (es:σ' = upd σ a (some (.list (pvB fl)))) (hl:fl.length = l_.length) (hr:∀ p ∈ rest, p ∈ numR l_) (e:rest.foldl fStep fl = L_flags l_)
inductive FlInv2 (l_:List Row) (a:Addr) (σ:Store) (i:Nat) (F:List Bool) (gs:List Int) (vs:Slots) (σ':Store):Prop
  | mk (f:List Bool) (o:Option PV) (ev:vs = [(some (PV.lst (l_.map ordP))), some (.int (i:Int)), some (.loc a), o]) (es:σ' = upd σ a (some (.list (pvB f)))) (hl:f.length = l_.length) (hg:∀ g ∈ gs, 0 ≤ g ∧ g < (l_.length:Int)) (e:gs.foldl setF f = F)
theorem f_reached_orders {l_:List Row} (hz_:l_.length ≤ 100) (hg_:∀ p ∈ numR l_, ∀ g ∈ L_goals_of_classic p.2 (p.1:Int), 0 ≤ g ∧ g < (l_.length:Int)) (k:K (.lst (pvI (L_reached l_))) σ):PrimC w H₀ (n + 8) [.lst (l_.map ordP)] σ (.ref 341) K X:=by
  refine PrimC.drop ?_
  refine PrimC.def (params:=["orders"]) (ns:=["orders", "at", "flags", "goal"]) (ks:=[.local, .local, .cell, .local]) (gs:=["range", "len", "goals_of_classic"]) (vs:=[some (.lst (l_.map ordP)), none, none, none]) (oc':=["flags"]) rfl (by kernel_rfl) ?_ rfl rfl rfl (by kernel_rfl) (by kernel_rfl) rfl rfl ?_
  · intro vals hv
    apply len1 hv; intros; rfl
  intro S G
  refine Bk.cons (St.asnS G (EvE.compM [] rfl G (FreeOk.loc (FreeOk.loc FreeOk.nil)) rfl (by kernel_rfl) (fun J h => (List.not_mem_nil h).elim) (fun J J => rfl) (VI.use (VI.range (m:=l_.length) (B_range G mem1 lf) (VP.call (B_len G (mem2 mem1) lf) Kept.builtin (VL.one (nv G 0 rfl)) (p_lenL (by simp; lia) lp)) (by simp) (by lia)) ⟨_, _, _, _, CS.loc (CS.loc CS.nil), fun S' G' => CompT.map (V:=fun o => [none, o.map fun (a:Nat) => PV.int (a:Int)]) (f:=fun i => PV.int (i:Nat)) (g:=fun (a:Nat) => PV.bool ((a:Int) == 0)) (List.range l_.length) [] none (fun o a m K X k => AsT.nam G' (.l (.tail .head)) k) (fun a m => VP.cmp (nv G' 1 rfl) cI (p_eq lp)) (by simp; lia) ?_⟩)) fun env he => swaps_cell G he (.tail (.tail .head)))
  intro a ha
  refine ⟨_, .c (.tail (.tail .head)) mem1, ?_⟩
  refine Bk.cons (St.forV rfl (VI.range (m:=l_.length) (B_range G mem1 lf) (VP.call (B_len G (mem2 mem1) lf) Kept.builtin (VL.one (nv G 0 rfl)) (p_lenL (by simp; lia) lp)) (by simp) (by lia)) ?_)
  rw [range_numR]
  refine ForT.inv _ (FlInv l_ a σ) ?_ ?_ _ _ _
    ⟨(List.range l_.length).map fun (i:Nat) => ((i:Int) == 0), none, none, rfl, by simp [pvB, List.map_map, Function.comp_def], by simp, fun p m => m, rfl⟩
  · rintro ⟨i, r⟩ rest _ _ ⟨fl, o1, o2, rfl, rfl, hl, hr, k'⟩
    have hx:l_[(i:Int).toNat]? = some r:=numR_at (hr (i, r) (.head _))
    have hi:i < fl.length:=by rw [hl]; exact (List.getElem?_eq_some_iff.mp hx).1
    refine AsT.nam G (.l (.tail .head)) ?_
    refine Bk.cons (St.ifP (fun vs' σ' => ∃ o:Option PV, vs' = [(some (PV.lst (l_.map ordP))), some (.int (i:Int)), some (.loc a), o] ∧ σ' = upd σ a (some (.list (pvB (fStep fl (i, r)))))) (TP.val (b:=fl.getD i false) (VP.item (nv G 2 rfl) (nv G 1 rfl) (p_itemM (upd_same ..) (by lia) (pvB_at hi) (by lia) lp (fun J J => rfl))) (fun J J => rfl)) (fun hj => ?_) (fun hj => ⟨o2, rfl, by rw [show fStep fl (i, r) = fl from if_neg (by show ¬ fl.getD i false = true; rw [hj]; decide)]⟩) ?_)
    · have em:fStep fl (i, r) = (L_goals_of_classic r (i:Int)).foldl setF fl:=if_pos hj
      refine Bk.cons (St.forV rfl (VI.lst (VP.fn (G_goals_of_classic G (mem2 (mem2 mem1)) lf) kp_goals_of_classic (VL.two (nv G 0 rfl) (nv G 1 rfl)) (f_goals_of_classic (by lia) hx (by lia) lp))) ?_)
      refine ForT.inv PV.int (FlInv2 l_ a σ i (fStep fl (i, r))) ?_ ?_ _ _ _ ⟨fl, o2, rfl, rfl, hl, hg_ (i, r) (hr (i, r) (.head _)), em.symm⟩
      · rintro g gs _ _ ⟨f, o, rfl, rfl, hf, hgs, e⟩
        obtain ⟨g0, g1⟩:=hgs g (.head _)
        refine AsT.nam G (.l (.tail (.tail (.tail .head)))) ?_
        refine Bk.cons (St.setL (fun J => rfl) (VP.use cB (EvE.nam G (.tail (.tail .head)) rfl ⟨a, rfl, EvE.nam G (.tail (.tail (.tail .head))) rfl ⟨g, _, rfl, upd_same .., g0, by simp [pvB]; lia, by simp [pvB]; lia, ?_⟩⟩)))
        rw [upd_upd]
        exact Bk.nil ⟨setF f g, _, rfl, by simp [setF, pvB, List.map_set], by rw [setF, List.length_set]; exact hf, fun g m => hgs g (.tail _ m), e⟩
      · rintro _ _ ⟨f, o, rfl, rfl, hf, _, e⟩
        have e:f = fStep fl (i, r):=e
        subst e
        exact Bk.nil ⟨o, rfl, rfl⟩
    rintro _ _ ⟨o, rfl, rfl⟩
    exact Bk.nil ⟨fStep fl (i, r), _, _, rfl, rfl, by rw [fStep_len]; exact hl, fun p m => hr p (.tail _ m), k'⟩
  · rintro _ _ ⟨fl, o1, o2, rfl, rfl, hl, _, e⟩
    have e:fl = L_flags l_:=e
    subst e
    refine Bk.cons (St.retV (VP.comp (out:=pvI (L_reached l_)) [] rfl G (FreeOk.loc (FreeOk.loc (FreeOk.freeC (.tail (.tail .head)) FreeOk.nil))) rfl (by kernel_rfl) (fun J h => (List.not_mem_nil h).elim) (VI.range (m:=l_.length) (B_range G mem1 lf) (VP.call (B_len G (mem2 mem1) lf) Kept.builtin (VL.one (nv G 0 rfl)) (p_lenL (by simp; lia) lp)) (by simp) (by lia)) (CS.loc (CS.loc (CS.freeC (.tail (.tail .head)) CS.nil))) (fun S' G' K k => CompT.filt (V:=fun o => [none, o.map fun (a:Nat) => PV.int (a:Int), some (.loc a)]) (f:=fun i => PV.int (i:Nat)) (g:=fun (a:Nat) => PV.int (a:Int)) (b:=fun (a:Nat) => (L_flags l_).getD a false) (List.range l_.length) [] none (fun o a m K X k => AsT.nam G' (.l (.tail .head)) k)
      (fun i m => TP.val (VP.item (nv G' 2 rfl) (nv G' 1 rfl) (p_itemM (upd_same ..) (by lia) (pvB_at (by rw [hl]; exact List.mem_range.mp m)) (by have:=List.mem_range.mp m; lia) lp (fun J J => rfl))) (fun J J => rfl)) (fun a m J => EvE.nam G' (.tail .head) rfl lf) (by simp; lia) (by simpa only [pvI, L_reached, List.map_map, Function.comp_def, List.nil_append] using k))) ⟨σ, Sub.upd ?_, k⟩)
    exact ha
noncomputable def firstF {α:Type} (f:α → Option PExc):List α → Option PExc
  | [] => none
  | a :: l => match f a with
    | some e => some e
    | none => firstF f l
noncomputable def rowFault (len:Nat) (p:Nat × Row):Option PExc:=match L_check_known p.2 (p.1:Int) with
  | some e => some e
  | none => match L_check_number p.2 (p.1:Int) with
    | some e => some e
    | none => if (L_is_jump_order p.2 && decide ((len:Int) ≤ maxI (L_goals_of_classic p.2 (p.1:Int)))) = true then some ⟨64, "goal out of the program", some (p.1:Int)⟩ else none
noncomputable def cellFault (M:List Int) (p:Nat × Row):Option PExc:=if (decide ((0:Int) ≤ L_read_cell p.2) && (Builtin.bitAnd (Int.fdiv (M.getD p.1 0) (2 ^ Int.toNat (L_read_cell p.2))) 1 == 0)) = true then some ⟨64, "cell not written", some (p.1:Int)⟩ else none
noncomputable def L_check_classic (l:List Row) (last:Row):Out:=thenO (firstF (rowFault l.length) (numR l)) (if (!(L_is_return last)) = true then .error ⟨64, "no return at the end", some ((l.length:Int) - 1)⟩ else thenO (firstF (cellFault (L_written_cells l)) (numR l)) (.ok (.lst (l.map ordP))))
theorem rn_cases {K₁:PV → Store → Prop} {X:PExc → Store → Prop} {σ:Store} {m:Option PExc} (hs:∀ e, m = some e → X e σ) (hn:m = none → K₁ .none σ):rn K₁ X σ m:=by
  cases m with
  | none => exact hn rfl
  | some e => exact hs e rfl
theorem goals_ne {r:Row} {i:Int} (h:L_is_jump_order r = true):0 < (L_goals_of_classic r i).length:=by
  have h5:Builtin.bitAnd r.c 7 = 5:=by simpa [L_is_jump_order] using h
  have h6:L_is_return r = false:=by
    unfold L_is_return; rw [h5]; decide
  unfold L_goals_of_classic
  rw [h6, h]
  simp only [Bool.not_true, Bool.false_eq_true, if_false]
  split
  · exact Nat.le_of_ble_eq_true rfl
  · split <;> exact Nat.le_of_ble_eq_true rfl
theorem wc_len (l:List Row):(L_written_cells l).length = l.length:=by
  have key:∀ (ps:List (Nat × Row)) (s:WS), (ps.foldl wStep s).found.length = s.found.length + ps.length:=by
    intro ps
    induction ps with
    | nil => intro s; rfl
    | cons p ps ih => intro s; rw [List.foldl_cons, ih]; simp [wStep]; lia
  unfold L_written_cells
  rw [key, numR_len]; simp
theorem firstF_none {α:Type} {f:α → Option PExc} {l:List α} (h:firstF f l = none):∀ a ∈ l, f a = none:=by
  induction l with
  | nil => intro b m; cases m
  | cons a l ih =>
    intro b m
    unfold firstF at h
    cases e:f a with
    | some x => rw [e] at h; cases h
    | none =>
      rw [e] at h
      rcases List.mem_cons.mp m with rfl | m
      · exact e
      · exact ih h b m
inductive CkInv (l_:List Row) (σ:Store) (P:List (Nat × Row) → Prop) (o2:Option PV) (rest:List (Nat × Row)) (vs:Slots) (σ':Store):Prop
  | mk (o1:Option PV) (ev:vs = [(some (PV.lst (l_.map ordP))), o1, o2, none]) (es:σ = σ') (hr:∀ p ∈ rest, p ∈ numR l_) (e:P rest)
inductive CkInv2 (l_:List Row) (σ:Store) (o:Option PV) (P:List (Nat × Row) → Prop) (rest:List (Nat × Row)) (vs:Slots) (σ':Store):Prop
  | mk (o1 o2:Option PV) (ev:vs = [(some (PV.lst (l_.map ordP))), o1, o, o2]) (es:σ = σ') (hr:∀ p ∈ rest, p ∈ numR l_) (e:P rest)
theorem f_check_classic {l_:List Row} {last_:Row} (hz_:l_.length ≤ 100) (hl_:l_.getLast? = some last_) (hw_:∀ p ∈ numR l_, rowFault l_.length p = none → L_written_cell p.2 ≤ 1000) (k:ro K X σ (L_check_classic l_ last_)):PrimC w H₀ (n + 9) [.lst (l_.map ordP)] σ (.ref 348) K X:=by
  have hne:l_.length ≠ 0:=fun e => by
    have:=List.length_eq_zero_iff.mp e
    subst this; simp at hl_
  have hlast:(l_.map ordP).getLast? = some (ordP last_):=by rw [List.getLast?_map, hl_]; rfl
  refine PrimC.def (params:=["orders"]) (ns:=["orders", "at", "masks", "cell"]) (ks:=[.local, .local, .local, .local]) (gs:=["len", "ProgramError", "MOST_CLASSIC", "range", "check_known", "check_number", "is_jump_order", "max", "goals_of_classic", "is_return", "written_cells", "read_cell"]) (vs:=[some (.lst (l_.map ordP)), none, none, none]) (oc':=[]) rfl (by kernel_rfl) ?_ rfl rfl rfl (by kernel_rfl) (by kernel_rfl) rfl rfl ?_
  · intro vals hv
    apply len1 hv; intros; rfl
  intro S G
  refine Bk.cons (St.iteV (TP.cmp (VP.call (B_len G mem1 lf) Kept.builtin (VL.one (nv G 0 rfl)) (p_lenL (by simp; lia) lp)) cI (p_eq lp)) ?_)
  rw [if_neg (by simp; exact fun e => hne (by rw [e]; rfl))]
  refine Bk.nil (Bk.cons (St.iteV (TP.cmp (VP.call (B_len G mem1 lf) Kept.builtin (VL.one (nv G 0 rfl)) (p_lenL (by simp; lia) lp)) (G_MOST_CLASSIC G (mem2 (mem2 mem1)) lf) (p_gt lp)) ?_))
  rw [if_neg (by simp; lia)]
  refine Bk.nil ?_
  refine Bk.cons (St.forV rfl (VI.range (m:=l_.length) (B_range G (mem2 (mem2 (mem2 mem1))) lf) (VP.call (B_len G mem1 lf) Kept.builtin (VL.one (nv G 0 rfl)) (p_lenL (by simp; lia) lp)) (by simp) (by lia)) ?_)
  rw [range_numR]
  refine ForT.inv _ (CkInv l_ σ (fun rest => firstF (rowFault l_.length) (numR l_) = firstF (rowFault l_.length) rest) none) ?_ ?_ _ _ _ ⟨none, rfl, rfl, fun p m => m, rfl⟩
  · rintro ⟨i, r⟩ rest _ _ ⟨o1, rfl, rfl, hr, e⟩
    have hx:l_[(i:Int).toNat]? = some r:=numR_at (hr (i, r) (.head _))
    have ex:∀ e', rowFault l_.length (i, r) = some e' → X e' σ:=fun e' h => by
      have:firstF (rowFault l_.length) ((i, r) :: rest) = some e':=by simp only [firstF, h]
      unfold L_check_classic at k
      rw [e, this] at k
      exact k
    refine AsT.nam G (.l (.tail .head)) ?_
    refine Bk.cons (St.drop G (fun J => rfl) (EvE.fn (G_check_known G (mem2 (mem2 (mem2 (mem2 mem1)))) lf) kp_check_known (VL.two (VP.item (nv G 0 rfl) (nv G 1 rfl) (p_itemO (by lia) hx (by lia))) (nv G 1 rfl)) (f_check_known (rn_cases (fun e' h => ex e' (by simp only [rowFault, h])) fun h1 => ⟨rfl, ?_⟩))))
    refine Bk.cons (St.drop G (fun J => rfl) (EvE.fn (G_check_number G (mem2 (mem2 (mem2 (mem2 (mem2 mem1))))) lf) kp_check_number (VL.two (VP.item (nv G 0 rfl) (nv G 1 rfl) (p_itemO (by lia) hx (by lia))) (nv G 1 rfl)) (f_check_number (rn_cases (fun e' h => ex e' (by simp only [rowFault, h1, h])) fun h2 => ⟨rfl, ?_⟩))))
    refine Bk.cons (St.iteV (TP.and (TP.val (VP.fn (G_is_jump_order G (mem2 (mem2 (mem2 (mem2 (mem2 (mem2 mem1)))))) lf) kp_is_jump_order (VL.one (VP.item (nv G 0 rfl) (nv G 1 rfl) (p_itemO (by lia) hx (by lia)))) (f_is_jump_order lp)) (fun J J => rfl)) (fun hh => TP.and1 (TP.cmp (VP.call (B_max G (mem2 (mem2 (mem2 (mem2 (mem2 (mem2 (mem2 mem1))))))) lf) Kept.builtin (VL.one (VP.fn (G_goals_of_classic G (mem2 (mem2 (mem2 (mem2 (mem2 (mem2 (mem2 (mem2 mem1)))))))) lf) kp_goals_of_classic (VL.two (nv G 0 rfl) (nv G 1 rfl)) (f_goals_of_classic (by lia) hx (by lia) lp))) (p_maxV (goals_ne hh))) (VP.call (B_len G mem1 lf) Kept.builtin (VL.one (nv G 0 rfl)) (p_lenL (by simp; lia) lp)) (p_ge lp)))) ?_)
    rw [List.length_map]
    by_cases hc:(L_is_jump_order r && decide ((l_.length:Int) ≤ maxI (L_goals_of_classic r (i:Int)))) = true
    · rw [if_pos hc]
      exact Bk.cons (St.raise2 (excCls64 w) ty64 kp_ProgramError (G_ProgramError G (mem2 mem1) lf) (VL.two cS (nv G 1 rfl)) (ex _ (by simp only [rowFault, h1, h2]; exact if_pos hc)))
    · rw [if_neg hc]
      refine Bk.nil (Bk.nil ⟨_, rfl, rfl, fun p m => hr p (.tail _ m), e.trans ?_⟩)
      have:rowFault l_.length (i, r) = none:=by simp only [rowFault, h1, h2]; exact if_neg hc
      simp only [firstF, this]
  · rintro _ _ ⟨o1, rfl, rfl, _, e⟩
    have e:firstF (rowFault l_.length) (numR l_) = none:=e
    have hf:=firstF_none e
    unfold L_check_classic at k
    rw [e] at k
    refine Bk.cons (St.iteV (TP.not (TP.val (VP.fn (G_is_return G (mem2 (mem2 (mem2 (mem2 (mem2 (mem2 (mem2 (mem2 (mem2 mem1))))))))) lf) kp_is_return (VL.one (VP.item (nv G 0 rfl) (VP.neg cI) (p_itemBack hlast (by simp; lia) lp (fun J J => rfl)))) (f_is_return lp)) (fun J J => rfl))) (iteR k (fun h k => ?_) (fun h k => ?_)))
    · exact Bk.cons (St.raise2 (excCls64 w) ty64 kp_ProgramError (G_ProgramError G (mem2 mem1) lf) (VL.two cS (VP.bin (VP.call (B_len G mem1 lf) Kept.builtin (VL.one (nv G 0 rfl)) (p_lenL (by simp; lia) lp)) cI (p_sub lp))) (by rw [List.length_map]; exact k))
    refine Bk.nil ?_
    refine Bk.cons (St.asnV G (VP.fn (G_written_cells G (mem2 (mem2 (mem2 (mem2 (mem2 (mem2 (mem2 (mem2 (mem2 (mem2 mem1)))))))))) lf) kp_written_cells (VL.one (nv G 0 rfl)) (f_written_cells hz_ (fun r hr => by
      obtain ⟨i, hi⟩:=List.mem_iff_getElem?.mp hr
      exact hw_ (i, r) (List.mem_map.mpr ⟨(r, i), List.mem_zipIdx_iff_getElem?.mpr hi, rfl⟩) (hf _ (List.mem_map.mpr ⟨(r, i), List.mem_zipIdx_iff_getElem?.mpr hi, rfl⟩))) lp)) (.l (.tail (.tail .head))) ?_)
    refine Bk.cons (St.forV rfl (VI.range (m:=l_.length) (B_range G (mem2 (mem2 (mem2 mem1))) lf) (VP.call (B_len G mem1 lf) Kept.builtin (VL.one (nv G 0 rfl)) (p_lenL (by simp; lia) lp)) (by simp) (by lia)) ?_)
    rw [range_numR]
    refine ForT.inv _ (CkInv2 l_ σ (some (.lst (pvI (L_written_cells l_)))) (fun rest => ro K X σ (thenO (firstF (cellFault (L_written_cells l_)) rest) (.ok (.lst (l_.map ordP)))))) ?_ ?_ _ _ _ ⟨_, none, rfl, rfl, fun p m => m, k⟩
    · rintro ⟨i, r⟩ rest _ _ ⟨o1, o2, rfl, rfl, hr, k⟩
      have hx:l_[(i:Int).toNat]? = some r:=numR_at (hr (i, r) (.head _))
      have hi:i < (L_written_cells l_).length:=by rw [wc_len]; exact (List.getElem?_eq_some_iff.mp hx).1
      have hM:(L_written_cells l_)[(i:Int).toNat]? = some ((L_written_cells l_).getD i 0):=by simp [List.getD, List.getElem?_eq_getElem hi]
      refine AsT.nam G (.l (.tail .head)) ?_
      refine Bk.cons (St.asnV G (VP.fn (G_read_cell G (mem2 (mem2 (mem2 (mem2 (mem2 (mem2 (mem2 (mem2 (mem2 (mem2 (mem2 mem1))))))))))) lf) kp_read_cell (VL.one (VP.item (nv G 0 rfl) (nv G 1 rfl) (p_itemO (by lia) hx (by lia)))) (f_read_cell lp)) (.l (.tail (.tail (.tail .head)))) ?_)
      refine Bk.cons (St.iteV (TP.and (TP.cmp (nv G 3 rfl) cI (p_ge lp)) (fun hh => TP.and1 (TP.cmp (VP.bin (VP.bin (VP.item (nv G 2 rfl) (nv G 1 rfl) (p_itemI (by lia) hM (by rw [wc_len]; lia))) (nv G 3 rfl) (p_shr (of_decide_eq_true hh) lp)) cI (p_band lp)) cI (p_eq lp)))) ?_)
      by_cases hc:(decide ((0:Int) ≤ L_read_cell r) && (Builtin.bitAnd (Int.fdiv ((L_written_cells l_).getD i 0) (2 ^ Int.toNat (L_read_cell r))) 1 == 0)) = true
      · rw [if_pos hc]
        have:firstF (cellFault (L_written_cells l_)) ((i, r) :: rest) = some ⟨64, "cell not written", some (i:Int)⟩:=by
          simp only [firstF, show cellFault (L_written_cells l_) (i, r) = some ⟨64, "cell not written", some (i:Int)⟩ from if_pos hc]
        rw [this] at k
        exact Bk.cons (St.raise2 (excCls64 w) ty64 kp_ProgramError (G_ProgramError G (mem2 mem1) lf) (VL.two cS (nv G 1 rfl)) k)
      · rw [if_neg hc]
        have:firstF (cellFault (L_written_cells l_)) ((i, r) :: rest) = firstF (cellFault (L_written_cells l_)) rest:=by
          simp only [firstF, show cellFault (L_written_cells l_) (i, r) = none from if_neg hc]
        rw [this] at k
        exact Bk.nil (Bk.nil ⟨_, _, rfl, rfl, fun p m => hr p (.tail _ m), k⟩)
    · rintro _ _ ⟨o1, o2, rfl, rfl, _, k⟩
      exact Bk.cons (St.retV (nv G 0 rfl) k)
end
noncomputable def knownL:List Int:=[0, 32, 40, 48, 64, 72, 80, 96, 128, 1, 97, 129, 177, 2, 3, 4, 20, 36, 52, 68, 84, 100, 116, 132, 148, 164, 12, 28, 44, 60, 76, 92, 108, 124, 156, 172, 5, 21, 29, 37, 45, 53, 61, 69, 77, 6, 22, 7, 135]
noncomputable def deedsL:List Int:=[4, 20, 36, 52, 68, 84, 100, 116, 132, 148, 164, 12, 60, 108, 172]
section
variable {w:World} {H₀:Heap} {S:Fx} {n:Nat} {σ:Store} {vs:Slots}
theorem fmod_rng (x:Int) {m:Int} (h:0 < m):0 ≤ x.fmod m ∧ x.fmod m < m:=⟨Int.fmod_nonneg_of_pos x h, Int.fmod_lt_of_pos x h⟩
theorem p_itemDict {K:PV → Store → Prop} {X:PExc → Store → Prop} {value slice:Expr} {a:Addr} {i j:Int} {m:List (Int × Int)} (hσ:σ a = some (.dict m)) (hg:dget m i = some j) (k:K (.int j) σ)
    (hs:∀ a u, subscripted slice false (.ref a) (.int i u) = operate [.ref a, .int i u] (getItem (.ref a) (.int i u))):Prim w H₀ n [.loc a, .int i] σ (p2 (subscriptTail value slice)) K X:=Mine.p_itemD hσ hg k hs
theorem p_itemN {value slice:Expr} {l:List Int} {i:Int} (h0:0 ≤ i) (h1:i < (l.length:Int)) (hz:Nat.ble l.length 1000 = true:=by rfl)
    (hs:∀ a u, subscripted slice false (.ref a) (.int i u) = operate [.ref a, .int i u] (getItem (.ref a) (.int i u)):=by intro _ _; rfl):PP w H₀ n σ [.lst (pvI l), .int i] (p2 (subscriptTail value slice)) (.int (l.getD i.toNat 0)):=by
  have hlt:i.toNat < l.length:=by lia
  exact p_itemI h0 (by simp [List.getD, List.getElem?_eq_getElem hlt]) (Nat.le_of_ble_eq_true hz) hs
theorem p_itemM2 {value slice:Expr} {l:List Int} {x m:Int} (hm:0 < m) (h1:m ≤ (l.length:Int)) (hz:Nat.ble l.length 1000 = true:=by rfl)
    (hs:∀ a u, subscripted slice false (.ref a) (.int (x.fmod m) u) = operate [.ref a, .int (x.fmod m) u] (getItem (.ref a) (.int (x.fmod m) u)):=by intro _ _; rfl):PP w H₀ n σ [.lst (pvI l), .int (x.fmod m)] (p2 (subscriptTail value slice)) (.int (l.getD (x.fmod m).toNat 0)) :=
  p_itemN (fmod_rng x hm).1 (Int.lt_of_lt_of_le (fmod_rng x hm).2 h1) hz hs
theorem p_itemRD {value slice:Expr} {l:List Row} {i:Int} (d:Row) (h0:0 ≤ i) (h1:i < (l.length:Int)) (hz:Nat.ble l.length 1000 = true:=by rfl)
    (hs:∀ a u, subscripted slice false (.ref a) (.int i u) = operate [.ref a, .int i u] (getItem (.ref a) (.int i u)):=by intro _ _; rfl):PP w H₀ n σ [.lst (l.map rowP), .int i] (p2 (subscriptTail value slice)) (rowP (l.getD i.toNat d)):=by
  have hlt:i.toNat < l.length:=by lia
  exact p_itemR h0 (by simp [List.getD, List.getElem?_eq_getElem hlt]) (Nat.le_of_ble_eq_true hz) hs
end
theorem any2 {a b k:Int} (h:([a, b]:List Int).any (· == k) = true):k = a ∨ k = b:=by
  rw [List.any_eq_true] at h
  obtain ⟨x, hx, e⟩:=h
  have e:=beq_iff_eq.mp e
  subst e
  simpa using hx
theorem any5 {a b c d e k:Int} (h:([a, b, c, d, e]:List Int).any (· == k) = true):k = a ∨ k = b ∨ k = c ∨ k = d ∨ k = e:=by
  rw [List.any_eq_true] at h
  obtain ⟨x, hx, e⟩:=h
  have e:=beq_iff_eq.mp e
  subst e
  simpa using hx
section
variable {w:World} {H₀:Heap} {n:Nat} {σ:Store} {K:PV → Store → Prop} {X:PExc → Store → Prop}
theorem f_law_known (k:K (.lst (pvI knownL)) σ):PrimC w H₀ (n + 6) [] σ (.ref 353) K X:=by
  refine PrimC.def (params:=[]) (ns:=["found"]) (ks:=[.local]) (gs:=["range"]) (vs:=[none]) (oc':=[]) rfl (by kernel_rfl) ?_ rfl rfl rfl (by kernel_rfl) (by kernel_rfl) rfl rfl ?_
  · intro vals hv
    apply len0 hv; rfl
  intro S G
  refine Bk.cons (St.asnV G (VP.list (VL.cons cI (VL.cons cI (VL.cons cI (VL.cons cI (VL.cons cI (VL.cons cI (VL.cons cI (VL.cons cI (VL.cons cI (VL.cons cI (VL.cons cI (VL.four cI cI cI cI))))))))))))) (.l .head) ?_)
  refine Bk.cons (St.asnV G (VP.bin (VP.bin (nv G 0 rfl) (VP.comp (out:=(pvI (List.map (fun (a:Nat) => ((4:Int) + ((16:Int) * (a:Int)))) (List.range 11)))) [] rfl G (FreeOk.loc (FreeOk.loc FreeOk.nil)) rfl (by kernel_rfl) (fun J h => by first | exact (List.not_mem_nil h).elim | (simp only [List.mem_cons, List.not_mem_nil, or_false] at h; rcases h with rfl | rfl <;> simp)) (VI.range (m:=11) (B_range G mem1 lf) cI rfl (by decide)) (CS.loc (CS.loc CS.nil)) (fun S' G' K k => CompT.map (V:=fun o => [none, o.map (fun (a:Nat) => PV.int (a:Nat))]) (f:=(fun i => PV.int (i:Nat))) (g:=fun (a:Nat) => PV.int (((4:Int) + ((16:Int) * (a:Int))))) (List.range 11) [] none (fun o a m K X k => AsT.nam G' (.l (.tail .head)) k) (fun a m => (VP.bin cI (VP.bin cI (nv G' 1 rfl) (p_mul (by first | exact IntMulOk.of_left (by decide) | exact IntMulOk.of_right (by decide) | assumption) lp)) (p_add lp))) (by decide) (by simpa only [pvI, pvB, pvS, pvBy, List.map_map, Function.comp_def, List.nil_append] using k))) (p_addL (by decide) lp)) (VP.comp (out:=(pvI (List.map (fun (a:Int) => ((12:Int) + ((16:Int) * a))) ([(0:Int), (1:Int), (2:Int), (3:Int), (4:Int), (5:Int), (6:Int), (7:Int), (9:Int), (10:Int)]:List Int)))) [] rfl G (FreeOk.loc (FreeOk.loc FreeOk.nil)) rfl (by kernel_rfl) (fun J h => by first | exact (List.not_mem_nil h).elim | (simp only [List.mem_cons, List.not_mem_nil, or_false] at h; rcases h with rfl | rfl <;> simp)) (VI.tup (VP.tuple (VL.cons cI (VL.cons cI (VL.cons cI (VL.cons cI (VL.cons cI (VL.cons cI (VL.four cI cI cI cI))))))))) (CS.loc (CS.loc CS.nil)) (fun S' G' K k => CompT.map (V:=fun o => [none, o.map (fun (a:Int) => PV.int a)]) (f:=PV.int) (g:=fun (a:Int) => PV.int (((12:Int) + ((16:Int) * a)))) ([(0:Int), (1:Int), (2:Int), (3:Int), (4:Int), (5:Int), (6:Int), (7:Int), (9:Int), (10:Int)]:List Int) [] none (fun o a m K X k => AsT.nam G' (.l (.tail .head)) k) (fun a m => (VP.bin cI (VP.bin cI (nv G' 1 rfl) (p_mul (by first | exact IntMulOk.of_left (by decide) | exact IntMulOk.of_right (by decide) | assumption) lp)) (p_add lp))) (by decide) (by simpa only [pvI, pvB, pvS, pvBy, List.map_map, Function.comp_def, List.nil_append] using k))) (p_addL (by decide) lp)) (.l .head) ?_)
  refine Bk.cons (St.retV (VP.bin (nv G 0 rfl) (VP.list (VL.cons cI (VL.cons cI (VL.cons cI (VL.cons cI (VL.cons cI (VL.cons cI (VL.cons cI (VL.cons cI (VL.cons cI (VL.four cI cI cI cI))))))))))) (p_addL (by decide) lp)) ?_)
  rw [show List.map (fun (a:Nat) => ((4:Int) + ((16:Int) * (a:Int)))) (List.range 11) = [4, 20, 36, 52, 68, 84, 100, 116, 132, 148, 164] from by decide +kernel, show List.map (fun (a:Int) => ((12:Int) + ((16:Int) * a))) [0, 1, 2, 3, 4, 5, 6, 7, 9, 10] = [12, 28, 44, 60, 76, 92, 108, 124, 156, 172] from by decide +kernel]
  exact k
noncomputable def kindD (k:Int):Int:=(dget (dmerge [] [(0, 2), (1, 96), (2, 97), (8, 3), (9, 2)]) k).getD 0
theorem p_itemD2 {value slice:Expr} {a:Addr} {i:Int} (hσ:σ a = some (.dict (dmerge [] [(0, 2), (1, 96), (2, 97), (8, 3), (9, 2)]))) (hi:i = 0 ∨ i = 1 ∨ i = 2 ∨ i = 8 ∨ i = 9) (k:K (.int (kindD i)) σ)
    (hs:∀ a u, subscripted slice false (.ref a) (.int i u) = operate [.ref a, .int i u] (getItem (.ref a) (.int i u)):=by intro _ _; rfl):Prim w H₀ n [.loc a, .int i] σ (p2 (subscriptTail value slice)) K X:=by
  have:dget (dmerge [] [(0, 2), (1, 96), (2, 97), (8, 3), (9, 2)]) i = some (kindD i):=by rcases hi with rfl | rfl | rfl | rfl | rfl <;> decide
  exact p_itemDict hσ this k hs
noncomputable def L_row3 (kind_:Int) (cell_no_:Int) (left_:Int):Row:=(if ([(0:Int), (1:Int), (2:Int), (8:Int), (9:Int)].any (· == kind_)) = true then (Row.mk (kindD kind_) (0:Int) (0:Int) cell_no_) else (if (kind_ == (6:Int)) = true then (Row.mk ((([(6:Int), (22:Int)]:List Int).getD (Int.toNat (Int.fmod left_ (2:Int))) 0)) ((0:Int)) ((0:Int)) ((Int.fmod (Int.fdiv left_ (2:Int)) ((2:Int) ^ Int.toNat (32:Int))))) else (if (kind_ == (7:Int)) = true then (Row.mk (((deedsL:List Int).getD (Int.toNat (Int.fmod left_ (15:Int))) 0)) ((0:Int)) ((0:Int)) ((([(1:Int), (0:Int), (31:Int), (32:Int), (5:Int), (((2:Int) ^ Int.toNat (32:Int)) - (1:Int))]:List Int).getD (Int.toNat (Int.fmod (Int.fdiv left_ (15:Int)) (6:Int))) 0))) else (if (kind_ == (10:Int)) = true then (Row.mk ((([(7:Int), (135:Int), (0:Int), (1:Int), (128:Int), (129:Int)]:List Int).getD (Int.toNat (Int.fmod left_ (6:Int))) 0)) ((0:Int)) ((0:Int)) ((Int.fmod (Int.fdiv left_ (6:Int)) ((2:Int) ^ Int.toNat (32:Int))))) else (if (kind_ == (12:Int)) = true then (Row.mk ((([(32:Int), (40:Int), (48:Int), (64:Int), (72:Int), (80:Int), (177:Int)]:List Int).getD (Int.toNat (Int.fmod left_ (7:Int))) 0)) ((0:Int)) ((0:Int)) ((Int.fmod (Int.fdiv left_ (7:Int)) ((2:Int) ^ Int.toNat (32:Int))))) else (if (decide ((Int.fmod left_ (6:Int)) < (3:Int))) = true then (Row.mk ((([(Int.fmod (Int.fdiv left_ (6:Int)) (256:Int)), (Int.fmod (Int.fdiv left_ (6:Int)) (65536:Int)), ((256:Int) + (Int.fmod (Int.fdiv left_ (6:Int)) (256:Int)))]:List Int).getD (Int.toNat (Int.fmod left_ (6:Int))) 0)) ((0:Int)) ((0:Int)) ((Int.fmod (Int.fdiv (Int.fdiv left_ (6:Int)) (65536:Int)) (4:Int)))) else (([Row.mk ((21:Int)) ((256:Int)) ((0:Int)) ((1:Int)), Row.mk ((4:Int)) ((0:Int)) ((-(1:Int))) ((1:Int)), Row.mk ((0:Int)) ((0:Int)) ((0:Int)) (((2:Int) ^ Int.toNat (32:Int)))]:List Row).getD (Int.toNat ((Int.fmod left_ (6:Int)) - (3:Int))) ⟨0, 0, 0, 0⟩)))))))
noncomputable def L_row2 (kind_:Int) (left_:Int) (left_orders_:Int):Row:=(if ([(3:Int), (4:Int)].any (· == kind_)) = true then (Row.mk (((([(21:Int), (69:Int)]:List Int).getD (Int.toNat (kind_ - (3:Int))) 0) + (([(0:Int), (8:Int)]:List Int).getD (Int.toNat (Int.fmod (Int.fdiv left_ (left_orders_ ^ Int.toNat (2:Int))) (2:Int))) 0))) ((Int.fmod left_ left_orders_)) ((Int.fmod (Int.fdiv left_ left_orders_) left_orders_)) ((Int.fmod (Int.fdiv (Int.fdiv left_ (left_orders_ ^ Int.toNat (2:Int))) (2:Int)) (9:Int)))) else (if (kind_ == (5:Int)) = true then (Row.mk ((5:Int)) ((0:Int)) ((0:Int)) ((Int.fmod left_ left_orders_))) else (L_row3 kind_ (([(0:Int), (0:Int), (0:Int), (1:Int), (1:Int), (1:Int), (15:Int), (15:Int), (2:Int), (2:Int), (0:Int), (1:Int), (15:Int), (16:Int)]:List Int).getD (Int.toNat (Int.fmod left_ (14:Int))) 0) (Int.fdiv left_ (14:Int)))))
noncomputable def L_law_row (cell_:Int) (left_orders_:Int):Row:=(L_row2 (Int.fmod (Int.fmod cell_ ((2:Int) ^ Int.toNat (96:Int))) (13:Int)) (Int.fdiv (Int.fmod cell_ ((2:Int) ^ Int.toNat (96:Int))) (13:Int)) left_orders_)
theorem f_law_row {cell_:Int} {left_orders_:Int}  (h1_:1 ≤ left_orders_) (h2_:left_orders_ ≤ 11) (k:K (rowP (L_law_row cell_ left_orders_)) σ):PrimC w H₀ (n + 7) [.int cell_, .int left_orders_] σ (.ref 358) K X:=by
  refine PrimC.drop ?_
  refine PrimC.def (params:=["cell", "left_orders"]) (ns:=["cell", "left_orders", "left", "kind", "jt", "jf", "cell_no", "deeds", "way"]) (ks:=[.local, .local, .local, .local, .local, .local, .local, .local, .local]) (gs:=["range"]) (vs:=[some (.int cell_), some (.int left_orders_), none, none, none, none, none, none, none]) (oc':=[]) rfl (by kernel_rfl) ?_ rfl rfl rfl (by kernel_rfl) (by kernel_rfl) rfl rfl ?_
  · intro vals hv
    apply len2 hv; intros; rfl
  intro S G
  have hq_:((Builtin.Int.intBits left_orders_:Nat):Int) * (2:Int) ≤ 2 ^ 27 ∧ left_orders_ ^ Int.toNat (2:Int) ≠ 0 ∧ (left_orders_ ^ Int.toNat (2:Int)).natAbs < 1073741824:=by
    have k:∀ m:Nat, m < 12 → 0 < m → ((Builtin.Int.intBits (m:Int):Nat):Int) * (2:Int) ≤ 2 ^ 27 ∧ (m:Int) ^ Int.toNat (2:Int) ≠ 0 ∧ ((m:Int) ^ Int.toNat (2:Int)).natAbs < 1073741824:=by decide +kernel
    have:=k left_orders_.toNat (by lia) (by lia)
    rw [Int.toNat_of_nonneg (Int.le_trans (by decide) h1_)] at this
    exact this
  have hq1_:=hq_.1
  have hq2_:=hq_.2.1
  have hq3_:=hq_.2.2
  refine Bk.cons (St.asnV G (VP.bin (nv G 0 rfl) (VP.bin cI cI (p_pow (by first | assumption | decide | lia) (by first | assumption | decide | lia) lp)) (p_mod (by first | assumption | decide | lia) lp)) (.l (.tail (.tail .head))) ?_)
  refine Bk.cons (St.sw2 G (.tail (.tail (.tail .head))) (.tail (.tail .head)) rfl (VP.use (VP.tuple (VL.two (VP.bin (nv G 2 rfl) cI (p_mod (by first | assumption | decide | lia) lp)) (VP.bin (nv G 2 rfl) cI (p_div (by first | assumption | decide | lia) (PyProof.noPylong_small (by first | assumption | decide | lia)) lp)))) ⟨_, _, rfl, AsB.nam G (.l (.tail (.tail .head))) (AsB.nam G (.l (.tail (.tail (.tail .head)))) (AsB.nil ?_))⟩))
  have k:K (rowP (L_row2 (Int.fmod (Int.fmod cell_ ((2:Int) ^ Int.toNat (96:Int))) (13:Int)) (Int.fdiv (Int.fmod cell_ ((2:Int) ^ Int.toNat (96:Int))) (13:Int)) left_orders_)) σ:=k
  generalize (Int.fmod (Int.fmod cell_ ((2:Int) ^ Int.toNat (96:Int))) (13:Int)) = kind_ at k ⊢
  generalize (Int.fdiv (Int.fmod cell_ ((2:Int) ^ Int.toNat (96:Int))) (13:Int)) = left_ at k ⊢
  refine Bk.cons (St.iteV (TP.cmp (nv G 3 rfl) (VP.tuple (VL.two cI cI)) (p_inT (l:=[(3:Int), (4:Int)]) lp)) (iteP (P:=fun x => K (rowP x) σ) k (fun h k => ?_) (fun h k => ?_)))
  · -- yes
    have hk_:=any2 h
    refine Bk.cons (St.sw3 G (.tail (.tail (.tail (.tail .head)))) (.tail (.tail (.tail (.tail (.tail .head))))) (.tail (.tail .head)) rfl (VP.use (VP.tuple (VL.three (VP.bin (nv G 2 rfl) (nv G 1 rfl) (p_mod (by first | assumption | decide | lia) lp)) (VP.bin (VP.bin (nv G 2 rfl) (nv G 1 rfl) (p_div (by first | assumption | decide | lia) (PyProof.noPylong_small (by first | assumption | decide | lia)) lp)) (nv G 1 rfl) (p_mod (by first | assumption | decide | lia) lp)) (VP.bin (nv G 2 rfl) (VP.bin (nv G 1 rfl) cI (p_pow (by first | assumption | decide | lia) (by first | assumption | decide | lia) lp)) (p_div (by first | assumption | decide | lia) (PyProof.noPylong_small (by first | assumption | decide | lia)) lp)))) ⟨_, _, _, rfl, AsB.nam G (.l (.tail (.tail .head))) (AsB.nam G (.l (.tail (.tail (.tail (.tail (.tail .head)))))) (AsB.nam G (.l (.tail (.tail (.tail (.tail .head))))) (AsB.nil ?_)))⟩))
    exact Bk.cons (St.retV (VP.tuple (VL.four (VP.bin (VP.item (VP.list (VL.two cI cI)) (VP.bin (nv G 3 rfl) cI (p_sub lp)) (p_itemN (l:=[(21:Int), (69:Int)]) (by lia) (by show _ < (2:Int); lia))) (VP.item (VP.list (VL.two cI cI)) (VP.bin (nv G 2 rfl) cI (p_mod (by first | assumption | decide | lia) lp)) (p_itemM2 (l:=[(0:Int), (8:Int)]) (by decide) (by show _ ≤ (2:Int); decide))) (p_add lp)) (nv G 4 rfl) (nv G 5 rfl) (VP.bin (VP.bin (nv G 2 rfl) cI (p_div (by first | assumption | decide | lia) (PyProof.noPylong_small (by first | assumption | decide | lia)) lp)) cI (p_mod (by first | assumption | decide | lia) lp)))) ⟨σ, Sub.refl σ, k⟩)
  · -- no
    refine Bk.nil ?_
    refine Bk.cons (St.iteV (TP.cmp (nv G 3 rfl) cI (p_eq lp)) (iteP (P:=fun x => K (rowP x) σ) k (fun h k => ?_) (fun h k => ?_)))
    · -- yes
      exact Bk.cons (St.retV (VP.tuple (VL.four cI cI cI (VP.bin (nv G 2 rfl) (nv G 1 rfl) (p_mod (by first | assumption | decide | lia) lp)))) ⟨σ, Sub.refl σ, k⟩)
    · -- no
      refine Bk.nil ?_
      refine Bk.cons (St.sw2 G (.tail (.tail (.tail (.tail (.tail (.tail .head)))))) (.tail (.tail .head)) rfl (VP.use (VP.tuple (VL.two (VP.item (VP.list (VL.cons cI (VL.cons cI (VL.cons cI (VL.cons cI (VL.cons cI (VL.cons cI (VL.cons cI (VL.cons cI (VL.cons cI (VL.cons cI (VL.four cI cI cI cI)))))))))))) (VP.bin (nv G 2 rfl) cI (p_mod (by first | assumption | decide | lia) lp)) (p_itemM2 (l:=[(0:Int), (0:Int), (0:Int), (1:Int), (1:Int), (1:Int), (15:Int), (15:Int), (2:Int), (2:Int), (0:Int), (1:Int), (15:Int), (16:Int)]) (by decide) (by show _ ≤ (14:Int); decide))) (VP.bin (nv G 2 rfl) cI (p_div (by first | assumption | decide | lia) (PyProof.noPylong_small (by first | assumption | decide | lia)) lp)))) ⟨_, _, rfl, AsB.nam G (.l (.tail (.tail .head))) (AsB.nam G (.l (.tail (.tail (.tail (.tail (.tail (.tail .head))))))) (AsB.nil ?_))⟩))
      have k:K (rowP (L_row3 kind_ (([(0:Int), (0:Int), (0:Int), (1:Int), (1:Int), (1:Int), (15:Int), (15:Int), (2:Int), (2:Int), (0:Int), (1:Int), (15:Int), (16:Int)]:List Int).getD (Int.toNat (Int.fmod left_ (14:Int))) 0) (Int.fdiv left_ (14:Int)))) σ:=k
      generalize (([(0:Int), (0:Int), (0:Int), (1:Int), (1:Int), (1:Int), (15:Int), (15:Int), (2:Int), (2:Int), (0:Int), (1:Int), (15:Int), (16:Int)]:List Int).getD (Int.toNat (Int.fmod left_ (14:Int))) 0) = cell_no_ at k ⊢
      generalize (Int.fdiv left_ (14:Int)) = left_ at k ⊢
      refine Bk.cons (St.iteV (TP.cmp (nv G 3 rfl) (VP.tuple (VL.cons cI (VL.four cI cI cI cI))) (p_inT (l:=[(0:Int), (1:Int), (2:Int), (8:Int), (9:Int)]) lp)) (iteP (P:=fun x => K (rowP x) σ) k (fun h k => ?_) (fun h k => ?_)))
      · -- yes
        have hk_:=any5 h
        refine Bk.cons (St.ret (EvE.tuple (EvL.cons (EvE.item (EvE.dictC (l:=[(0, 2), (1, 96), (2, 97), (8, 3), (9, 2)]) (CP.cons (CP.cons (CP.cons (CP.cons (CP.cons CP.nil))))) (by decide) (by decide) fun da hda hsys => VP.use (nv G 3 rfl) (p_itemD2 (upd_same ..) hk_ ?_))) fun J => rfl)))
        refine EvL.cons (EvE.cint (EvL.cons (EvE.cint (EvL.cons (EvE.nam G (.tail (.tail (.tail (.tail (.tail (.tail .head)))))) rfl (EvL.nil (p_tup (Nat.le_of_ble_eq_true rfl) ?_))) fun J => rfl)) fun J => rfl)) fun J => rfl
        exact ⟨σ, Sub.upd hda, k⟩
      · -- no
        refine Bk.nil ?_
        refine Bk.cons (St.iteV (TP.cmp (nv G 3 rfl) cI (p_eq lp)) (iteP (P:=fun x => K (rowP x) σ) k (fun h k => ?_) (fun h k => ?_)))
        · -- yes
          exact Bk.cons (St.retV (VP.tuple (VL.four (VP.item (VP.list (VL.two cI cI)) (VP.bin (nv G 2 rfl) cI (p_mod (by first | assumption | decide | lia) lp)) (p_itemM2 (l:=[(6:Int), (22:Int)]) (by decide) (by show _ ≤ (2:Int); decide))) cI cI (VP.bin (VP.bin (nv G 2 rfl) cI (p_div (by first | assumption | decide | lia) (PyProof.noPylong_small (by first | assumption | decide | lia)) lp)) (VP.bin cI cI (p_pow (by first | assumption | decide | lia) (by first | assumption | decide | lia) lp)) (p_mod (by first | assumption | decide | lia) lp)))) ⟨σ, Sub.refl σ, k⟩)
        · -- no
          refine Bk.nil ?_
          refine Bk.cons (St.iteV (TP.cmp (nv G 3 rfl) cI (p_eq lp)) (iteP (P:=fun x => K (rowP x) σ) k (fun h k => ?_) (fun h k => ?_)))
          · -- yes
            refine Bk.cons (St.asnV G (VP.bin (VP.comp (out:=(pvI (List.map (fun (a:Nat) => ((4:Int) + ((16:Int) * (a:Int)))) (List.range 11)))) [] rfl G (FreeOk.loc (FreeOk.loc FreeOk.nil)) rfl (by kernel_rfl) (fun J h => by first | exact (List.not_mem_nil h).elim | (simp only [List.mem_cons, List.not_mem_nil, or_false] at h; rcases h with rfl | rfl <;> simp)) (VI.range (m:=11) (B_range G mem1 lf) cI rfl (by decide)) (CS.loc (CS.loc CS.nil)) (fun S' G' K k => CompT.map (V:=fun o => [none, o.map (fun (a:Nat) => PV.int (a:Nat))]) (f:=(fun i => PV.int (i:Nat))) (g:=fun (a:Nat) => PV.int (((4:Int) + ((16:Int) * (a:Int))))) (List.range 11) [] none (fun o a m K X k => AsT.nam G' (.l (.tail .head)) k) (fun a m => (VP.bin cI (VP.bin cI (nv G' 1 rfl) (p_mul (by first | exact IntMulOk.of_left (by decide) | exact IntMulOk.of_right (by decide) | assumption) lp)) (p_add lp))) (by decide) (by simpa only [pvI, pvB, pvS, pvBy, List.map_map, Function.comp_def, List.nil_append] using k))) (VP.list (VL.four cI cI cI cI)) (p_addL (by decide) lp)) (.l (.tail (.tail (.tail (.tail (.tail (.tail (.tail .head)))))))) ?_)
            exact Bk.cons (St.retV (VP.tuple (VL.four (VP.item (nv G 7 rfl) (VP.bin (nv G 2 rfl) cI (p_mod (by first | assumption | decide | lia) lp)) (p_itemM2 (l:=deedsL) (by decide) (by show _ ≤ (15:Int); decide))) cI cI (VP.item (VP.list (VL.cons cI (VL.cons cI (VL.four cI cI cI (VP.bin (VP.bin cI cI (p_pow (by first | assumption | decide | lia) (by first | assumption | decide | lia) lp)) cI (p_sub lp)))))) (VP.bin (VP.bin (nv G 2 rfl) cI (p_div (by first | assumption | decide | lia) (PyProof.noPylong_small (by first | assumption | decide | lia)) lp)) cI (p_mod (by first | assumption | decide | lia) lp)) (p_itemM2 (l:=[(1:Int), (0:Int), (31:Int), (32:Int), (5:Int), (((2:Int) ^ Int.toNat (32:Int)) - (1:Int))]) (by decide) (by show _ ≤ (6:Int); decide))))) ⟨σ, Sub.refl σ, k⟩)
          · -- no
            refine Bk.nil ?_
            refine Bk.cons (St.iteV (TP.cmp (nv G 3 rfl) cI (p_eq lp)) (iteP (P:=fun x => K (rowP x) σ) k (fun h k => ?_) (fun h k => ?_)))
            · -- yes
              exact Bk.cons (St.retV (VP.tuple (VL.four (VP.item (VP.list (VL.cons cI (VL.cons cI (VL.four cI cI cI cI)))) (VP.bin (nv G 2 rfl) cI (p_mod (by first | assumption | decide | lia) lp)) (p_itemM2 (l:=[(7:Int), (135:Int), (0:Int), (1:Int), (128:Int), (129:Int)]) (by decide) (by show _ ≤ (6:Int); decide))) cI cI (VP.bin (VP.bin (nv G 2 rfl) cI (p_div (by first | assumption | decide | lia) (PyProof.noPylong_small (by first | assumption | decide | lia)) lp)) (VP.bin cI cI (p_pow (by first | assumption | decide | lia) (by first | assumption | decide | lia) lp)) (p_mod (by first | assumption | decide | lia) lp)))) ⟨σ, Sub.refl σ, k⟩)
            · -- no
              refine Bk.nil ?_
              refine Bk.cons (St.iteV (TP.cmp (nv G 3 rfl) cI (p_eq lp)) (iteP (P:=fun x => K (rowP x) σ) k (fun h k => ?_) (fun h k => ?_)))
              · -- yes
                exact Bk.cons (St.retV (VP.tuple (VL.four (VP.item (VP.list (VL.cons cI (VL.cons cI (VL.cons cI (VL.four cI cI cI cI))))) (VP.bin (nv G 2 rfl) cI (p_mod (by first | assumption | decide | lia) lp)) (p_itemM2 (l:=[(32:Int), (40:Int), (48:Int), (64:Int), (72:Int), (80:Int), (177:Int)]) (by decide) (by show _ ≤ (7:Int); decide))) cI cI (VP.bin (VP.bin (nv G 2 rfl) cI (p_div (by first | assumption | decide | lia) (PyProof.noPylong_small (by first | assumption | decide | lia)) lp)) (VP.bin cI cI (p_pow (by first | assumption | decide | lia) (by first | assumption | decide | lia) lp)) (p_mod (by first | assumption | decide | lia) lp)))) ⟨σ, Sub.refl σ, k⟩)
              · -- no
                refine Bk.nil ?_
                refine Bk.cons (St.sw2 G (.tail (.tail (.tail (.tail (.tail (.tail (.tail (.tail .head)))))))) (.tail (.tail .head)) rfl (VP.use (VP.tuple (VL.two (VP.bin (nv G 2 rfl) cI (p_mod (by first | assumption | decide | lia) lp)) (VP.bin (nv G 2 rfl) cI (p_div (by first | assumption | decide | lia) (PyProof.noPylong_small (by first | assumption | decide | lia)) lp)))) ⟨_, _, rfl, AsB.nam G (.l (.tail (.tail .head))) (AsB.nam G (.l (.tail (.tail (.tail (.tail (.tail (.tail (.tail (.tail .head))))))))) (AsB.nil ?_))⟩))
                refine Bk.cons (St.iteV (TP.cmp (nv G 8 rfl) cI (p_lt lp)) (iteP (P:=fun x => K (rowP x) σ) k (fun h k => ?_) (fun h k => ?_)))
                · -- yes
                  have hw_:=of_decide_eq_true h
                  have hw0_:=(fmod_rng left_ (m:=6) (by decide)).1
                  exact Bk.cons (St.retV (VP.tuple (VL.four (VP.item (VP.list (VL.three (VP.bin (nv G 2 rfl) cI (p_mod (by first | assumption | decide | lia) lp)) (VP.bin (nv G 2 rfl) cI (p_mod (by first | assumption | decide | lia) lp)) (VP.bin cI (VP.bin (nv G 2 rfl) cI (p_mod (by first | assumption | decide | lia) lp)) (p_add lp)))) (nv G 8 rfl) (p_itemN (l:=[(Int.fmod (Int.fdiv left_ (6:Int)) (256:Int)), (Int.fmod (Int.fdiv left_ (6:Int)) (65536:Int)), ((256:Int) + (Int.fmod (Int.fdiv left_ (6:Int)) (256:Int)))]) (by lia) (by show _ < (3:Int); lia))) cI cI (VP.bin (VP.bin (nv G 2 rfl) cI (p_div (by first | assumption | decide | lia) (PyProof.noPylong_small (by first | assumption | decide | lia)) lp)) cI (p_mod (by first | assumption | decide | lia) lp)))) ⟨σ, Sub.refl σ, k⟩)
                · -- no
                  have hw_:=of_decide_eq_false h
                  have hw0_:=(fmod_rng left_ (m:=6) (by decide)).2
                  refine Bk.nil ?_
                  exact Bk.cons (St.retV (VP.item (VP.list (VL.three (VP.tuple (VL.four cI cI cI cI)) (VP.tuple (VL.four cI cI (VP.neg cI) cI)) (VP.tuple (VL.four cI cI cI (VP.bin cI cI (p_pow (by first | assumption | decide | lia) (by first | assumption | decide | lia) lp)))))) (VP.bin (nv G 8 rfl) cI (p_sub lp)) (p_itemRD (l:=[Row.mk ((21:Int)) ((256:Int)) ((0:Int)) ((1:Int)), Row.mk ((4:Int)) ((0:Int)) ((-(1:Int))) ((1:Int)), Row.mk ((0:Int)) ((0:Int)) ((0:Int)) (((2:Int) ^ Int.toNat (32:Int)))]) ⟨0, 0, 0, 0⟩ (by lia) (by show _ < (3:Int); lia))) ⟨σ, Sub.refl σ, k⟩)
end
section
variable {w:World} {H₀:Heap} {n:Nat} {σ:Store} {K:PV → Store → Prop} {X:PExc → Store → Prop}
theorem lgoals_ne {r:Row} {i:Int} (h:(Int.fmod r.c (8:Int) == (5:Int)) = true):0 < (L_law_goals r i).length:=by
  have h5:=beq_iff_eq.mp h
  unfold L_law_goals
  rw [h5]
  simp only [show ((5:Int) == 6) = false from rfl, show ((5:Int) != 5) = false from rfl, Bool.false_eq_true, if_false]
  split
  · exact Nat.le_of_ble_eq_true rfl
  · split <;> exact Nat.le_of_ble_eq_true rfl
noncomputable def L_law_row_fault (rows_:List Row) (r_:Row) (at_:Int):PV:=(if (!((knownL).any (· == r_.c))) = true then (PV.str (Str.ofString "no such order")) else (if ((!((decide ((0:Int) ≤ r_.t)) && (decide (r_.t < (256:Int))))) || ((!((decide ((0:Int) ≤ r_.f)) && (decide (r_.f < (256:Int))))) || (!((decide ((0:Int) ≤ r_.k)) && (decide (r_.k < ((2:Int) ^ Int.toNat (32:Int)))))))) = true then (PV.str (Str.ofString "field out of range")) else (if (([(52:Int), (148:Int)].any (· == r_.c)) && (r_.k == (0:Int))) = true then (PV.str (Str.ofString "division by zero")) else (if (([(100:Int), (116:Int)].any (· == r_.c)) && (decide ((31:Int) < r_.k))) = true then (PV.str (Str.ofString "shift out of range")) else (if (([(96:Int), (97:Int), (2:Int), (3:Int)].any (· == r_.c)) && (decide ((15:Int) < r_.k))) = true then (PV.str (Str.ofString "no such cell")) else (if (((Int.fmod r_.c (8:Int)) == (5:Int)) && (decide ((((List.map rowP rows_).length:Nat):Int) ≤ (maxI (L_law_goals r_ at_))))) = true then (PV.str (Str.ofString "goal out of the program")) else (PV.none)))))))
theorem f_law_row_fault {rows_:List Row} {at_:Int} {r_:Row} (h0_:0 ≤ at_) (hx_:rows_[at_.toNat]? = some r_) (hz_:rows_.length ≤ 1000) (k:K (L_law_row_fault rows_ r_ at_) σ):PrimC w H₀ (n + 7) [.lst (List.map rowP rows_), .int at_] σ (.ref 379) K X:=by
  refine PrimC.def (params:=["rows", "at"]) (ns:=["rows", "at", "code", "jt", "jf", "k"]) (ks:=[.local, .local, .local, .local, .local, .local]) (gs:=["_law_known", "max", "_law_goals", "len"]) (vs:=[some (.lst (List.map rowP rows_)), some (.int at_), none, none, none, none]) (oc':=[]) rfl (by kernel_rfl) ?_ rfl rfl rfl (by kernel_rfl) (by kernel_rfl) rfl rfl ?_
  · intro vals hv
    apply len2 hv; intros; rfl
  intro S G
  refine Bk.cons (St.tup (VP.use (VP.item (nv G 0 rfl) (nv G 1 rfl) (p_itemR h0_ hx_ hz_)) (AsT.tup (fun J => rfl) (fun J => rfl) (AsL.cons (AsT.nam G (.l (.tail (.tail .head))) (AsL.cons (AsT.nam G (.l (.tail (.tail (.tail .head)))) (AsL.cons (AsT.nam G (.l (.tail (.tail (.tail (.tail .head))))) (AsL.cons (AsT.nam G (.l (.tail (.tail (.tail (.tail (.tail .head)))))) (AsL.nil ?_))))))))))) (fun J => rfl) (fun J => rfl))
  refine Bk.cons (St.iteV (TP.cmp (nv G 2 rfl) (VP.fn (G__law_known G mem1 lf) kp__law_known VL.nil (f_law_known lp)) (p_ninL (l:=knownL) lp)) (iteP (P:=fun x => K x σ) k (fun h k => ?_) (fun h k => ?_)))
  · -- yes
    exact Bk.cons (St.retV cS k)
  · -- no
    refine Bk.nil ?_
    refine Bk.cons (St.iteV (TP.or (TP.not (TP.cmp2 cI (nv G 3 rfl) (p_le lp) cI (p_lt lp))) (fun hh => (TP.or (TP.not (TP.cmp2 cI (nv G 4 rfl) (p_le lp) cI (p_lt lp))) (fun hh => (TP.or1 (TP.not (TP.cmp2 cI (nv G 5 rfl) (p_le lp) (VP.bin cI cI (p_pow (by first | assumption | decide | lia) (by first | assumption | decide | lia) lp)) (p_lt lp)))))))) (iteP (P:=fun x => K x σ) k (fun h k => ?_) (fun h k => ?_)))
    · -- yes
      exact Bk.cons (St.retV cS k)
    · -- no
      refine Bk.nil ?_
      refine Bk.cons (St.iteV (TP.and (TP.cmp (nv G 2 rfl) (VP.tuple (VL.two cI cI)) (p_inT (l:=[(52:Int), (148:Int)]) lp)) (fun hh => (TP.and1 (TP.cmp (nv G 5 rfl) cI (p_eq lp))))) (iteP (P:=fun x => K x σ) k (fun h k => ?_) (fun h k => ?_)))
      · -- yes
        exact Bk.cons (St.retV cS k)
      · -- no
        refine Bk.nil ?_
        refine Bk.cons (St.iteV (TP.and (TP.cmp (nv G 2 rfl) (VP.tuple (VL.two cI cI)) (p_inT (l:=[(100:Int), (116:Int)]) lp)) (fun hh => (TP.and1 (TP.cmp (nv G 5 rfl) cI (p_gt lp))))) (iteP (P:=fun x => K x σ) k (fun h k => ?_) (fun h k => ?_)))
        · -- yes
          exact Bk.cons (St.retV cS k)
        · -- no
          refine Bk.nil ?_
          refine Bk.cons (St.iteV (TP.and (TP.cmp (nv G 2 rfl) (VP.tuple (VL.four cI cI cI cI)) (p_inT (l:=[(96:Int), (97:Int), (2:Int), (3:Int)]) lp)) (fun hh => (TP.and1 (TP.cmp (nv G 5 rfl) cI (p_gt lp))))) (iteP (P:=fun x => K x σ) k (fun h k => ?_) (fun h k => ?_)))
          · -- yes
            exact Bk.cons (St.retV cS k)
          · -- no
            refine Bk.nil ?_
            refine Bk.cons (St.iteV (TP.and (TP.cmp (VP.bin (nv G 2 rfl) cI (p_mod (by first | assumption | decide | lia) lp)) cI (p_eq lp)) (fun hh => (TP.and1 (TP.cmp (VP.call (B_max G (mem2 mem1) lf) Kept.builtin (VL.one (VP.fn (G__law_goals G (mem2 (mem2 mem1)) lf) kp__law_goals (VL.two (nv G 0 rfl) (nv G 1 rfl)) (f_law_goals h0_ hx_ hz_ lp))) (p_maxV (lgoals_ne hh))) (VP.call (B_len G (mem2 (mem2 (mem2 mem1))) lf) Kept.builtin (VL.one (nv G 0 rfl)) (p_lenL (by simp; lia) lp)) (p_ge lp))))) (iteP (P:=fun x => K x σ) k (fun h k => ?_) (fun h k => ?_)))
            · -- yes
              exact Bk.cons (St.retV cS k)
            · -- no
              refine Bk.nil ?_
              exact Bk.cons (St.retV cN k)
theorem pow256_ne {a:Nat} (m:a ∈ List.range 4):(256:Int) ^ a ≠ 0:=Int.pow_ne_zero (by decide)
theorem pow256_lt {a:Nat} (m:a ∈ List.range 4):((256:Int) ^ a).natAbs < 1073741824:=by
  have m:=List.mem_range.mp m
  have:a = 0 ∨ a = 1 ∨ a = 2 ∨ a = 3:=by lia
  rcases this with rfl | rfl | rfl | rfl <;> decide
theorem p_pow256 {a:Nat} (m:a ∈ List.range 4):PP w H₀ n σ [.int 256, .int (a:Int)] (p2 (binaryOp .Pow)) (.int ((256:Int) ^ a)):=by
  have m:=List.mem_range.mp m
  refine p_pow (by lia) ?_ lp
  have:a = 0 ∨ a = 1 ∨ a = 2 ∨ a = 3:=by lia
  rcases this with rfl | rfl | rfl | rfl <;> decide
noncomputable def octR (r:Row):List Int:=[(Int.fmod r.c (256:Int)), (Int.fdiv r.c (256:Int)), r.t, r.f] ++ (List.map (fun (a:Nat) => (Int.fmod (Int.fdiv r.k ((256:Int) ^ a)) (256:Int))) (List.range 4))
noncomputable def L_law_octets (l:List Row):List Int:=l.flatMap octR
theorem octR_len (r:Row):(octR r).length = 8:=rfl
inductive LoInv (l_:List Row) (σ:Store) (rest:List Row) (vs:Slots) (σ':Store):Prop
  | mk (fd:List Int) (o1 o2 o3 o4:Option PV) (ev:vs = [some (.lst (l_.map rowP)), some (.lst (pvI fd)), o1, o2, o3, o4]) (es:σ = σ') (hl:fd.length + 8 * rest.length ≤ 800) (e:fd ++ L_law_octets rest = L_law_octets l_)
theorem f_law_octets {l_:List Row} (hz_:l_.length ≤ 100) (k:K (.lst (pvI (L_law_octets l_))) σ):PrimC w H₀ (n + 6) [.lst (l_.map rowP)] σ (.ref 394) K X:=by
  refine PrimC.def (params:=["rows"]) (ns:=["rows", "found", "code", "jt", "jf", "k"]) (ks:=[.local, .local, .local, .local, .local, .cell]) (gs:=["range"]) (vs:=[some (.lst (l_.map rowP)), none, none, none, none, none]) (oc':=["k"]) rfl (by kernel_rfl) ?_ rfl rfl rfl (by kernel_rfl) (by kernel_rfl) rfl rfl ?_
  · intro vals hv
    apply len1 hv; intros; rfl
  intro S G
  refine Bk.cons (St.asnV G (VP.list (ps:=pvI []) VL.nil) (.l (.tail .head)) ?_)
  refine Bk.cons (St.forV rfl (VI.lst (nv G 0 rfl)) ?_)
  refine ForT.inv rowP (LoInv l_ σ) ?_ ?_ _ _ _ ⟨[], none, none, none, none, rfl, rfl, by simp; lia, rfl⟩
  · rintro r rest _ _ ⟨fd, o1, o2, o3, o4, rfl, rfl, hl, e⟩
    rw [List.length_cons] at hl
    have hfd:fd.length ≤ 792:=by lia
    refine AsT.tup (fun J => rfl) (fun J => rfl) (AsL.cons (AsT.nam G (.l (.tail (.tail .head))) (AsL.cons (AsT.nam G (.l (.tail (.tail (.tail .head)))) (AsL.cons (AsT.nam G (.l (.tail (.tail (.tail (.tail .head))))) (AsL.cons (AsT.nam G (.c (.tail (.tail (.tail (.tail (.tail .head))))) (by first | exact mem1 | exact mem2 mem1 | exact mem2 (mem2 mem1) | exact mem2 (mem2 (mem2 mem1)))) (AsL.nil ?_)))))))))
    refine Bk.cons (St.asnV G (VP.bin (VP.bin (nv G 1 rfl) (VP.list (VL.four (VP.bin (nv G 2 rfl) cI (p_mod (by first | assumption | decide | lia) lp)) (VP.bin (nv G 2 rfl) cI (p_div (by first | assumption | decide | lia) (PyProof.noPylong_small (by first | assumption | decide | lia)) lp)) (nv G 3 rfl) (nv G 4 rfl))) (p_addL (by simp [pvI]; lia) lp)) (VP.comp (out:=(pvI (List.map (fun (a:Nat) => (Int.fmod (Int.fdiv r.k ((256:Int) ^ a)) (256:Int))) (List.range 4)))) [] rfl G (FreeOk.loc (FreeOk.loc (FreeOk.freeC (.tail (.tail (.tail (.tail (.tail .head))))) FreeOk.nil))) rfl (by kernel_rfl) (fun J h => by first | exact (List.not_mem_nil h).elim | (simp only [List.mem_cons, List.not_mem_nil, or_false] at h; rcases h with rfl | rfl <;> simp)) (VI.range (m:=4) (B_range G mem1 lf) cI rfl (by decide)) (CS.loc (CS.loc (CS.freeC (.tail (.tail (.tail (.tail (.tail .head))))) CS.nil))) (fun S' G' K k => CompT.map (V:=fun o => [none, o.map (fun (a:Nat) => PV.int (a:Nat)), some (PV.int (r.k))]) (f:=(fun i => PV.int (i:Nat))) (g:=fun (a:Nat) => PV.int ((Int.fmod (Int.fdiv r.k ((256:Int) ^ a)) (256:Int)))) (List.range 4) [] none (fun o a m K X k => AsT.nam G' (.l (.tail .head)) k) (fun a m => (VP.bin (VP.bin (nv G' 2 rfl) (VP.bin cI (nv G' 1 rfl) (p_pow256 m)) (p_div (pow256_ne m) (PyProof.noPylong_small (pow256_lt m)) lp)) cI (p_mod (by first | assumption | decide | lia) lp))) (by decide) (by simpa only [pvI, pvB, pvS, pvBy, List.map_map, Function.comp_def, List.nil_append] using k))) (p_addL (by simp [pvI]; lia) lp)) (.l (.tail .head)) ?_)
    refine Bk.nil ⟨fd ++ octR r, some (.int r.c), some (.int r.t), some (.int r.f), some (.int r.k), by simp [pvI, octR, List.append_assoc], rfl, by rw [List.length_append, octR_len]; lia, ?_⟩
    rw [← e, L_law_octets, L_law_octets, List.flatMap_cons, List.append_assoc]
  · rintro _ _ ⟨fd, o1, o2, o3, o4, rfl, rfl, hl, e⟩
    have e:fd = L_law_octets l_:=by rw [← e]; simp [L_law_octets]
    subst e
    exact Bk.cons (St.retV (nv G 1 rfl) k)
noncomputable def heardP:Out → PV
  | .ok p => .lst [p]
  | .error e => .tup [.str (Str.ofString "refused"), atPV e.at_]
theorem ro_all {K:PV → Store → Prop} {X:PExc → Store → Prop} {o:Out} (h:∀ p, o = .ok p → K p σ) (hx:∀ e, o = .error e → X e σ):ro K X σ o:=by
  cases o with
  | ok p => exact h p rfl
  | error e => exact hx e rfl
theorem f_law_heard {fd:FuncData} {o:Out} (hF:∀ K X, ro K X σ o → PrimF w H₀ (n + 4) fd σ K X) (h52:∀ e, o = .error e → e.C = 52) (k:K (heardP o) σ):PrimC w H₀ (n + 5) [.fn fd] σ (.ref 401) K X:=by
  refine PrimC.def (params:=["ask"]) (ns:=["ask", "error"]) (ks:=[.local, .local]) (gs:=["CodeError"]) (vs:=[some (.fn fd), none]) (oc':=[]) rfl (by kernel_rfl) ?_ rfl rfl rfl (by kernel_rfl) (by kernel_rfl) rfl rfl ?_
  · intro vals hv
    apply len1 hv; intros; rfl
  intro S G
  refine Bk.cons (St.tryAs G (.tail .head) (excCls52 w) ty52 (by kernel_rfl) (Bk.cons (St.ret (EvE.list (EvL.cons (EvE.callF (fun J => rfl) (VP.use (nv G 0 rfl) ⟨fd, rfl, hF _ _ (ro_all (fun p hp => ?_) fun e he => ⟨h52 e he, G_CodeError G mem1 ⟨rfl, rfl, rfl⟩, _, .tail .head, ?_⟩)⟩)) fun J => rfl)))))
  · subst hp
    exact EvL.nil (p_lst (Nat.le_of_ble_eq_true rfl) k)
  · subst he
    exact Bk.cons (St.retV (VP.tuple (VL.two cS (EvE.attr (VP.use (nv G 1 rfl) (p_exat (excCls52 w) lf)) fun J => rfl))) k)
theorem f_ldx_bad {mode_:Str} {k_:Int} (h0_:(mode_ == (Str.ofString "msh")) = false) (hm_:modeNames.any (· == mode_) = false) (hm2_:mode_.length ≤ 991) (k:X ⟨52, (Str.ofString "no order " ++ mode_), none⟩ σ):PrimC w H₀ (n + 7) [.str mode_, .int k_] σ (.ref 231) K X:=by
  refine PrimC.def (params:=["mode", "k"]) (ns:=["mode", "k", "code"]) (ks:=[.local, .local, .local]) (gs:=["ClassicOrder", "MSH_CODE", "LDX", "spot_in", "MODE_NAMES", "is_known_code", "CodeError"]) (vs:=[some (.str mode_), some (.int k_), none]) (oc':=[]) rfl (by kernel_rfl) ?_ rfl rfl rfl (by kernel_rfl) (by kernel_rfl) rfl rfl ?_
  · intro vals hv
    apply len2 hv; intros; rfl
  intro S G
  refine Bk.cons (St.iteV (TP.cmp (nv G 0 rfl) cS (p_eqS lp)) ?_)
  rw [if_neg (by rw [h0_]; decide)]
  refine Bk.nil (Bk.cons (St.asn G (EvE.bin (VP.use (G_LDX G (mem2 (mem2 mem1)) lf) (EvE.bin (EvE.fn (G_spot_in G (mem2 (mem2 (mem2 mem1))) lf) kp_spot_in (VL.two (G_MODE_NAMES G (mem2 (mem2 (mem2 (mem2 mem1)))) lf) (nv G 0 rfl)) (f_spot_in sp_MODE hm2_ ?_))))) (fun J => rfl)))
  unfold L_spot_in
  rw [hm_]
  exact k
noncomputable def L_jump_k (op_:Str) (k_:Int) (jt_:Int) (jf_:Int):Out:=if (op_ == Str.ofString "ja") = true then .error ⟨52, Str.ofString "no condition ja", none⟩ else .ok (ordP (Row.mk ((5:Int) + (((jumpNames.idxOf op_:Nat):Int) * 2 ^ Int.toNat (4:Int))) jt_ jf_ k_))
theorem f_jump_k {op_:Str} {k_:Int} {jt_:Int} {jf_:Int} (hm_:jumpNames.any (· == op_) = true) (hm2_:op_.length ≤ 991) (k:ro K X σ (L_jump_k op_ k_ jt_ jf_)):PrimC w H₀ (n + 8) [.str op_, .int k_, .int jt_, .int jf_] σ (.ref 273) K X:=by
  refine PrimC.def (params:=["op", "k", "jt", "jf"]) (ns:=["op", "k", "jt", "jf"]) (ks:=[.local, .local, .local, .local]) (gs:=["ClassicOrder", "jump_code"]) (vs:=[some (.str op_), some (.int k_), some (.int jt_), some (.int jf_)]) (oc':=[]) rfl (by kernel_rfl) ?_ rfl rfl rfl (by kernel_rfl) (by kernel_rfl) rfl rfl ?_
  · intro vals hv
    apply len4 hv; intros; rfl
  intro S G
  refine Bk.cons (St.ret (EvE.call (fun J => rfl) (fun J => rfl) (VP.use (G_ClassicOrder G mem1 lf) ⟨_, rfl, Kept.ofK kp_ClassicOrder, EvL.cons (EvE.fn (G_jump_code G (mem2 mem1) lf) kp_jump_code (VL.one (nv G 0 rfl)) (f_jump_code hm_ hm2_ ?_)) fun J => rfl⟩)))
  unfold L_jump_code
  unfold L_jump_k at k
  by_cases h:(op_ == Str.ofString "ja") = true
  · rw [if_pos h] at k ⊢; exact k
  · rw [if_neg h] at k ⊢
    exact VL.use (VL.three (nv G 2 rfl) (nv G 3 rfl) (nv G 1 rfl)) (PrimC.prim (p_order k))
noncomputable def L_jump_x (op_:Str) (jt_:Int) (jf_:Int):Out:=if (op_ == Str.ofString "ja") = true then .error ⟨52, Str.ofString "no condition ja", none⟩ else .ok (ordP (Row.mk (((5:Int) + (((jumpNames.idxOf op_:Nat):Int) * 2 ^ Int.toNat (4:Int))) + (8:Int)) jt_ jf_ (0:Int)))
theorem f_jump_x {op_:Str} {jt_:Int} {jf_:Int} (hm_:jumpNames.any (· == op_) = true) (hm2_:op_.length ≤ 991) (k:ro K X σ (L_jump_x op_ jt_ jf_)):PrimC w H₀ (n + 8) [.str op_, .int jt_, .int jf_] σ (.ref 280) K X:=by
  refine PrimC.def (params:=["op", "jt", "jf"]) (ns:=["op", "jt", "jf"]) (ks:=[.local, .local, .local]) (gs:=["ClassicOrder", "jump_code", "BY_X"]) (vs:=[some (.str op_), some (.int jt_), some (.int jf_)]) (oc':=[]) rfl (by kernel_rfl) ?_ rfl rfl rfl (by kernel_rfl) (by kernel_rfl) rfl rfl ?_
  · intro vals hv
    apply len3 hv; intros; rfl
  intro S G
  refine Bk.cons (St.ret (EvE.call (fun J => rfl) (fun J => rfl) (VP.use (G_ClassicOrder G mem1 lf) ⟨_, rfl, Kept.ofK kp_ClassicOrder, EvL.cons (EvE.bin (EvE.fn (G_jump_code G (mem2 mem1) lf) kp_jump_code (VL.one (nv G 0 rfl)) (f_jump_code hm_ hm2_ ?_))) fun J => rfl⟩)))
  unfold L_jump_code
  unfold L_jump_x at k
  by_cases h:(op_ == Str.ofString "ja") = true
  · rw [if_pos h] at k ⊢; exact k
  · rw [if_neg h] at k ⊢
    exact (VP.use (G_BY_X G (mem2 (mem2 mem1)) lf) (p_add (VL.use (VL.three (nv G 1 rfl) (nv G 2 rfl) cI) (PrimC.prim (p_order k)))))
end
noncomputable def fibW:Nat → Nat
  | 0 => 1
  | 1 => 1
  | n + 2 => fibW (n + 1) + fibW n
theorem fibW_le1:∀ n, fibW n ≤ fibW (n + 1)
  | 0 => Nat.le_refl _
  | n + 1 => by show fibW (n + 1) ≤ fibW (n + 1) + fibW n; lia
theorem fibW_mono {m n:Nat} (h:m ≤ n):fibW m ≤ fibW n:=by
  induction h with
  | refl => exact Nat.le_refl _
  | step _ ih => exact Nat.le_trans ih (fibW_le1 _)
noncomputable abbrev row0:Row:=⟨0, 0, 0, 0⟩
noncomputable def moreW (r:Row) (wr:List Int):List Int:=(if (([(2:Int), (3:Int)].any (· == r.c)) && (!((wr).any (· == r.k)))) = true then (wr ++ [r.k]) else wr)
noncomputable def paths (l:List Row):Nat → Nat → List Int → Nat → List (List Int)
  | 0, _, _, _ => []
  | m + 1, u, wr, v => (if v = u then [wr] else []) ++ (L_law_goals (l.getD u row0) (u:Int)).flatMap fun g => paths l m g.toNat (moreW (l.getD u row0) wr) v
theorem law_goals_cases (r:Row) (u:Int):L_law_goals r u = [] ∨ (∃ g, L_law_goals r u = [g]) ∨ ∃ g g', g ≠ g' ∧ L_law_goals r u = [g, g']:=by
  unfold L_law_goals
  split
  · exact .inl rfl
  · split
    · exact .inr (.inl ⟨_, rfl⟩)
    · split
      · exact .inr (.inl ⟨_, rfl⟩)
      · split
        · exact .inr (.inl ⟨_, rfl⟩)
        · rename_i h
          refine .inr (.inr ⟨_, _, fun e => h ?_, rfl⟩)
          have:r.t = r.f:=by lia
          rw [this]; simp
noncomputable def GoalsIn (l:List Row):Prop:=∀ (u:Nat) (r:Row), l[u]? = some r → ∀ g ∈ L_law_goals r (u:Int), (u:Int) < g ∧ g < (l.length:Int)
theorem paths_len (l:List Row) (hg:GoalsIn l):∀ (m u:Nat) (wr:List Int) (v:Nat), u < l.length → (paths l m u wr v).length ≤ if u ≤ v then fibW (v - u) else 0:=by
  intro m
  induction m with
  | zero => intro u wr v _; exact Nat.zero_le _
  | succ m ih =>
    intro u wr v hu
    obtain ⟨r, hr⟩:∃ r, l[u]? = some r:=⟨_, List.getElem?_eq_getElem hu⟩
    have hd:l.getD u row0 = r:=by simp [List.getD, hr]
    have hgr:=hg u r hr
    unfold paths
    rw [hd, List.length_append]
    have one:∀ g ∈ L_law_goals r (u:Int), ∀ wr, (paths l m g.toNat wr v).length ≤ if g.toNat ≤ v then fibW (v - g.toNat) else 0:=fun g m' wr => ih g.toNat wr v (by have:=hgr g m'; lia)
    rcases law_goals_cases r (u:Int) with e | ⟨g, e⟩ | ⟨g, g', ne, e⟩
    · rw [e]
      by_cases q:v = u
      · subst q; rw [if_pos rfl, if_pos (Nat.le_refl _), Nat.sub_self]; exact Nat.le_refl _
      · rw [if_neg q]; exact Nat.zero_le _
    · rw [e] at one hgr ⊢
      have b1:=one g (.head _) (moreW r wr)
      have g1:=hgr g (.head _)
      rw [List.flatMap_cons, List.flatMap_nil, List.append_nil]
      by_cases q:v = u
      · subst q
        rw [if_neg (by lia)] at b1
        rw [if_pos rfl, if_pos (Nat.le_refl _), Nat.sub_self]
        refine (?_:1 + _ ≤ 1)
        lia
      · rw [if_neg q]
        by_cases qq:u ≤ v
        · rw [if_pos qq]
          split at b1
          · have:=fibW_mono (show v - g.toNat ≤ v - u by lia)
            simp only [List.length_nil, Nat.zero_add]; lia
          · simp only [List.length_nil, Nat.zero_add]; lia
        · rw [if_neg qq]
          rw [if_neg (by lia)] at b1
          simp only [List.length_nil, Nat.zero_add]; lia
    · rw [e] at one hgr ⊢
      have b1:=one g (.head _) (moreW r wr)
      have b2:=one g' (.tail _ (.head _)) (moreW r wr)
      have g1:=hgr g (.head _)
      have g2:=hgr g' (.tail _ (.head _))
      rw [List.flatMap_cons, List.flatMap_cons, List.flatMap_nil, List.append_nil, List.length_append]
      by_cases q:v = u
      · subst q
        rw [if_neg (by lia)] at b1 b2
        rw [if_pos rfl, if_pos (Nat.le_refl _), Nat.sub_self]
        refine (?_:1 + _ ≤ 1)
        lia
      · rw [if_neg q]
        simp only [List.length_nil, Nat.zero_add]
        by_cases qq:u ≤ v
        · rw [if_pos qq]
          obtain ⟨k, hk⟩:∃ k, v = u + 1 + k:=⟨v - u - 1, by lia⟩
          subst hk
          cases k with
          | zero =>
            rw [show u + 1 + 0 - u = 1 by lia]
            refine (?_:_ ≤ 1)
            split at b1
            · split at b2
              · lia
              · rw [show u + 1 + 0 - g.toNat = 0 by lia] at b1
                have:fibW 0 = 1:=rfl
                lia
            · split at b2
              · rw [show u + 1 + 0 - g'.toNat = 0 by lia] at b2
                have:fibW 0 = 1:=rfl
                lia
              · lia
          | succ k =>
            rw [show u + 1 + (k + 1) - u = k + 2 by lia]
            refine (?_:_ ≤ fibW (k + 1) + fibW k)
            have le1:∀ x:Int, (u:Int) < x → (if x.toNat ≤ u + 1 + (k + 1) then fibW (u + 1 + (k + 1) - x.toNat) else 0) ≤ fibW (k + 1):=fun x hx => by
              split
              · exact fibW_mono (by lia)
              · exact Nat.zero_le _
            have le2:∀ x:Int, (u:Int) + 1 < x → (if x.toNat ≤ u + 1 + (k + 1) then fibW (u + 1 + (k + 1) - x.toNat) else 0) ≤ fibW k:=fun x hx => by
              split
              · exact fibW_mono (by lia)
              · exact Nat.zero_le _
            have a1:=le1 g g1.1
            have a2:=le1 g' g2.1
            by_cases z:g < g'
            · have:=le2 g' (by lia); lia
            · have:=le2 g (by lia); lia
        · rw [if_neg qq]
          rw [if_neg (by lia)] at b1 b2
          lia
theorem paths_le (l:List Row) (hg:GoalsIn l) (hl:l.length ≤ 12) (m u v:Nat) (wr:List Int) (hu:u < l.length) (hv:v < l.length):(paths l m u wr v).length ≤ 1000:=by
  refine Nat.le_trans (paths_len l hg m u wr v hu) ?_
  split
  · exact Nat.le_trans (fibW_mono (show v - u ≤ 11 by lia)) (by decide)
  · exact Nat.zero_le _
noncomputable abbrev wrP (wr:List Int):PV:=.lst (pvI wr)
structure TolA (σ₀ σ:Store) (as:List Addr) (T:Nat → List (List Int)):Prop where
  on:∀ i a, as[i]? = some a → σ a = some (.list ((T i).map wrP))
  off:∀ b, b ∉ as → σ b = σ₀ b
theorem TolA.app {σ₀ σ:Store} {as:List Addr} {T:Nat → List (List Int)} (h:TolA σ₀ σ as T) (nd:as.Nodup) {u:Nat} {a:Addr} (hu:as[u]? = some a) (wr:List Int) :
    TolA σ₀ (Mine.upd σ a (some (.list ((T u).map wrP ++ [wrP wr])))) as (fun v => T v ++ if v = u then [wr] else []):=by
  refine ⟨fun i b hi => ?_, fun b hb => ?_⟩
  · by_cases z:i = u
    · subst z
      rw [hu] at hi; cases hi
      rw [Mine.upd_same, if_pos rfl, List.map_append]; rfl
    · have:b ≠ a:=fun e => z (by
        subst e
        exact (List.getElem?_inj (List.getElem?_eq_some_iff.mp hi).1 nd).mp (hi.trans hu.symm))
      rw [Mine.upd_ne _ _ this, h.on i b hi, if_neg z, List.append_nil]
  · have:b ≠ a:=fun e => hb (e ▸ List.mem_of_getElem? hu)
    rw [Mine.upd_ne _ _ this]
    exact h.off b hb
theorem moreW_len (r:Row) (wr:List Int):(moreW r wr).length ≤ wr.length + 1:=by
  unfold moreW
  split
  · simp
  · lia
section
variable {w:World} {H₀:Heap} {n:Nat} {σ:Store} {K:PV → Store → Prop} {X:PExc → Store → Prop}
inductive LyInv (l_:List Row) (u:Nat) (wr:List Int) (as:List Addr) (r:Row) (σ₀:Store) (m:Nat) (F:Nat → List (List Int)) (gs:List Int) (vs:Slots) (σ':Store):Prop
  | mk (T':Nat → List (List Int)) (o:Option PV) (ev:vs = [some (PV.lst (l_.map rowP)), some (.int (u:Int)), some (wrP wr), some (.lst (as.map .loc)), some (.int r.c), some (.int r.k), some (wrP (moreW r wr)), o]) (hT:TolA σ₀ σ' as T') (e:∀ v, T' v ++ gs.flatMap (fun g => paths l_ m g.toNat (moreW r wr) v) = F v) (hg:∀ g ∈ gs, g ∈ L_law_goals r (u:Int))
theorem f_law_ways {l_:List Row} {as:List Addr} {σ₀:Store} (hz:l_.length ≤ 50) (hg:GoalsIn l_) (has:as.length = l_.length) (nd:as.Nodup):∀ (m u:Nat) (wr:List Int) (T:Nat → List (List Int)) (σ:Store) (n:Nat) (K:PV → Store → Prop) (X:PExc → Store → Prop), l_.length ≤ u + m → u < l_.length → TolA σ₀ σ as T → wr.length + l_.length ≤ 100 + u →
    (∀ v, v < l_.length → (T v).length + (paths l_ m u wr v).length ≤ 1000) → (∀ σ', TolA σ₀ σ' as (fun v => T v ++ paths l_ m u wr v) → K .none σ') → PrimC w H₀ (n + m + 8) [.lst (l_.map rowP), .int (u:Int), wrP wr, .lst (as.map .loc)] σ (.ref 372) K X:=by
  intro m
  induction m with
  | zero => intro u wr T σ n K X h1 h2; lia
  | succ m ih =>
    intro u wr T σ n K X h1 hu hT hwr hlen k
    rw [show n + (m + 1) + 8 = (n + m + 8) + 1 by lia]
    refine PrimC.def (params:=["rows", "at", "written", "told"]) (ns:=["rows", "at", "written", "told", "code", "k", "more", "goal"]) (ks:=[.local, .local, .local, .local, .local, .local, .local, .local]) (gs:=["_law_goals", "_law_ways"]) (vs:=[some (.lst (l_.map rowP)), some (.int (u:Int)), some (wrP wr), some (.lst (as.map .loc)), none, none, none, none]) (oc':=[]) rfl (by kernel_rfl) ?_ rfl rfl rfl (by kernel_rfl) (by kernel_rfl) rfl rfl ?_
    · intro vals hv
      apply len4 hv; intros; rfl
    intro S G
    obtain ⟨r, hr⟩:∃ r, l_[u]? = some r:=⟨_, List.getElem?_eq_getElem hu⟩
    have hx:l_[(u:Int).toNat]? = some r:=hr
    have hd:l_.getD u row0 = r:=by simp [List.getD, hr]
    obtain ⟨a, ha⟩:∃ a, as[u]? = some a:=⟨_, List.getElem?_eq_getElem (by lia)⟩
    have hta:(as.map PV.loc)[(u:Int).toNat]? = some (.loc a):=by simp [ha]
    have lt:(T u).length + 1 ≤ 1000:=by
      have:=hlen u hu
      unfold paths at this
      rw [if_pos rfl, List.length_append] at this
      simp only [List.length_cons, List.length_nil] at this
      lia
    have hT1:=hT.app nd ha wr
    have eP:∀ v, paths l_ (m + 1) u wr v = (if v = u then [wr] else []) ++ (L_law_goals r (u:Int)).flatMap fun g => paths l_ m g.toNat (moreW r wr) v:=fun v => by rw [← hd]; rfl
    refine Bk.cons (St.drop G (fun J => rfl) (EvE.app (fun J => rfl) (fun J => rfl) rfl (VP.use (VP.item (nv G 3 rfl) (nv G 1 rfl) (p_itemL (by lia) hta (by lia) lp (fun J J => rfl))) ⟨a, _, rfl, hT.on u a ha, VL.use (VL.one (nv G 2 rfl)) ⟨_, _, rfl, hT.on u a ha, by rw [List.length_map]; lia, rfl, ?_⟩⟩)))
    refine Bk.cons (St.sw2 G (.tail (.tail (.tail (.tail .head)))) (.tail (.tail (.tail (.tail (.tail .head))))) rfl (VP.use (VP.tuple (VL.two (VP.item (VP.item (nv G 0 rfl) (nv G 1 rfl) (p_itemR (by lia) hx (by lia))) cI (p_itemT (j:=0) rfl rfl (by decide) (by decide) lp (fun J J => rfl))) (VP.item (VP.item (nv G 0 rfl) (nv G 1 rfl) (p_itemR (by lia) hx (by lia))) cI (p_itemT (j:=3) rfl rfl (by decide) (by decide) lp (fun J J => rfl))))) ⟨_, _, rfl, AsB.nam G (.l (.tail (.tail (.tail (.tail (.tail .head)))))) (AsB.nam G (.l (.tail (.tail (.tail (.tail .head))))) (AsB.nil ?_))⟩))
    refine Bk.cons (St.asnV G (q:=wrP (moreW r wr)) (VP.ifL (x:=(wr ++ [r.k])) (y:=wr) (TP.and (TP.cmp (nv G 4 rfl) (VP.tuple (VL.two cI cI)) (p_inT (l:=[(2:Int), (3:Int)]) lp)) (fun hh => (TP.and1 (TP.cmp (nv G 5 rfl) (nv G 2 rfl) (p_ninL (l:=wr) lp))))) (fun hh => (VP.bin (nv G 2 rfl) (VP.list (VL.one (nv G 5 rfl))) (p_addL (by simp [pvI]; lia) ⟨by simp [pvI], rfl⟩))) (fun hh => (nv G 2 rfl))) (.l (.tail (.tail (.tail (.tail (.tail (.tail .head))))))) ?_)
    refine Bk.cons (St.forV rfl (VI.lst (VP.fn (G__law_goals G mem1 lf) kp__law_goals (VL.two (nv G 0 rfl) (nv G 1 rfl)) (f_law_goals (by lia) hx (by lia) lp))) ?_)
    refine ForT.inv PV.int (LyInv l_ u wr as r σ₀ m (fun v => T v ++ paths l_ (m + 1) u wr v)) ?_ ?_ _ _ _ ⟨_, none, rfl, hT1, fun v => by rw [eP, List.append_assoc], fun g h => h⟩
    · rintro g gs vs' σ' ⟨T', o, rfl, hT', he, hgs⟩
      have hgr:=hg u r hr g (hgs g (.head _))
      obtain ⟨j, rfl⟩:∃ j:Nat, g = (j:Int):=⟨g.toNat, by lia⟩
      have hm:=moreW_len r wr
      refine AsT.nam G (.l (.tail (.tail (.tail (.tail (.tail (.tail (.tail .head)))))))) ?_
      refine Bk.cons (St.drop G (fun J => rfl) (EvE.fn (G__law_ways G (mem2 mem1) lf) kp__law_ways (VL.four (nv G 0 rfl) (nv G 7 rfl) (nv G 6 rfl) (nv G 3 rfl)) (ih j (moreW r wr) T' σ' n _ _ (by lia) (by lia) hT' (by lia) (fun v hv => ?_) fun σ'' hT'' => ⟨rfl, Bk.nil ⟨_, _, rfl, hT'', fun v => ?_, fun g m => hgs g (.tail _ m)⟩⟩)))
      · have e:=congrArg List.length (he v)
        have:=hlen v hv
        rw [List.flatMap_cons, List.length_append, List.length_append, List.length_append] at e
        simp only [Int.toNat_natCast] at e
        lia
      · rw [← he v, List.flatMap_cons, List.append_assoc]; rfl
    · rintro vs' σ' ⟨T', o, rfl, hT', he, hgs⟩
      refine Bk.nil (k σ' ⟨fun i b hi => ?_, hT'.off⟩)
      rw [hT'.on i b hi, ← he i, List.flatMap_nil, List.append_nil]
end
noncomputable def optS:Option Str → PV
  | none => .none
  | some s => .str s
noncomputable def strO:PV → Option Str
  | .str s => some s
  | _ => none
noncomputable def rowW (l:List Row) (p:Nat × Row):Option Str:=strO (L_law_row_fault l p.2 (p.1:Int))
theorem row_fault_opt (l:List Row) (r:Row) (i:Int):L_law_row_fault l r i = optS (strO (L_law_row_fault l r i)):=by
  unfold L_law_row_fault
  split
  · rfl
  · split
    · rfl
    · split
      · rfl
      · split
        · rfl
        · split
          · rfl
          · split <;> rfl
noncomputable def firstW {α:Type} (f:α → Option Str):List α → Option (α × Str)
  | [] => none
  | a :: l => match f a with
    | some e => some (a, e)
    | none => firstW f l
theorem firstW_none {α:Type} {f:α → Option Str} {l:List α} (h:firstW f l = none):∀ a ∈ l, f a = none:=by
  induction l with
  | nil => intro b m; cases m
  | cons a l ih =>
    intro b m
    unfold firstW at h
    cases e:f a with
    | some x => rw [e] at h; cases h
    | none =>
      rw [e] at h
      rcases List.mem_cons.mp m with rfl | m
      · exact e
      · exact ih h b m
noncomputable def waysOf (l:List Row) (v:Nat):List (List Int):=paths l l.length 0 [] v
noncomputable def cellW (l:List Row) (p:Nat × Row):Bool:=([96, 97]:List Int).any (· == p.2.c) && !(((waysOf l p.1).filter fun wr => !(wr.any (· == p.2.k))).map wrP).isEmpty
noncomputable def toldP (l:List Row):PV:=.lst ((List.range l.length).map fun v => .lst ((waysOf l v).map wrP))
structure FaultR where
  fault:Option (Str × Int)
  told:Bool
noncomputable def faultP:Option (Str × Int) → PV
  | none => .none
  | some (s, i) => .tup [.str s, .int i]
noncomputable def frP (l:List Row) (f:FaultR):PV:=.tup [faultP f.fault, if f.told = true then toldP l else .none]
noncomputable def L_law_fault (l:List Row) (last:Row):FaultR:=match firstW (rowW l) (numR l) with
  | some (p, s) => ⟨some (s, (p.1:Int)), false⟩
  | none => if (!(([6, 22]:List Int).any (· == last.c))) = true then ⟨some (Str.ofString "no return at the end", (l.length:Int) - 1), false⟩
    else match (numR l).find? (cellW l) with
      | some p => ⟨some (Str.ofString "cell not written", (p.1:Int)), true⟩
      | none => ⟨none, true⟩
theorem enum_numR (l:List Row):((l.map rowP).zipIdx.map fun q => PV.tup [.int (q.2:Nat), q.1]) = (numR l).map fun p => PV.tup [.int (p.1:Nat), rowP p.2]:=by
  unfold numR
  rw [List.zipIdx_map, List.map_map, List.map_map]
  rfl
theorem fz_list {a:Addr} {t:PV} {ts:List PV} (e:t = .lst ts) (done rest:List PV):FzL a ts (done ++ PV.loc a :: rest) (done ++ t :: rest):=by
  subst e
  have same:∀ l:List PV, FzL a ts l l:=fun l => by
    induction l with
    | nil => exact .nil
    | cons p l ih => exact .cons (.same p) ih
  induction done with
  | nil => exact .cons .loc (same rest)
  | cons p done ih => exact .cons (.same p) ih
section
variable {α β:Type} {R:ASet → Heap → α → β → Prop} {w:World} {H₀:Heap} {S:Fx} {n:Nat} {vs':Slots}
theorem Tr.freezeAll {t:Env → Sem α} {K:β → Slots → Store → Prop} {X:PExc → Slots → Store → Prop} (V:PV → Slots) (hV:∀ a l p q, Fz a l p q → FzS a l (V p) (V q)):∀ (rest:List Addr) (ts:List (List PV)) (done:List PV) (σ:Store), rest.length = ts.length → rest.Nodup → (∀ (i:Nat) (a:Addr) (x:List PV), rest[i]? = some a → ts[i]? = some x → σ a = some (.list x)) →
    (∀ σ', (∀ b, b ∈ rest → σ' b = none) → (∀ b, b ∉ rest → σ' b = σ b) → Tr R w H₀ S n t (V (.lst (done ++ ts.map PV.lst))) σ' K X) → Tr R w H₀ S n t (V (.lst (done ++ rest.map .loc))) σ K X
  | [], [], done, σ, _, _, _, k => k σ (fun J h => (List.not_mem_nil h).elim) fun J J => rfl
  | a :: rest, x :: ts, done, σ, hl, nd, h, k => by
    have nd':=List.nodup_cons.mp nd
    refine Tr.freeze (a:=a) (l:=x) (h 0 a x rfl rfl) (hV _ _ _ _ (.lst (fz_list rfl done (rest.map .loc)))) ?_
    have e:done ++ PV.lst x :: rest.map .loc = (done ++ [PV.lst x]) ++ rest.map .loc:=by simp
    rw [e]
    refine Tr.freezeAll V hV rest ts (done ++ [PV.lst x]) _ (by simpa using hl) nd'.2 (fun i b y h1 h2 => ?_) fun σ' h1 h2 => ?_
    · have:b ≠ a:=fun z => nd'.1 (z ▸ List.mem_of_getElem? h1)
      rw [Mine.upd_ne _ _ this]
      exact h (i + 1) b y (by simpa using h1) (by simpa using h2)
    · rw [show (done ++ [PV.lst x]) ++ ts.map PV.lst = done ++ (x :: ts).map PV.lst by simp]
      refine k σ' (fun b m => ?_) fun b m => ?_
      · by_cases z:b = a
        · subst z; rw [h2 _ nd'.1]; exact Mine.upd_same ..
        · exact h1 b ((List.mem_cons.mp m).resolve_left z)
      · rw [h2 b (fun z => m (.tail _ z)), Mine.upd_ne _ _ (fun z => m (by rw [z]; exact .head _))]
  | [], _ :: _, _, _, hl, _, _, _ => by simp at hl
  | _ :: _, [], _, _, hl, _, _, _ => by simp at hl
theorem compNew {γ:Type} {tgt elt:Expr} {f:γ → PV} {V:Option γ → Slots} {K:List PV → Store → Prop} (σ₀:Store) (hs:∀ o a K X σ, K (V (some a)) σ → AsT w H₀ S n tgt (f a) (V o) σ K X) (he:∀ o σ (K:PV → Slots → Store → Prop), (∀ a, σ a = none → K (.loc a) (V o) (Mine.upd σ a (some (.list [])))) → EvE w H₀ S n elt (V o) σ K NoX) :
    ∀ (items:List γ) (as:List Addr) (o:Option γ) (σ:Store), as.length + items.length ≤ 1000 → as.Nodup → (∀ a ∈ as, σ₀ a = none) → TolA σ₀ σ as (fun J => []) → (∀ as' σ', as'.length = as.length + items.length → as'.Nodup → (∀ a ∈ as', σ₀ a = none) → TolA σ₀ σ' as' (fun J => []) → K (as'.map .loc) σ') → CompT w H₀ S n tgt [] elt K (items.map f) (as.map .loc) (V o) σ
  | [], as, o, σ, _, nd, h0, hT, k => k as σ (by simp) nd h0 hT
  | x :: items, as, o, σ, hz, nd, h0, hT, k => by
    simp only [List.length_cons] at hz
    refine hs o x _ _ _ ?_
    refine (?_:if true = true then EvE w H₀ S n elt (V (some x)) σ (fun q vs₃ σ₃ => (as.map PV.loc).length < 1000 ∧ CompT w H₀ S n tgt [] elt K (items.map f) (as.map .loc ++ [q]) vs₃ σ₃) NoX else CompT w H₀ S n tgt [] elt K (items.map f) (as.map .loc) (V (some x)) σ)
    rw [if_pos rfl]
    refine he _ _ _ fun a ha => ⟨by rw [List.length_map]; lia, ?_⟩
    have na:a ∉ as:=fun m => by
      obtain ⟨i, hi⟩:=List.mem_iff_getElem?.mp m
      rw [hT.on i a hi] at ha; cases ha
    have e:as.map PV.loc ++ [PV.loc a] = (as ++ [a]).map PV.loc:=by simp
    rw [e]
    refine compNew σ₀ hs he items (as ++ [a]) _ _ (by simp; lia) (List.nodup_append.mpr ⟨nd, List.nodup_cons.mpr ⟨List.not_mem_nil, List.nodup_nil⟩, fun b m c m' z => ?_⟩) (fun b m => ?_) ⟨fun i b hi => ?_, fun b m => ?_⟩ fun as' σ' h1 => k as' σ' (by simpa [Nat.add_assoc, Nat.add_comm 1] using h1)
    · simp at m'; subst m'; subst z; exact na m
    · rcases List.mem_append.mp m with m | m
      · exact h0 b m
      · simp at m; subst m; rw [← hT.off b na]; exact ha
    · rcases Nat.lt_or_ge i as.length with q | q
      · rw [List.getElem?_append_left q] at hi
        have:b ≠ a:=fun z => na (z ▸ List.mem_of_getElem? hi)
        rw [Mine.upd_ne _ _ this]; exact hT.on i b hi
      · rw [List.getElem?_append_right q] at hi
        have:b ∈ [a]:=List.mem_of_getElem? hi
        simp at this; subst this
        exact Mine.upd_same ..
    · have m:=fun z => m (List.mem_append.mpr z)
      rw [Mine.upd_ne _ _ (fun z => m (.inr (by simp [z])))]
      exact hT.off b fun z => m (.inl z)
end
section
variable {w:World} {H₀:Heap} {n:Nat} {σ:Store} {K:PV → Store → Prop} {X:PExc → Store → Prop}
inductive LfInv (l_:List Row) (σ:Store) (o4 o5:Option PV) (P:List (Nat × Row) → Prop) (rest:List (Nat × Row)) (vs:Slots) (σ':Store):Prop
  | mk (o1 o2:Option PV) (ev:vs = [(some (PV.lst (l_.map rowP))), o1, o2, o4, o5]) (es:σ = σ') (hr:∀ p ∈ rest, p ∈ numR l_) (e:P rest)
inductive LfInv2 (l_:List Row) (σ:Store) (o2 o5:Option PV) (P:List (Nat × Row) → Prop) (rest:List (Nat × Row)) (vs:Slots) (σ':Store):Prop
  | mk (o1 o4:Option PV) (ev:vs = [(some (PV.lst (l_.map rowP))), o1, o2, o4, o5]) (es:σ = σ') (hr:∀ p ∈ rest, p ∈ numR l_) (e:P rest)
theorem f_law_fault {l_:List Row} {last_:Row} (hz_:l_.length ≤ 12) (hl_:l_.getLast? = some last_) (hg_:firstW (rowW l_) (numR l_) = none → ([6, 22]:List Int).any (· == last_.c) = true → GoalsIn l_) (k:K (frP l_ (L_law_fault l_ last_)) σ):PrimC w H₀ (n + l_.length + 9) [.lst (l_.map rowP)] σ (.ref 384) K X:=by
  have hne:0 < l_.length:=by
    rcases Nat.eq_zero_or_pos l_.length with h0 | h0
    · have:=List.length_eq_zero_iff.mp h0
      subst this; simp at hl_
    · exact h0
  have hlast:(l_.map rowP).getLast? = some (rowP last_):=by rw [List.getLast?_map, hl_]; rfl
  refine PrimC.drop ?_
  refine PrimC.def (params:=["rows"]) (ns:=["rows", "at", "what", "row", "told"]) (ks:=[.local, .local, .local, .cell, .local]) (gs:=["range", "len", "_law_row_fault", "_law_ways", "enumerate"]) (vs:=[some (.lst (l_.map rowP)), none, none, none, none]) (oc':=["row"]) rfl (by kernel_rfl) ?_ rfl rfl rfl (by kernel_rfl) (by kernel_rfl) rfl rfl ?_
  · intro vals hv
    apply len1 hv; intros; rfl
  intro S G
  refine Bk.cons (St.forV rfl (VI.range (m:=l_.length) (B_range G mem1 lf) (VP.call (B_len G (mem2 mem1) lf) Kept.builtin (VL.one (nv G 0 rfl)) (p_lenL (by simp; lia) lp)) (by simp) (by lia)) ?_)
  rw [range_numR]
  refine ForT.inv _ (LfInv l_ σ none none fun rest => firstW (rowW l_) (numR l_) = firstW (rowW l_) rest) ?_ ?_ _ _ _ ⟨none, none, rfl, rfl, fun p m => m, rfl⟩
  · rintro ⟨i, r⟩ rest _ _ ⟨o1, o2, rfl, rfl, hr, e⟩
    have hx:l_[(i:Int).toNat]? = some r:=numR_at (hr (i, r) (.head _))
    have hil:i < l_.length:=(List.getElem?_eq_some_iff.mp hx).1
    refine AsT.nam G (.l (.tail .head)) ?_
    refine Bk.cons (St.asnV G (q:=optS (rowW l_ (i, r))) (row_fault_opt l_ r (i:Int) ▸ (VP.fn (G__law_row_fault G (mem2 (mem2 mem1)) lf) kp__law_row_fault (VL.two (nv G 0 rfl) (nv G 1 rfl)) (f_law_row_fault (by lia) hx (by lia) lp))) (.l (.tail (.tail .head))) ?_)
    cases hw:rowW l_ (i, r) with
    | none =>
      refine Bk.cons (St.iteV (TP.cmp (nv G 2 rfl) cN (p_isnot (b:=true) rfl lp)) ?_)
      rw [if_neg (by decide)]
      refine Bk.nil (Bk.nil ⟨_, _, rfl, rfl, fun p m => hr p (.tail _ m), e.trans ?_⟩)
      simp only [firstW, hw]
    | some s =>
      refine Bk.cons (St.iteV (TP.cmp (nv G 2 rfl) cN (p_isnot (b:=false) rfl lp)) ?_)
      rw [if_pos (by decide)]
      refine Bk.cons (St.retV (VP.tuple (VL.two (VP.tuple (VL.two (nv G 2 rfl) (nv G 1 rfl))) cN)) ⟨σ, Sub.refl σ, ?_⟩)
      have:firstW (rowW l_) ((i, r) :: rest) = some ((i, r), s):=by simp only [firstW, hw]
      unfold L_law_fault at k
      rw [e, this] at k
      exact k
  · rintro _ _ ⟨o1, o2, rfl, rfl, _, e⟩
    have e:firstW (rowW l_) (numR l_) = none:=e
    unfold L_law_fault at k
    rw [e] at k
    refine Bk.cons (St.iteV (TP.cmp (VP.item (VP.item (nv G 0 rfl) (VP.neg cI) (p_itemBack hlast (by simp; lia) lp (fun J J => rfl))) cI (p_itemT (j:=0) rfl rfl (by decide) (by decide) lp (fun J J => rfl))) (VP.tuple (ps:=pvI [6, 22]) (VL.two cI cI)) (p_ninT lp)) ?_)
    by_cases hc:(!(([6, 22]:List Int).any (· == last_.c))) = true
    · rw [if_pos hc]
      refine Bk.cons (St.retV (VP.tuple (VL.two (VP.tuple (VL.two cS (VP.bin (VP.call (B_len G (mem2 mem1) lf) Kept.builtin (VL.one (nv G 0 rfl)) (p_lenL (by simp; lia) lp)) cI (p_sub lp)))) cN)) ⟨σ, Sub.refl σ, ?_⟩)
      simp only [if_pos hc] at k
      rw [List.length_map]
      exact k
    rw [if_neg hc]
    simp only [if_neg hc] at k
    have hG:GoalsIn l_:=hg_ e (by cases hb:([6, 22]:List Int).any (· == last_.c) with | true => rfl | false => exact absurd (by rw [hb]; rfl) hc)
    refine Bk.nil ?_
    refine Bk.cons (St.comp [] rfl G (.tail (.tail (.tail (.tail .head)))) rfl rfl (FreeOk.loc (FreeOk.loc FreeOk.nil)) rfl (by kernel_rfl) (fun J h => (List.not_mem_nil h).elim) (fun J J => rfl) (VI.use (VI.lst (nv G 0 rfl)) ⟨_, _, _, _, CS.loc (CS.loc CS.nil), fun S' G' => compNew (V:=fun o => [none, o.map rowP]) (f:=rowP) σ (fun o a K X σ k => AsT.nam G' (.l (.tail .head)) k) (fun o σ K k => EvE.list (EvL.nil (p_lstM (Nat.zero_le _) k))) l_ [] none σ (by simp; lia) List.nodup_nil (fun J h => (List.not_mem_nil h).elim) ⟨fun i a h => by simp at h, fun J J => rfl⟩ fun as σ' ha nd h0 hT => ⟨_, (.tail (.tail (.tail (.tail .head)))), ?_⟩⟩))
    have ha:as.length = l_.length:=by simpa using ha
    refine Bk.cons (St.drop G (fun J => rfl) (EvE.fn (G__law_ways G (mem2 (mem2 (mem2 mem1))) lf) kp__law_ways (VL.four (nv G 0 rfl) cI (VP.list (ps:=pvI []) VL.nil) (nv G 4 rfl)) (f_law_ways (by lia) hG ha nd l_.length 0 [] (fun J => []) σ' n _ _ (by lia) hne hT (by simp; lia) (fun v hv => by simpa using paths_le l_ hG hz_ l_.length 0 v [] hne hv) fun σ'' hT => ⟨rfl, ?_⟩)))
    have hT:TolA σ σ'' as (waysOf l_):=hT
    have hlen:∀ v, v < l_.length → (waysOf l_ v).length ≤ 1000:=fun v hv => paths_le l_ hG hz_ l_.length 0 v [] hne hv
    refine Tr.freezeAll (fun p => [(some (PV.lst (l_.map rowP))), o1, o2, none, some p]) (fun a l p q h => FzS.yes (.same _) (FzS.o (FzS.o (.no (.yes h .nil)) o2) o1)) as ((List.range l_.length).map fun v => (waysOf l_ v).map wrP) [] σ'' (by simp [ha]) nd (fun i a x h1 h2 => ?_) fun τ h1 h2 => ?_
    · obtain ⟨j, hj, rfl⟩:=(List.getElem?_map ..▸ h2:((List.range l_.length)[i]?.map fun v => (waysOf l_ v).map wrP) = some x) |> Option.map_eq_some_iff.mp
      have:i = j:=by
        have:=List.getElem?_eq_some_iff.mp hj
        obtain ⟨q, e⟩:=this
        simpa using e
      subst this
      exact hT.on i a h1
    have sub:Sub σ τ:=fun b => by
      by_cases m:b ∈ as
      · exact .inl (h0 b m)
      · exact .inr (by rw [h2 b m, hT.off b m])
    rw [List.nil_append, List.map_map]
    have tP:PV.lst ((List.range l_.length).map (PV.lst ∘ fun v => (waysOf l_ v).map wrP)) = toldP l_:=rfl
    rw [tP]
    refine Bk.cons (St.forV rfl (VI.enum (B_enumerate G (mem2 (mem2 (mem2 (mem2 mem1)))) lf) (nv G 0 rfl) rfl) ?_)
    rw [enum_numR]
    refine ForT.inv _ (LfInv2 l_ τ o2 (some (toldP l_)) fun rest => (numR l_).find? (cellW l_) = rest.find? (cellW l_)) ?_ ?_ _ _ _ ⟨_, none, rfl, rfl, fun p m => m, rfl⟩
    · rintro ⟨i, r⟩ rest _ _ ⟨o1, o4, rfl, rfl, hr, e⟩
      have hx:l_[i]? = some r:=numR_at (hr (i, r) (.head _))
      have hil:i < l_.length:=(List.getElem?_eq_some_iff.mp hx).1
      have hTl:=hlen i hil
      have htl:((List.range l_.length).map fun v => PV.lst ((waysOf l_ v).map wrP))[(i:Int).toNat]? = some (.lst ((waysOf l_ i).map wrP)):=by simp [hil]
      refine AsT.tup (fun J => rfl) (fun J => rfl) (AsL.cons (AsT.nam G (.l (.tail .head)) (AsL.cons (AsT.nam G (.c (.tail (.tail (.tail .head))) (by first | exact mem1 | exact mem2 mem1 | exact mem2 (mem2 mem1) | exact mem2 (mem2 (mem2 mem1)))) (AsL.nil ?_)))))
      refine Bk.cons (St.iteV (c:=cellW l_ (i, r)) (TP.and (TP.cmp (VP.item (nv G 3 rfl) cI (p_itemT (j:=0) rfl rfl (by decide) (by decide) lp (fun J J => rfl))) (VP.tuple (ps:=pvI [96, 97]) (VL.two cI cI)) (p_inT lp)) (fun hh => TP.and1 (TP.cmp (VP.comp (out:=((waysOf l_ i).filter fun wr => !(wr.any (· == r.k))).map wrP) [] rfl G (FreeOk.loc (FreeOk.loc (FreeOk.freeC (.tail (.tail (.tail .head))) FreeOk.nil))) rfl (by kernel_rfl) (fun J h => (List.not_mem_nil h).elim) (VI.lst (VP.item (nv G 4 rfl) (nv G 1 rfl) (p_itemL (by lia) htl (by lia) lp (fun J J => rfl)))) (CS.loc (CS.loc (CS.freeC (.tail (.tail (.tail .head))) CS.nil))) (fun S' G' K k => CompT.filt (V:=fun o => [none, o.map fun (a:List Int) => wrP a, some (rowP r)]) (f:=wrP) (g:=wrP) (b:=fun (wr:List Int) => !(wr.any (· == r.k))) (waysOf l_ i) [] none (fun o a m K X k => AsT.nam G' (.l (.tail .head)) k)
      (fun a m => TP.cmp (VP.item (nv G' 2 rfl) cI (p_itemT (j:=3) rfl rfl (by decide) (by decide) lp (fun J J => rfl))) (nv G' 1 rfl) (p_ninL lp)) (fun a m J => EvE.nam G' (.tail .head) rfl lf) (by simpa using hTl) (by simpa only [List.nil_append] using k))) (VP.list VL.nil) (p_ne0 lp (by rw [List.length_map]; exact Nat.le_trans (List.length_filter_le ..) hTl))))) ?_)
      by_cases hc:cellW l_ (i, r) = true
      · rw [if_pos hc]
        refine Bk.cons (St.retV (VP.tuple (VL.two (VP.tuple (VL.two cS (nv G 1 rfl))) (nv G 4 rfl))) ⟨σ, sub, ?_⟩)
        have:((i, r) :: rest).find? (cellW l_) = some (i, r):=List.find?_cons_of_pos hc
        rw [e, this] at k
        exact k
      · rw [if_neg hc]
        refine Bk.nil (Bk.nil ⟨_, _, rfl, rfl, fun p m => hr p (.tail _ m), e.trans (List.find?_cons_of_neg hc)⟩)
    · rintro _ _ ⟨o1, o4, rfl, rfl, _, e⟩
      have e:(numR l_).find? (cellW l_) = none:=e
      rw [e] at k
      exact Bk.cons (St.retV (VP.tuple (VL.two cN (nv G 4 rfl))) ⟨σ, sub, k⟩)
end
noncomputable def dueOf (t:List (List Int)):Int:=((List.map (fun (a:Nat) => ((2:Int) ^ a)) (List.filter (fun (a:Nat) => (((List.map (fun (b:List Int) => ((b).any (· == (a:Int)))) t)).all id)) (List.range 16)))).sum
noncomputable def reachOf (ts:List (List (List Int))):List Int:=(List.map (fun (a:List (List Int) × Nat) => (a.2:Int)) (List.filter (fun (a:List (List Int) × Nat) => (!((a.1.map wrP).isEmpty))) ts.zipIdx))
theorem enum_T (ts:List (List (List Int))):(((ts.map fun t => PV.lst (t.map wrP)).zipIdx.map fun q => PV.tup [.int (q.2:Nat), q.1]):List PV) = ts.zipIdx.map fun q => PV.tup [.int (q.2:Nat), .lst (q.1.map wrP)]:=by
  rw [List.zipIdx_map, List.map_map]
  rfl
theorem zip_mem {α:Type} {ts:List α} {a:α × Nat} (m:a ∈ ts.zipIdx):a.1 ∈ ts:=List.mem_of_getElem? (List.mem_zipIdx_iff_getElem?.mp m)
theorem shapedI (l:List Int):SeqAt.shaped (PV.lst (pvI l)).dat = true:=shapedN.at (n:=1) (shapedN.lst fun p hp => by
  obtain ⟨i, _, rfl⟩:=List.mem_map.mp hp
  exact shapedN.int) (by decide)
section
variable {w:World} {H₀:Heap} {S:Fx} {n:Nat} {vs:Slots} {σ:Store}
theorem VI.enumT {f e:Expr} {p:Pos} {ts:List (List (List Int))} (hf:VP w H₀ S n vs σ f (.con (.type "enumerate"))) (h:VP w H₀ S n vs σ e (.lst (ts.map fun t => PV.lst (t.map wrP))))
    (he:∀ env, eval (.Call f [e] [] p) env = (do callWith p (← eval f env) [] (backTo p (starEach [e] env)) (backToKw p (keywordEach [] env))):=by intro _; rfl) (ha:∀ env, (backTo p (starEach [e] env)).any (·.1) = false:=by intro _; rfl) (hc:starred e = false:=by rfl):VI w H₀ S n vs σ true (.Call f [e] [] p) (ts.zipIdx.map fun q => PV.tup [.int (q.2:Nat), .lst (q.1.map wrP)]) :=
  enum_T ts ▸ VI.enum hf h rfl he ha hc
end
section
variable {w:World} {H₀:Heap} {n:Nat} {σ:Store} {K:PV → Store → Prop} {X:PExc → Store → Prop}
theorem p_pow2 {a:Nat} (m:a ∈ List.range 16):PP w H₀ n σ [.int 2, .int (a:Int)] (p2 (binaryOp .Pow)) (.int ((2:Int) ^ a)):=by
  have m:=List.mem_range.mp m
  refine p_pow (by lia) ?_ lp
  have h:((Builtin.Int.intBits 2:Nat):Int) = 2:=by decide
  rw [h]; lia
inductive TdInv (l_:List Row) (ts:List (List (List Int))) (a:Addr) (σ:Store) (rest:List (List (List Int))) (vs:Slots) (σ':Store):Prop
  | mk (done:List Int) (o:Option PV) (ev:vs = [(some (PV.lst (l_.map ordP))), (some (PV.lst (ts.map fun t => PV.lst (t.map wrP)))), some (.loc a), o]) (es:σ' = upd σ a (some (.list (pvI done)))) (hr:∀ t ∈ rest, t ∈ ts) (hl:done.length + rest.length ≤ 100) (e:done ++ rest.map dueOf = ts.map dueOf)
theorem f_law_told_right {l_:List Row} {ts:List (List (List Int))} (hz_:l_.length ≤ 100) (hl_:ts.length ≤ 100) (hts_:∀ t ∈ ts, t.length ≤ 1000) (hw_:∀ r ∈ l_, L_written_cell r ≤ 1000) (hg_:∀ p ∈ numR l_, ∀ g ∈ L_goals_of_classic p.2 (p.1:Int), 0 ≤ g ∧ g < (l_.length:Int))
    (hW:L_written_cells l_ = ts.map dueOf) (hR:L_reached l_ = reachOf ts) (k:K (.bool true) σ):PrimC w H₀ (n + 9) [.lst (l_.map ordP), .lst (ts.map fun t => PV.lst (t.map wrP))] σ (.ref 389) K X:=by
  refine PrimC.drop ?_
  refine PrimC.def (params:=["orders", "told"]) (ns:=["orders", "told", "due", "ways"]) (ks:=[.local, .local, .local, .cell]) (gs:=["sum", "range", "written_cells", "reached_orders", "enumerate"]) (vs:=[some (.lst (l_.map ordP)), some (.lst (ts.map fun t => PV.lst (t.map wrP))), none, none]) (oc':=["ways"]) rfl (by kernel_rfl) ?_ rfl rfl rfl (by kernel_rfl) (by kernel_rfl) rfl rfl ?_
  · intro vals hv
    apply len2 hv; intros; rfl
  intro S G
  refine Bk.cons (St.asn G (EvE.list (EvL.nil (p_lstM (Nat.zero_le _) fun a ha => ⟨_, (.l (.tail (.tail .head))), ?_⟩))) (fun J => rfl))
  refine Bk.cons (St.forV rfl (VI.lst (nv G 1 rfl)) ?_)
  refine ForT.inv (fun t => PV.lst (t.map wrP)) (TdInv l_ ts a σ) ?_ ?_ _ _ _ ⟨[], none, rfl, rfl, fun J h => h, by simpa using hl_, rfl⟩
  · rintro t rest _ _ ⟨done, o, rfl, rfl, hr, hdl, e⟩
    rw [List.length_cons] at hdl
    have ht:t.length ≤ 1000:=hts_ t (hr t (.head _))
    refine AsT.nam G (.c (.tail (.tail (.tail .head))) (by first | exact mem1 | exact mem2 mem1 | exact mem2 (mem2 mem1) | exact mem2 (mem2 (mem2 mem1)))) ?_
    refine Bk.cons (St.drop G (fun J => rfl) (EvE.app (fun J => rfl) (fun J => rfl) rfl (EvE.nam G (.tail (.tail .head)) rfl ⟨a, _, rfl, upd_same .., VL.use (VL.one (VP.call (B_sum G mem1 lf) Kept.builtin (VL.one (VP.comp (out:=(pvI (List.map (fun (a:Nat) => ((2:Int) ^ a)) (List.filter (fun (a:Nat) => (((List.map (fun (b:List Int) => ((b).any (· == (a:Int)))) t)).all id)) (List.range 16))))) ["cell_no"] rfl G (FreeOk.loc (FreeOk.cell (FreeOk.glb (FreeOk.freeC (.tail (.tail (.tail .head))) FreeOk.nil)))) rfl (by kernel_rfl) (fun J h => by first | exact (List.not_mem_nil h).elim | (simp only [List.mem_cons, List.not_mem_nil, or_false] at h; rcases h with rfl | rfl <;> simp) | (simp only [List.mem_cons, List.not_mem_nil, or_false] at h; subst h; simp)) (VI.range (m:=16) (B_range G (mem2 mem1) lf) cI rfl (by decide)) (CS.loc (CS.cell (CS.glb (CS.freeC (.tail (.tail (.tail .head))) CS.nil)))) (fun S' G' K k => CompT.filt (V:=fun o => [none, o.map (fun (a:Nat) => PV.int (a:Nat)), some (PV.lst (List.map wrP (t)))]) (f:=(fun i => PV.int (i:Nat))) (g:=fun (a:Nat) => PV.int (((2:Int) ^ a))) (b:=fun (a:Nat) => (((List.map (fun (b:List Int) => ((b).any (· == (a:Int)))) t)).all id)) (List.range 16) [] none (fun o a m K X k => AsT.nam G' (.c (.tail .head) (by first | exact mem1 | exact mem2 mem1 | exact mem2 (mem2 mem1) | exact mem2 (mem2 (mem2 mem1)))) k) (fun a m => (TP.val (VP.call (B_all G' mem1 lf) Kept.builtin (VL.one (VP.comp (out:=(pvB (List.map (fun (b:List Int) => ((b).any (· == (a:Int)))) t))) [] rfl G' (FreeOk.loc (FreeOk.loc (FreeOk.freeC (.tail .head) FreeOk.nil))) rfl (by kernel_rfl) (fun J h => by first | exact (List.not_mem_nil h).elim | (simp only [List.mem_cons, List.not_mem_nil, or_false] at h; rcases h with rfl | rfl <;> simp) | (simp only [List.mem_cons, List.not_mem_nil, or_false] at h; subst h; simp)) (VI.lst (nv G' 2 rfl)) (CS.loc (CS.loc (CS.freeC (.tail .head) CS.nil))) (fun S' G2 K k => CompT.map (V:=fun o2 => [none, o2.map (fun (b:List Int) => wrP b), some (PV.int ((a:Int)))]) (f:=wrP) (g:=fun (b:List Int) => PV.bool (((b).any (· == (a:Int))))) t [] none (fun o2 b m K X k => AsT.nam G2 (.l (.tail .head)) k) (fun b m => (VP.cmp (nv G2 2 rfl) (nv G2 1 rfl) (p_inL (l:=b) lp))) (by simpa using ht) (by simpa only [pvI, pvB, pvS, pvBy, List.map_map, Function.comp_def, List.nil_append] using k)))) (p_all lp)) (fun J J => rfl))) (fun a m hb => (VP.bin cI (nv G' 1 rfl) (p_pow2 m))) (by decide) (by simpa only [pvI, pvB, pvS, pvBy, List.map_map, Function.comp_def, List.nil_append] using k)))) (p_sum lp))) ⟨_, _, rfl, upd_same .., by simp [pvI]; lia, rfl, ?_⟩⟩)))
    rw [upd_upd]
    refine Bk.nil ⟨done ++ [dueOf t], _, rfl, by simp [pvI, dueOf], fun t h => hr t (.tail _ h), by simp; lia, by rw [← e]; simp⟩
  · rintro _ _ ⟨done, o, rfl, rfl, hr, hdl, e⟩
    have e:done = ts.map dueOf:=by simpa using e
    subst e
    refine Tr.freeze (a:=a) (l:=pvI (ts.map dueOf)) (upd_same ..) (FzS.yes (.same _) (.yes (.same _) (.yes .loc (FzS.o .nil o)))) ?_
    rw [upd_back ha]
    refine Bk.cons (St.retV (VP.and (VP.cmp (VP.fn (G_written_cells G (mem2 (mem2 mem1)) lf) kp_written_cells (VL.one (nv G 0 rfl)) (f_written_cells (by lia) hw_ lp)) (nv G 2 rfl) (p_eqR (by rw [hW]) (shapedI _) lp)) (fun J => VP.bool1 (VP.cmp (VP.fn (G_reached_orders G (mem2 (mem2 (mem2 mem1))) lf) kp_reached_orders (VL.one (nv G 0 rfl)) (f_reached_orders (by lia) hg_ lp)) (VP.comp (out:=(pvI (List.map (fun (a:List (List Int) × Nat) => (a.2:Int)) (List.filter (fun (a:List (List Int) × Nat) => (!((a.1.map wrP).isEmpty))) ts.zipIdx)))) [] rfl G (FreeOk.loc (FreeOk.loc (FreeOk.loc FreeOk.nil))) rfl (by kernel_rfl) (fun J h => by first | exact (List.not_mem_nil h).elim | (simp only [List.mem_cons, List.not_mem_nil, or_false] at h; rcases h with rfl | rfl <;> simp) | (simp only [List.mem_cons, List.not_mem_nil, or_false] at h; subst h; simp)) (VI.enumT (B_enumerate G (mem2 (mem2 (mem2 (mem2 mem1)))) lf) (nv G 1 rfl)) (CS.loc (CS.loc (CS.loc CS.nil))) (fun S' G' K k => CompT.filt (V:=fun o => [none, o.map (fun (a:List (List Int) × Nat) => PV.int (a.2:Nat)), o.map (fun (a:List (List Int) × Nat) => (PV.lst (a.1.map wrP)))]) (f:=(fun (q:List (List Int) × Nat) => PV.tup [.int (q.2:Nat), .lst (q.1.map wrP)])) (g:=fun (a:List (List Int) × Nat) => PV.int ((a.2:Int))) (b:=fun (a:List (List Int) × Nat) => (!((a.1.map wrP).isEmpty))) ts.zipIdx [] none (fun o a m K X k => AsT.tup (fun J => rfl) (fun J => rfl) (AsL.cons (AsT.nam G' (.l (.tail .head)) (AsL.cons (AsT.nam G' (.l (.tail (.tail .head))) (AsL.nil k)))))) (fun a m => (TP.cmp (nv G' 2 rfl) (VP.list VL.nil) (p_ne0 lp (by rw [List.length_map]; exact hts_ a.1 (zip_mem m))))) (fun a m hb => (nv G' 1 rfl)) (by simp; lia) (by simpa only [pvI, pvB, pvS, pvBy, List.map_map, Function.comp_def, List.nil_append] using k))) (p_eqR (by rw [hR]; rfl) (shapedI _) lp)))) ⟨σ, Sub.refl σ, k⟩)
end
section
variable {w:World} {H₀:Heap} {S:Fx} {n:Nat} {σ:Store} {vs:Slots} {ns oc gs ns' gs':List Str} {ks ks':List NameKind} {vs':Slots}
theorem VP.told {e:Expr} {ap p:Pos} {r:Row} (h:VP w H₀ S (n + 1) vs σ e (ordP r)) (hb:∀ env, attributeBase e "told" env (eval e env) = eval e env:=by intro _; rfl) (hl:(ap.endLine == p.line) = true:=by rfl):VP w H₀ S (n + 1) vs σ (.Call (.Attribute e "told" ap) [] [] p) (rowP r) :=
  EvE.toldO hb hl (h.use ⟨_, _, _, _, rfl, (f_toldO lf).prim⟩)
theorem EvE.heard {K:PV → Slots → Store → Prop} {X:PExc → Slots → Store → Prop} {params:Arguments} {body:Expr} {scope:Scope} {lpos px p:Pos} {c P:Addr} {Q:Str} {out:Out} (G:S.Good ns oc ks gs) (hm:Str.ofString "_law_heard" ∈ gs)
    (hpe:S.pe = fun env => env.code = .ref c ∧ env.qual = Q) (hcd:∀ H₁, Glb w H₁ → CodeHd H₁ c P) (hσ:σ P = some (.tab (Q ++ "<lambda>"))) (Lm:LamS ns ks vs ns' ks' vs') (hn:scope.names = tagged ns' ks' gs') (hk:scope.kind = .function) (hco:scope.isCoroutine = false) (hgen:scope.isGenerator = false) (hz:hnd ((ns' ++ gs' ++ special).map hs) = true)
    (hbind:∀ name qual clos pm cv ctv, bindArgs (kla_fn name qual params body scope clos pm cv ctv) ⟨[], []⟩ = pure []) (hdef:∀ env, defaultsOf params env = ([], [])) (h52:∀ e, out = .error e → e.C = 52)
    (hB:∀ H₁ (S':Fx) K X, S'.Good ns' [] ks' gs' → ro K X σ out → EvE w H₁ S' (n + 3) body vs' σ (fun p J σ' => K p σ') (fun pe J σ' => X pe σ'))
    (k:K (heardP out) vs σ) :
    EvE w H₀ S (n + 5) (.Call (.Name (Str.ofString "_law_heard") px) [.Lambda params body scope lpos] [] p) vs σ K X:=by
  refine EvE.pin fun H₁ l P => ?_
  refine EvE.call (fun J => rfl) (fun J => rfl) (VP.use (G__law_heard (G.pin l) hm lf) ⟨_, rfl, Kept.ofK kp__law_heard, EvL.cons (EvE.lam (l:=l) (fun env h => ⟨by rw [Fx.pin, hpe] at h; exact h.1, h.2⟩) (hcd H₁ P.gl) hσ (fun x hx => ?_) hdef fun cv ctv pm => EvL.nil (PrimC.prim (f_law_heard (n:=n) (fun K X h => PrimF.lam P G Lm hn hk hco hgen hz (hbind ..) fun S' G' => hB H₁ S' K X G' h) h52 k))) fun J => rfl⟩)
  rw [hn] at hx
  rcases Lm.free x .free hx with ⟨_, hx⟩ | h
  · obtain ⟨i, hi⟩:=List.mem_iff_getElem?.mp hx
    obtain ⟨c, pv, _, h, _⟩:=P.lam G Lm i x hi
    exact ⟨c, h⟩
  · cases h
end
noncomputable def goodR (a:Row):Bool:=(((decide ((0:Int) ≤ a.t)) && (decide (a.t < (256:Int)))) && (((decide ((0:Int) ≤ a.f)) && (decide (a.f < (256:Int)))) && ((decide ((0:Int) ≤ a.k)) && (decide (a.k < ((2:Int) ^ Int.toNat (32:Int)))))))
noncomputable def octsOf (l:List Row):Array UInt8:=byteArr (L_law_octets l)
noncomputable def cutOf (l:List Row) (first last:Row):Int:=((octsOf l).size:Int) - 1 - Int.fmod (first.c + last.k) 7
structure OctFacts (l:List Row) (first last:Row):Prop where
  pack:∀ r ∈ l, goodR r = true → L_pack r = .ok (.bytes (packB r))
  eq1:∀ r ∈ l, goodR r = true → packB r = byteArr (octR r)
  rng:∀ r ∈ l, goodR r = true → ∀ i ∈ octR r, 0 ≤ i ∧ i < 256
  bad:∀ r ∈ l, goodR r = false → ∃ e, L_pack r = .error e ∧ e.C = 52
  unp1:∀ r ∈ l, goodR r = true → L_unpack (byteArr [9] ++ packB r) 1 = .ok (ordP r)
  join:(∀ r ∈ l, goodR r = true) → joinB (l.map packB) = octsOf l
  unp:(∀ r ∈ l, goodR r = true) → goU (octsOf l) (List.range (((octsOf l).size + 7) / 8)) [] = .ok (.lst (l.map ordP))
  cut:(∀ r ∈ l, goodR r = true) → ∃ e, goU (KBy.picked (octsOf l) none (some (cutOf l first last))) (List.range (((KBy.picked (octsOf l) none (some (cutOf l first last))).size + 7) / 8)) [] = .error e ∧ e.C = 52 ∧ e.at_ = some (Int.fdiv (cutOf l first last) 8)
theorem pickedN_len (b:Array UInt8) (c:Int):(KBy.picked b none (some c)).size ≤ b.size:=by
  have e:=congrArg List.length (KBc.ints_picked (b:=b) rfl none (some c))
  rw [KBw.ints_length] at e
  rw [e]
  simp only [List.length_take, List.length_drop, KBw.ints_length]
  exact Nat.le_trans (Nat.min_le_right _ _) (Nat.sub_le _ _)
theorem shapedS {n:Nat} (x:Str) (h:PyData.strOk x = true):shapedN n (PV.str x).dat = true:=by
  simp only [shapedN, Bool.and_eq_true, Nat.ble_eq]; exact ⟨h, Nat.zero_le _⟩
theorem shapedSI (x:Str) (i:Int) (h:PyData.strOk x = true):SeqAt.shaped (PV.tup [.str x, .int i]).dat = true:=shapedN.at (n:=1) (shapedN.tup fun p hp => by
  simp only [List.mem_cons, List.not_mem_nil, or_false] at hp
  rcases hp with rfl | rfl
  · exact shapedS _ h
  · exact shapedN.int) (by decide)
theorem byteArr_size (l:List Int):(byteArr l).size = l.length:=by simp [byteArr]
theorem octets_len:∀ l:List Row, (L_law_octets l).length = 8 * l.length
  | [] => rfl
  | r :: l => by rw [L_law_octets, List.flatMap_cons, List.length_append, octR_len, ← L_law_octets, octets_len l, List.length_cons]; lia
theorem octs_sz {l:List Row} (h:l.length ≤ 12):(octsOf l).size ≤ 1000:=by rw [octsOf, byteArr_size, octets_len]; lia
theorem zip_rows (l:List Row):zipL (l.map ordP) (l.map rowP) (pvB (l.map goodR)) = l.map fun r => PV.tup [ordP r, rowP r, .bool (goodR r)]:=by
  induction l with
  | nil => rfl
  | cons r l ih => show _ :: zipL (l.map ordP) (l.map rowP) (pvB (l.map goodR)) = _; rw [ih]; rfl
theorem shapedR (r:Row):SeqAt.shaped (rowP r).dat = true:=shapedN.at (n:=1) (shapedN.tup fun p hp => by
  simp only [List.mem_cons, List.not_mem_nil, or_false] at hp
  rcases hp with rfl | rfl | rfl | rfl <;> exact shapedN.int) (by decide)
theorem shapedRs (l:List Row):SeqAt.shaped (PV.lst (l.map rowP)).dat = true:=shapedN.at (n:=2) (shapedN.lst fun p hp => by
  obtain ⟨r, _, rfl⟩:=List.mem_map.mp hp
  exact shapedN.tup fun p hp => by
    simp only [List.mem_cons, List.not_mem_nil, or_false] at hp
    rcases hp with rfl | rfl | rfl | rfl <;> exact shapedN.int) (by decide)
theorem all_good {l:List Row} (h:(l.map goodR).all id = true):∀ r ∈ l, goodR r = true:=fun r m => by
  rw [List.all_eq_true] at h
  exact h _ (List.mem_map.mpr ⟨r, m, rfl⟩)
theorem octR_one (r:Row):L_law_octets [r] = octR r:=by simp [L_law_octets]
theorem octs_rng {l:List Row} (h:∀ r ∈ l, ∀ i ∈ octR r, 0 ≤ i ∧ i < 256):∀ i ∈ L_law_octets l, 0 ≤ i ∧ i < 256:=fun i hi => by
  obtain ⟨r, hr, hi⟩:=List.mem_flatMap.mp hi
  exact h r hr i hi
section
variable {w:World} {H₀:Heap} {n:Nat} {σ:Store} {K:PV → Store → Prop} {X:PExc → Store → Prop}
inductive OrInv (l_:List Row) (σ:Store) (rest:List Row) (vs:Slots) (σ':Store):Prop
  | mk (o1 o2 o3 o4:Option PV) (ev:vs = [(some (PV.lst (l_.map rowP))), (some (PV.lst (l_.map ordP))), (some (PV.lst (pvB (l_.map goodR)))), o1, o2, o3, o4, none, none]) (es:σ = σ') (hr:∀ r ∈ rest, r ∈ l_)
theorem f_law_octets_right {l_:List Row} {first_ last_:Row} (hz_:l_.length ≤ 12) (hf_:l_[0]? = some first_) (hl_:l_.getLast? = some last_) (F:OctFacts l_ first_ last_) (hσ:σ 403 = some (.tab (Str.ofString "_law_octets_right.<locals>." ++ "<lambda>"))) (k:K (.bool true) σ):PrimC w H₀ (n + 12) [.lst (l_.map rowP), .lst (l_.map ordP)] σ (.ref 406) K X:=by
  have hne:l_ ≠ []:=fun e => by subst e; simp at hf_
  have hfirst:l_[(0:Int).toNat]? = some first_:=hf_
  have hlast:(l_.map rowP).getLast? = some (rowP last_):=by rw [List.getLast?_map, hl_]; rfl
  have packB_sz:∀ r ∈ l_, goodR r = true → (packB r).size = 8:=fun r m g => by rw [F.eq1 r m g, byteArr_size, octR_len]
  refine PrimC.defP (params:=["rows", "orders"]) (ns:=["rows", "orders", "good", "row", "is_good", "heard", "order", "cut", "octs"]) (ks:=[.local, .local, .local, .local, .local, .local, .cell, .cell, .cell]) (gs:=["zip", "_law_heard", "bytes", "_law_octets", "unpack_classic", "all", "pack_filter", "unpack_filter", "len"]) (vs:=[some (.lst (l_.map rowP)), some (.lst (l_.map ordP)), none, none, none, none, none, none, none]) (oc':=["order", "cut", "octs"]) (fun env => env.code = .ref 405 ∧ env.qual = Str.ofString "_law_octets_right.<locals>.") rfl (fun a => ⟨rfl, rfl⟩) (by kernel_rfl) ?_ rfl rfl rfl (by kernel_rfl) (by kernel_rfl) rfl rfl ?_
  · intro vals hv
    apply len2 hv; intros; rfl
  intro S G hpe
  refine Bk.cons (St.comp [] rfl G (.tail (.tail .head)) rfl rfl (FreeOk.loc (FreeOk.loc (FreeOk.loc (FreeOk.loc (FreeOk.loc FreeOk.nil))))) rfl (by kernel_rfl) (fun J h => (List.not_mem_nil h).elim) (fun J J => rfl) (VI.use (VI.lst (nv G 0 rfl)) ⟨_, _, _, _, (CS.loc (CS.loc (CS.loc (CS.loc (CS.loc CS.nil))))), fun S' G' => CompT.map (V:=fun o => [none, o.map (fun (a:Row) => PV.int a.c), o.map (fun (a:Row) => PV.int a.t), o.map (fun (a:Row) => PV.int a.f), o.map (fun (a:Row) => PV.int a.k)]) (f:=rowP) (g:=fun (a:Row) => PV.bool ((((decide ((0:Int) ≤ a.t)) && (decide (a.t < (256:Int)))) && (((decide ((0:Int) ≤ a.f)) && (decide (a.f < (256:Int)))) && ((decide ((0:Int) ≤ a.k)) && (decide (a.k < ((2:Int) ^ Int.toNat (32:Int))))))))) l_ [] none (fun o a m K X k => AsT.tup (fun J => rfl) (fun J => rfl) (AsL.cons (AsT.nam G' (.l (.tail .head)) (AsL.cons (AsT.nam G' (.l (.tail (.tail .head))) (AsL.cons (AsT.nam G' (.l (.tail (.tail (.tail .head)))) (AsL.cons (AsT.nam G' (.l (.tail (.tail (.tail (.tail .head))))) (AsL.nil k)))))))))) (fun a m => (VP.and (VP.cmp2 cI (nv G' 2 rfl) (p_le lp) cI (p_lt lp)) (fun hh => (VP.and (VP.cmp2 cI (nv G' 3 rfl) (p_le lp) cI (p_lt lp)) (fun hh => (VP.bool1 (VP.cmp2 cI (nv G' 4 rfl) (p_le lp) (VP.bin cI cI (p_pow (by first | assumption | decide | lia) (by first | assumption | decide | lia) lp)) (p_lt lp)))))))) (by simp; lia) ⟨_, (.tail (.tail .head)), ?_⟩⟩))
  rw [List.nil_append, show (List.map (fun (a:Row) => PV.bool ((((decide ((0:Int) ≤ a.t)) && (decide (a.t < (256:Int)))) && (((decide ((0:Int) ≤ a.f)) && (decide (a.f < (256:Int)))) && ((decide ((0:Int) ≤ a.k)) && (decide (a.k < ((2:Int) ^ Int.toNat (32:Int))))))))) l_) = pvB (l_.map goodR) from by rw [pvB, List.map_map]; rfl]
  refine Bk.cons (St.forV rfl (VI.call (B_zip G mem1 lf) Kept.type (VL.three (nv G 1 rfl) (nv G 0 rfl) (nv G 2 rfl)) (p_zip3 (by simp) (by simp [pvB]) rfl rfl)) ?_)
  rw [zip_rows]
  refine ForT.inv _ (OrInv l_ σ) ?_ ?_ _ _ _ ⟨none, none, none, none, rfl, rfl, fun J h => h⟩
  · rintro r rest _ _ ⟨o1, o2, o3, o4, rfl, rfl, hr⟩
    have hmem:r ∈ l_:=hr r (.head _)
    refine AsT.tup (fun J => rfl) (fun J => rfl) (AsL.cons (AsT.nam G (.c (.tail (.tail (.tail (.tail (.tail (.tail .head)))))) (by first | exact mem1 | exact mem2 mem1 | exact mem2 (mem2 mem1) | exact mem2 (mem2 (mem2 mem1)))) (AsL.cons (AsT.nam G (.l (.tail (.tail (.tail .head)))) (AsL.cons (AsT.nam G (.l (.tail (.tail (.tail (.tail .head))))) (AsL.nil ?_)))))))
    cases hgd:goodR r with
    | false =>
      obtain ⟨e, he, e52⟩:=F.bad r hmem hgd
      refine Bk.cons (St.asn G (EvE.heard (gs':=["pack_classic"]) G (mem2 mem1) hpe (fun H₁ g => g.cd.1) hσ (.cons (.tail (.tail (.tail (.tail (.tail (.tail .head)))))) rfl .nil) rfl rfl rfl rfl (by kernel_rfl) (fun J J J J J J => rfl) (fun J => rfl) (fun e' he' => by rw [he] at he'; cases he'; exact e52) (fun H₁ S' K X G' kk => EvE.fn (G_pack_classic G' mem1 lf) kp_pack_classic (VL.one (nv G' 0 rfl)) (f_pack_classic kk)) ⟨_, (.l (.tail (.tail (.tail (.tail (.tail .head)))))), ?_⟩) (fun J => rfl))
      rw [he]
      refine Bk.cons (St.iteV (TP.not (TP.val (nv G 4 rfl) (fun J J => rfl))) ?_)
      rw [if_pos (by decide)]
      refine Bk.cons (St.iteV (TP.cmp (VP.item (nv G 5 rfl) cI (p_itemT (j:=0) rfl rfl (by decide) (by decide) lp (fun J J => rfl))) cS (p_neS lp)) ?_)
      rw [if_neg (by decide)]
      exact Bk.nil (Bk.nil (Bk.nil ⟨_, _, _, _, rfl, rfl, fun r m => hr r (.tail _ m)⟩))
    | true =>
      refine Bk.cons (St.asn G (EvE.heard (gs':=["pack_classic"]) G (mem2 mem1) hpe (fun H₁ g => g.cd.1) hσ (.cons (.tail (.tail (.tail (.tail (.tail (.tail .head)))))) rfl .nil) rfl rfl rfl rfl (by kernel_rfl) (fun J J J J J J => rfl) (fun J => rfl) (fun e' he' => by rw [F.pack r hmem hgd] at he'; cases he') (fun H₁ S' K X G' kk => EvE.fn (G_pack_classic G' mem1 lf) kp_pack_classic (VL.one (nv G' 0 rfl)) (f_pack_classic kk)) ⟨_, (.l (.tail (.tail (.tail (.tail (.tail .head)))))), ?_⟩) (fun J => rfl))
      rw [F.pack r hmem hgd]
      refine Bk.cons (St.iteV (TP.not (TP.val (nv G 4 rfl) (fun J J => rfl))) ?_)
      rw [if_neg (by decide)]
      refine Bk.cons (St.iteV (TP.or (TP.cmp (nv G 5 rfl) (VP.list (VL.one (VP.call (B_bytes G (mem2 (mem2 mem1)) lf) Kept.type (VL.one (VP.fn (G__law_octets G (mem2 (mem2 (mem2 mem1))) lf) kp__law_octets (VL.one (VP.list (ps:=[r].map rowP) (VL.one (nv G 3 rfl)))) (f_law_octets (l_:=[r]) (by simp) lp))) (p_bytes (by rw [octR_one]; exact F.rng r hmem hgd) (by rw [octets_len]; simp) lp)))) (p_neB1 (by rw [octR_one]; exact F.eq1 r hmem hgd) lp)) (fun J => TP.or1 (TP.cmp (VP.told (VP.fn (G_unpack_classic G (mem2 (mem2 (mem2 (mem2 mem1)))) lf) kp_unpack_classic (VL.two (VP.bin (VP.call (B_bytes G (mem2 (mem2 mem1)) lf) Kept.type (VL.one (VP.list (ps:=pvI [9]) (VL.one cI))) (p_bytes (l:=[9]) (by simp) (by decide) lp)) (VP.item (nv G 5 rfl) cI (p_itemL (by decide) rfl (by decide) lp (fun J J => rfl))) (p_addB (by have:=packB_sz r hmem hgd; rw [byteArr_size]; simp only [List.length_cons, List.length_nil]; lia) lp)) cI) (f_unpack_classic (by decide) (by have:=packB_sz r hmem hgd; rw [Array.size_append, byteArr_size]; simp only [List.length_cons, List.length_nil]; lia) (by rw [F.unp1 r hmem hgd]; exact lp)))) (nv G 3 rfl) (p_neR rfl (shapedR r) lp)))) ?_)
      rw [if_neg (by decide)]
      exact Bk.nil (Bk.nil (Bk.nil ⟨_, _, _, _, rfl, rfl, fun r m => hr r (.tail _ m)⟩))
  · rintro _ _ ⟨o1, o2, o3, o4, rfl, rfl, _⟩
    refine Bk.cons (St.iteV (TP.not (TP.val (VP.call (B_all G (mem2 (mem2 (mem2 (mem2 (mem2 mem1))))) lf) Kept.builtin (VL.one (nv G 2 rfl)) (p_all lp)) (fun J J => rfl))) ?_)
    cases ha:(l_.map goodR).all id with
    | false =>
      rw [if_pos (by decide)]
      exact Bk.cons (St.retV cB k)
    | true =>
      have hall:=all_good ha
      rw [if_neg (by decide)]
      refine Bk.nil (Bk.cons (St.asnV G (q:=.bytes (octsOf l_)) (VP.call (B_bytes G (mem2 (mem2 mem1)) lf) Kept.type (VL.one (VP.fn (G__law_octets G (mem2 (mem2 (mem2 mem1))) lf) kp__law_octets (VL.one (nv G 0 rfl)) (f_law_octets (by lia) lp))) (p_bytes (octs_rng fun r m => F.rng r m (hall r m)) (by rw [octets_len]; lia) lp)) (.c (.tail (.tail (.tail (.tail (.tail (.tail (.tail (.tail .head)))))))) (by first | exact mem1 | exact mem2 mem1 | exact mem2 (mem2 mem1) | exact mem2 (mem2 (mem2 mem1)))) ?_))
      refine Bk.cons (St.iteV (TP.or (TP.cmp (VP.fn (G_pack_filter G (mem2 (mem2 (mem2 (mem2 (mem2 (mem2 mem1)))))) lf) kp_pack_filter (VL.one (nv G 1 rfl)) (f_pack_filter (by lia) hne (fun r m => F.pack r m (hall r m)) lp)) (nv G 8 rfl) (p_neB lp)) (fun J => TP.or1 (TP.cmp (VP.comp (out:=(List.map rowP (List.map (fun (a:Row) => a) l_))) [] rfl G (FreeOk.loc (FreeOk.loc FreeOk.nil)) rfl (by kernel_rfl) (fun J h => by first | exact (List.not_mem_nil h).elim | (simp only [List.mem_cons, List.not_mem_nil, or_false] at h; rcases h with rfl | rfl <;> simp) | (simp only [List.mem_cons, List.not_mem_nil, or_false] at h; subst h; simp)) (VI.lst (VP.fn (G_unpack_filter G (mem2 (mem2 (mem2 (mem2 (mem2 (mem2 (mem2 mem1))))))) lf) kp_unpack_filter (VL.one (nv G 8 rfl)) (f_unpack_filter (octs_sz hz_) (by rw [F.unp hall]; exact lp)))) (CS.loc (CS.loc CS.nil)) (fun S' G' K k => CompT.map (V:=fun o => [none, o.map (fun (a:Row) => ordP a)]) (f:=ordP) (g:=fun (a:Row) => rowP (a)) l_ [] none (fun o a m K X k => AsT.nam G' (.l (.tail .head)) k) (fun a m => (VP.told (nv G' 1 rfl))) (by simp; lia) (by simpa only [pvI, pvB, pvS, pvBy, List.map_map, Function.comp_def, List.nil_append] using k))) (nv G 0 rfl) (p_neR (by rw [List.map_id']) (shapedRs _) lp)))) ?_)
      rw [if_neg (by rw [F.join hall]; simp [octsOf])]
      refine Bk.nil (Bk.cons (St.asnV G (q:=.int (cutOf l_ first_ last_)) (VP.bin (VP.bin (VP.call (B_len G (mem2 (mem2 (mem2 (mem2 (mem2 (mem2 (mem2 (mem2 mem1)))))))) lf) Kept.builtin (VL.one (nv G 8 rfl)) (p_lenB (Nat.le_trans (octs_sz hz_) (by decide)) lp)) cI (p_sub lp)) (VP.bin (VP.bin (VP.item (VP.item (nv G 0 rfl) cI (p_itemR (by decide) hfirst (by lia))) cI (p_itemT (j:=0) rfl rfl (by decide) (by decide) lp (fun J J => rfl))) (VP.item (VP.item (nv G 0 rfl) (VP.neg cI) (p_itemBack hlast (by simp; lia) lp (fun J J => rfl))) cI (p_itemT (j:=3) rfl rfl (by decide) (by decide) lp (fun J J => rfl))) (p_add lp)) cI (p_mod (by decide) lp)) (p_sub lp)) (.c (.tail (.tail (.tail (.tail (.tail (.tail (.tail .head))))))) (by first | exact mem1 | exact mem2 mem1 | exact mem2 (mem2 mem1) | exact mem2 (mem2 (mem2 mem1)))) ?_))
      obtain ⟨e, ee, e52, eat⟩:=F.cut hall
      exact Bk.cons (St.retV (VP.cmp (EvE.heard (gs':=["unpack_filter"]) G (mem2 mem1) hpe (fun H₁ g => g.cd.1) hσ (.cons (.tail (.tail (.tail (.tail (.tail (.tail (.tail .head))))))) rfl (.cons (.tail (.tail (.tail (.tail (.tail (.tail (.tail (.tail .head)))))))) rfl .nil)) rfl rfl rfl rfl (by kernel_rfl) (fun J J J J J J => rfl) (fun J => rfl) (fun e' he => by rw [ee] at he; cases he; exact e52) (fun H₁ S' K X G' kk => EvE.fn (G_unpack_filter G' mem1 lf) kp_unpack_filter (VL.one (VP.sliceB (nv G' 1 rfl) (Nat.le_trans (octs_sz hz_) (by decide)) (EvP.none ⟨rfl, rfl, rfl⟩) (VQ.some (nv G' 0 rfl)))) (f_unpack_filter (Nat.le_trans (pickedN_len ..) (octs_sz hz_)) kk)) lf) (VP.tuple (VL.two cS (VP.bin (nv G 7 rfl) cI (p_div (by decide) (PyProof.noPylong_small (by decide)) lp)))) (p_eqR (by rw [ee]; show PV.tup [_, atPV e.at_] = _; rw [eat]; rfl) (by rw [ee]; show SeqAt.shaped (PV.tup [_, atPV e.at_]).dat = true; rw [eat]; exact shapedSI _ _ (by kernel_rfl)) lp)) k)
end
section
variable {w:World} {H₀:Heap} {S:Fx} {n:Nat} {A:Around} {env:Env} {stk:List Env} {ow md md':ASet} {σ σ':Store} {vs vs':Slots} {s:Shared} {h h':Heap} {ns oc gs ns' gs':List Str} {ks ks':List NameKind}
theorem p_addLM {K:PV → Store → Prop} {X:PExc → Store → Prop} {a b:List PV} (hz:a.length + b.length ≤ 1000) (k:∀ d, σ d = none → K (.loc d) (upd σ d (some (.list (a ++ b))))):Prim w H₀ n [.lst a, .lst b] σ (p2 (binaryOp .Add)) K X:=by
  intro A stk md s vals bx r
  apply r.e2; intro _ _ r₁ r₂
  apply r₁.iLst; intro l1 xs n1 m1 q1
  apply r₂.iLst; intro l2 ys n2 m2 q2
  obtain ⟨k1, e1⟩:=m1
  obtain ⟨k2, e2⟩:=m2
  have hsz:xs.toArray.size + ys.toArray.size ≤ sizeLine:=by rw [List.size_toArray, List.size_toArray, q1.length, q2.length]; exact sizeOk_le hz
  refine concat_meets ⟨_, e1, rfl⟩ ⟨_, e2, rfl⟩ noFill_list_add seq_list_add PySem.F.slot_list_add PySem.F.entry_list_add (PySem.F.args_list_add_2 _ _) (list_addW l1 l2 xs.toArray ys.toArray k1 k2 _ _ _ _ hsz) ⟨e1, e2, ?_⟩
  have hn:σ s.heap.objs.size = none:=by
    cases q:σ s.heap.objs.size with
    | none => rfl
    | some m => exact absurd (bx.inv.sto _ m q).1 bx.inv.notmd
  have r:RelL md s.heap (xs ++ ys) (a ++ b):=q1.append q2
  have ez:xs.toArray ++ ys.toArray = (xs ++ ys).toArray:=by simp
  rw [ez]
  generalize xs ++ ys = vals at r
  generalize a ++ b = args at r k
  refine ⟨_, _, adj md s.heap.objs.size, _, s.toks, rfl, k _ hn, .loc _, ?_, ?_⟩
  · have i:=bx.inv.pushmd (o:={ cls:=.type "list", data:=.seq vals.toArray })
    refine ⟨i.gl, i.base, i.off, i.al, fun a m q => ?_, i.ff, fun a q => ⟨(i.frmd a q).1, ?_⟩⟩
    · by_cases e:a = s.heap.objs.size
      · subst e
        rw [upd_same] at q
        cases q
        exact ⟨.inr rfl, vals, ⟨_, Heap.get?_push_size _ rfl⟩, r.mono .pushmd⟩
      · rw [upd_ne _ _ e] at q
        exact i.sto a m q
    · have e:a ≠ s.heap.objs.size:=fun z => by
        obtain ⟨en, he, hfe⟩:=q
        obtain ⟨_, L, o', e1, _, e2, _⟩:=bx.inv.ff en he
        rw [hfe] at e1; cases e1
        rw [z, none_size] at e2; cases e2
      rw [upd_ne _ _ e]; exact (i.frmd a q).2
  · refine ⟨Go.pushmd.st, fun a q => ?_⟩
    by_cases e:a = s.heap.objs.size
    · exact .inr (by rw [e]; exact none_size _)
    · rw [upd_ne _ _ e] at q; exact .inl q
end
section
variable {w:World} {H₀:Heap} {S:Fx} {n:Nat} {σ:Store} {vs vs':Slots} {ns oc gs ns' gs':List Str} {ks ks':List NameKind} {l:List (Str × Addr)}
theorem St.tup2c {Kn:Slots → Store → Prop} {Kr:PV → Slots → Store → Prop} {X:PExc → Slots → Store → Prop} {a b:Str} {pa pb tpos p vp:Pos} {k kv i:Nat} {e₁ e₂:Expr} (G:S.Good ns oc ks gs) (hi:KAt ns ks a .cell i) (h1:starred e₁ = false) (h2:starred e₂ = false)
    (hh:EvE w H₀ S n (.Tuple [e₁, e₂] kv vp) vs σ (fun q vs₁ σ₁ => AsT w H₀ S n (.Tuple [.Name a pa, .Name b pb] k tpos) q vs₁ σ₁ Kn X) X) (hs:∀ env, swapsWithSole [.Tuple [.Name a pa, .Name b pb] k tpos] (.Tuple [e₁, e₂] kv vp) p.line env = pure false) :
    St w H₀ S n (.Assign [.Tuple [.Name a pa, .Name b pb] k tpos] (.Tuple [e₁, e₂] kv vp) p) vs σ Kn Kr X:=by
  refine ⟨fun A env stk ow md s c => ?_⟩
  refine Assign_Tuple (hh.at c (fun J J e => e) fun v q vs₁ σ₁ md₁ h₁ tk k r c₁ kp₁ g₁ => ?_) (hs env) (swapped_cell (G.kd c.loc.sc hi) h1 h2 (by rw [c.loc.sc]; exact G.kind))
  refine wpAny_mono (k A env stk ow md₁ _ v c₁ r) (fun J s' x => ?_) fun J J e => e.lift g₁
  apply x.el; intro pv vs' σ' md' h' tk' k _ c' g
  exact .of (pv:=PF.next) (g₁.trans g) c' k trivial
theorem EvE.lamP {K:PV → Slots → Store → Prop} {X:PExc → Slots → Store → Prop} {params:Arguments} {body:Expr} {scope:Scope} {lpos:Pos} {c P:Addr} {Q:Str} (hP:PinOk w H₀ S vs l) (G:S.Good ns oc ks gs)
    (hpe:S.pe = fun env => env.code = .ref c ∧ env.qual = Q) (hcd:CodeHd H₀ c P) (hσ:σ P = some (.tab (Q ++ "<lambda>"))) (Lm:LamS ns ks vs ns' ks' vs') (hn:scope.names = tagged ns' ks' gs') (hk:scope.kind = .function) (hco:scope.isCoroutine = false) (hgen:scope.isGenerator = false) (hz:hnd ((ns' ++ gs' ++ special).map hs) = true)
    (hbind:∀ name qual clos pm cv ctv, bindArgs (kla_fn name qual params body scope clos pm cv ctv) ⟨[], []⟩ = pure []) (hdef:∀ env, defaultsOf params env = ([], []))
    (k:∀ fd, (∀ (m:Nat) K X, (∀ S':Fx, S'.Good ns' [] ks' gs' → EvE w H₀ S' m body vs' σ (fun p J σ' => K p σ') (fun pe J σ' => X pe σ')) → PrimF w H₀ (m + 1) fd σ K X) → K (.fn fd) vs σ):EvE w H₀ (S.pin l) n (.Lambda params body scope lpos) vs σ K X:=by
  refine EvE.lam (l:=l) (fun env h => ⟨by rw [Fx.pin, hpe] at h; exact h.1, h.2⟩) hcd hσ (fun x hx => ?_) hdef fun cv ctv pm => k _ fun m K X hB => PrimF.lam hP G Lm hn hk hco hgen hz (hbind ..) hB
  rw [hn] at hx
  rcases Lm.free x .free hx with ⟨_, hx⟩ | h
  · obtain ⟨i, hi⟩:=List.mem_iff_getElem?.mp hx
    obtain ⟨c, pv, _, h, _⟩:=hP.lam G Lm i x hi
    exact ⟨c, h⟩
  · cases h
end
noncomputable abbrev sz_ (i:Int):Str:=(["w", "h", "b"]:List Str).getD i.toNat ""
noncomputable abbrev md_ (i:Int):Str:=(["imm", "mem", "len"]:List Str).getD i.toNat ""
noncomputable abbrev od_ (i:Int):Str:=(["abs", "ind", "some"]:List Str).getD i.toNat ""
noncomputable abbrev al_ (i:Int):Str:=(["add", "sub", "mul", "div", "or", "and", "lsh", "rsh", "neg", "mod", "xor"]:List Str).getD i.toNat ""
noncomputable abbrev js_ (i:Int):Str:=(["jeq", "jgt", "jge", "jset"]:List Str).getD i.toNat ""
theorem r3 {x:Int} (h0:0 ≤ x) (h1:x < 3):x = 0 ∨ x = 1 ∨ x = 2:=by lia
theorem r4 {x:Int} (h0:0 ≤ x) (h1:x < 4):x = 0 ∨ x = 1 ∨ x = 2 ∨ x = 3:=by lia
theorem r11 {x:Int} (h0:0 ≤ x) (h1:x < 11):x = 0 ∨ x = 1 ∨ x = 2 ∨ x = 3 ∨ x = 4 ∨ x = 5 ∨ x = 6 ∨ x = 7 ∨ x = 8 ∨ x = 9 ∨ x = 10:=by lia
theorem in_sz {x:Int} (h0:0 ≤ x) (h1:x < 3):sizeNames.any (· == sz_ x) = true:=by rcases r3 h0 h1 with rfl | rfl | rfl <;> decide +kernel
theorem in_md {x:Int} (h0:0 ≤ x) (h1:x < 3):modeNames.any (· == md_ x) = true:=by rcases r3 h0 h1 with rfl | rfl | rfl <;> decide +kernel
theorem in_al {x:Int} (h0:0 ≤ x) (h1:x < 11):aluNames.any (· == al_ x) = true:=by rcases r11 h0 h1 with rfl | rfl | rfl | rfl | rfl | rfl | rfl | rfl | rfl | rfl | rfl <;> decide +kernel
theorem in_js {x:Int} (h0:0 ≤ x) (h1:x < 4):jumpNames.any (· == js_ x) = true:=by rcases r4 h0 h1 with rfl | rfl | rfl | rfl <;> decide +kernel
theorem ln_sz {x:Int} (h0:0 ≤ x) (h1:x < 3):(sz_ x).length ≤ 991:=by rcases r3 h0 h1 with rfl | rfl | rfl <;> decide +kernel
theorem ln_md {x:Int} (h0:0 ≤ x) (h1:x < 3):(md_ x).length ≤ 991:=by rcases r3 h0 h1 with rfl | rfl | rfl <;> decide +kernel
theorem ln_od {x:Int} (h0:0 ≤ x) (h1:x < 3):(od_ x).length ≤ 991:=by rcases r3 h0 h1 with rfl | rfl | rfl <;> decide +kernel
theorem ln_al {x:Int} (h0:0 ≤ x) (h1:x < 11):(al_ x).length ≤ 991:=by rcases r11 h0 h1 with rfl | rfl | rfl | rfl | rfl | rfl | rfl | rfl | rfl | rfl | rfl <;> decide +kernel
theorem ln_js {x:Int} (h0:0 ≤ x) (h1:x < 4):(js_ x).length ≤ 991:=by rcases r4 h0 h1 with rfl | rfl | rfl | rfl <;> decide +kernel
theorem mk_ld_abs {x:Int} (h0:0 ≤ x) (h1:x < 3) (k:Int):L_ld (sz_ x) (Str.ofString "abs") k = .ok (ordP (Row.mk ((32:Int) + ((8:Int) * x)) 0 0 k)):=by rcases r3 h0 h1 with rfl | rfl | rfl <;> rfl
theorem mk_ld_ind {x:Int} (h0:0 ≤ x) (h1:x < 3) (k:Int):L_ld (sz_ x) (Str.ofString "ind") k = .ok (ordP (Row.mk ((64:Int) + ((8:Int) * x)) 0 0 k)):=by rcases r3 h0 h1 with rfl | rfl | rfl <;> rfl
theorem mk_ld_w {x:Int} (h0:0 ≤ x) (h1:x < 3) (k:Int):L_ld (Str.ofString "w") (md_ x) k = .ok (ordP (Row.mk (([(0:Int), (96:Int), (128:Int)]:List Int).getD (Int.toNat x) 0) 0 0 k)):=by rcases r3 h0 h1 with rfl | rfl | rfl <;> rfl
theorem mk_alu_k {x:Int} (h0:0 ≤ x) (h1:x < 11) (k:Int):L_alu_k (al_ x) k = Row.mk ((4:Int) + ((16:Int) * x)) 0 0 k:=by rcases r11 h0 h1 with rfl | rfl | rfl | rfl | rfl | rfl | rfl | rfl | rfl | rfl | rfl <;> rfl
theorem mk_ldx {x:Int} (h0:0 ≤ x) (h1:x < 3) (k:Int):L_ldx (md_ x) k = .ok (ordP (Row.mk (([(1:Int), (97:Int), (129:Int)]:List Int).getD (Int.toNat x) 0) 0 0 k)):=by rcases r3 h0 h1 with rfl | rfl | rfl <;> rfl
theorem mk_ldx_msh (k:Int):L_ldx (Str.ofString "msh") k = .ok (ordP (Row.mk 177 0 0 k)):=by rfl
theorem mk_jump_k {x:Int} (h0:0 ≤ x) (h1:x < 4) (k t f:Int):L_jump_k (js_ x) k t f = .ok (ordP (Row.mk ((21:Int) + ((16:Int) * x)) t f k)):=by rcases r4 h0 h1 with rfl | rfl | rfl | rfl <;> rfl
theorem mk_jump_x {x:Int} (h0:0 ≤ x) (h1:x < 4) (t f:Int):L_jump_x (js_ x) t f = .ok (ordP (Row.mk ((29:Int) + ((16:Int) * x)) t f 0)):=by rcases r4 h0 h1 with rfl | rfl | rfl | rfl <;> rfl
theorem mk_alu_x {x:Int} (h0:0 ≤ x) (h1:x < 11) (h8:x ≠ 8):L_alu_x (al_ x) = .ok (ordP (Row.mk ((12:Int) + ((16:Int) * x)) 0 0 0)):=by rcases r11 h0 h1 with rfl | rfl | rfl | rfl | rfl | rfl | rfl | rfl | rfl | rfl | rfl <;> first | rfl | exact absurd rfl h8
theorem od1 {x y:Int} (h0:0 ≤ x) (h1:x < 3) (h2:x ≠ 0) (g0:0 ≤ y) (g1:y < 3) (k:Int):∃ e, L_ld (sz_ x) (md_ y) k = .error e ∧ e.C = 52:=by rcases r3 h0 h1 with rfl | rfl | rfl <;> first | exact absurd rfl h2 | (rcases r3 g0 g1 with rfl | rfl | rfl <;> exact ⟨_, rfl, rfl⟩)
theorem od2 {x:Int} (h0:0 ≤ x) (h1:x < 3) (h2:x ≠ 2) (k:Int):modeNames.any (· == od_ x) = true ∧ ∃ e, L_ldx (od_ x) k = .error e ∧ e.C = 52:=by rcases r3 h0 h1 with rfl | rfl | rfl <;> first | exact absurd rfl h2 | exact ⟨by decide +kernel, _, rfl, rfl⟩
theorem od3 (k t f:Int):L_jump_k (Str.ofString "ja") k t f = .error ⟨52, Str.ofString "no condition ja", none⟩:=by rfl
theorem od4 (k:Int):∃ e, L_ld (Str.ofString "w") (Str.ofString "msh") k = .error e ∧ e.C = 52:=by exact ⟨_, rfl, rfl⟩
theorem shapedSs (l:List Str) (h:∀ x ∈ l, PyData.strOk x = true):SeqAt.shaped (PV.lst (pvS l)).dat = true:=shapedN.at (n:=1) (shapedN.lst fun p hp => by
  obtain ⟨x, hx, rfl⟩:=List.mem_map.mp hp
  exact shapedS _ (h x hx)) (by decide)
noncomputable abbrev pairP (r:Row):PV:=.tup [ordP r, rowP r]
section
variable {w:World} {H₀:Heap} {S:Fx} {n:Nat} {σ:Store} {vs:Slots} {X:PExc → Slots → Store → Prop} {Kn:Slots → Store → Prop} {Kr:PV → Slots → Store → Prop}
theorem St.ifP2 {t:Expr} {a b:List Stmt} {p:Pos} {c:Bool} (P:Slots → Store → Prop) (h:TP w H₀ S n vs σ t c) (ha:c = true → Bk w H₀ S n a vs σ P (fun J J J => False) NX0) (hb:c = false → Bk w H₀ S n b vs σ P (fun J J J => False) NX0) (k:∀ vs' σ', P vs' σ' → Kn vs' σ'):St w H₀ S n (.If t a b p) vs σ Kn Kr X:=by
  refine St.iteV h ?_
  cases c
  · exact Bk.weak (hb rfl) k
  · exact Bk.weak (ha rfl) k
end
section
variable {w:World} {H₀:Heap} {n:Nat} {σ:Store} {K:PV → Store → Prop} {X:PExc → Store → Prop}
inductive RsInv (L:Slots) (a:Addr) (σ:Store) (vs:Slots) (σ':Store):Prop
  | mk (rs:List Row) (hl:rs.length ≤ 901) (ev:vs = L) (es:σ' = upd σ a (some (.list (rs.map pairP))))
theorem f_law_makers_right {left_:Int} (h0_:0 ≤ left_) (hσ:σ 408 = some (.tab (Str.ofString "_law_makers_right.<locals>." ++ "<lambda>"))) (k:K (.bool true) σ):PrimC w H₀ (n + 12) [.int left_] σ (.ref 411) K X:=by
  refine PrimC.drop ?_
  refine PrimC.defP (params:=["left"]) (ns:=["left", "deeds", "tests", "deed", "test", "rows", "odd", "jf", "jt", "k", "sizes", "spot"]) (ks:=[.cell, .local, .local, .local, .local, .local, .local, .cell, .cell, .cell, .cell, .cell]) (gs:=["ld", "alu_k", "ldx", "jump_k", "jump_x", "ja", "ret_k", "st", "stx", "_law_heard", "alu_x"]) (vs:=[some (.int left_), none, none, none, none, none, none, none, none, none, none, none]) (oc':=["left", "jf", "jt", "k", "sizes", "spot"]) (fun env => env.code = .ref 410 ∧ env.qual = Str.ofString "_law_makers_right.<locals>.") rfl (fun a => ⟨rfl, rfl⟩) (by kernel_rfl) ?_ rfl rfl rfl (by kernel_rfl) (by kernel_rfl) rfl rfl ?_
  · intro vals hv
    apply len1 hv; intros; rfl
  intro S G hpe
  refine Bk.cons (St.tup (VP.use (VP.tuple (VL.four (VP.bin (nv G 0 rfl) (VP.bin cI cI (p_pow (by first | assumption | decide | lia) (by first | assumption | decide | lia) lp)) (p_mod (by first | assumption | decide | lia) lp)) (VP.bin (VP.bin (nv G 0 rfl) (VP.bin cI cI (p_pow (by first | assumption | decide | lia) (by first | assumption | decide | lia) lp)) (p_div (by first | assumption | decide | lia) (PyProof.noPylong_of_log2 (by decide +kernel)) lp)) cI (p_mod (by first | assumption | decide | lia) lp)) (VP.bin (VP.bin (nv G 0 rfl) (VP.bin cI cI (p_pow (by first | assumption | decide | lia) (by first | assumption | decide | lia) lp)) (p_div (by first | assumption | decide | lia) (PyProof.noPylong_of_log2 (by decide +kernel)) lp)) cI (p_mod (by first | assumption | decide | lia) lp)) (VP.bin (nv G 0 rfl) (VP.bin cI cI (p_pow (by first | assumption | decide | lia) (by first | assumption | decide | lia) lp)) (p_div (by first | assumption | decide | lia) (PyProof.noPylong_of_log2 (by decide +kernel)) lp)))) (AsT.tup (fun J => rfl) (fun J => rfl) (AsL.cons (AsT.nam G (.c (.tail (.tail (.tail (.tail (.tail (.tail (.tail (.tail (.tail .head))))))))) (by first | exact mem1 | exact mem2 mem1 | exact mem2 (mem2 mem1) | exact mem2 (mem2 (mem2 mem1)) | exact mem2 (mem2 (mem2 (mem2 mem1))) | exact mem2 (mem2 (mem2 (mem2 (mem2 mem1)))))) (AsL.cons (AsT.nam G (.c (.tail (.tail (.tail (.tail (.tail (.tail (.tail (.tail .head)))))))) (by first | exact mem1 | exact mem2 mem1 | exact mem2 (mem2 mem1) | exact mem2 (mem2 (mem2 mem1)) | exact mem2 (mem2 (mem2 (mem2 mem1))) | exact mem2 (mem2 (mem2 (mem2 (mem2 mem1)))))) (AsL.cons (AsT.nam G (.c (.tail (.tail (.tail (.tail (.tail (.tail (.tail .head))))))) (by first | exact mem1 | exact mem2 mem1 | exact mem2 (mem2 mem1) | exact mem2 (mem2 (mem2 mem1)) | exact mem2 (mem2 (mem2 (mem2 mem1))) | exact mem2 (mem2 (mem2 (mem2 (mem2 mem1)))))) (AsL.cons (AsT.nam G (.c .head (by first | exact mem1 | exact mem2 mem1 | exact mem2 (mem2 mem1) | exact mem2 (mem2 (mem2 mem1)) | exact mem2 (mem2 (mem2 (mem2 mem1))) | exact mem2 (mem2 (mem2 (mem2 (mem2 mem1)))))) (AsL.nil ?_))))))))))) (fun J => rfl) (fun J => rfl))
  generalize (Int.fmod left_ ((2:Int) ^ Int.toNat (32:Int))) = k_
  generalize (Int.fmod (Int.fdiv left_ ((2:Int) ^ Int.toNat (32:Int))) (256:Int)) = jt_
  generalize (Int.fmod (Int.fdiv left_ ((2:Int) ^ Int.toNat (40:Int))) (256:Int)) = jf_
  have hl0:0 ≤ (Int.fdiv left_ ((2:Int) ^ Int.toNat (48:Int))):=Int.fdiv_nonneg h0_ (by decide)
  generalize (Int.fdiv left_ ((2:Int) ^ Int.toNat (48:Int))) = left_ at hl0 ⊢
  refine Bk.cons (St.tup2c G (.tail (.tail (.tail (.tail (.tail (.tail (.tail (.tail (.tail (.tail .head)))))))))) rfl rfl (VP.use (VP.tuple (VL.two (VP.list (ps:=pvS ["w", "h", "b"]) (VL.three cS cS cS)) (VP.list (ps:=pvS ["add", "sub", "mul", "div", "or", "and", "lsh", "rsh", "neg", "mod", "xor"]) (VL.cons cS (VL.cons cS (VL.cons cS (VL.cons cS (VL.cons cS (VL.cons cS (VL.cons cS (VL.four cS cS cS cS))))))))))) (AsT.tup (fun J => rfl) (fun J => rfl) (AsL.cons (AsT.nam G (.c (.tail (.tail (.tail (.tail (.tail (.tail (.tail (.tail (.tail (.tail .head)))))))))) (by first | exact mem1 | exact mem2 mem1 | exact mem2 (mem2 mem1) | exact mem2 (mem2 (mem2 mem1)) | exact mem2 (mem2 (mem2 (mem2 mem1))) | exact mem2 (mem2 (mem2 (mem2 (mem2 mem1)))))) (AsL.cons (AsT.nam G (.l (.tail .head)) (AsL.nil ?_))))))) (fun J => rfl))
  refine Bk.cons (St.tup (VP.use (VP.tuple (VL.four (VP.list (ps:=pvS ["jeq", "jgt", "jge", "jset"]) (VL.four cS cS cS cS)) (VP.bin (nv G 0 rfl) cI (p_mod (by first | assumption | decide | lia) lp)) (VP.bin (VP.bin (nv G 0 rfl) cI (p_div (by first | assumption | decide | lia) (PyProof.noPylong_small (by first | assumption | decide | lia)) lp)) cI (p_mod (by first | assumption | decide | lia) lp)) (VP.bin (VP.bin (nv G 0 rfl) cI (p_div (by first | assumption | decide | lia) (PyProof.noPylong_small (by first | assumption | decide | lia)) lp)) cI (p_mod (by first | assumption | decide | lia) lp)))) (AsT.tup (fun J => rfl) (fun J => rfl) (AsL.cons (AsT.nam G (.l (.tail (.tail .head))) (AsL.cons (AsT.nam G (.c (.tail (.tail (.tail (.tail (.tail (.tail (.tail (.tail (.tail (.tail (.tail .head))))))))))) (by first | exact mem1 | exact mem2 mem1 | exact mem2 (mem2 mem1) | exact mem2 (mem2 (mem2 mem1)) | exact mem2 (mem2 (mem2 (mem2 mem1))) | exact mem2 (mem2 (mem2 (mem2 (mem2 mem1)))))) (AsL.cons (AsT.nam G (.l (.tail (.tail (.tail .head)))) (AsL.cons (AsT.nam G (.l (.tail (.tail (.tail (.tail .head))))) (AsL.nil ?_))))))))))) (fun J => rfl) (fun J => rfl))
  have hs_:=fmod_rng left_ (m:=3) (by decide)
  have hd_:=fmod_rng (Int.fdiv left_ (3:Int)) (m:=11) (by decide)
  have ht_:=fmod_rng (Int.fdiv left_ (33:Int)) (m:=4) (by decide)
  generalize (Int.fmod left_ (3:Int)) = sp_ at hs_ ⊢
  generalize (Int.fmod (Int.fdiv left_ (3:Int)) (11:Int)) = de_ at hd_ ⊢
  generalize (Int.fmod (Int.fdiv left_ (33:Int)) (4:Int)) = te_ at ht_ ⊢
  refine Bk.cons (St.asnV G (VP.list (ps:=[(Row.mk ((32:Int) + ((8:Int) * sp_)) (0:Int) (0:Int) k_), (Row.mk ((64:Int) + ((8:Int) * sp_)) (0:Int) (0:Int) k_)].map pairP) (VL.two (VP.tuple (VL.two (VP.fn (r:=ordP (Row.mk ((32:Int) + ((8:Int) * sp_)) (0:Int) (0:Int) k_)) (G_ld G mem1 lf) kp_ld (VL.three (VP.item (nv G 10 rfl) (nv G 11 rfl) (p_itemS (L:=["w", "h", "b"]) hs_.1 (decide_eq_true (by show _ < (3:Int); exact hs_.2)))) cS (nv G 9 rfl)) (f_ld (in_sz hs_.1 hs_.2) (ln_sz hs_.1 hs_.2) (by decide +kernel) (by decide +kernel) (by rw [mk_ld_abs hs_.1 hs_.2 _]; exact lp))) (VP.tuple (VL.four (VP.bin cI (VP.bin cI (nv G 11 rfl) (p_mul (by first | exact IntMulOk.of_left (by decide) | exact IntMulOk.of_right (by decide) | assumption) lp)) (p_add lp)) cI cI (nv G 9 rfl))))) (VP.tuple (VL.two (VP.fn (r:=ordP (Row.mk ((64:Int) + ((8:Int) * sp_)) (0:Int) (0:Int) k_)) (G_ld G mem1 lf) kp_ld (VL.three (VP.item (nv G 10 rfl) (nv G 11 rfl) (p_itemS (L:=["w", "h", "b"]) hs_.1 (decide_eq_true (by show _ < (3:Int); exact hs_.2)))) cS (nv G 9 rfl)) (f_ld (in_sz hs_.1 hs_.2) (ln_sz hs_.1 hs_.2) (by decide +kernel) (by decide +kernel) (by rw [mk_ld_ind hs_.1 hs_.2 _]; exact lp))) (VP.tuple (VL.four (VP.bin cI (VP.bin cI (nv G 11 rfl) (p_mul (by first | exact IntMulOk.of_left (by decide) | exact IntMulOk.of_right (by decide) | assumption) lp)) (p_add lp)) cI cI (nv G 9 rfl))))))) (.l (.tail (.tail (.tail (.tail (.tail .head)))))) ?_)
  refine Bk.cons (St.asnV G (q:=.lst (([(Row.mk ((32:Int) + ((8:Int) * sp_)) (0:Int) (0:Int) k_), (Row.mk ((64:Int) + ((8:Int) * sp_)) (0:Int) (0:Int) k_)] ++ [(Row.mk (([(0:Int), (96:Int), (128:Int)]:List Int).getD (Int.toNat sp_) 0) (0:Int) (0:Int) k_), (Row.mk ((4:Int) + ((16:Int) * de_)) (0:Int) (0:Int) k_)]).map pairP)) (VP.bin (nv G 5 rfl) (VP.list (ps:=[(Row.mk (([(0:Int), (96:Int), (128:Int)]:List Int).getD (Int.toNat sp_) 0) (0:Int) (0:Int) k_), (Row.mk ((4:Int) + ((16:Int) * de_)) (0:Int) (0:Int) k_)].map pairP) (VL.two (VP.tuple (VL.two (VP.fn (r:=ordP (Row.mk (([(0:Int), (96:Int), (128:Int)]:List Int).getD (Int.toNat sp_) 0) (0:Int) (0:Int) k_)) (G_ld G mem1 lf) kp_ld (VL.three cS (VP.item (VP.list (ps:=pvS ["imm", "mem", "len"]) (VL.three cS cS cS)) (nv G 11 rfl) (p_itemS (L:=["imm", "mem", "len"]) hs_.1 (decide_eq_true (by show _ < (3:Int); exact hs_.2)))) (nv G 9 rfl)) (f_ld (by decide +kernel) (by decide +kernel) (in_md hs_.1 hs_.2) (ln_md hs_.1 hs_.2) (by rw [mk_ld_w hs_.1 hs_.2 _]; exact lp))) (VP.tuple (VL.four (VP.item (VP.list (VL.three cI cI cI)) (nv G 11 rfl) (p_itemN (l:=[(0:Int), (96:Int), (128:Int)]) hs_.1 (by show _ < (3:Int); exact hs_.2))) cI cI (nv G 9 rfl))))) (VP.tuple (VL.two (VP.fn (r:=ordP (Row.mk ((4:Int) + ((16:Int) * de_)) (0:Int) (0:Int) k_)) (G_alu_k G (mem2 mem1) lf) kp_alu_k (VL.two (VP.item (nv G 1 rfl) (nv G 3 rfl) (p_itemS (L:=["add", "sub", "mul", "div", "or", "and", "lsh", "rsh", "neg", "mod", "xor"]) hd_.1 (decide_eq_true (by show _ < (11:Int); exact hd_.2)))) (nv G 9 rfl)) (f_alu_k (in_al hd_.1 hd_.2) (ln_al hd_.1 hd_.2) ⟨congrArg ordP (mk_alu_k hd_.1 hd_.2 _), rfl⟩)) (VP.tuple (VL.four (VP.bin cI (VP.bin cI (nv G 3 rfl) (p_mul (by first | exact IntMulOk.of_left (by decide) | exact IntMulOk.of_right (by decide) | assumption) lp)) (p_add lp)) cI cI (nv G 9 rfl))))))) (p_addL (by simp) ⟨congrArg PV.lst List.map_append.symm, rfl⟩)) (.l (.tail (.tail (.tail (.tail (.tail .head)))))) ?_)
  refine Bk.cons (St.asnV G (q:=.lst (([(Row.mk ((32:Int) + ((8:Int) * sp_)) (0:Int) (0:Int) k_), (Row.mk ((64:Int) + ((8:Int) * sp_)) (0:Int) (0:Int) k_)] ++ [(Row.mk (([(0:Int), (96:Int), (128:Int)]:List Int).getD (Int.toNat sp_) 0) (0:Int) (0:Int) k_), (Row.mk ((4:Int) + ((16:Int) * de_)) (0:Int) (0:Int) k_)] ++ [(Row.mk (([(1:Int), (97:Int), (129:Int)]:List Int).getD (Int.toNat sp_) 0) (0:Int) (0:Int) k_), (Row.mk (177:Int) (0:Int) (0:Int) k_)]).map pairP)) (VP.bin (nv G 5 rfl) (VP.list (ps:=[(Row.mk (([(1:Int), (97:Int), (129:Int)]:List Int).getD (Int.toNat sp_) 0) (0:Int) (0:Int) k_), (Row.mk (177:Int) (0:Int) (0:Int) k_)].map pairP) (VL.two (VP.tuple (VL.two (VP.fn (r:=ordP (Row.mk (([(1:Int), (97:Int), (129:Int)]:List Int).getD (Int.toNat sp_) 0) (0:Int) (0:Int) k_)) (G_ldx G (mem2 (mem2 mem1)) lf) kp_ldx (VL.two (VP.item (VP.list (ps:=pvS ["imm", "mem", "len"]) (VL.three cS cS cS)) (nv G 11 rfl) (p_itemS (L:=["imm", "mem", "len"]) hs_.1 (decide_eq_true (by show _ < (3:Int); exact hs_.2)))) (nv G 9 rfl)) (f_ldx (in_md hs_.1 hs_.2) (ln_md hs_.1 hs_.2) (by rw [mk_ldx hs_.1 hs_.2 _]; exact lp))) (VP.tuple (VL.four (VP.item (VP.list (VL.three cI cI cI)) (nv G 11 rfl) (p_itemN (l:=[(1:Int), (97:Int), (129:Int)]) hs_.1 (by show _ < (3:Int); exact hs_.2))) cI cI (nv G 9 rfl))))) (VP.tuple (VL.two (VP.fn (r:=ordP (Row.mk (177:Int) (0:Int) (0:Int) k_)) (G_ldx G (mem2 (mem2 mem1)) lf) kp_ldx (VL.two cS (nv G 9 rfl)) (f_ldx (by decide +kernel) (by decide +kernel) (by rw [mk_ldx_msh _]; exact lp))) (VP.tuple (VL.four cI cI cI (nv G 9 rfl))))))) (p_addL (by simp) ⟨congrArg PV.lst List.map_append.symm, rfl⟩)) (.l (.tail (.tail (.tail (.tail (.tail .head)))))) ?_)
  refine Bk.cons (St.asnV G (q:=.lst (([(Row.mk ((32:Int) + ((8:Int) * sp_)) (0:Int) (0:Int) k_), (Row.mk ((64:Int) + ((8:Int) * sp_)) (0:Int) (0:Int) k_)] ++ [(Row.mk (([(0:Int), (96:Int), (128:Int)]:List Int).getD (Int.toNat sp_) 0) (0:Int) (0:Int) k_), (Row.mk ((4:Int) + ((16:Int) * de_)) (0:Int) (0:Int) k_)] ++ [(Row.mk (([(1:Int), (97:Int), (129:Int)]:List Int).getD (Int.toNat sp_) 0) (0:Int) (0:Int) k_), (Row.mk (177:Int) (0:Int) (0:Int) k_)] ++ [(Row.mk ((21:Int) + ((16:Int) * te_)) jt_ jf_ k_), (Row.mk ((29:Int) + ((16:Int) * te_)) jt_ jf_ (0:Int))]).map pairP)) (VP.bin (nv G 5 rfl) (VP.list (ps:=[(Row.mk ((21:Int) + ((16:Int) * te_)) jt_ jf_ k_), (Row.mk ((29:Int) + ((16:Int) * te_)) jt_ jf_ (0:Int))].map pairP) (VL.two (VP.tuple (VL.two (VP.fn (r:=ordP (Row.mk ((21:Int) + ((16:Int) * te_)) jt_ jf_ k_)) (G_jump_k G (mem2 (mem2 (mem2 mem1))) lf) kp_jump_k (VL.four (VP.item (nv G 2 rfl) (nv G 4 rfl) (p_itemS (L:=["jeq", "jgt", "jge", "jset"]) ht_.1 (decide_eq_true (by show _ < (4:Int); exact ht_.2)))) (nv G 9 rfl) (nv G 8 rfl) (nv G 7 rfl)) (f_jump_k (in_js ht_.1 ht_.2) (ln_js ht_.1 ht_.2) (by rw [mk_jump_k ht_.1 ht_.2 _ _ _]; exact lp))) (VP.tuple (VL.four (VP.bin cI (VP.bin cI (nv G 4 rfl) (p_mul (by first | exact IntMulOk.of_left (by decide) | exact IntMulOk.of_right (by decide) | assumption) lp)) (p_add lp)) (nv G 8 rfl) (nv G 7 rfl) (nv G 9 rfl))))) (VP.tuple (VL.two (VP.fn (r:=ordP (Row.mk ((29:Int) + ((16:Int) * te_)) jt_ jf_ (0:Int))) (G_jump_x G (mem2 (mem2 (mem2 (mem2 mem1)))) lf) kp_jump_x (VL.three (VP.item (nv G 2 rfl) (nv G 4 rfl) (p_itemS (L:=["jeq", "jgt", "jge", "jset"]) ht_.1 (decide_eq_true (by show _ < (4:Int); exact ht_.2)))) (nv G 8 rfl) (nv G 7 rfl)) (f_jump_x (in_js ht_.1 ht_.2) (ln_js ht_.1 ht_.2) (by rw [mk_jump_x ht_.1 ht_.2 _ _]; exact lp))) (VP.tuple (VL.four (VP.bin cI (VP.bin cI (nv G 4 rfl) (p_mul (by first | exact IntMulOk.of_left (by decide) | exact IntMulOk.of_right (by decide) | assumption) lp)) (p_add lp)) (nv G 8 rfl) (nv G 7 rfl) cI)))))) (p_addL (by simp) ⟨congrArg PV.lst List.map_append.symm, rfl⟩)) (.l (.tail (.tail (.tail (.tail (.tail .head)))))) ?_)
  refine Bk.cons (St.asn G (EvE.bin (VP.use (nv G 5 rfl) (VP.use (VP.list (ps:=[(Row.mk (5:Int) (0:Int) (0:Int) k_), (Row.mk (6:Int) (0:Int) (0:Int) k_), (Row.mk (2:Int) (0:Int) (0:Int) k_), (Row.mk (3:Int) (0:Int) (0:Int) k_)].map pairP) (VL.four (VP.tuple (VL.two (VP.fn (r:=ordP (Row.mk (5:Int) (0:Int) (0:Int) k_)) (G_ja G (mem2 (mem2 (mem2 (mem2 (mem2 mem1))))) lf) kp_ja (VL.one (nv G 9 rfl)) (f_ja ⟨congrArg ordP (rfl), rfl⟩)) (VP.tuple (VL.four cI cI cI (nv G 9 rfl))))) (VP.tuple (VL.two (VP.fn (r:=ordP (Row.mk (6:Int) (0:Int) (0:Int) k_)) (G_ret_k G (mem2 (mem2 (mem2 (mem2 (mem2 (mem2 mem1)))))) lf) kp_ret_k (VL.one (nv G 9 rfl)) (f_ret_k ⟨congrArg ordP (rfl), rfl⟩)) (VP.tuple (VL.four cI cI cI (nv G 9 rfl))))) (VP.tuple (VL.two (VP.fn (r:=ordP (Row.mk (2:Int) (0:Int) (0:Int) k_)) (G_st G (mem2 (mem2 (mem2 (mem2 (mem2 (mem2 (mem2 mem1))))))) lf) kp_st (VL.one (nv G 9 rfl)) (f_st ⟨congrArg ordP (rfl), rfl⟩)) (VP.tuple (VL.four cI cI cI (nv G 9 rfl))))) (VP.tuple (VL.two (VP.fn (r:=ordP (Row.mk (3:Int) (0:Int) (0:Int) k_)) (G_stx G (mem2 (mem2 (mem2 (mem2 (mem2 (mem2 (mem2 (mem2 mem1)))))))) lf) kp_stx (VL.one (nv G 9 rfl)) (f_stx ⟨congrArg ordP (rfl), rfl⟩)) (VP.tuple (VL.four cI cI cI (nv G 9 rfl))))))) (p_addLM (by simp) fun a ha => ⟨_, (.l (.tail (.tail (.tail (.tail (.tail .head)))))), ?_⟩)))) (fun J => rfl))
  rw [← List.map_append]
  have hrz:(([(Row.mk ((32:Int) + ((8:Int) * sp_)) (0:Int) (0:Int) k_), (Row.mk ((64:Int) + ((8:Int) * sp_)) (0:Int) (0:Int) k_)] ++ [(Row.mk (([(0:Int), (96:Int), (128:Int)]:List Int).getD (Int.toNat sp_) 0) (0:Int) (0:Int) k_), (Row.mk ((4:Int) + ((16:Int) * de_)) (0:Int) (0:Int) k_)] ++ [(Row.mk (([(1:Int), (97:Int), (129:Int)]:List Int).getD (Int.toNat sp_) 0) (0:Int) (0:Int) k_), (Row.mk (177:Int) (0:Int) (0:Int) k_)] ++ [(Row.mk ((21:Int) + ((16:Int) * te_)) jt_ jf_ k_), (Row.mk ((29:Int) + ((16:Int) * te_)) jt_ jf_ (0:Int))]) ++ [(Row.mk (5:Int) (0:Int) (0:Int) k_), (Row.mk (6:Int) (0:Int) (0:Int) k_), (Row.mk (2:Int) (0:Int) (0:Int) k_), (Row.mk (3:Int) (0:Int) (0:Int) k_)]).length ≤ 900:=by simp
  generalize ([(Row.mk ((32:Int) + ((8:Int) * sp_)) (0:Int) (0:Int) k_), (Row.mk ((64:Int) + ((8:Int) * sp_)) (0:Int) (0:Int) k_)] ++ [(Row.mk (([(0:Int), (96:Int), (128:Int)]:List Int).getD (Int.toNat sp_) 0) (0:Int) (0:Int) k_), (Row.mk ((4:Int) + ((16:Int) * de_)) (0:Int) (0:Int) k_)] ++ [(Row.mk (([(1:Int), (97:Int), (129:Int)]:List Int).getD (Int.toNat sp_) 0) (0:Int) (0:Int) k_), (Row.mk (177:Int) (0:Int) (0:Int) k_)] ++ [(Row.mk ((21:Int) + ((16:Int) * te_)) jt_ jf_ k_), (Row.mk ((29:Int) + ((16:Int) * te_)) jt_ jf_ (0:Int))]) ++ [(Row.mk (5:Int) (0:Int) (0:Int) k_), (Row.mk (6:Int) (0:Int) (0:Int) k_), (Row.mk (2:Int) (0:Int) (0:Int) k_), (Row.mk (3:Int) (0:Int) (0:Int) k_)] = rs_ at hrz ⊢
  refine Bk.cons (St.ifP2 (RsInv [some (.int left_), some (.lst (pvS ["add", "sub", "mul", "div", "or", "and", "lsh", "rsh", "neg", "mod", "xor"])), some (.lst (pvS ["jeq", "jgt", "jge", "jset"])), some (.int de_), some (.int te_), some (.loc a), none, some (.int jf_), some (.int jt_), some (.int k_), some (.lst (pvS ["w", "h", "b"])), some (.int sp_)] a σ) (TP.cmp (nv G 3 rfl) cI (p_eq lp)) (fun h8 => ?_) (fun h8 => ?_) ?_)
  · refine Bk.cons (St.iteV (TP.cmp (VP.item (EvE.heard (gs':=["alu_x"]) (out:=.error ⟨52, Str.ofString "no order neg", none⟩) G (mem2 (mem2 (mem2 (mem2 (mem2 (mem2 (mem2 (mem2 (mem2 mem1))))))))) hpe (fun H₁ g => g.cd.2) (by rw [upd_ne _ _ (fun e => by rw [e] at hσ; rw [hσ] at ha; cases ha)]; exact hσ) .nil rfl rfl rfl rfl (by kernel_rfl) (fun J J J J J J => rfl) (fun J => rfl) (fun e he => by cases he; rfl) (fun H₁ S' K X G' kk => EvE.fn (G_alu_x G' mem1 lf) kp_alu_x (VL.one cS) (f_alu_x (by decide +kernel) (by decide +kernel) (by rw [show L_alu_x (Str.ofString "neg") = .error ⟨52, Str.ofString "no order neg", none⟩ from rfl]; exact kk))) lf) cI (p_itemT (j:=0) rfl rfl (by decide) (by decide) lp (fun J J => rfl))) cS (p_neS lp)) ?_)
    rw [if_neg (by decide)]
    exact Bk.nil (Bk.nil ⟨rs_, by lia, rfl, rfl⟩)
  · have h8:de_ ≠ 8:=fun e => by subst e; exact absurd h8 (by decide)
    refine Bk.cons (St.drop G (fun J => rfl) (EvE.app (fun J => rfl) (fun J => rfl) rfl (EvE.nam G (.tail (.tail (.tail (.tail (.tail .head))))) rfl ⟨a, _, rfl, upd_same .., VL.use (VL.one (VP.tuple (VL.two (VP.fn (r:=ordP (Row.mk ((12:Int) + ((16:Int) * de_)) (0:Int) (0:Int) (0:Int))) (G_alu_x G (mem2 (mem2 (mem2 (mem2 (mem2 (mem2 (mem2 (mem2 (mem2 (mem2 mem1)))))))))) lf) kp_alu_x (VL.one (VP.item (nv G 1 rfl) (nv G 3 rfl) (p_itemS (L:=["add", "sub", "mul", "div", "or", "and", "lsh", "rsh", "neg", "mod", "xor"]) hd_.1 (decide_eq_true (by show _ < (11:Int); exact hd_.2))))) (f_alu_x (in_al hd_.1 hd_.2) (ln_al hd_.1 hd_.2) (by rw [mk_alu_x hd_.1 hd_.2 h8]; exact lp))) (VP.tuple (VL.four (VP.bin cI (VP.bin cI (nv G 3 rfl) (p_mul (by first | exact IntMulOk.of_left (by decide) | exact IntMulOk.of_right (by decide) | assumption) lp)) (p_add lp)) cI cI cI))))) ⟨_, _, rfl, upd_same .., by rw [List.length_map]; lia, rfl, ?_⟩⟩)))
    rw [upd_upd]
    exact Bk.nil ⟨rs_ ++ [(Row.mk ((12:Int) + ((16:Int) * de_)) (0:Int) (0:Int) (0:Int))], by rw [List.length_append]; show _ + 1 ≤ _; lia, rfl, by simp⟩
  clear hrz
  rintro _ _ ⟨rs, hrz, rfl, rfl⟩
  refine Tr.freeze (a:=a) (l:=rs.map pairP) (upd_same ..) (FzS.yes (.same _) (.yes (.same _) (.yes (.same _) (.yes (.same _) (.yes (.same _) (.yes .loc (.no (.yes (.same _) (.yes (.same _) (.yes (.same _) (.yes (.same _) (.yes (.same _) .nil)))))))))))) ?_
  rw [upd_back ha]
  refine Bk.pin fun H₁ l P => ?_
  have Gp:=G.pin l
  have h3_:=fmod_rng left_ (m:=3) (by decide)
  have h12_:0 ≤ (1:Int) + Int.fmod sp_ 2 ∧ (1:Int) + Int.fmod sp_ 2 < 3:=by have:=fmod_rng sp_ (m:=2) (by decide); lia
  have hne:(1:Int) + Int.fmod sp_ 2 ≠ 0:=by have:=fmod_rng sp_ (m:=2) (by decide); lia
  obtain ⟨e1, E1, C1⟩:=od1 h12_.1 h12_.2 hne h3_.1 h3_.2 k_
  obtain ⟨e4, E4, C4⟩:=od4 k_
  have hodd:(modeNames.any (· == od_ sp_) = true ∧ ∃ e, L_ldx (od_ sp_) k_ = .error e ∧ e.C = 52) ∨ sp_ = 2:=by
    by_cases z:sp_ = 2
    · exact .inr z
    · exact .inl (od2 hs_.1 hs_.2 z k_)
  refine Bk.cons (St.asn Gp (EvE.list (EvL.cons (EvE.lamP (ns':=["k", "left", "sizes", "spot"]) (gs':=["ld"]) P G hpe P.gl.cd.2 hσ (.cons (.tail (.tail (.tail (.tail (.tail (.tail (.tail (.tail (.tail .head))))))))) rfl (.cons .head rfl (.cons (.tail (.tail (.tail (.tail (.tail (.tail (.tail (.tail (.tail (.tail .head)))))))))) rfl (.cons (.tail (.tail (.tail (.tail (.tail (.tail (.tail (.tail (.tail (.tail (.tail .head))))))))))) rfl .nil)))) rfl rfl rfl rfl (by kernel_rfl) (fun J J J J J J => rfl) (fun J => rfl) fun fd1 H1 => EvL.cons (EvE.lamP (ns':=["k", "spot"]) (gs':=["ldx"]) P G hpe P.gl.cd.2 hσ (.cons (.tail (.tail (.tail (.tail (.tail (.tail (.tail (.tail (.tail .head))))))))) rfl (.cons (.tail (.tail (.tail (.tail (.tail (.tail (.tail (.tail (.tail (.tail (.tail .head))))))))))) rfl .nil)) rfl rfl rfl rfl (by kernel_rfl) (fun J J J J J J => rfl) (fun J => rfl) fun fd2 H2 => EvL.cons (EvE.lamP (ns':=["jf", "jt", "k"]) (gs':=["jump_k"]) P G hpe P.gl.cd.2 hσ (.cons (.tail (.tail (.tail (.tail (.tail (.tail (.tail .head))))))) rfl (.cons (.tail (.tail (.tail (.tail (.tail (.tail (.tail (.tail .head)))))))) rfl (.cons (.tail (.tail (.tail (.tail (.tail (.tail (.tail (.tail (.tail .head))))))))) rfl .nil))) rfl rfl rfl rfl (by kernel_rfl) (fun J J J J J J => rfl) (fun J => rfl) fun fd3 H3 => EvL.cons (EvE.lamP (ns':=["k"]) (gs':=["ld"]) P G hpe P.gl.cd.2 hσ (.cons (.tail (.tail (.tail (.tail (.tail (.tail (.tail (.tail (.tail .head))))))))) rfl .nil) rfl rfl rfl rfl (by kernel_rfl) (fun J J J J J J => rfl) (fun J => rfl) fun fd4 H4 => EvL.nil (p_lst (Nat.le_of_ble_eq_true rfl) ⟨_, .l (.tail (.tail (.tail (.tail (.tail (.tail .head)))))), ?_⟩)) fun J => rfl) fun J => rfl) fun J => rfl) fun J => rfl)) (fun J => rfl))
  have hall:∀ fd ∈ [fd1, fd2, fd3, fd4], ∃ e:PExc, e.C = 52 ∧ ∀ (m:Nat) (K:PV → Store → Prop) (X:PExc → Store → Prop), ro K X σ (.error e) → PrimF w H₁ (m + 9) fd σ K X:=by
    intro fd hfd
    simp only [List.mem_cons, List.not_mem_nil, or_false] at hfd
    rcases hfd with rfl | rfl | rfl | rfl
    · exact ⟨e1, C1, fun m K X kk => H1 _ K X fun S' G' => EvE.fn (G_ld G' mem1 lf) kp_ld (VL.three (VP.item (nv G' 2 rfl) (VP.bin cI (VP.bin (nv G' 3 rfl) cI (p_mod (by decide) lp)) (p_add lp)) (p_itemS (L:=["w", "h", "b"]) h12_.1 (decide_eq_true (by show _ < (3:Int); exact h12_.2)))) (VP.item (VP.list (ps:=pvS ["imm", "mem", "len"]) (VL.three cS cS cS)) (VP.bin (nv G' 1 rfl) cI (p_mod (by decide) lp)) (p_itemS (L:=["imm", "mem", "len"]) h3_.1 (decide_eq_true (by show _ < (3:Int); exact h3_.2)))) (nv G' 0 rfl)) (f_ld (n:=m + 1) (in_sz h12_.1 h12_.2) (ln_sz h12_.1 h12_.2) (in_md h3_.1 h3_.2) (ln_md h3_.1 h3_.2) (by rw [E1]; exact kk))⟩
    · exact (by
      rcases hodd with ⟨hin, e2, E2, C2⟩ | h2
      · exact ⟨e2, C2, fun m K X kk => H2 _ K X fun S' G' => EvE.fn (G_ldx G' mem1 lf) kp_ldx (VL.two (VP.item (VP.list (ps:=pvS ["abs", "ind", "some"]) (VL.three cS cS cS)) (nv G' 1 rfl) (p_itemS (L:=["abs", "ind", "some"]) hs_.1 (decide_eq_true (by show _ < (3:Int); exact hs_.2)))) (nv G' 0 rfl)) (f_ldx (n:=m + 1) hin (ln_od hs_.1 hs_.2) (by rw [E2]; exact kk))⟩
      · exact ⟨⟨52, Str.ofString "no order " ++ od_ sp_, none⟩, rfl, fun m K X kk => H2 _ K X fun S' G' => EvE.fn (G_ldx G' mem1 lf) kp_ldx (VL.two (VP.item (VP.list (ps:=pvS ["abs", "ind", "some"]) (VL.three cS cS cS)) (nv G' 1 rfl) (p_itemS (L:=["abs", "ind", "some"]) hs_.1 (decide_eq_true (by show _ < (3:Int); exact hs_.2)))) (nv G' 0 rfl)) (f_ldx_bad (n:=m + 1) (by rw [h2]; decide +kernel) (by rw [h2]; decide +kernel) (ln_od hs_.1 hs_.2) kk)⟩)
    · exact ⟨⟨52, Str.ofString "no condition ja", none⟩, rfl, fun m K X kk => H3 _ K X fun S' G' => EvE.fn (G_jump_k G' mem1 lf) kp_jump_k (VL.four cS (nv G' 2 rfl) (nv G' 1 rfl) (nv G' 0 rfl)) (f_jump_k (n:=m) (by decide +kernel) (by decide +kernel) (by rw [od3]; exact kk))⟩
    · exact ⟨e4, C4, fun m K X kk => H4 _ K X fun S' G' => EvE.fn (G_ld G' mem1 lf) kp_ld (VL.three cS cS (nv G' 0 rfl)) (f_ld (n:=m + 1) (by decide +kernel) (by decide +kernel) (by decide +kernel) (by decide +kernel) (by rw [E4]; exact kk))⟩
  refine Bk.cons (St.iteV (TP.cmp (VP.comp (out:=pvS ["refused", "refused", "refused", "refused"]) [] rfl Gp (FreeOk.loc (FreeOk.loc (FreeOk.glb FreeOk.nil))) rfl (by kernel_rfl) (fun J h => (List.not_mem_nil h).elim) (VI.lst (nv Gp 6 rfl)) (CS.loc (CS.loc (CS.glb CS.nil))) (fun S' G' K kk => CompT.map (V:=fun o => [none, o.map fun (fd:FuncData) => PV.fn fd]) (f:=PV.fn) (g:=fun J => PV.str "refused") [fd1, fd2, fd3, fd4] [] none (fun o a m K X k => AsT.nam G' (.l (.tail .head)) k) (fun fd m => by
      obtain ⟨e, e52, hF⟩:=hall fd m
      exact VP.item (VP.fn (G__law_heard G' mem1 lf) kp__law_heard (VL.one (nv G' 1 rfl)) (f_law_heard (n:=n + 6) (o:=.error e) (fun K X h => hF (n + 1) K X h) (fun e' he => by cases he; exact e52) lp)) cI (p_itemT (j:=0) rfl rfl (by decide) (by decide) lp (fun J J => rfl))) (Nat.le_of_ble_eq_true rfl) kk)) (VP.bin (VP.list (ps:=pvS ["refused"]) (VL.one cS)) cI (p_mulL (by decide) (by decide) (by decide) lp)) (p_neR rfl (shapedSs _ (by intro x hx; simp only [List.mem_cons, List.not_mem_nil, or_false] at hx; rcases hx with rfl | rfl | rfl | rfl <;> kernel_rfl)) lp)) ?_)
  rw [if_neg (by decide)]
  refine Bk.nil (Bk.cons (St.retV (VP.cmp (VP.comp (out:=rs.map rowP) [] rfl Gp (FreeOk.loc (FreeOk.loc (FreeOk.loc FreeOk.nil))) rfl (by kernel_rfl) (fun J h => (List.not_mem_nil h).elim) (VI.lst (nv Gp 5 rfl)) (CS.loc (CS.loc (CS.loc CS.nil))) (fun S' G' K kk => CompT.map (V:=fun o => [none, o.map fun (r:Row) => ordP r, o.map fun (r:Row) => rowP r]) (f:=pairP) (g:=rowP) rs [] none (fun o a m K X k => AsT.tup (fun J => rfl) (fun J => rfl) (AsL.cons (AsT.nam G' (.l (.tail .head)) (AsL.cons (AsT.nam G' (.l (.tail (.tail .head))) (AsL.nil k)))))) (fun r m => VP.told (nv G' 1 rfl)) (by simp; lia) (by simpa only [List.nil_append] using kk))) (VP.comp (out:=rs.map rowP) [] rfl Gp (FreeOk.loc (FreeOk.loc (FreeOk.loc FreeOk.nil))) rfl (by kernel_rfl) (fun J h => (List.not_mem_nil h).elim) (VI.lst (nv Gp 5 rfl)) (CS.loc (CS.loc (CS.loc CS.nil))) (fun S' G' K kk => CompT.map (V:=fun o => [none, o.map fun (r:Row) => ordP r, o.map fun (r:Row) => rowP r]) (f:=pairP) (g:=rowP) rs [] none (fun o a m K X k => AsT.tup (fun J => rfl) (fun J => rfl) (AsL.cons (AsT.nam G' (.l (.tail .head)) (AsL.cons (AsT.nam G' (.l (.tail (.tail .head))) (AsL.nil k)))))) (fun r m => EvE.nam G' (.tail (.tail .head)) rfl lf) (by simp; lia) (by simpa only [List.nil_append] using kk))) (p_eqR rfl (shapedRs _) lp)) ⟨σ, Sub.refl σ, k⟩))
end
section
variable {w:World} {H₀:Heap} {S:Fx} {n:Nat} {vs:Slots} {σ:Store}
theorem enum_I (l:List Int):((pvI l).zipIdx.map fun q => PV.tup [.int (q.2:Nat), q.1]) = l.zipIdx.map fun q => PV.tup [.int (q.2:Nat), .int q.1]:=by
  rw [pvI, List.zipIdx_map, List.map_map]
  rfl
theorem VI.enumI {f e:Expr} {p:Pos} {l:List Int} (hf:VP w H₀ S n vs σ f (.con (.type "enumerate"))) (h:VP w H₀ S n vs σ e (.lst (pvI l)))
    (he:∀ env, eval (.Call f [e] [] p) env = (do callWith p (← eval f env) [] (backTo p (starEach [e] env)) (backToKw p (keywordEach [] env))):=by intro _; rfl) (ha:∀ env, (backTo p (starEach [e] env)).any (·.1) = false:=by intro _; rfl) (hc:starred e = false:=by rfl):VI w H₀ S n vs σ true (.Call f [e] [] p) (l.zipIdx.map fun q => PV.tup [.int (q.2:Nat), .int q.1]) :=
  enum_I l ▸ VI.enum hf h rfl he ha hc
end
noncomputable def cellsOf (sc:List Int):List Int:=sc.take 11
noncomputable def lastOf (sc:List Int):Row:=if decide (Int.fmod (cellsOf sc).sum 9 < 8) = true then ⟨6, 0, 0, 7⟩ else ⟨4, 0, 0, 7⟩
noncomputable def rowsOf (sc:List Int):List Row:=((cellsOf sc).zipIdx.map fun q => L_law_row q.1 (((cellsOf sc).length:Int) - (q.2:Int))) ++ [lastOf sc]
theorem cells_le (sc:List Int):(cellsOf sc).length ≤ 11:=List.length_take_le ..
theorem rows_len (sc:List Int):(rowsOf sc).length = (cellsOf sc).length + 1:=by simp [rowsOf]
theorem rows_last (sc:List Int):(rowsOf sc).getLast? = some (lastOf sc):=by simp [rowsOf]
theorem zip_lt {α:Type} {l:List α} {a:α × Nat} (m:a ∈ l.zipIdx):a.2 < l.length:=(List.getElem?_eq_some_iff.mp (List.mem_zipIdx_iff_getElem?.mp m)).1
theorem told_ts (l:List Row):toldP l = .lst (((List.range l.length).map (waysOf l)).map fun t => PV.lst (t.map wrP)):=by rw [List.map_map]; rfl
noncomputable def heardQ (l:List Row):Option (Str × Int) → PV
  | none => .lst (l.map rowP)
  | some (s, i) => .tup [.str s, .int i]
noncomputable def chkO (l:List Row):Option (Str × Int) → Out
  | none => .ok (.lst (l.map ordP))
  | some (s, i) => .error ⟨64, s, some i⟩
structure LawFacts (l:List Row) (first last:Row):Prop where
  len:l.length ≤ 12
  fst:l[0]? = some first
  lst:l.getLast? = some last
  goals:firstW (rowW l) (numR l) = none → ([6, 22]:List Int).any (· == last.c) = true → GoalsIn l
  wc:∀ p ∈ numR l, rowFault l.length p = none → L_written_cell p.2 ≤ 1000
  chk:L_check_classic l last = chkO l (L_law_fault l last).fault
  str:∀ s i, (L_law_fault l last).fault = some (s, i) → PyData.strOk s = true
  tol:(L_law_fault l last).told = true → (∀ t ∈ (List.range l.length).map (waysOf l), t.length ≤ 1000) ∧ (∀ r ∈ l, L_written_cell r ≤ 1000) ∧ (∀ p ∈ numR l, ∀ g ∈ L_goals_of_classic p.2 (p.1:Int), 0 ≤ g ∧ g < (l.length:Int)) ∧
    L_written_cells l = ((List.range l.length).map (waysOf l)).map dueOf ∧ L_reached l = reachOf ((List.range l.length).map (waysOf l))
  known:∀ r ∈ l, L_is_known_code r.c = knownL.any (· == r.c)
  oct:OctFacts l first last
theorem known_all {l:List Row} (h:∀ r ∈ l, L_is_known_code r.c = knownL.any (· == r.c)):((l.map fun (a:Row) => (L_is_known_code a.c == knownL.any (· == a.c))).all id) = true:=by
  rw [List.all_eq_true]
  intro b hb
  obtain ⟨r, hr, rfl⟩:=List.mem_map.mp hb
  refine (?_:(L_is_known_code r.c == knownL.any (· == r.c)) = true)
  rw [h r hr]; exact beq_self_eq_true _
noncomputable def lawB:List Stmt:=match PySem.Challenge.pw_ok0162_01.main.body.getLast? with
  | some (.FunctionDef _ _ body _ _ _ _ _ _ _) => body
  | _ => []
section
variable {w:World} {H₀:Heap} {n:Nat} {σ:Store} {K:PV → Store → Prop} {X:PExc → Store → Prop}
theorem f_law_fault12 {l_:List Row} {last_:Row} (hz_:l_.length ≤ 12) (hl_:l_.getLast? = some last_) (hg_:firstW (rowW l_) (numR l_) = none → ([6, 22]:List Int).any (· == last_.c) = true → GoalsIn l_) (k:K (frP l_ (L_law_fault l_ last_)) σ):PrimC w H₀ (n + 24) [.lst (l_.map rowP)] σ (.ref 384) K X:=by
  have:=f_law_fault (w:=w) (H₀:=H₀) (n:=n + (15 - l_.length)) (X:=X) hz_ hl_ hg_ k
  rwa [show n + (15 - l_.length) + l_.length + 9 = n + 24 by lia] at this
theorem law_bk {S:Fx} (G:S.Good ["script", "cells", "rows", "orders", "fault", "told", "heard", "error", "plain"] ["cells"] [.local, .cell, .local, .local, .local, .local, .local, .local, .local] ["enumerate", "sum", "_law_fault", "check_classic", "ProgramError", "_law_told_right", "all", "tax", "txa", "ret_a", "_law_octets_right", "_law_makers_right"]) (sc_:List Int) (hsc:sc_.length ≤ 100) {first_:Row} (F:LawFacts (rowsOf sc_) first_ (lastOf sc_)) (h403:σ 403 = some (.tab (Str.ofString "_law_octets_right.<locals>." ++ "<lambda>"))) (h408:σ 408 = some (.tab (Str.ofString "_law_makers_right.<locals>." ++ "<lambda>")))
    {Kn:Slots → Store → Prop} {Kr:PV → Slots → Store → Prop} {X:PExc → Slots → Store → Prop} (k:∀ vs', Kr (.bool true) vs' σ):Bk w H₀ S (n + 24) lawB [some (.lst (pvI sc_)), none, none, none, none, none, none, none, none] σ Kn Kr X:=by
  have hlen:=F.len
  have hcl:=cells_le sc_
  refine Bk.cons (St.asn G (EvE.sliceTo (fun J J => rfl) (VP.use (nv G 0 rfl) ⟨_, rfl, by simp [pvI]; lia, VP.use cI ⟨11, rfl, by decide, _, (.c (.tail .head) (by first | exact mem1 | exact mem2 mem1 | exact mem2 (mem2 mem1) | exact mem2 (mem2 (mem2 mem1)) | exact mem2 (mem2 (mem2 (mem2 mem1))) | exact mem2 (mem2 (mem2 (mem2 (mem2 mem1)))))), ?_⟩⟩)) (fun J => rfl))
  rw [show (pvI sc_).take (11:Int).toNat = pvI (cellsOf sc_) from by simp [pvI, cellsOf]]
  refine Bk.cons (St.compM [] rfl G (.tail (.tail .head)) rfl rfl (FreeOk.loc (FreeOk.loc (FreeOk.loc (FreeOk.glb (FreeOk.glb (FreeOk.freeC (.tail .head) FreeOk.nil)))))) rfl (by kernel_rfl) (fun J h => (List.not_mem_nil h).elim) (fun J J => rfl) (VI.use (VI.enumI (B_enumerate G mem1 lf) (nv G 1 rfl)) ⟨_, _, _, _, CS.loc (CS.loc (CS.loc (CS.glb (CS.glb (CS.freeC (.tail .head) CS.nil))))), fun S' G' => CompT.map (V:=fun o => [none, o.map fun (a:Int × Nat) => PV.int (a.2:Nat), o.map fun (a:Int × Nat) => PV.int a.1, some (.lst (pvI (cellsOf sc_)))]) (f:=fun (q:Int × Nat) => PV.tup [.int (q.2:Nat), .int q.1]) (g:=fun (a:Int × Nat) => rowP (L_law_row a.1 (((cellsOf sc_).length:Int) - (a.2:Int)))) (cellsOf sc_).zipIdx [] none (fun o a m K X k => AsT.tup (fun J => rfl) (fun J => rfl) (AsL.cons (AsT.nam G' (.l (.tail .head)) (AsL.cons (AsT.nam G' (.l (.tail (.tail .head))) (AsL.nil k)))))) (fun a m => (VP.fn (r:=rowP (L_law_row a.1 (((cellsOf sc_).length:Int) - (a.2:Int)))) (G__law_row G' mem1 lf) kp__law_row (VL.two (nv G' 2 rfl) (VP.bin (VP.call (B_len G' (mem2 mem1) lf) Kept.builtin (VL.one (nv G' 3 rfl)) (p_lenL (by have:=cells_le sc_; simp [pvI]; lia) lp)) (nv G' 1 rfl) (p_sub lp))) (f_law_row (by have:=zip_lt m; simp only [pvI, List.length_map]; lia) (by have:=cells_le sc_; simp only [pvI, List.length_map]; lia) ⟨by simp [pvI], rfl⟩))) (by simp; lia) fun D hD => ⟨_, (.tail (.tail .head)), ?_⟩⟩))
  refine Bk.cons (St.drop G (fun J => rfl) (EvE.app (fun J => rfl) (fun J => rfl) rfl (EvE.nam G (.tail (.tail .head)) rfl ⟨D, _, rfl, upd_same .., VL.use (VL.one (VP.ifV (x:=rowP ⟨6, 0, 0, 7⟩) (y:=rowP ⟨4, 0, 0, 7⟩) (TP.cmp (VP.bin (VP.call (B_sum G (mem2 mem1) lf) Kept.builtin (VL.one (nv G 1 rfl)) (p_sum lp)) cI (p_mod (by decide) lp)) cI (p_lt lp)) (fun J => VP.tuple (VL.four cI cI cI cI)) (fun J => VP.tuple (VL.four cI cI cI cI)))) ⟨_, _, rfl, upd_same .., by simp; lia, rfl, ?_⟩⟩)))
  rw [upd_upd]
  refine Tr.freeze (a:=D) (l:=(rowsOf sc_).map rowP) ((upd_same ..).trans (by rw [List.nil_append, rowsOf, lastOf, List.map_append, List.map_map]; cases (decide (Int.fmod (cellsOf sc_).sum 9 < 8)) <;> rfl)) (FzS.yes (.same _) (.yes (.same _) (.yes .loc (.no (.no (.no (.no (.no (.no .nil))))))))) ?_
  rw [upd_back hD]
  refine Bk.cons (St.comp [] rfl G (.tail (.tail (.tail .head))) rfl rfl (FreeOk.loc (FreeOk.loc (FreeOk.loc (FreeOk.loc (FreeOk.loc (FreeOk.glb FreeOk.nil)))))) rfl (by kernel_rfl) (fun J h => (List.not_mem_nil h).elim) (fun J J => rfl) (VI.use (VI.lst (nv G 2 rfl)) ⟨_, _, _, _, CS.loc (CS.loc (CS.loc (CS.loc (CS.loc (CS.glb CS.nil))))), fun S' G' => CompT.map (V:=fun o => [none, o.map fun (a:Row) => PV.int a.c, o.map fun (a:Row) => PV.int a.t, o.map fun (a:Row) => PV.int a.f, o.map fun (a:Row) => PV.int a.k]) (f:=rowP) (g:=ordP) (rowsOf sc_) [] none (fun o a m K X k => AsT.tup (fun J => rfl) (fun J => rfl) (AsL.cons (AsT.nam G' (.l (.tail .head)) (AsL.cons (AsT.nam G' (.l (.tail (.tail .head))) (AsL.cons (AsT.nam G' (.l (.tail (.tail (.tail .head)))) (AsL.cons (AsT.nam G' (.l (.tail (.tail (.tail (.tail .head))))) (AsL.nil k)))))))))) (fun a m => VP.fn (r:=ordP a) (G_ClassicOrder G' mem1 lf) kp_ClassicOrder (VL.four (nv G' 1 rfl) (nv G' 2 rfl) (nv G' 3 rfl) (nv G' 4 rfl)) (p_order lp)) (by simp; lia) ⟨_, (.tail (.tail (.tail .head))), ?_⟩⟩))
  rw [List.nil_append]
  refine Bk.cons (St.tup (VP.use (VP.fn (G__law_fault G (mem2 (mem2 mem1)) lf) kp__law_fault (VL.one (nv G 2 rfl)) (f_law_fault12 F.len F.lst F.goals lp)) (AsT.tup (fun J => rfl) (fun J => rfl) (AsL.cons (AsT.nam G (.l (.tail (.tail (.tail (.tail .head))))) (AsL.cons (AsT.nam G (.l (.tail (.tail (.tail (.tail (.tail .head)))))) (AsL.nil ?_))))))) (fun J => rfl) (fun J => rfl))
  have hst:∀ (f:FaultR), f = L_law_fault (rowsOf sc_) (lastOf sc_) → True:=fun J J => trivial
  generalize hFR:L_law_fault (rowsOf sc_) (lastOf sc_) = FR
  have chk:=F.chk
  have str:=F.str
  have tol:=F.tol
  rw [hFR] at chk str tol
  have kn:=known_all F.known
  have oct:=F.oct
  have fst:=F.fst
  have lst:=F.lst
  have wc:=F.wc
  clear hst F
  obtain ⟨fo, tb⟩:=FR
  simp only at chk str tol
  have rest:∀ o:Option PV, Bk w H₀ S (n + 24) (lawB.drop 6) [some (.lst (pvI sc_)), some (.lst (pvI (cellsOf sc_))), some (.lst ((rowsOf sc_).map rowP)), some (.lst ((rowsOf sc_).map ordP)), some (faultP fo), some (if tb = true then toldP (rowsOf sc_) else PV.none), some (heardQ (rowsOf sc_) fo), none, o] σ Kn Kr X:=by
    intro o
    have ef:(heardQ (rowsOf sc_) fo) = if (fo.isNone) = true then PV.lst ((rowsOf sc_).map rowP) else faultP fo:=by
      cases fo <;> rfl
    have sh:SeqAt.shaped (heardQ (rowsOf sc_) fo).dat = true:=by
      cases fo with
      | none => exact shapedRs _
      | some x => exact shapedSI _ _ (str x.1 x.2 rfl)
    refine Bk.cons (St.iteV (TP.cmp (nv G 6 rfl) (VP.ifV (b:=fo.isNone) (TP.cmp (nv G 4 rfl) cN (p_is (by cases fo <;> rfl) lp)) (fun J => (nv G 2 rfl)) (fun J => (nv G 4 rfl))) (p_neR ef sh lp)) ?_)
    rw [if_neg (by decide)]
    refine Bk.nil ?_
    have rest2:Bk w H₀ S (n + 24) (lawB.drop 8) [some (.lst (pvI sc_)), some (.lst (pvI (cellsOf sc_))), some (.lst ((rowsOf sc_).map rowP)), some (.lst ((rowsOf sc_).map ordP)), some (faultP fo), some (if tb = true then toldP (rowsOf sc_) else PV.none), some (heardQ (rowsOf sc_) fo), none, o] σ Kn Kr X:=by
      refine Bk.cons (St.iteV (TP.not (TP.val (VP.call (B_all G (mem2 (mem2 (mem2 (mem2 (mem2 (mem2 mem1)))))) lf) Kept.builtin (VL.one (VP.comp (out:=pvB ((rowsOf sc_).map fun (a:Row) => (L_is_known_code a.c == knownL.any (· == a.c)))) [] rfl G (FreeOk.loc (FreeOk.loc (FreeOk.loc (FreeOk.loc (FreeOk.loc (FreeOk.glb (FreeOk.glb FreeOk.nil))))))) rfl (by kernel_rfl) (fun J h => (List.not_mem_nil h).elim) (VI.lst (nv G 2 rfl)) (CS.loc (CS.loc (CS.loc (CS.loc (CS.loc (CS.glb (CS.glb CS.nil))))))) (fun S' G' K kk => CompT.map (V:=fun o => [none, o.map fun (a:Row) => PV.int a.c, o.map fun (a:Row) => PV.int a.t, o.map fun (a:Row) => PV.int a.f, o.map fun (a:Row) => PV.int a.k]) (f:=rowP) (g:=fun (a:Row) => PV.bool (L_is_known_code a.c == knownL.any (· == a.c))) (rowsOf sc_) [] none (fun o a m K X k => AsT.tup (fun J => rfl) (fun J => rfl) (AsL.cons (AsT.nam G' (.l (.tail .head)) (AsL.cons (AsT.nam G' (.l (.tail (.tail .head))) (AsL.cons (AsT.nam G' (.l (.tail (.tail (.tail .head)))) (AsL.cons (AsT.nam G' (.l (.tail (.tail (.tail (.tail .head))))) (AsL.nil k)))))))))) (fun a m => (VP.cmp (VP.fn (G_is_known_code G' mem1 lf) kp_is_known_code (VL.one (nv G' 1 rfl)) (f_is_known_code lp)) (VP.cmp (nv G' 1 rfl) (VP.fn (G__law_known G' (mem2 mem1) lf) kp__law_known VL.nil (f_law_known lp)) (p_inL lp)) (p_eqB lp))) (by simp; lia) (by simpa only [pvB, List.map_map, Function.comp_def, List.nil_append] using kk)))) (p_all lp)) (fun J J => rfl))) ?_)
      rw [if_neg (by rw [kn]; decide)]
      refine Bk.nil (Bk.cons (St.asnV G (VP.list (ps:=([⟨7, 0, 0, 0⟩, ⟨135, 0, 0, 0⟩, ⟨22, 0, 0, 0⟩]:List Row).map pairP) (VL.three (VP.tuple (VL.two (VP.fn (r:=ordP ⟨7, 0, 0, 0⟩) (G_tax G (mem2 (mem2 (mem2 (mem2 (mem2 (mem2 (mem2 mem1))))))) lf) kp_tax VL.nil (f_tax ⟨rfl, rfl⟩)) (VP.tuple (VL.four cI cI cI cI)))) (VP.tuple (VL.two (VP.fn (r:=ordP ⟨135, 0, 0, 0⟩) (G_txa G (mem2 (mem2 (mem2 (mem2 (mem2 (mem2 (mem2 (mem2 mem1)))))))) lf) kp_txa VL.nil (f_txa ⟨rfl, rfl⟩)) (VP.tuple (VL.four cI cI cI cI)))) (VP.tuple (VL.two (VP.fn (r:=ordP ⟨22, 0, 0, 0⟩) (G_ret_a G (mem2 (mem2 (mem2 (mem2 (mem2 (mem2 (mem2 (mem2 (mem2 mem1))))))))) lf) kp_ret_a VL.nil (f_ret_a ⟨rfl, rfl⟩)) (VP.tuple (VL.four cI cI cI cI)))))) (.l (.tail (.tail (.tail (.tail (.tail (.tail (.tail (.tail .head))))))))) ?_))
      refine Bk.cons (St.iteV (TP.cmp (VP.comp (out:=([⟨7, 0, 0, 0⟩, ⟨135, 0, 0, 0⟩, ⟨22, 0, 0, 0⟩]:List Row).map rowP) [] rfl G (FreeOk.loc (FreeOk.loc (FreeOk.loc FreeOk.nil))) rfl (by kernel_rfl) (fun J h => (List.not_mem_nil h).elim) (VI.lst (nv G 8 rfl)) (CS.loc (CS.loc (CS.loc CS.nil))) (fun S' G' K kk => CompT.map (V:=fun o => [none, o.map fun (r:Row) => ordP r, o.map fun (r:Row) => rowP r]) (f:=pairP) (g:=rowP) ([⟨7, 0, 0, 0⟩, ⟨135, 0, 0, 0⟩, ⟨22, 0, 0, 0⟩]:List Row) [] none (fun o a m K X k => AsT.tup (fun J => rfl) (fun J => rfl) (AsL.cons (AsT.nam G' (.l (.tail .head)) (AsL.cons (AsT.nam G' (.l (.tail (.tail .head))) (AsL.nil k)))))) (fun r m => VP.told (nv G' 1 rfl)) (by simp) (by simpa only [List.nil_append] using kk))) (VP.comp (out:=([⟨7, 0, 0, 0⟩, ⟨135, 0, 0, 0⟩, ⟨22, 0, 0, 0⟩]:List Row).map rowP) [] rfl G (FreeOk.loc (FreeOk.loc (FreeOk.loc FreeOk.nil))) rfl (by kernel_rfl) (fun J h => (List.not_mem_nil h).elim) (VI.lst (nv G 8 rfl)) (CS.loc (CS.loc (CS.loc CS.nil))) (fun S' G' K kk => CompT.map (V:=fun o => [none, o.map fun (r:Row) => ordP r, o.map fun (r:Row) => rowP r]) (f:=pairP) (g:=rowP) ([⟨7, 0, 0, 0⟩, ⟨135, 0, 0, 0⟩, ⟨22, 0, 0, 0⟩]:List Row) [] none (fun o a m K X k => AsT.tup (fun J => rfl) (fun J => rfl) (AsL.cons (AsT.nam G' (.l (.tail .head)) (AsL.cons (AsT.nam G' (.l (.tail (.tail .head))) (AsL.nil k)))))) (fun r m => EvE.nam G' (.tail (.tail .head)) rfl lf) (by simp) (by simpa only [List.nil_append] using kk))) (p_neR rfl (shapedRs _) lp)) ?_)
      rw [if_neg (by decide)]
      refine Bk.nil (Bk.cons (St.retV (VP.and (VP.fn (G__law_octets_right G (mem2 (mem2 (mem2 (mem2 (mem2 (mem2 (mem2 (mem2 (mem2 (mem2 mem1)))))))))) lf) kp__law_octets_right (VL.two (nv G 2 rfl) (nv G 3 rfl)) (f_law_octets_right hlen fst lst oct h403 lp)) (fun J => VP.bool1 (VP.fn (G__law_makers_right G (mem2 (mem2 (mem2 (mem2 (mem2 (mem2 (mem2 (mem2 (mem2 (mem2 (mem2 mem1))))))))))) lf) kp__law_makers_right (VL.one (VP.bin (VP.call (B_sum G (mem2 mem1) lf) Kept.builtin (VL.one (nv G 1 rfl)) (p_sum lp)) (VP.bin cI cI (p_pow (by decide) (by decide) lp)) (p_mod (by decide) lp))) (f_law_makers_right (fmod_rng _ (by decide)).1 h408 lp)))) (k _)))
    cases tb with
    | false =>
      refine Bk.cons (St.iteV (TP.and (b':=false) (TP.cmp (nv G 5 rfl) cN (p_isnot (b:=true) rfl lp)) (fun h => absurd h (by decide))) ?_)
      rw [if_neg (by decide)]
      exact Bk.nil rest2
    | true =>
      have ht:=tol rfl
      refine Bk.cons (St.iteV (TP.and (TP.cmp (nv G 5 rfl) cN (p_isnot (b:=false) (by rw [if_pos rfl]; rfl) lp)) (fun J => TP.and1 (TP.not (TP.val (VP.fn (G__law_told_right G (mem2 (mem2 (mem2 (mem2 (mem2 mem1))))) lf) kp__law_told_right (VL.two (nv G 3 rfl) (nv G 5 rfl)) (told_ts _ ▸ f_law_told_right (by lia) (by simp; lia) ht.1 ht.2.1 ht.2.2.1 ht.2.2.2.1 ht.2.2.2.2 lp)) (fun J J => rfl))))) ?_)
      rw [if_neg (by decide)]
      exact Bk.nil rest2
  refine Bk.cons (St.tryAs G (.tail (.tail (.tail (.tail (.tail (.tail (.tail .head))))))) (excCls64 w) ty64 (by kernel_rfl) (Bk.cons (St.comp [] rfl G (.tail (.tail (.tail (.tail (.tail (.tail .head)))))) rfl rfl (FreeOk.loc (FreeOk.loc FreeOk.nil)) rfl (by kernel_rfl) (fun J h => (List.not_mem_nil h).elim) (fun J J => rfl) (EvI.lst (EvE.fn (G_check_classic G (mem2 (mem2 (mem2 mem1))) lf) kp_check_classic (VL.one (nv G 3 rfl)) (f_check_classic (by lia) lst wc ?_))))))
  rw [chk]
  cases fo with
  | none =>
    refine ⟨_, rfl, _, _, _, _, CS.loc (CS.loc CS.nil), fun S' G' => CompT.map (V:=fun o => [none, o.map fun (r:Row) => ordP r]) (f:=ordP) (g:=rowP) (rowsOf sc_) [] none (fun o a m K X k => AsT.nam G' (.l (.tail .head)) k) (fun r m => VP.told (nv G' 1 rfl)) (by simp; lia) ⟨_, (.tail (.tail (.tail (.tail (.tail (.tail .head)))))), ?_⟩⟩
    rw [List.nil_append]
    exact Bk.nil (rest _)
  | some x =>
    refine ⟨rfl, G_ProgramError G (mem2 (mem2 (mem2 (mem2 mem1)))) ⟨rfl, rfl, rfl⟩, _, (.tail (.tail (.tail (.tail (.tail (.tail (.tail .head))))))), ?_⟩
    refine Bk.cons (St.asn G (EvE.toldE (fun J => rfl) rfl (VP.use (nv G 7 rfl) ⟨_, _, _, rfl, excCls64 w, (f_toldE (excCls64 w) ⟨_, (.l (.tail (.tail (.tail (.tail (.tail (.tail .head))))))), ?_⟩).prim⟩)) (fun J => rfl))
    exact Bk.nil (rest _)
end
noncomputable def qOct:Str:=Str.ofString "_law_octets_right.<locals>." ++ "<lambda>"
noncomputable def qMak:Str:=Str.ofString "_law_makers_right.<locals>." ++ "<lambda>"
noncomputable def σL:Store:=Mine.upd (Mine.upd (fun J => none) 403 (some (.tab qOct))) 408 (some (.tab qMak))
noncomputable def mdL (L:Addr):ASet:=fun a => a = L ∨ a = L + 1 ∨ a = 408 ∨ a = 403
theorem σL403:σL 403 = some (.tab qOct):=by unfold σL; rw [Mine.upd_ne _ _ (by decide)]; exact Mine.upd_same ..
theorem σL408:σL 408 = some (.tab qMak):=Mine.upd_same ..
theorem σL_some {a:Addr} {m:MO} (h:σL a = some m):(a = 408 ∧ m = .tab qMak) ∨ (a = 403 ∧ m = .tab qOct):=by
  unfold σL at h
  by_cases z:a = 408
  · subst z; rw [Mine.upd_same] at h; cases h; exact .inl ⟨rfl, rfl⟩
  · rw [Mine.upd_ne _ _ z] at h
    by_cases y:a = 403
    · subst y; rw [Mine.upd_same] at h; cases h; exact .inr ⟨rfl, rfl⟩
    · rw [Mine.upd_ne _ _ y] at h; cases h
theorem σL_none {a:Addr} (h1:a ≠ 408) (h2:a ≠ 403):σL a = none:=by
  unfold σL; rw [Mine.upd_ne _ _ h1, Mine.upd_ne _ _ h2]
theorem ints_rel {md:ASet} {h:Heap} {vs:List Value} {ns:List Int} (x:IntsAre vs ns):RelL md h vs (pvI ns):=by
  induction x with
  | nil => exact .nil
  | cons n t _ ih => exact .cons (.int n t) ih
theorem well_list {P:Params} {h g:Heap} {la:Addr} {vs:List Value} {ns:List Int} (w1:Well P h (.ref la) (ofPy (PyData.list (ns.map PyData.int)))) (hg:∀ b o, g.get? b = some o → h.get? b = some o) (l:g.IsList la vs.toArray):g.PlainList la vs.toArray:=by
  obtain ⟨o, e, hc, n, hd⟩:=l
  have e':=hg _ _ e
  obtain ⟨d, hdq⟩:∃ d, d = ofPy (PyData.list (ns.map PyData.int)):=⟨_, rfl⟩
  rw [← hdq] at w1
  obtain ⟨xs, hxs⟩:∃ xs, ofPy (PyData.list (ns.map PyData.int)) = .list xs:=⟨_, rfl⟩
  rw [hxs] at hdq
  have key:∃ vs':List Value, h.get? la = some { cls:=.type "list", data:=.seq vs'.toArray }:=by
    subst hdq
    cases w1 with
    | list e2 _ => exact ⟨_, e2⟩
  obtain ⟨vs', e2⟩:=key
  rw [e'] at e2
  cases e2
  cases hd
  exact ⟨_, e⟩
theorem law_join {w:World} {G₀ h₁ hs:Heap} {L la:Addr} {m:Str → Option Value} {oC:Obj} {body:List Stmt} {env:Env} {vs:List Value} {ns:List Int} {p:Program} {loose:List Str} {mean:ExcName → Option Value} {mg mb:Str → Option Value} {gens drawn tk os} {Q:Flow → Shared → Prop} {E:Value → Shared → Prop}
    (X':(hd.heap_1 w.params).In G₀) (T':Top p loose mean mg mb G₀) (F':Fr G₀ L h₁ m) (hm:m "script" = some (.ref la)) (hl:G₀.IsList la vs.toArray) (w1:Well w.params hs (.ref la) (ofPy (PyData.list (ns.map PyData.int)))) (hgs:∀ b o, G₀.get? b = some o → hs.get? b = some o) (hI:IntsAre vs ns)
    (c1:CodeHd G₀ 410 408) (c2:CodeHd G₀ 405 403) (N':News G₀ L h₁ [(L + 1, oC), (408, tabObj #[]), (403, tabObj #[])]) (hoC:oC.data = .cell none)
    (e1:env.globals = mainGlobals) (e2:env.builtins = builtinsNs) (e3:env.locals = L) (e4:env.frame = some L) (e5:env.cells = [(Str.ofString "cells", L + 1)]) (hn:env.scope.names = tagged ["script", "cells", "rows", "orders", "fault", "told", "heard", "error", "plain"] [.local, .cell, .local, .local, .local, .local, .local, .local, .local] ["enumerate", "sum", "_law_fault", "check_classic", "ProgramError", "_law_told_right", "all", "tax", "txa", "ret_a", "_law_octets_right", "_law_makers_right"]) (hk:env.scope.kind = .function)
    (hB:∀ S:Fx, S.Good ["script", "cells", "rows", "orders", "fault", "told", "heard", "error", "plain"] ["cells"] [.local, .cell, .local, .local, .local, .local, .local, .local, .local] ["enumerate", "sum", "_law_fault", "check_classic", "ProgramError", "_law_told_right", "all", "tax", "txa", "ret_a", "_law_octets_right", "_law_makers_right"] → Bk w G₀ S 24 body [some (.lst (pvI ns)), none, none, none, none, none, none, none, none] σL (fun J J => False) (fun q J σ' => q = .bool true ∧ σ' = σL) (fun J J J => False))
    (hQ:∀ h' tk', (∀ b o, G₀.get? b = some o → h'.get? b = some o) → (∃ ps, h'.get? 408 = some (tabObj ps)) → (∃ ps, h'.get? 403 = some (tabObj ps)) → Q (.ret (.bool true)) ⟨h', gens, drawn, tk', os⟩) :
    wpAny (model PySem.Challenge.rw_ok0162_01.row.prog w) (callerA.deeper env) (execs body env) Q E ⟨h₁, gens, drawn, tk, os⟩:=by
  have hL0:G₀.get? L = none:=Heap.get?_none_of_le F'.above
  have nC:=N' _ (.head _)
  have n8:=N' _ (.tail _ (.head _))
  have n3:=N' _ (.tail _ (.tail _ (.head _)))
  have off:∀ a, mdL L a → G₀.get? a = none:=fun a h => by
    rcases h with rfl | rfl | rfl | rfl
    · exact hL0
    · exact nC.2.2
    · exact n8.2.2
    · exact n3.2.2
  have nsL:=F'.ns
  obtain ⟨oL, esL, epL, gL, dL, _⟩:=id nsL
  have hL8:L ≠ 408:=fun e => n8.2.1 e.symm
  have hL3:L ≠ 403:=fun e => n3.2.1 e.symm
  have hC8:L + 1 ≠ 408:=fun e => by
    have a:=nC.1; have b:=n8.1
    simp only at a b
    rw [e, b] at a
    cases a
    cases hoC
  have hC3:L + 1 ≠ 403:=fun e => by
    have a:=nC.1; have b:=n3.1
    simp only at a b
    rw [e, b] at a
    cases a
    cases hoC
  have tab0:∀ q:Str, ∀ P, h₁.get? P = some (tabObj #[]) → MoAt w (mdL L) h₁ P (.tab q):=fun q P e => ⟨#[], e, trivial, fun pos cv h => by cases h⟩
  have G:(Fx.mk env.scope ["script", "cells", "rows", "orders", "fault", "told", "heard", "error", "plain"] ["cells"] (fun J => True)).Good ["script", "cells", "rows", "orders", "fault", "told", "heard", "error", "plain"] ["cells"] [.local, .cell, .local, .local, .local, .local, .local, .local, .local] ["enumerate", "sum", "_law_fault", "check_classic", "ProgramError", "_law_told_right", "all", "tax", "txa", "ret_a", "_law_octets_right", "_law_makers_right"]:=.of rfl rfl hk hn rfl (by kernel_rfl)
  have inv:Inv w G₀ [env] (mdL L) σL h₁:=by
    refine ⟨⟨X', ⟨_, _, _, _, topRead_of T'⟩, ⟨_, _, _, _, _, T'⟩, c2, c1⟩, F'.keep, off, fun a h => ?_, fun a m h => ?_, fun e he => ?_, fun a h => ?_⟩
    · rcases h with rfl | rfl | rfl | rfl
      · exact ⟨_, gL⟩
      · exact ⟨_, nC.1⟩
      · exact ⟨_, n8.1⟩
      · exact ⟨_, n3.1⟩
    · rcases σL_some h with ⟨rfl, rfl⟩ | ⟨rfl, rfl⟩
      · exact ⟨.inr (.inr (.inl rfl)), tab0 _ _ n8.1⟩
      · exact ⟨.inr (.inr (.inr rfl)), tab0 _ _ n3.1⟩
    · rw [List.mem_singleton.mp he]
      exact ⟨by rw [hk]; decide, L, oL, e4, hL0, gL, fun vs q => by rw [dL] at q; cases q⟩
    · obtain ⟨e, he, q⟩:=h
      rw [List.mem_singleton.mp he, e4] at q
      cases q
      exact ⟨.inl rfl, σL_none hL8 hL3⟩
  have pl:h₁.PlainList la vs.toArray:=by
    obtain ⟨n, e⟩:=well_list w1 hgs hl
    exact ⟨n, F'.keep _ _ e⟩
  have nla:¬ mdL L la:=fun q => by
    obtain ⟨o, e, _⟩:=hl
    rw [off _ q] at e; cases e
  have kd:∀ x c, env.cells.lookup x = some c → x = Str.ofString "cells" ∧ c = L + 1:=fun x c h => by
    rw [e5] at h
    by_cases z:x = Str.ofString "cells"
    · subst z
      rw [List.lookup_cons_self] at h
      cases h; exact ⟨rfl, rfl⟩
    · rw [List.lookup_cons, show (x == Str.ofString "cells") = false from beq_eq_false_iff_ne.mpr z] at h
      cases h
  have lk:∀ x k, env.scope.names.lookup x = some k → (k = .cell ∨ k = .free) → x = Str.ofString "cells":=fun x k h hk' => by
    rw [hn] at h
    have m:=mem_of_lookup h
    exact (by decide +kernel:∀ q ∈ tagged ["script", "cells", "rows", "orders", "fault", "told", "heard", "error", "plain"] [.local, .cell, .local, .local, .local, .local, .local, .local, .local] ["enumerate", "sum", "_law_fault", "check_classic", "ProgramError", "_law_told_right", "all", "tax", "txa", "ret_a", "_law_octets_right", "_law_makers_right"], (q.2 = .cell ∨ q.2 = .free) → q.1 = Str.ofString "cells") _ m hk'
  have cx:Cx w G₀ ⟨env.scope, ["script", "cells", "rows", "orders", "fault", "told", "heard", "error", "plain"], ["cells"], fun J => True⟩ 24 (callerA.deeper env) env [env] (fun a => a = L ∨ a = L + 1) (mdL L) σL [some (.lst (pvI ns)), none, none, none, none, none, none, none, none] h₁:=by
    refine ⟨⟨rfl, ⟨_, _, rfl⟩, by show 1 + claimMargin + 1 + 24 < recursionLimit; decide, by show 4 + 3 + 16 * 24 + 64 < cLine; decide, fun J => rfl, inv⟩, ⟨_, _, rfl, rfl⟩, ⟨rfl, e1, e2, ⟨m, e3 ▸ nsL, fun i x pv hi hv hl => ?_⟩, .inl e3, fun x c h => ?_, fun x c h => ?_, fun x h => ?_, fun x c J h => .inr (kd x c h).2, ⟨by rw [e5]; exact List.pairwise_singleton _ _, trivial⟩, fun a h => ?_⟩, fun a J q => ?_, fun x c h q => ?_⟩
    · match i, hi, hv with
      | 0, hi, hv =>
        cases hi; cases hv
        exact ⟨_, hm, .lst nla pl (ints_rel hI)⟩
      | i + 1, hi, hv => exact absurd hv (by
          simp only [List.getElem?_cons_succ]
          intro q
          have:=List.mem_of_getElem? q
          simp at this)
    · obtain ⟨rfl, rfl⟩:=kd x c h
      refine ⟨σL_none hC8 hC3, by rw [e3]; exact Nat.ne_of_gt (Nat.lt_succ_self L), none, ⟨oC, nC.1, hoC⟩, fun i pv hi hv => ?_⟩
      match i, hi, hv with
      | 0, hi, hv => cases hi
      | i + 1, hi, hv => exact absurd hv (by
          simp only [List.getElem?_cons_succ]
          intro q
          have:=List.mem_of_getElem? q
          simp at this)
    · obtain ⟨rfl, _⟩:=kd x c h
      exact .inl (by show env.scope.names.lookup _ = _; rw [hn]; kernel_rfl)
    · have:x = Str.ofString "cells":=by rcases h with h | h <;> exact lk x _ h (by simp)
      subst this
      exact ⟨L + 1, by rw [e5]; exact List.lookup_cons_self⟩
    · rcases h with rfl | rfl
      · exact ⟨.inl rfl, σL_none hL8 hL3, _, gL⟩
      · exact ⟨.inr (.inl rfl), σL_none hC8 hC3, _, nC.1⟩
    · obtain ⟨e, he, _⟩:=q
      exact (List.not_mem_nil he).elim
    · obtain ⟨e, he, q⟩:=q
      rw [List.mem_singleton.mp he, e4] at q
      obtain ⟨_, rfl⟩:=kd x c h
      exact Nat.ne_of_lt (Nat.lt_succ_self L) (Option.some.inj q)
  refine wpAny_mono ((hB _ G).run (callerA.deeper env) env [env] _ _ ⟨h₁, gens, drawn, tk, os⟩ cx) (fun f s' x => ?_) fun v s' x => ?_
  · obtain ⟨pv, vs', σ', md', h', tk', rfl, k, r, c, g⟩:=x
    cases pv with
    | next => exact k.elim
    | ret q =>
      obtain ⟨rfl, rfl⟩:q = .bool true ∧ σ' = σL:=k
      cases f with
      | ret v =>
        cases r
        obtain ⟨_, ps, e8, _⟩:=c.bx.inv.sto 408 _ σL408
        obtain ⟨_, ps', e3', _⟩:=c.bx.inv.sto 403 _ σL403
        exact hQ h' tk' c.bx.inv.base ⟨ps, e8⟩ ⟨ps', e3'⟩
      | _ => exact r.elim
  · obtain ⟨pe, vs', σ', md', h', tk', rfl, k, _⟩:=x
    exact k.elim
end Mine
end
section
open PySem PySem.W PyProof.Rows PySem.Spec
set_option maxRecDepth 100000
set_option maxHeartbeats 8000000
namespace Mine
theorem law_bk' {w:World} {G₀:Heap} {S:Fx} {ns:List Int} (H:∀ sc:List Int, sc.length ≤ 63 → ∃ first, LawFacts (rowsOf sc) first (lastOf sc)) (hlen:ns.length ≤ 63) (G:S.Good ["script", "cells", "rows", "orders", "fault", "told", "heard", "error", "plain"] ["cells"] [.local, .cell, .local, .local, .local, .local, .local, .local, .local] ["enumerate", "sum", "_law_fault", "check_classic", "ProgramError", "_law_told_right", "all", "tax", "txa", "ret_a", "_law_octets_right", "_law_makers_right"]) :
    Bk w G₀ S 24 lawB [some (.lst (pvI ns)), none, none, none, none, none, none, none, none] σL (fun J J => False) (fun q J σ' => q = .bool true ∧ σ' = σL) (fun J J J => False):=by
  obtain ⟨first, F⟩:=H ns hlen
  exact law_bk (n:=0) G _ (by lia) F σL403 σL408 (fun J => ⟨rfl, rfl⟩)
set_option tactic.hygienic true in
theorem fin (H:∀ sc:List Int, sc.length ≤ 63 → ∃ first, LawFacts (rowsOf sc) first (lastOf sc)):PySem.Challenge.rw_ok0162_01.Holds:=by
  w_on
  refine holds_law said_ok fun said => ?_
  refine holds_open (q:=hd.view_1) (loose:=LS) (Xt:=XT) (XP:=XL hd.view_1 []) (Yf:=HK.obs) (Ya:=HK.val) (YP:=HK.says) (N:=5356) left HK.of HK.keeps (fun s e => xl_of s (Bool.and_eq_true_iff.mp e).1) XL.keeps (by rfl) (by rfl) (by rfl) (fun s e => recFacts_of (Bool.and_eq_true_iff.mp e).2) (by rfl) (by first | assumption | decide +kernel) (by decide +kernel) ⟨rfl, rfl, rfl, rfl, rfl, by decide +kernel⟩ ?hw ?hc
  case hw => w_witness2
  case hc =>
    unfold HK
    w_strict (k_go0; (all_goals try k_fold); (rename_i oC hoC X0 XX TT KK FF cc1 NN ll); (refine law_join XX TT FF (by kernel_rfl) lifted (by assumption) (fun J J e => of_hideAll _ e) (by assumption) cc1 codeHd NN (hoC.trans rfl) rfl rfl rfl rfl rfl rfl rfl (fun S G => ?_) (fun h' tk' hk t8 t3 => ?_)); (exact law_bk' H (by lia) G); ((show GoodW _ _ _ _ _ (.ok (.ret (.bool true))) _ ∧ GrownAll _ _); (exact ⟨⟨.inl ⟨.bool true, .bool true, [], rfl, raisesW_false (by wrow_none_raised), .bool true, (by wrow_post), unshared_nil⟩, hk, rfl, by assumption⟩, t8, t3, trivial⟩)))
end Mine
end
section
open PySem PySem.W PySem.Spec PySem.Calls PyProof.Rows
set_option maxRecDepth 100000
set_option maxHeartbeats 1000000
namespace Mine
noncomputable abbrev rc (c:Int):Row:=⟨c, 0, 0, 0⟩
noncomputable abbrev aluK (c:Int):Bool:=(Builtin.bitAnd c 7 == 4) && !(L_is_by_x (rc c))
noncomputable abbrev divM (c:Int):Bool:=(L_alu_name (rc c) == Str.ofString "div") || (L_alu_name (rc c) == Str.ofString "mod")
noncomputable abbrev shM (c:Int):Bool:=(L_alu_name (rc c) == Str.ofString "lsh") || (L_alu_name (rc c) == Str.ofString "rsh")
noncomputable abbrev rdM (c:Int):Bool:=((Builtin.bitAnd c 7 == 0) || (Builtin.bitAnd c 7 == 1)) && (L_mode_name (rc c) == Str.ofString "mem")
noncomputable abbrev wrM (c:Int):Bool:=(Builtin.bitAnd c 7 == 2) || (Builtin.bitAnd c 7 == 3)
noncomputable abbrev kcF (c:Int):Bool :=
  ((aluK c && divM c) == ([52, 148]:List Int).any (· == c)) && ((aluK c && shM c) == ([100, 116]:List Int).any (· == c)) && (rdM c == ([96, 97]:List Int).any (· == c)) && (wrM c == ([2, 3]:List Int).any (· == c)) &&
  (!(aluK c) || !(rdM c || wrM c)) && ((Builtin.bitAnd c 7 == 5) == (Int.fmod c 8 == 5)) && ((Builtin.bitAnd c 7 == 6) == (Int.fmod c 8 == 6)) && (!(Builtin.bitAnd c 7 == 5) || ((L_jump_name (rc c) == Str.ofString "ja") == (c == 5))) &&
  ((Builtin.bitAnd c 7 == 6) == ([6, 22]:List Int).any (· == c))
theorem kcF_all:∀ c ∈ knownL, kcF c = true:=by decide +kernel
theorem known256:∀ n ∈ List.range 256, L_is_known_code ((n:Nat):Int) = knownL.any (· == ((n:Nat):Int)):=by decide +kernel
theorem knownL_rng:∀ c ∈ knownL, 0 ≤ c ∧ c ≤ 255:=by decide +kernel
theorem known_eq (c:Int):L_is_known_code c = knownL.any (· == c):=by
  by_cases h:0 ≤ c ∧ c ≤ 255
  · obtain ⟨n, rfl⟩:=Int.eq_ofNat_of_zero_le h.1
    exact known256 n (List.mem_range.mpr (by lia))
  · have h1:L_is_known_code c = false:=by
      unfold L_is_known_code
      rw [if_pos]
      simp only [Bool.not_eq_true', Bool.and_eq_false_iff, decide_eq_false_iff_not]
      lia
    rw [h1]
    cases h2:knownL.any (· == c) with
    | false => rfl
    | true =>
      obtain ⟨x, hx, e⟩:=List.any_eq_true.mp h2
      have e:=beq_iff_eq.mp e
      subst e
      exact absurd (knownL_rng x hx) h
theorem mem_known {c:Int} (h:knownL.any (· == c) = true):c ∈ knownL:=by
  obtain ⟨x, hx, e⟩:=List.any_eq_true.mp h
  have e:=beq_iff_eq.mp e
  subst e; exact hx
structure KC (r:Row):Prop where
  dv:(aluK r.c && divM r.c) = ([52, 148]:List Int).any (· == r.c)
  sh:(aluK r.c && shM r.c) = ([100, 116]:List Int).any (· == r.c)
  rd:rdM r.c = ([96, 97]:List Int).any (· == r.c)
  wr:wrM r.c = ([2, 3]:List Int).any (· == r.c)
  no:aluK r.c = true → rdM r.c = false ∧ wrM r.c = false
  jm:(Builtin.bitAnd r.c 7 == 5) = (Int.fmod r.c 8 == 5)
  rt:(Builtin.bitAnd r.c 7 == 6) = (Int.fmod r.c 8 == 6)
  ja:(Builtin.bitAnd r.c 7 == 5) = true → (L_jump_name (rc r.c) == Str.ofString "ja") = (r.c == 5)
  re:(Builtin.bitAnd r.c 7 == 6) = ([6, 22]:List Int).any (· == r.c)
theorem KC.of {r:Row} (h:knownL.any (· == r.c) = true):KC r:=by
  have k:=kcF_all r.c (mem_known h)
  unfold kcF at k
  simp only [Bool.and_eq_true] at k
  obtain ⟨⟨⟨⟨⟨⟨⟨⟨k1, k2⟩, k3⟩, k4⟩, k5⟩, k6⟩, k7⟩, k8⟩, k9⟩:=k
  refine ⟨beq_iff_eq.mp k1, beq_iff_eq.mp k2, beq_iff_eq.mp k3, beq_iff_eq.mp k4, fun a => ?_, beq_iff_eq.mp k6, beq_iff_eq.mp k7, fun a => ?_, beq_iff_eq.mp k9⟩
  · rw [a] at k5
    simp only [Bool.not_true, Bool.false_or, Bool.not_eq_true', Bool.or_eq_false_iff] at k5
    exact ⟨k5.1, by show (_ || _) = false; rw [k5.2.1, k5.2.2]; rfl⟩
  · rw [a] at k8
    simp only [Bool.not_true, Bool.false_or] at k8
    exact beq_iff_eq.mp k8
theorem read_eq {r:Row} (h:KC r):L_read_cell r = if ([96, 97]:List Int).any (· == r.c) = true then r.k else -1:=by
  rw [← h.rd]; rfl
theorem written_eq {r:Row} (h:KC r):L_written_cell r = if ([2, 3]:List Int).any (· == r.c) = true then r.k else -1:=by
  rw [← h.wr]; rfl
theorem jump_eq {r:Row} (h:KC r):L_is_jump_order r = (Int.fmod r.c 8 == 5):=h.jm
theorem ret_eq {r:Row} (h:KC r):L_is_return r = (Int.fmod r.c 8 == 6):=h.rt
theorem goals_eq {r:Row} (h:KC r) (i:Int):L_goals_of_classic r i = L_law_goals r i:=by
  unfold L_goals_of_classic L_law_goals
  rw [ret_eq h, jump_eq h]
  cases h6:(Int.fmod r.c 8 == 6) with
  | true => rfl
  | false =>
    cases h5:(Int.fmod r.c 8 == 5) with
    | false => simp only [bne, h5]; rfl
    | true =>
      simp only [bne, h5]
      have:(L_jump_name r == Str.ofString "ja") = (r.c == 5):=h.ja (by rw [h.jm]; exact h5)
      rw [this]
theorem rowFault_eq (l:List Row) (i:Nat) (r:Row):rowFault l.length (i, r) = (rowW l (i, r)).map fun s => ⟨64, s, some (i:Int)⟩:=by
  unfold rowFault rowW L_law_row_fault L_check_known
  simp only
  rw [known_eq]
  cases hk:knownL.any (· == r.c) with
  | false => rfl
  | true =>
    have K:=KC.of hk
    rw [if_neg (show ¬ (!true) = true by decide), if_neg (show ¬ (!true) = true by decide)]
    have e1:((!((decide ((0:Int) ≤ r.t)) && (decide (r.t ≤ (255:Int))))) || ((!((decide ((0:Int) ≤ r.f)) && (decide (r.f ≤ (255:Int))))) || (!((decide ((0:Int) ≤ r.k)) && (decide (r.k ≤ (4294967295:Int)))))))
        = ((!((decide ((0:Int) ≤ r.t)) && (decide (r.t < (256:Int))))) || ((!((decide ((0:Int) ≤ r.f)) && (decide (r.f < (256:Int))))) || (!((decide ((0:Int) ≤ r.k)) && (decide (r.k < ((2:Int) ^ Int.toNat (32:Int)))))))):=by
      have a:∀ x:Int, decide (x ≤ 255) = decide (x < 256):=fun x => decide_eq_decide.mpr (by lia)
      have b:∀ x:Int, decide (x ≤ 4294967295) = decide (x < (2:Int) ^ Int.toNat (32:Int)):=fun x => decide_eq_decide.mpr (by rw [show (2:Int) ^ Int.toNat (32:Int) = 4294967296 from by decide]; lia)
      rw [a, a, b]
    rw [e1]
    cases hr:((!((decide ((0:Int) ≤ r.t)) && (decide (r.t < (256:Int))))) || ((!((decide ((0:Int) ≤ r.f)) && (decide (r.f < (256:Int))))) || (!((decide ((0:Int) ≤ r.k)) && (decide (r.k < ((2:Int) ^ Int.toNat (32:Int)))))))) with
    | true => rfl
    | false =>
      rw [if_neg (show ¬ false = true by decide), if_neg (show ¬ false = true by decide)]
      have nm:L_check_number r (i:Int) = (if (([52, 148]:List Int).any (· == r.c) && (r.k == 0)) = true then some ⟨64, Str.ofString "division by zero", some (i:Int)⟩ else if (([100, 116]:List Int).any (· == r.c) && decide (31 < r.k)) = true then some ⟨64, Str.ofString "shift out of range", some (i:Int)⟩
          else if (([96, 97, 2, 3]:List Int).any (· == r.c) && decide (15 < r.k)) = true then some ⟨64, Str.ofString "no such cell", some (i:Int)⟩ else none):=by
        have hc:((decide ((16:Int) ≤ (L_read_cell r))) || (decide ((16:Int) ≤ (L_written_cell r)))) = (([96, 97, 2, 3]:List Int).any (· == r.c) && decide (15 < r.k)):=by
          rw [read_eq K, written_eq K]
          have:([96, 97, 2, 3]:List Int).any (· == r.c) = (([96, 97]:List Int).any (· == r.c) || ([2, 3]:List Int).any (· == r.c)):=by simp [Bool.or_assoc]
          rw [this]
          have d:decide ((16:Int) ≤ r.k) = decide (15 < r.k):=decide_eq_decide.mpr (by lia)
          cases ([96, 97]:List Int).any (· == r.c) <;> cases ([2, 3]:List Int).any (· == r.c) <;> simp [d]
        have e:=K.dv
        have e':=K.sh
        have no:=K.no
        unfold L_check_number
        rw [hc, ← K.dv, ← K.sh]
        have eA:((Builtin.bitAnd r.c 7 == 4) && !(L_is_by_x r)) = aluK r.c:=rfl
        have eD:((L_alu_name r == Str.ofString "div") || (L_alu_name r == Str.ofString "mod")) = divM r.c:=rfl
        have eS:((L_alu_name r == Str.ofString "lsh") || (L_alu_name r == Str.ofString "rsh")) = shM r.c:=rfl
        rw [eA, eD, eS]
        cases hA:aluK r.c with
        | false => rfl
        | true =>
          have hz:(([96, 97, 2, 3]:List Int).any (· == r.c)) = false:=by
            obtain ⟨n1, n2⟩:=no hA
            rw [K.rd] at n1; rw [K.wr] at n2
            have:([96, 97, 2, 3]:List Int).any (· == r.c) = (([96, 97]:List Int).any (· == r.c) || ([2, 3]:List Int).any (· == r.c)):=by simp [Bool.or_assoc]
            rw [this, n1, n2]; rfl
          rw [hz]
          cases divM r.c <;> cases shM r.c <;> cases (r.k == 0) <;> cases (decide (31 < r.k)) <;> rfl
      rw [nm, jump_eq K, goals_eq K, List.length_map]
      cases (([52, 148]:List Int).any (· == r.c) && (r.k == 0)) with
      | true => rfl
      | false =>
        cases (([100, 116]:List Int).any (· == r.c) && decide (31 < r.k)) with
        | true => rfl
        | false =>
          cases (([96, 97, 2, 3]:List Int).any (· == r.c) && decide (15 < r.k)) with
          | true => rfl
          | false =>
            cases (Int.fmod r.c 8 == 5 && decide ((l.length:Int) ≤ maxI (L_law_goals r (i:Int)))) with
            | true => rfl
            | false => rfl
inductive Rh (l:List Row) (u0:Nat) (w0:List Int):Nat → List Int → Prop
  | base:Rh l u0 w0 u0 w0
  | step {u v:Nat} {r:Row} {wr:List Int}:Rh l u0 w0 u wr → l[u]? = some r → (v:Int) ∈ L_law_goals r (u:Int) → Rh l u0 w0 v (moreW r wr)
theorem Rh.cons {l:List Row} {u0 g:Nat} {w0:List Int} {r:Row} (hr:l[u0]? = some r) (hg:(g:Int) ∈ L_law_goals r (u0:Int)) {v:Nat} {wr:List Int} (h:Rh l g (moreW r w0) v wr):Rh l u0 w0 v wr:=by
  induction h with
  | base => exact .step .base hr hg
  | step _ a b ih => exact .step ih a b
theorem getD_some {l:List Row} {u:Nat} {r:Row} (h:l[u]? = some r):l.getD u row0 = r:=by simp [List.getD, h]
theorem paths_sound {l:List Row} (hg:GoalsIn l):∀ (m u0:Nat) (w0:List Int) (v:Nat) (wr:List Int), u0 < l.length → wr ∈ paths l m u0 w0 v → Rh l u0 w0 v wr:=by
  intro m
  induction m with
  | zero => intro u0 w0 v wr _ h; exact (List.not_mem_nil h).elim
  | succ m ih =>
    intro u0 w0 v wr hu h
    have hr:l[u0]? = some l[u0]:=List.getElem?_eq_getElem hu
    unfold paths at h
    rw [getD_some hr] at h
    rcases List.mem_append.mp h with h' | h'
    · split at h'
      · rename_i e
        subst e
        rw [List.mem_singleton.mp h']
        exact .base
      · exact (List.not_mem_nil h').elim
    · obtain ⟨g, hgm, h⟩:=List.mem_flatMap.mp h'
      have gr:=hg u0 _ hr g hgm
      obtain ⟨j, rfl⟩:∃ j:Nat, g = (j:Int):=⟨g.toNat, by lia⟩
      exact Rh.cons hr hgm (ih j _ v wr (by lia) h)
theorem paths_base {l:List Row} {m u0:Nat} {w0:List Int}:w0 ∈ paths l (m + 1) u0 w0 u0:=by
  unfold paths
  rw [if_pos rfl]
  exact List.mem_append_left _ (List.mem_singleton.mpr rfl)
theorem paths_step {l:List Row} (hg:GoalsIn l) {u v:Nat} {r:Row} (hr:l[u]? = some r) (hv:(v:Int) ∈ L_law_goals r (u:Int)):∀ (m u0:Nat) (w0 wr:List Int), l.length ≤ u0 + m → u0 < l.length → wr ∈ paths l m u0 w0 u → moreW r wr ∈ paths l m u0 w0 v:=by
  intro m
  induction m with
  | zero => intro u0 w0 wr _ _ h; exact (List.not_mem_nil h).elim
  | succ m ih =>
    intro u0 w0 wr hl hu h
    have hr0:l[u0]? = some l[u0]:=List.getElem?_eq_getElem hu
    unfold paths at h ⊢
    rw [getD_some hr0] at h ⊢
    refine List.mem_append_right _ ?_
    rcases List.mem_append.mp h with h' | h'
    · split at h'
      · rename_i e
        subst e
        rw [List.mem_singleton.mp h']
        rw [hr0] at hr
        cases hr
        have gr:=hg _ _ hr0 _ hv
        refine List.mem_flatMap.mpr ⟨(v:Int), hv, ?_⟩
        obtain ⟨m', rfl⟩:∃ m', m = m' + 1:=⟨m - 1, by lia⟩
        rw [Int.toNat_natCast]
        exact paths_base
      · exact (List.not_mem_nil h').elim
    · obtain ⟨g, hgm, h⟩:=List.mem_flatMap.mp h'
      have gr:=hg u0 _ hr0 g hgm
      exact List.mem_flatMap.mpr ⟨g, hgm, ih g.toNat _ wr (by lia) (by lia) h⟩
theorem ways_iff {l:List Row} (hg:GoalsIn l) (h0:0 < l.length) {v:Nat} {wr:List Int}:wr ∈ waysOf l v ↔ Rh l 0 [] v wr:=by
  constructor
  · exact paths_sound hg _ _ _ _ _ h0
  · intro h
    induction h with
    | base =>
      obtain ⟨m, e⟩:∃ m, l.length = m + 1:=⟨l.length - 1, by lia⟩
      unfold waysOf
      rw [e]
      exact paths_base
    | step _ a b ih => exact paths_step hg a b _ _ _ _ (by lia) h0 ih
theorem ways_last {l:List Row} (hg:GoalsIn l) (h0:0 < l.length) {v:Nat} {wr:List Int}:wr ∈ waysOf l v ↔ (v = 0 ∧ wr = []) ∨ ∃ u r wr', u < v ∧ l[u]? = some r ∧ (v:Int) ∈ L_law_goals r (u:Int) ∧ wr' ∈ waysOf l u ∧ wr = moreW r wr':=by
  rw [ways_iff hg h0]
  constructor
  · intro h
    cases h with
    | base => exact .inl ⟨rfl, rfl⟩
    | step h a b =>
      have:=hg _ _ a _ b
      exact .inr ⟨_, _, _, by lia, a, b, (ways_iff hg h0).mpr h, rfl⟩
  · rintro (⟨rfl, rfl⟩ | ⟨u, r, wr', _, a, b, c, rfl⟩)
    · exact .base
    · exact .step ((ways_iff hg h0).mp c) a b
noncomputable def Bb (l:List Row) (v c:Nat):Bool:=(waysOf l v).all fun wr => wr.any (· == (c:Int))
noncomputable def wcB (l:List Row) (u c:Nat):Bool:=([2, 3]:List Int).any (· == (l.getD u row0).c) && ((l.getD u row0).k == (c:Int))
noncomputable def outB (l:List Row) (u c:Nat):Bool:=Bb l u c || wcB l u c
noncomputable def edge (l:List Row) (u v:Nat):Bool:=(L_law_goals (l.getD u row0) (u:Int)).any (· == (v:Int))
noncomputable def rch (l:List Row) (v:Nat):Bool:=!(waysOf l v).isEmpty
theorem mem_more {r:Row} {wr:List Int} {c:Int}:(moreW r wr).any (· == c) = (wr.any (· == c) || (([2, 3]:List Int).any (· == r.c) && (r.k == c))):=by
  unfold moreW
  cases h1:([2, 3]:List Int).any (· == r.c) with
  | false => rw [Bool.false_and, if_neg (by decide), Bool.false_and, Bool.or_false]
  | true =>
    cases h2:wr.any (· == r.k) with
    | true =>
      rw [if_neg (by decide), Bool.true_and]
      cases h3:(r.k == c) with
      | false => rw [Bool.or_false]
      | true => rw [← beq_iff_eq.mp h3, h2]; rfl
    | false =>
      rw [if_pos (by decide), List.any_append, Bool.true_and]
      simp
theorem edge_lt {l:List Row} (hg:GoalsIn l) {u v:Nat} (hu:u < l.length) (h:edge l u v = true):u < v ∧ v < l.length:=by
  have hr:l[u]? = some l[u]:=List.getElem?_eq_getElem hu
  unfold edge at h
  rw [getD_some hr] at h
  obtain ⟨g, hm, e⟩:=List.any_eq_true.mp h
  have e:=beq_iff_eq.mp e
  subst e
  have:=hg u _ hr _ hm
  lia
theorem Bb_rec {l:List Row} (hg:GoalsIn l) (h0:0 < l.length) {v:Nat} (hv:v < l.length) (c:Nat):Bb l v c = (decide (v ≠ 0) && (List.range v).all fun u => !(edge l u v) || outB l u c):=by
  rw [Bool.eq_iff_iff]
  simp only [Bool.and_eq_true, decide_eq_true_eq, List.all_eq_true, Bool.or_eq_true, Bool.not_eq_true', List.mem_range, Bb]
  constructor
  · intro h
    refine ⟨fun e => ?_, fun u hu => ?_⟩
    · have:=h [] ((ways_last hg h0).mpr (.inl ⟨e, rfl⟩))
      simp at this
    · cases he:edge l u v with
      | false => exact .inl rfl
      | true =>
        right
        have hr:l[u]? = some l[u]:=List.getElem?_eq_getElem (by lia)
        unfold edge at he
        rw [getD_some hr] at he
        obtain ⟨g, hm, e⟩:=List.any_eq_true.mp he
        have e:=beq_iff_eq.mp e
        subst e
        unfold outB wcB
        rw [getD_some hr]
        cases hw:(([2, 3]:List Int).any (· == l[u].c) && (l[u].k == (c:Int))) with
        | true => rw [Bool.or_true]
        | false =>
          rw [Bool.or_false]
          unfold Bb
          rw [List.all_eq_true]
          intro wr hwr
          have:=h _ ((ways_last hg h0).mpr (.inr ⟨u, _, wr, hu, hr, hm, hwr, rfl⟩))
          rw [mem_more, hw, Bool.or_false] at this
          exact this
  · rintro ⟨hv0, h⟩ wr hwr
    rcases (ways_last hg h0).mp hwr with ⟨e, _⟩ | ⟨u, r, wr', hu, hr, hm, hwr', rfl⟩
    · exact absurd e hv0
    · rw [mem_more]
      have he:edge l u v = true:=by
        unfold edge
        rw [getD_some hr]
        exact List.any_eq_true.mpr ⟨_, hm, beq_self_eq_true _⟩
      rcases h u hu with q | q
      · rw [he] at q; cases q
      · unfold outB wcB at q
        rw [getD_some hr] at q
        rcases Bool.or_eq_true _ _ |>.mp q with q | q
        · have:wr'.any (· == (c:Int)) = true:=List.all_eq_true.mp q wr' hwr'
          rw [this, Bool.true_or]
        · rw [q, Bool.or_true]
theorem rch_rec {l:List Row} (hg:GoalsIn l) (h0:0 < l.length) {v:Nat} (hv:v < l.length):rch l v = ((v == 0) || (List.range v).any fun u => rch l u && edge l u v):=by
  have key:∀ v, rch l v = true ↔ ∃ wr, wr ∈ waysOf l v:=fun v => by
    unfold rch
    cases waysOf l v with
    | nil => simp
    | cons a t => simp
  rw [Bool.eq_iff_iff, key]
  simp only [Bool.or_eq_true, beq_iff_eq, List.any_eq_true, List.mem_range, Bool.and_eq_true]
  constructor
  · rintro ⟨wr, h⟩
    rcases (ways_last hg h0).mp h with ⟨e, _⟩ | ⟨u, r, wr', hu, hr, hm, hwr', rfl⟩
    · exact .inl e
    · refine .inr ⟨u, hu, (key u).mpr ⟨wr', hwr'⟩, ?_⟩
      unfold edge
      rw [getD_some hr]
      exact List.any_eq_true.mpr ⟨_, hm, beq_self_eq_true _⟩
  · rintro (rfl | ⟨u, hu, h1, h2⟩)
    · exact ⟨[], (ways_last hg h0).mpr (.inl ⟨rfl, rfl⟩)⟩
    · obtain ⟨wr', hwr'⟩:=(key u).mp h1
      have hr:l[u]? = some l[u]:=List.getElem?_eq_getElem (by lia)
      unfold edge at h2
      rw [getD_some hr] at h2
      obtain ⟨g, hm, e⟩:=List.any_eq_true.mp h2
      have e:=beq_iff_eq.mp e
      subst e
      exact ⟨_, (ways_last hg h0).mpr (.inr ⟨u, _, wr', hu, hr, hm, hwr', rfl⟩)⟩
noncomputable def maskN (P:Nat → Bool):Nat → Nat
  | 0 => 0
  | n + 1 => maskN P n + if P n = true then 2 ^ n else 0
noncomputable abbrev mask (P:Nat → Bool):Nat:=maskN P 16
theorem maskN_lt (P:Nat → Bool) (n:Nat):maskN P n < 2 ^ n:=by
  induction n with
  | zero =>
    exact Nat.one_pos
  | succ n ih =>
    have:=ih
    unfold maskN
    rw [Nat.pow_succ]
    split <;> lia
theorem bit_maskN (P:Nat → Bool) (c n:Nat):(maskN P n).testBit c = (decide (c < n) && P c):=by
  induction n with
  | zero =>
    simp [maskN]
  | succ n ih =>
    have lt:=maskN_lt P n
    unfold maskN
    rcases Nat.lt_trichotomy c n with h | h | h
    · rw [show decide (c < n + 1) = true from decide_eq_true (by lia), Bool.true_and]
      rw [show decide (c < n) = true from decide_eq_true h, Bool.true_and] at ih
      split
      · rw [Nat.add_comm, Nat.testBit_two_pow_add_gt h, ih]
      · rw [Nat.add_zero, ih]
    · subst h
      rw [show decide (c < c + 1) = true from decide_eq_true (by lia), Bool.true_and]
      rw [show decide (c < c) = false from decide_eq_false (by lia), Bool.false_and] at ih
      split
      · rename_i hp
        rw [Nat.add_comm, Nat.testBit_two_pow_add_eq, ih, hp]; rfl
      · rename_i hp
        rw [Nat.add_zero, ih]
        cases hq:P c with
        | true => exact absurd hq hp
        | false => rfl
    · rw [show decide (c < n + 1) = false from decide_eq_false (by lia), Bool.false_and]
      refine Nat.testBit_lt_two_pow (Nat.lt_of_lt_of_le (m:=2 ^ (n + 1)) ?_ (Nat.pow_le_pow_right (by decide) (by lia)))
      rw [Nat.pow_succ]
      split <;> lia
theorem bit_mask (P:Nat → Bool) (c:Nat):(mask P).testBit c = (decide (c < 16) && P c):=bit_maskN P c 16
theorem mask_ext {P Q:Nat → Bool} (h:∀ c, c < 16 → P c = Q c):mask P = mask Q:=Nat.eq_of_testBit_eq fun c => by
  rw [bit_mask, bit_mask]
  by_cases q:c < 16
  · rw [h c q]
  · rw [show decide (c < 16) = false from decide_eq_false q, Bool.false_and, Bool.false_and]
theorem mask_and (P Q:Nat → Bool):Builtin.bitAnd (mask P:Int) (mask Q:Int) = ((mask fun c => P c && Q c:Nat):Int):=by
  rw [bitAnd_pp (Int.natCast_nonneg _) (Int.natCast_nonneg _), Int.toNat_natCast, Int.toNat_natCast]
  congr 1
  refine Nat.eq_of_testBit_eq fun c => ?_
  rw [Nat.testBit_and, bit_mask, bit_mask, bit_mask]
  cases decide (c < 16) <;> cases P c <;> cases Q c <;> rfl
theorem maskN_or (P:Nat → Bool) (k n:Nat):maskN (fun c => P c || (k == c)) n = maskN P n + if (decide (k < n) && !(P k)) = true then 2 ^ k else 0:=by
  induction n with
  | zero =>
    exact rfl
  | succ n ih =>
    unfold maskN
    rw [ih]
    rcases Nat.lt_trichotomy k n with h | h | h
    · rw [show decide (k < n + 1) = true from decide_eq_true (by lia), show decide (k < n) = true from decide_eq_true h, show (k == n) = false from beq_eq_false_iff_ne.mpr (by lia), Bool.or_false]
      lia
    · subst h
      rw [show decide (k < k + 1) = true from decide_eq_true (by lia), show decide (k < k) = false from decide_eq_false (by lia), beq_self_eq_true, Bool.or_true]
      cases P k <;> simp
    · rw [show decide (k < n + 1) = false from decide_eq_false (by lia), show decide (k < n) = false from decide_eq_false (by lia), show (k == n) = false from beq_eq_false_iff_ne.mpr (by lia), Bool.or_false]
      simp
theorem mask_pow (P:Nat → Bool) (k:Nat) (hk:k < 16):mask P &&& 2 ^ k = if P k = true then 2 ^ k else 0:=Nat.eq_of_testBit_eq fun c => by
  rw [Nat.testBit_and, bit_mask, Nat.testBit_two_pow]
  by_cases h:k = c
  · subst h
    rw [show decide (k < 16) = true from decide_eq_true hk]
    cases P k with
    | true => rw [if_pos rfl, Nat.testBit_two_pow]; rfl
    | false => rw [if_neg (by decide)]; simp
  · rw [show decide (k = c) = false from decide_eq_false h, Bool.and_false]
    split
    · rw [Nat.testBit_two_pow, decide_eq_false h]
    · simp
theorem mask_or (P:Nat → Bool) (k:Nat) (hk:k < 16):Builtin.bitOr (mask P:Int) ((1:Int) * 2 ^ Int.toNat (k:Int)) = ((mask fun c => P c || (k == c):Nat):Int):=by
  have e2:(1:Int) * 2 ^ Int.toNat (k:Int) = ((2 ^ k:Nat):Int):=by rw [Int.toNat_natCast, Int.one_mul]; exact (Int.natCast_pow 2 k).symm
  rw [e2, bitOr_and, bitAnd_pp (Int.natCast_nonneg _) (Int.natCast_nonneg _), Int.toNat_natCast, Int.toNat_natCast, mask_pow P k hk]
  refine (?_:_ = ((maskN (fun c => P c || (k == c)) 16:Nat):Int))
  rw [maskN_or, show decide (k < 16) = true from decide_eq_true hk]
  cases P k
  · simp
  · simp
theorem mask_all:((mask fun J => true:Nat):Int) = 65535:=by decide
theorem mask_none:((mask fun J => false:Nat):Int) = 0:=by decide
theorem mask_bit (P:Nat → Bool) (c:Nat) (hc:c < 16):(Builtin.bitAnd (Int.fdiv (mask P:Int) (2 ^ Int.toNat (c:Int))) 1 == 0) = !(P c):=by
  have e:Int.fdiv (mask P:Int) (2 ^ Int.toNat (c:Int)) = ((mask P / 2 ^ c:Nat):Int):=by
    rw [Int.toNat_natCast, show ((2:Int) ^ c) = ((2 ^ c:Nat):Int) from (Int.natCast_pow 2 c).symm, Int.fdiv_eq_ediv_of_nonneg _ (Int.natCast_nonneg _)]; rfl
  rw [e, bitAnd_m1]
  have h:=bit_mask P c
  rw [Nat.testBit_eq_decide_div_mod_eq, show decide (c < 16) = true from decide_eq_true hc, Bool.true_and] at h
  cases hp:P c with
  | true =>
    rw [hp] at h
    have h:=of_decide_eq_true h
    exact beq_eq_false_iff_ne.mpr (by lia)
  | false =>
    rw [hp] at h
    have h:=of_decide_eq_false h
    exact beq_iff_eq.mpr (by lia)
theorem due_mask (t:List (List Int)):dueOf t = ((mask fun c => t.all fun wr => wr.any (· == (c:Int)):Nat):Int):=by
  have key:∀ (p:Nat → Bool) (n:Nat), (((List.range n).filter p).map fun (a:Nat) => ((2:Int) ^ a)).sum = (maskN p n:Int):=by
    intro p n
    induction n with
    | zero => rfl
    | succ n ih =>
      rw [List.range_succ, List.filter_append, List.map_append, List.sum_append, ih]
      refine (?_:_ = ((maskN p n + if p n = true then 2 ^ n else 0:Nat):Int))
      cases hp:p n with
      | true => simp [List.filter_cons, hp]
      | false => simp [List.filter_cons, hp]
  unfold dueOf
  rw [key]
  congr 2
  funext c
  rw [List.all_map]
  rfl
noncomputable def jmp (l:List Row) (u:Nat):Bool:=Int.fmod (l.getD u row0).c 8 == 5
noncomputable def ret (l:List Row) (u:Nat):Bool:=Int.fmod (l.getD u row0).c 8 == 6
noncomputable def hb (l:List Row):Nat → Nat → Bool
  | 0, _ => false
  | u + 1, c => jmp l u || ret l u || outB l u c
structure WI (l:List Row) (v:Nat) (s:WS):Prop where
  found:s.found = (List.range v).map fun u => ((mask (Bb l u):Nat):Int)
  m:∀ g:Nat, v ≤ g → (dget s.m (g:Int)).getD 65535 = ((mask fun c => (List.range v).all fun u => !(jmp l u && edge l u g) || outB l u c:Nat):Int)
  held:s.held = ((mask (hb l v):Nat):Int)
theorem nonjump_edge {l:List Row} {u v:Nat} (h:jmp l u = false):edge l u v = (!(ret l u) && (v == u + 1)):=by
  unfold edge L_law_goals
  unfold jmp at h
  unfold ret
  cases h6:(Int.fmod (l.getD u row0).c 8 == 6) with
  | true => rfl
  | false =>
    rw [if_neg (by decide)]
    simp only [bne, h]
    rw [if_pos (by decide)]
    simp only [List.any_cons, List.any_nil, Bool.or_false, Bool.not_false, Bool.true_and]
    rw [Bool.eq_iff_iff, beq_iff_eq, beq_iff_eq]
    lia
theorem meet_eq {l:List Row} (hg:GoalsIn l) (h0:0 < l.length) {v:Nat} (hv:v < l.length) (c:Nat):(hb l v c && (List.range v).all fun u => !(jmp l u && edge l u v) || outB l u c) = Bb l v c:=by
  rw [Bb_rec hg h0 hv]
  cases v with
  | zero => rfl
  | succ u =>
    rw [List.range_succ, List.all_append, List.all_append, show decide (u + 1 ≠ 0) = true from decide_eq_true (by lia), Bool.true_and]
    have e:((List.range u).all fun u_1 => !(jmp l u_1 && edge l u_1 (u + 1)) || outB l u_1 c) = (List.range u).all fun u_1 => !(edge l u_1 (u + 1)) || outB l u_1 c:=by
      rw [Bool.eq_iff_iff, List.all_eq_true, List.all_eq_true]
      have key:∀ x ∈ List.range u, (!(jmp l x && edge l x (u + 1)) || outB l x c) = (!(edge l x (u + 1)) || outB l x c):=fun x hx => by
        have hx:=List.mem_range.mp hx
        cases hj:jmp l x with
        | true => rfl
        | false =>
          rw [nonjump_edge hj, show (u + 1 == x + 1) = false from beq_eq_false_iff_ne.mpr (by lia), Bool.and_false]
          rfl
      exact ⟨fun h x hx => by rw [← key x hx]; exact h x hx, fun h x hx => by rw [key x hx]; exact h x hx⟩
    rw [e]
    simp only [List.all_cons, List.all_nil, Bool.and_true]
    refine (?_:((jmp l u || ret l u || outB l u c) && _) = _)
    cases hj:jmp l u with
    | true => simp
    | false =>
      rw [nonjump_edge hj, beq_self_eq_true, Bool.and_true]
      cases ret l u <;> cases outB l u c <;> simp
theorem fold_goal {Q:Nat → Bool} (g:Int) (gs:List Int) (m:List (Int × Int)) (P:Nat → Bool) (h:(dget m g).getD 65535 = ((mask P:Nat):Int)):(dget (gs.foldl (wGoal ((mask Q:Nat):Int)) m) g).getD 65535 = ((mask fun c => P c && (!(gs.any (· == g)) || Q c):Nat):Int):=by
  induction gs generalizing m P with
  | nil =>
    rw [List.foldl_nil, h]
    congr 2
    funext c
    simp
  | cons x gs ih =>
    rw [List.foldl_cons]
    have step:(dget (wGoal ((mask Q:Nat):Int) m x) g).getD 65535 = ((mask fun c => P c && (!(x == g) || Q c):Nat):Int):=by
      unfold wGoal
      rw [dget_put]
      by_cases z:g = x
      · subst z
        rw [if_pos rfl, Option.getD_some, h, mask_and, beq_self_eq_true]
        rfl
      · rw [if_neg z, h, show (x == g) = false from beq_eq_false_iff_ne.mpr (Ne.symm z)]
        congr 2
        funext c
        simp
    rw [ih _ _ step]
    congr 2
    funext c
    rw [List.any_cons]
    cases P c <;> cases Q c <;> cases (x == g) <;> cases gs.any (· == g) <;> rfl
theorem WI.step {l:List Row} (hg:GoalsIn l) (h0:0 < l.length) (hK:∀ r ∈ l, KC r) (hc:∀ r ∈ l, ([2, 3]:List Int).any (· == r.c) = true → 0 ≤ r.k ∧ r.k < 16) {v:Nat} {r:Row} {s:WS} (hr:l[v]? = some r) (h:WI l v s):WI l (v + 1) (wStep s (v, r)):=by
  have hv:v < l.length:=(List.getElem?_eq_some_iff.mp hr).1
  have hm:r ∈ l:=List.mem_of_getElem? hr
  have hd:=getD_some hr
  have K:=hK r hm
  have e1:wH1 s v = ((mask (Bb l v):Nat):Int):=by
    unfold wH1
    rw [h.held, h.m v (Nat.le_refl _), mask_and]
    congr 1
    exact mask_ext fun c J => meet_eq hg h0 hv c
  have e2:wH2 r s v = ((mask (outB l v):Nat):Int):=by
    unfold wH2
    rw [e1, written_eq K]
    cases hw:([2, 3]:List Int).any (· == r.c) with
    | true =>
      obtain ⟨k0, k1⟩:=hc r hm hw
      obtain ⟨kn, hk⟩:=Int.eq_ofNat_of_zero_le k0
      rw [if_pos rfl, if_pos (decide_eq_true k0), hk, mask_or _ kn (by lia)]
      congr 2
      funext c
      unfold outB wcB
      rw [hd, hw, hk, Bool.true_and]
      congr 1
      rw [Bool.eq_iff_iff, beq_iff_eq, beq_iff_eq]
      exact Int.ofNat_inj.symm
    | false =>
      rw [if_neg (show ¬ decide ((0:Int) ≤ if false = true then r.k else -1) = true by simp)]
      congr 2
      funext c
      unfold outB wcB
      rw [hd, hw, Bool.false_and, Bool.or_false]
  have ej:L_is_jump_order r = jmp l v:=by rw [jump_eq K]; unfold jmp; rw [hd]
  have er:L_is_return r = ret l v:=by rw [ret_eq K]; unfold ret; rw [hd]
  refine ⟨?_, fun g hgv => ?_, ?_⟩
  · refine (?_:s.found ++ [wH1 s v] = _)
    rw [h.found, e1, List.range_succ, List.map_append]
    rfl
  · refine (?_:(dget (wM r s v) (g:Int)).getD 65535 = _)
    unfold wM
    rw [ej, e2]
    have old:=h.m g (by lia)
    cases hj:jmp l v with
    | true =>
      rw [if_pos rfl, goals_eq K, fold_goal (g:Int) _ _ _ old]
      congr 2
      funext c
      rw [List.range_succ, List.all_append]
      simp only [List.all_cons, List.all_nil, Bool.and_true]
      rw [hj, Bool.true_and]
      unfold edge
      rw [hd]
    | false =>
      rw [if_neg (by decide), old]
      congr 2
      funext c
      rw [List.range_succ, List.all_append]
      simp only [List.all_cons, List.all_nil, Bool.and_true]
      rw [hj]
      simp
  · refine (?_:wH3 r s v = _)
    unfold wH3
    rw [ej, er, e2]
    cases hj:jmp l v with
    | true =>
      rw [Bool.true_or, if_pos rfl, ← mask_all]
      congr 2
      funext c
      refine (?_:true = (jmp l v || ret l v || outB l v c))
      rw [hj]; rfl
    | false =>
      cases hq:ret l v with
      | true =>
        rw [Bool.or_true, if_pos rfl, ← mask_all]
        congr 2
        funext c
        refine (?_:true = (jmp l v || ret l v || outB l v c))
        rw [hj, hq]; rfl
      | false =>
        rw [if_neg (by decide)]
        congr 2
        funext c
        refine (?_:outB l v c = (jmp l v || ret l v || outB l v c))
        rw [hj, hq]; rfl
theorem numR_get (l:List Row) (v:Nat):(numR l)[v]? = (l[v]?).map fun r => (v, r):=by
  unfold numR
  rw [List.getElem?_map, List.getElem?_zipIdx]
  cases l[v]? <;> simp
theorem WI.at {l:List Row} (hg:GoalsIn l) (h0:0 < l.length) (hK:∀ r ∈ l, KC r) (hc:∀ r ∈ l, ([2, 3]:List Int).any (· == r.c) = true → 0 ≤ r.k ∧ r.k < 16):∀ v, v ≤ l.length → WI l v (((numR l).take v).foldl wStep ⟨[], [], 0⟩)
  | 0, _ => ⟨rfl, fun g J => by
      refine (?_:(65535:Int) = _)
      rw [← mask_all]
      rfl, by rw [← mask_none]; rfl⟩
  | v + 1, h => by
    have hr:l[v]? = some l[v]:=List.getElem?_eq_getElem (by lia)
    have hn:(numR l)[v]? = some (v, l[v]):=by rw [numR_get, hr]; rfl
    rw [List.take_add_one, hn, List.foldl_append]
    exact (WI.at hg h0 hK hc v (by lia)).step hg h0 hK hc hr
theorem written_cells_eq {l:List Row} (hg:GoalsIn l) (h0:0 < l.length) (hK:∀ r ∈ l, KC r) (hc:∀ r ∈ l, ([2, 3]:List Int).any (· == r.c) = true → 0 ≤ r.k ∧ r.k < 16):L_written_cells l = (List.range l.length).map fun u => ((mask (Bb l u):Nat):Int):=by
  have:=(WI.at hg h0 hK hc l.length (Nat.le_refl _)).found
  rw [List.take_of_length_le (by rw [numR_len]; exact Nat.le_refl _)] at this
  exact this
theorem written_due {l:List Row} (hg:GoalsIn l) (h0:0 < l.length) (hK:∀ r ∈ l, KC r) (hc:∀ r ∈ l, ([2, 3]:List Int).any (· == r.c) = true → 0 ≤ r.k ∧ r.k < 16):L_written_cells l = ((List.range l.length).map (waysOf l)).map dueOf:=by
  rw [written_cells_eq hg h0 hK hc, List.map_map]
  congr 1
  funext u
  exact (due_mask _).symm
theorem foldl_setF (gs:List Int) (fl:List Bool) (j:Nat) (h:∀ g ∈ gs, 0 ≤ g ∧ g < (fl.length:Int)):(gs.foldl setF fl).getD j false = (fl.getD j false || gs.any (· == (j:Int))):=by
  induction gs generalizing fl with
  | nil =>
    simp
  | cons g gs ih =>
    obtain ⟨g0, g1⟩:=h g (.head _)
    obtain ⟨n, rfl⟩:=Int.eq_ofNat_of_zero_le g0
    have hn:n < fl.length:=by lia
    rw [List.foldl_cons, ih _ (fun x m => by rw [setF, List.length_set]; exact h x (.tail _ m)), List.any_cons, ← Bool.or_assoc]
    congr 1
    unfold setF
    rw [Int.toNat_natCast]
    by_cases z:n = j
    · subst z
      rw [beq_self_eq_true, Bool.or_true]
      simp [List.getD, List.getElem?_set, hn]
    · rw [show ((n:Int) == (j:Int)) = false from beq_eq_false_iff_ne.mpr (by lia), Bool.or_false]
      simp [List.getD, List.getElem?_set, z]
theorem flags_at {l:List Row} (hg:GoalsIn l) (h0:0 < l.length) (hK:∀ r ∈ l, KC r):∀ v, v ≤ l.length → ∃ fl, fl = ((numR l).take v).foldl fStep ((List.range l.length).map fun (i:Nat) => ((i:Int) == 0)) ∧ fl.length = l.length ∧ ∀ g, g < l.length → fl.getD g false = ((g == 0) || (List.range v).any fun u => rch l u && edge l u g)
  | 0, _ => ⟨_, rfl, by simp, fun g hgl => by
      simp only [List.take_zero, List.foldl_nil, List.range_zero, List.any_nil, Bool.or_false]
      simp [List.getD, hgl]
      rw [Bool.eq_iff_iff, beq_iff_eq, beq_iff_eq]
      lia⟩
  | v + 1, h => by
    obtain ⟨fl, e, hl, hf⟩:=flags_at hg h0 hK v (by lia)
    have hr:l[v]? = some l[v]:=List.getElem?_eq_getElem (by lia)
    have hn:(numR l)[v]? = some (v, l[v]):=by rw [numR_get, hr]; rfl
    have hd:=getD_some hr
    refine ⟨fStep fl (v, l[v]), by rw [List.take_add_one, hn, List.foldl_append, ← e]; rfl, by rw [fStep_len]; exact hl, fun g hgl => ?_⟩
    have hv:=hf v (by lia)
    rw [← rch_rec hg h0 (by lia)] at hv
    rw [List.range_succ, List.any_append, ← Bool.or_assoc, ← hf g hgl]
    unfold fStep
    simp only
    rw [hv]
    simp only [List.any_cons, List.any_nil, Bool.or_false]
    cases hq:rch l v with
    | false => simp
    | true =>
      rw [if_pos rfl, goals_eq (hK _ (List.mem_of_getElem? hr)), foldl_setF _ _ _ (fun x hx => by have:=hg v _ hr x hx; lia), Bool.true_and]
      unfold edge
      rw [hd]
theorem reached_eq {l:List Row} (hg:GoalsIn l) (h0:0 < l.length) (hK:∀ r ∈ l, KC r):L_reached l = reachOf ((List.range l.length).map (waysOf l)):=by
  obtain ⟨fl, e, hl, hf⟩:=flags_at hg h0 hK l.length (Nat.le_refl _)
  rw [List.take_of_length_le (by rw [numR_len]; exact Nat.le_refl _)] at e
  have eF:L_flags l = fl:=e.symm
  unfold L_reached reachOf
  rw [eF]
  have key:∀ a ∈ List.range l.length, fl.getD a false = rch l a:=fun a ha => by
    have ha:=List.mem_range.mp ha
    rw [hf a ha, rch_rec hg h0 ha]
    congr 1
    rw [Bool.eq_iff_iff, List.any_eq_true, List.any_eq_true]
    constructor
    · rintro ⟨u, hu, q⟩
      have q':=q
      rw [Bool.and_eq_true] at q'
      exact ⟨u, List.mem_range.mpr (edge_lt hg (List.mem_range.mp hu) q'.2).1, q⟩
    · rintro ⟨u, hu, q⟩
      exact ⟨u, List.mem_range.mpr (by have:=List.mem_range.mp hu; lia), q⟩
  rw [List.filter_congr key]
  have zi:((List.range l.length).map (waysOf l)).zipIdx = (List.range l.length).map fun a => (waysOf l a, a):=by
    refine List.ext_getElem? fun i => ?_
    rw [List.getElem?_zipIdx, List.getElem?_map, List.getElem?_map]
    by_cases q:i < l.length
    · simp [q]
    · simp [q]
  rw [zi, List.filter_map, List.map_map]
  have:(fun (a:List (List Int) × Nat) => !((a.1.map wrP).isEmpty)) ∘ (fun a => (waysOf l a, a)) = rch l:=by
    funext a
    refine (?_:(!(((waysOf l a).map wrP).isEmpty)) = !((waysOf l a).isEmpty))
    cases waysOf l a <;> rfl
  rw [this]
  rfl
theorem first_eq (l:List Row) (L:List (Nat × Row)):firstF (rowFault l.length) L = (firstW (rowW l) L).map fun x => ⟨64, x.2, some (x.1.1:Int)⟩:=by
  induction L with
  | nil =>
    exact rfl
  | cons p L ih =>
    obtain ⟨i, r⟩:=p
    unfold firstF firstW
    rw [rowFault_eq]
    cases rowW l (i, r) with
    | some s => rfl
    | none => exact ih
theorem firstW_some {α:Type} {f:α → Option Str} {l:List α} {a:α} {s:Str} (h:firstW f l = some (a, s)):f a = some s:=by
  induction l with
  | nil => cases h
  | cons b l ih =>
    unfold firstW at h
    cases e:f b with
    | some x => rw [e] at h; cases h; exact e
    | none => rw [e] at h; exact ih h
theorem rowW_cases (l:List Row) (i:Nat) (r:Row) :
    (∃ s, rowW l (i, r) = some s ∧ PyData.strOk s = true) ∨ (rowW l (i, r) = none ∧ knownL.any (· == r.c) = true ∧ (0 ≤ r.t ∧ 0 ≤ r.f ∧ 0 ≤ r.k) ∧ (([96, 97, 2, 3]:List Int).any (· == r.c) = true → r.k ≤ 15) ∧ ((Int.fmod r.c 8 == 5) = true → maxI (L_law_goals r (i:Int)) < (l.length:Int))):=by
  unfold rowW L_law_row_fault
  simp only
  cases h1:knownL.any (· == r.c) with
  | false => exact .inl ⟨_, rfl, by kernel_rfl⟩
  | true =>
    rw [if_neg (show ¬ (!true) = true by decide)]
    cases h2:((!((decide ((0:Int) ≤ r.t)) && (decide (r.t < (256:Int))))) || ((!((decide ((0:Int) ≤ r.f)) && (decide (r.f < (256:Int))))) || (!((decide ((0:Int) ≤ r.k)) && (decide (r.k < ((2:Int) ^ Int.toNat (32:Int)))))))) with
    | true => exact .inl ⟨_, rfl, by kernel_rfl⟩
    | false =>
      rw [if_neg (show ¬ false = true by decide)]
      cases h3:(([52, 148]:List Int).any (· == r.c) && (r.k == 0)) with
      | true => exact .inl ⟨_, rfl, by kernel_rfl⟩
      | false =>
        cases h4:(([100, 116]:List Int).any (· == r.c) && decide (31 < r.k)) with
        | true => exact .inl ⟨_, rfl, by kernel_rfl⟩
        | false =>
          cases h5:(([96, 97, 2, 3]:List Int).any (· == r.c) && decide (15 < r.k)) with
          | true => exact .inl ⟨_, rfl, by kernel_rfl⟩
          | false =>
            cases h6:(Int.fmod r.c 8 == 5 && decide ((((List.map rowP l).length:Nat):Int) ≤ maxI (L_law_goals r (i:Int)))) with
            | true => exact .inl ⟨_, rfl, by kernel_rfl⟩
            | false =>
              refine .inr ⟨rfl, rfl, ?_, fun a => ?_, fun a => ?_⟩
              · simp only [Bool.or_eq_false_iff, Bool.not_eq_false', Bool.and_eq_true, decide_eq_true_eq] at h2
                exact ⟨h2.1.1, h2.2.1.1, h2.2.2.1⟩
              · rw [a, Bool.true_and, decide_eq_false_iff_not] at h5
                lia
              · rw [a, Bool.true_and, decide_eq_false_iff_not, List.length_map] at h6
                lia
theorem rowW_none {l:List Row} {i:Nat} {r:Row} (h:rowW l (i, r) = none):knownL.any (· == r.c) = true ∧ (0 ≤ r.t ∧ 0 ≤ r.f ∧ 0 ≤ r.k) ∧ (([96, 97, 2, 3]:List Int).any (· == r.c) = true → r.k ≤ 15) ∧ ((Int.fmod r.c 8 == 5) = true → maxI (L_law_goals r (i:Int)) < (l.length:Int)):=by
  rcases rowW_cases l i r with ⟨s, e, _⟩ | ⟨_, a⟩
  · rw [h] at e; cases e
  · exact a
theorem mem_numR {l:List Row} {i:Nat} {r:Row} (h:l[i]? = some r):(i, r) ∈ numR l:=List.mem_map.mpr ⟨(r, i), List.mem_zipIdx_iff_getElem?.mpr h, rfl⟩
theorem all_none {l:List Row} (h:firstW (rowW l) (numR l) = none) {i:Nat} {r:Row} (hr:l[i]? = some r):rowW l (i, r) = none:=firstW_none h _ (mem_numR hr)
theorem goals_in {l:List Row} {last:Row} (hl:l.getLast? = some last) (h:firstW (rowW l) (numR l) = none) (hr:([6, 22]:List Int).any (· == last.c) = true):GoalsIn l:=by
  intro u r hu g hg
  obtain ⟨hk, ⟨t0, f0, k0⟩, _, hj⟩:=rowW_none (all_none h hu)
  have hlt:u < l.length:=(List.getElem?_eq_some_iff.mp hu).1
  cases h6:(Int.fmod r.c 8 == 6) with
  | true =>
    unfold L_law_goals at hg
    rw [h6, if_pos rfl] at hg
    exact (List.not_mem_nil hg).elim
  | false =>
    have last':u + 1 < l.length:=by
      rcases Nat.lt_or_ge (u + 1) l.length with q | q
      · exact q
      · have e:u = l.length - 1:=by lia
        rw [List.getLast?_eq_getElem?, ← e, hu] at hl
        cases hl
        have K:=KC.of hk
        rw [← K.re, K.rt, h6] at hr
        cases hr
    cases h5:(Int.fmod r.c 8 == 5) with
    | true =>
      have mx:=hj h5
      have:=maxI_ge hg
      refine ⟨?_, by lia⟩
      unfold L_law_goals at hg
      rw [h6] at hg
      simp only [bne, h5, Bool.not_true, Bool.false_eq_true, if_false] at hg
      split at hg
      · rw [List.mem_singleton.mp hg]; lia
      · split at hg
        · rw [List.mem_singleton.mp hg]; lia
        · simp only [List.mem_cons, List.not_mem_nil, or_false] at hg
          rcases hg with rfl | rfl <;> lia
    | false =>
      unfold L_law_goals at hg
      rw [h6] at hg
      simp only [bne, h5, Bool.not_false, Bool.false_eq_true, if_false, if_true] at hg
      rw [List.mem_singleton.mp hg]
      lia
theorem cell_eq {l:List Row} {last:Row} (h0:0 < l.length) (hl:l.getLast? = some last) (h:firstW (rowW l) (numR l) = none) (hr:([6, 22]:List Int).any (· == last.c) = true) {i:Nat} {r:Row} (hi:l[i]? = some r) :
    cellFault (L_written_cells l) (i, r) = if cellW l (i, r) = true then some ⟨64, "cell not written", some (i:Int)⟩ else none:=by
  have hg:=goals_in hl h hr
  have hK:∀ r ∈ l, KC r:=fun r m => by
    obtain ⟨j, hj⟩:=List.mem_iff_getElem?.mp m
    exact KC.of (rowW_none (all_none h hj)).1
  have hc:∀ r ∈ l, ([2, 3]:List Int).any (· == r.c) = true → 0 ≤ r.k ∧ r.k < 16:=fun r m q => by
    obtain ⟨j, hj⟩:=List.mem_iff_getElem?.mp m
    obtain ⟨_, ⟨_, _, k0⟩, kk, _⟩:=rowW_none (all_none h hj)
    have:=kk (by
      have:([96, 97, 2, 3]:List Int).any (· == r.c) = (([96, 97]:List Int).any (· == r.c) || ([2, 3]:List Int).any (· == r.c)):=by simp [Bool.or_assoc]
      rw [this, q, Bool.or_true])
    lia
  have hlt:i < l.length:=(List.getElem?_eq_some_iff.mp hi).1
  obtain ⟨hk, ⟨_, _, k0⟩, kk, _⟩:=rowW_none (all_none h hi)
  have K:=KC.of hk
  unfold cellFault cellW
  simp only
  rw [read_eq K]
  cases hw:([96, 97]:List Int).any (· == r.c) with
  | false =>
    rw [if_neg (show ¬ (decide ((0:Int) ≤ if false = true then r.k else -1) && (Builtin.bitAnd (Int.fdiv ((L_written_cells l).getD i 0) (2 ^ Int.toNat (if false = true then r.k else -1))) 1 == 0)) = true by simp)]
    rfl
  | true =>
    have:=kk (by
      have:([96, 97, 2, 3]:List Int).any (· == r.c) = (([96, 97]:List Int).any (· == r.c) || ([2, 3]:List Int).any (· == r.c)):=by simp [Bool.or_assoc]
      rw [this, hw, Bool.true_or])
    obtain ⟨kn, ek⟩:=Int.eq_ofNat_of_zero_le k0
    have eM:(L_written_cells l).getD i 0 = ((mask (Bb l i):Nat):Int):=by
      rw [written_cells_eq hg h0 hK hc]
      simp [List.getD, hlt]
    rw [if_pos rfl, eM, ek, mask_bit _ kn (by lia), decide_eq_true (Int.natCast_nonneg kn), Bool.true_and, Bool.true_and]
    have:(!(Bb l i kn)) = !((((waysOf l i).filter fun wr => !(wr.any (· == (kn:Int)))).map wrP).isEmpty):=by
      congr 1
      unfold Bb
      rw [Bool.eq_iff_iff, List.all_eq_true]
      rw [List.isEmpty_iff, List.map_eq_nil_iff, List.filter_eq_nil_iff]
      constructor
      · intro h a m; rw [h a m]; decide
      · intro h a m
        have:=h a m
        simpa using this
    rw [this]
theorem firstCell {l:List Row} {M:List Int} (L:List (Nat × Row)) (h:∀ p ∈ L, cellFault M p = if cellW l p = true then some ⟨64, "cell not written", some (p.1:Int)⟩ else none):firstF (cellFault M) L = (L.find? (cellW l)).map fun p => ⟨64, "cell not written", some (p.1:Int)⟩:=by
  induction L with
  | nil => rfl
  | cons p L ih =>
    unfold firstF
    rw [h p (.head _), List.find?_cons]
    cases cellW l p with
    | true => rfl
    | false => exact ih fun q m => h q (.tail _ m)
theorem facts_of {l:List Row} {first last:Row} (len:l.length ≤ 12) (fst:l[0]? = some first) (lst:l.getLast? = some last) (oct:OctFacts l first last):LawFacts l first last:=by
  have h0:0 < l.length:=(List.getElem?_eq_some_iff.mp fst).1
  have hlast:l[l.length - 1]? = some last:=by rw [← List.getLast?_eq_getElem?]; exact lst
  refine ⟨len, fst, lst, goals_in lst, fun p hp hn => ?_, ?_, fun s i e => ?_, fun e => ?_, fun r J => known_eq r.c, oct⟩
  · obtain ⟨i, r⟩:=p
    have hi:=numR_at hp
    have:rowW l (i, r) = none:=by
      rw [rowFault_eq] at hn
      exact Option.map_eq_none_iff.mp hn
    obtain ⟨hk, ⟨_, _, k0⟩, kk, _⟩:=rowW_none this
    rw [written_eq (KC.of hk)]
    split
    · rename_i q
      have:=kk (by
        have:([96, 97, 2, 3]:List Int).any (· == r.c) = (([96, 97]:List Int).any (· == r.c) || ([2, 3]:List Int).any (· == r.c)):=by simp [Bool.or_assoc]
        rw [this, q, Bool.or_true])
      refine (?_:r.k ≤ 1000)
      lia
    · decide
  · unfold L_check_classic L_law_fault
    rw [first_eq]
    cases hf:firstW (rowW l) (numR l) with
    | some x => rfl
    | none =>
      have K:=KC.of (rowW_none (all_none hf hlast)).1
      have er:L_is_return last = ([6, 22]:List Int).any (· == last.c):=K.re
      rw [er]
      cases hr:([6, 22]:List Int).any (· == last.c) with
      | false => rfl
      | true =>
        refine (?_:thenO (firstF (cellFault (L_written_cells l)) (numR l)) (.ok (.lst (l.map ordP))) = _)
        rw [firstCell (l:=l) (numR l) fun p hp => cell_eq h0 lst hf hr (numR_at hp)]
        rw [if_neg (show ¬ (!true) = true by decide)]
        cases (numR l).find? (cellW l) with
        | none => rfl
        | some p => rfl
  · unfold L_law_fault at e
    cases hf:firstW (rowW l) (numR l) with
    | some x =>
      rw [hf] at e
      obtain ⟨⟨j, r⟩, s'⟩:=x
      cases e
      have:=firstW_some hf
      rcases rowW_cases l j r with ⟨s2, e2, ok⟩ | ⟨e2, _⟩
      · rw [this] at e2; cases e2; exact ok
      · rw [this] at e2; cases e2
    | none =>
      rw [hf] at e
      simp only at e
      split at e
      · cases e; kernel_rfl
      · split at e
        · cases e; kernel_rfl
        · cases e
  · unfold L_law_fault at e
    cases hf:firstW (rowW l) (numR l) with
    | some x => rw [hf] at e; cases e
    | none =>
      rw [hf] at e
      simp only at e
      split at e
      · cases e
      · rename_i hr
        have hr:([6, 22]:List Int).any (· == last.c) = true:=by
          cases hb:([6, 22]:List Int).any (· == last.c) with
          | true => rfl
          | false => exact absurd (by rw [hb]; rfl) hr
        have hg:=goals_in lst hf hr
        have hK:∀ r ∈ l, KC r:=fun r m => by
          obtain ⟨j, hj⟩:=List.mem_iff_getElem?.mp m
          exact KC.of (rowW_none (all_none hf hj)).1
        have hc:∀ r ∈ l, ([2, 3]:List Int).any (· == r.c) = true → 0 ≤ r.k ∧ r.k < 16:=fun r m q => by
          obtain ⟨j, hj⟩:=List.mem_iff_getElem?.mp m
          obtain ⟨_, ⟨_, _, k0⟩, kk, _⟩:=rowW_none (all_none hf hj)
          have:=kk (by
            have:([96, 97, 2, 3]:List Int).any (· == r.c) = (([96, 97]:List Int).any (· == r.c) || ([2, 3]:List Int).any (· == r.c)):=by simp [Bool.or_assoc]
            rw [this, q, Bool.or_true])
          lia
        refine ⟨fun t ht => ?_, fun r m => ?_, fun p hp g hgm => ?_, written_due hg h0 hK hc, reached_eq hg h0 hK⟩
        · obtain ⟨v, hv, rfl⟩:=List.mem_map.mp ht
          exact paths_le l hg len _ _ _ _ h0 (List.mem_range.mp hv)
        · rw [written_eq (hK r m)]
          split
          · rename_i q
            have:=hc r m q
            lia
          · decide
        · obtain ⟨i, r⟩:=p
          have hi:=numR_at hp
          rw [goals_eq (hK r (List.mem_of_getElem? hi))] at hgm
          have:=hg i r hi g hgm
          lia
theorem fdivE (x:Int) (n:Nat):Int.fdiv x (n:Int) = x / (n:Int):=Int.fdiv_eq_ediv_of_nonneg _ (Int.natCast_nonneg n)
theorem fmodE (x:Int) (n:Nat):Int.fmod x (n:Int) = x % (n:Int):=Int.fmod_eq_emod_of_nonneg _ (Int.natCast_nonneg n)
theorem octR_eq (r:Row):octR r = [r.c % 256, r.c / 256, r.t, r.f, r.k % 256, r.k / 256 % 256, r.k / 65536 % 256, r.k / 16777216 % 256]:=by
  have e:octR r = [Int.fmod r.c 256, Int.fdiv r.c 256, r.t, r.f, Int.fmod (Int.fdiv r.k 1) 256, Int.fmod (Int.fdiv r.k 256) 256, Int.fmod (Int.fdiv r.k 65536) 256, Int.fmod (Int.fdiv r.k 16777216) 256]:=rfl
  rw [e]
  simp only [show ∀ x, Int.fmod x 256 = x % 256 from fun x => fmodE x 256, show ∀ x, Int.fdiv x 256 = x / 256 from fun x => fdivE x 256, show ∀ x, Int.fdiv x 65536 = x / 65536 from fun x => fdivE x 65536, show ∀ x, Int.fdiv x 16777216 = x / 16777216 from fun x => fdivE x 16777216, show ∀ x, Int.fdiv x 1 = x / 1 from fun x => fdivE x 1, Int.ediv_one]
theorem little2 (x:Int):L_little x 2 = [x % 256, x / 256 % 256]:=by
  have e:L_little x 2 = [Builtin.bitAnd (Int.fdiv x 1) 255, Builtin.bitAnd (Int.fdiv x 256) 255]:=rfl
  rw [e]
  simp only [bitAnd_m8, show ∀ x, Int.fdiv x 256 = x / 256 from fun x => fdivE x 256, show ∀ x, Int.fdiv x 1 = x / 1 from fun x => fdivE x 1, Int.ediv_one]
theorem little4 (x:Int):L_little x 4 = [x % 256, x / 256 % 256, x / 65536 % 256, x / 16777216 % 256]:=by
  have e:L_little x 4 = [Builtin.bitAnd (Int.fdiv x 1) 255, Builtin.bitAnd (Int.fdiv x 256) 255, Builtin.bitAnd (Int.fdiv x 65536) 255, Builtin.bitAnd (Int.fdiv x 16777216) 255]:=rfl
  rw [e]
  simp only [bitAnd_m8, show ∀ x, Int.fdiv x 256 = x / 256 from fun x => fdivE x 256, show ∀ x, Int.fdiv x 65536 = x / 65536 from fun x => fdivE x 65536, show ∀ x, Int.fdiv x 16777216 = x / 16777216 from fun x => fdivE x 16777216, show ∀ x, Int.fdiv x 1 = x / 1 from fun x => fdivE x 1, Int.ediv_one]
theorem goodR_iff {r:Row} (h:goodR r = true):(0 ≤ r.t ∧ r.t < 256) ∧ (0 ≤ r.f ∧ r.f < 256) ∧ 0 ≤ r.k ∧ r.k < 4294967296:=by
  unfold goodR at h
  simp only [Bool.and_eq_true, decide_eq_true_eq] at h
  obtain ⟨a, b, c, d⟩:=h
  exact ⟨a, b, c, d⟩
theorem goodR_not {r:Row} (h:goodR r = false):¬ ((0 ≤ r.t ∧ r.t < 256) ∧ (0 ≤ r.f ∧ r.f < 256) ∧ 0 ≤ r.k ∧ r.k < 4294967296):=fun a => by
  have:goodR r = true:=by
    unfold goodR
    simp only [Bool.and_eq_true, decide_eq_true_eq]
    exact ⟨a.1, a.2.1, a.2.2.1, a.2.2.2⟩
  rw [h] at this; cases this
theorem field_none {x:Int} {n:Int} (h0:0 ≤ x) (h1:x < (1:Int) * 2 ^ Int.toNat n):L_check_field x n = none:=by
  unfold L_check_field
  rw [if_neg]
  simp only [Bool.not_eq_true', Bool.and_eq_false_iff, decide_eq_false_iff_not]
  lia
theorem field_some {x:Int} {n:Int} (h:¬ (0 ≤ x ∧ x < (1:Int) * 2 ^ Int.toNat n)):L_check_field x n = some ⟨52, Str.ofString "field out of range", none⟩:=by
  unfold L_check_field
  rw [if_pos]
  simp only [Bool.not_eq_true', Bool.and_eq_false_iff, decide_eq_false_iff_not]
  lia
theorem p16:(1:Int) * 2 ^ Int.toNat (16:Int) = 65536:=by decide
theorem p8:(1:Int) * 2 ^ Int.toNat (8:Int) = 256:=by decide
theorem p32:(1:Int) * 2 ^ Int.toNat (32:Int) = 4294967296:=by decide
theorem byteArr_app (a b:List Int):byteArr a ++ byteArr b = byteArr (a ++ b):=by simp [byteArr]
theorem octR_rng {r:Row} (h:goodR r = true) (hc:0 ≤ r.c ∧ r.c < 65536):KBa.In (octR r):=by
  obtain ⟨a, b, c⟩:=goodR_iff h
  rw [octR_eq]
  intro i hi
  simp only [List.mem_cons, List.not_mem_nil, or_false] at hi
  rcases hi with rfl | rfl | rfl | rfl | rfl | rfl | rfl | rfl <;> lia
theorem pack_oct {r:Row} (hc:0 ≤ r.c ∧ r.c < 65536):packB r = byteArr (octR r):=by
  unfold packB
  rw [byteArr_app, byteArr_app, octR_eq, little2, little4, show r.c / 256 % 256 = r.c / 256 by lia]
  rfl
noncomputable def flL (ks:List Int):Int:=(List.range ks.length).foldl (fun w (i:Nat) => w + ks.getD (Int.toNat (i:Int)) 0 * 2 ^ Int.toNat (8 * (i:Int))) 0
theorem from_little_ints (b:Array UInt8):L_from_little b = flL (KBw.bInts b):=by
  unfold L_from_little flL
  rw [KBw.ints_length]
  rfl
theorem flL2 (a b:Int):flL [a, b] = a + b * 256:=by
  have e:flL [a, b] = 0 + a * 1 + b * 256:=rfl
  rw [e]; lia
theorem flL4 (a b c d:Int):flL [a, b, c, d] = a + b * 256 + c * 65536 + d * 16777216:=by
  have e:flL [a, b, c, d] = 0 + a * 2 ^ Int.toNat (8 * ((0:Nat):Int)) + b * 2 ^ Int.toNat (8 * ((1:Nat):Int)) + c * 2 ^ Int.toNat (8 * ((2:Nat):Int)) + d * 2 ^ Int.toNat (8 * ((3:Nat):Int)):=rfl
  rw [e, show (2:Int) ^ Int.toNat (8 * ((0:Nat):Int)) = 1 from by decide, show (2:Int) ^ Int.toNat (8 * ((1:Nat):Int)) = 256 from by decide, show (2:Int) ^ Int.toNat (8 * ((2:Nat):Int)) = 65536 from by decide, show (2:Int) ^ Int.toNat (8 * ((3:Nat):Int)) = 16777216 from by decide]
  lia
theorem picked_at {b:Array UInt8} {i j:Nat} (hj:j ≤ b.size):KBw.bInts (KBy.picked b (some (i:Int)) (some (j:Int))) = ((KBw.bInts b).drop i).take (j - i):=by
  rw [KBc.ints_picked rfl]
  simp only [Option.elim, clipN, KBw.ints_length]
  rw [Nat.min_eq_left hj]
  by_cases h:i ≤ b.size
  · rw [Nat.min_eq_left h]
  · have:j - i = 0:=by lia
    rw [this, show j - min i b.size = 0 by lia]
    simp
theorem unpack_row {b:Array UInt8} {i:Nat} {r:Row} {rest:List Int} (hd:(KBw.bInts b).drop i = octR r ++ rest) (h:goodR r = true) (hc:0 ≤ r.c ∧ r.c < 65536):unpackRow b (i:Int) = r:=by
  have hlen:i + 8 ≤ b.size:=by
    have:=congrArg List.length hd
    rw [List.length_drop, KBw.ints_length, List.length_append, octR_len] at this
    lia
  obtain ⟨a1, a2, a3⟩:=goodR_iff h
  have get:∀ j x, (octR r)[j]? = some x → (KBw.bInts b).getD (i + j) 0 = x:=fun j x hx => by
    have hj:j < (octR r).length:=(List.getElem?_eq_some_iff.mp hx).1
    have:((KBw.bInts b).drop i)[j]? = some x:=by rw [hd, List.getElem?_append_left hj]; exact hx
    rw [List.getElem?_drop] at this
    simp [List.getD, this]
  unfold unpackRow
  have e1:L_from_little (KBy.picked b (some (i:Int)) (some ((i:Int) + 2))) = r.c:=by
    rw [from_little_ints, show ((i:Int) + 2) = ((i + 2:Nat):Int) from rfl, picked_at (by lia), hd, show i + 2 - i = 2 by lia, octR_eq]
    refine (?_:flL [r.c % 256, r.c / 256] = r.c)
    rw [flL2]; lia
  have e2:L_from_little (KBy.picked b (some ((i:Int) + 4)) (some ((i:Int) + 8))) = r.k:=by
    rw [from_little_ints, show ((i:Int) + 4) = ((i + 4:Nat):Int) from rfl, show ((i:Int) + 8) = ((i + 8:Nat):Int) from rfl, picked_at (by lia), show i + 8 - (i + 4) = 4 by lia, ← List.drop_drop, hd, octR_eq]
    refine (?_:flL [r.k % 256, r.k / 256 % 256, r.k / 65536 % 256, r.k / 16777216 % 256] = r.k)
    rw [flL4]; lia
  have e3:(KBw.bInts b).getD (Int.toNat ((i:Int) + 2)) 0 = r.t:=get 2 r.t (by rw [octR_eq]; rfl)
  have e4:(KBw.bInts b).getD (Int.toNat ((i:Int) + 3)) 0 = r.f:=get 3 r.f (by rw [octR_eq]; rfl)
  rw [e1, e2, e3, e4]
theorem joinB_app (bs:List (Array UInt8)) (a:Array UInt8):bs.foldl (· ++ ·) a = a ++ joinB bs:=by
  induction bs generalizing a with
  | nil =>
    simp [joinB]
  | cons b bs ih =>
    rw [List.foldl_cons, ih (a ++ b)]
    unfold joinB
    rw [List.foldl_cons, ih (#[] ++ b)]
    simp [joinB]
theorem join_oct {l:List Row} (h:∀ r ∈ l, packB r = byteArr (octR r)):joinB (l.map packB) = octsOf l:=by
  induction l with
  | nil =>
    exact rfl
  | cons r l ih =>
    have ih:=ih fun x m => h x (.tail _ m)
    rw [List.map_cons]
    have:joinB (packB r :: l.map packB) = packB r ++ joinB (l.map packB):=by
      refine (?_:(packB r :: l.map packB).foldl (· ++ ·) #[] = _)
      rw [List.foldl_cons, joinB_app]
      simp
    rw [this, ih, h r (.head _)]
    unfold octsOf
    rw [byteArr_app, L_law_octets, L_law_octets, List.flatMap_cons]
theorem octs_drop:∀ (l:List Row) (i:Nat) (r:Row), l[i]? = some r → ∃ rest, (L_law_octets l).drop (8 * i) = octR r ++ rest
  | x :: l, 0, r, h => by
    cases h
    exact ⟨L_law_octets l, rfl⟩
  | x :: l, i + 1, r, h => by
    obtain ⟨rest, e⟩:=octs_drop l i r (by simpa using h)
    refine ⟨rest, ?_⟩
    rw [L_law_octets, List.flatMap_cons, ← L_law_octets, show 8 * (i + 1) = (octR x).length + 8 * i by rw [octR_len]; lia, List.drop_append, ]
    rw [List.drop_eq_nil_of_le (by lia), List.nil_append, show (octR x).length + 8 * i - (octR x).length = 8 * i by lia]
    exact e
theorem goU_all {b:Array UInt8} {l:List Row} (hs:b.size = 8 * l.length) (hu:∀ i r, l[i]? = some r → unpackRow b ((8 * i:Nat):Int) = r):∀ (n i:Nat), i + n = l.length → goU b (List.range' i n) (l.take i) = .ok (.lst (l.map ordP))
  | 0, i, h => by
    refine (?_:Except.ok (PV.lst ((l.take i).map ordP)) = _)
    rw [List.take_of_length_le (by lia)]
  | n + 1, i, h => by
    have hr:l[i]? = some l[i]:=List.getElem?_eq_getElem (by lia)
    rw [List.range'_succ]
    unfold goU
    rw [if_neg (by rw [decide_eq_true_eq, hs]; lia), hu i _ hr]
    have:=goU_all hs hu n (i + 1) (by lia)
    rw [List.take_add_one, hr] at this
    exact this
theorem goU_cut {b:Array UInt8} {N:Nat} (hs:8 * N < b.size + 8 ∧ b.size < 8 * N) (n i:Nat) (acc:List Row) (h:i + n + 1 = N) (ha:acc.length = i):goU b (List.range' i (n + 1)) acc = .error ⟨52, "half of an order", some ((N:Int) - 1)⟩:=by
  induction n generalizing i acc with
  | zero =>
    rw [show List.range' i (0 + 1) = [i] from rfl]
    unfold goU
    rw [if_pos (decide_eq_true (by lia)), ha]
    have:(i:Int) = (N:Int) - 1:=by lia
    rw [this]
  | succ n ih =>
    rw [List.range'_succ]
    unfold goU
    rw [if_neg (by rw [decide_eq_true_eq]; lia)]
    exact ih (i + 1) _ (by lia) (by rw [List.length_append, ha]; rfl)
theorem oct_facts {l:List Row} {first last:Row} (h0:0 < l.length) (hc:∀ r ∈ l, 0 ≤ r.c ∧ r.c < 65536):OctFacts l first last:=by
  have bi:(∀ r ∈ l, goodR r = true) → KBw.bInts (octsOf l) = L_law_octets l:=fun h => KBa.ints_make (octs_rng fun r m => octR_rng (h r m) (hc r m))
  have osz:(octsOf l).size = 8 * l.length:=by rw [octsOf, byteArr_size, octets_len]
  refine ⟨fun r m g => ?_, fun r m g => pack_oct (hc r m), fun r m g => octR_rng g (hc r m), fun r m g => ?_, fun r m g => ?_, fun h => join_oct fun r m => pack_oct (hc r m), fun h => ?_, fun h => ?_⟩
  · obtain ⟨a, b, c⟩:=goodR_iff g
    have d:=hc r m
    unfold L_pack
    rw [field_none d.1 (by rw [p16]; exact d.2), field_none a.1 (by rw [p8]; exact a.2), field_none b.1 (by rw [p8]; exact b.2), field_none c.1 (by rw [p32]; exact c.2)]
    rfl
  · have d:=hc r m
    have n:=goodR_not g
    unfold L_pack
    rw [field_none d.1 (by rw [p16]; exact d.2)]
    by_cases a:0 ≤ r.t ∧ r.t < 256
    · rw [field_none a.1 (by rw [p8]; exact a.2)]
      by_cases b:0 ≤ r.f ∧ r.f < 256
      · rw [field_none b.1 (by rw [p8]; exact b.2), field_some (by rw [p32]; exact fun c => n ⟨a, b, c⟩)]
        exact ⟨_, rfl, rfl⟩
      · rw [field_some (n:=8) (x:=r.f) (by rw [p8]; exact b)]
        exact ⟨_, rfl, rfl⟩
    · rw [field_some (n:=8) (x:=r.t) (by rw [p8]; exact a)]
      exact ⟨_, rfl, rfl⟩
  · have d:=hc r m
    have e:byteArr [9] ++ packB r = byteArr (9 :: octR r):=by rw [pack_oct d, byteArr_app]; rfl
    rw [e]
    have hb:KBw.bInts (byteArr (9 :: octR r)) = 9 :: octR r:=KBa.ints_make fun i hi => by
      rcases List.mem_cons.mp hi with rfl | hi
      · lia
      · exact octR_rng g d i hi
    unfold L_unpack
    rw [if_neg (by rw [decide_eq_true_eq, byteArr_size, List.length_cons, octR_len]; decide)]
    rw [show (1:Int) = ((1:Nat):Int) from rfl, unpack_row (i:=1) (r:=r) (rest:=[]) (by rw [hb, List.append_nil]; rfl) g d]
  · rw [osz, show (8 * l.length + 7) / 8 = l.length by lia, List.range_eq_range']
    refine goU_all osz (fun i r hr => ?_) l.length 0 (by lia)
    obtain ⟨rest, e⟩:=octs_drop l i r hr
    have m:=List.mem_of_getElem? hr
    exact unpack_row (by rw [bi h]; exact e) (h r m) (hc r m)
  · obtain ⟨q, hq, q0, q7⟩:∃ q:Int, Int.fmod (first.c + last.k) 7 = q ∧ 0 ≤ q ∧ q < 7:=⟨_, rfl, fmod_rng _ (by decide)⟩
    have ec:cutOf l first last = 8 * (l.length:Int) - 1 - q:=by
      unfold cutOf
      rw [osz, hq]; lia
    obtain ⟨cn, hcn⟩:∃ cn:Nat, cutOf l first last = (cn:Int):=⟨(cutOf l first last).toNat, by lia⟩
    have psz:(KBy.picked (octsOf l) none (some (cutOf l first last))).size = cn:=by
      have e:=congrArg List.length (KBc.ints_picked (b:=octsOf l) rfl none (some (cn:Int)))
      rw [KBw.ints_length] at e
      rw [hcn, e]
      simp only [Option.elim, List.length_take, List.length_drop, KBw.ints_length, clipN]
      rw [Nat.sub_zero, Nat.sub_zero, Nat.min_assoc, Nat.min_self, Nat.min_eq_left (by rw [osz]; lia)]
    refine ⟨⟨52, "half of an order", some ((l.length:Int) - 1)⟩, ?_, rfl, ?_⟩
    · rw [psz, show (cn + 7) / 8 = (l.length - 1) + 1 by lia, List.range_eq_range']
      exact goU_cut (by rw [psz]; lia) (l.length - 1) 0 [] (by lia) rfl
    · refine (?_:some ((l.length:Int) - 1) = _)
      rw [hcn, show Int.fdiv (cn:Int) 8 = (cn:Int) / 8 from fdivE _ 8]
      congr 1
      lia
theorem getD_rng {l:List Int} (h:l.all (fun x => decide (0 ≤ x) && decide (x < 65536)) = true) (i:Nat):0 ≤ l.getD i 0 ∧ l.getD i 0 < 65536:=by
  by_cases q:i < l.length
  · have e:l.getD i 0 = l[i]:=by simp [List.getD, q]
    rw [e]
    have:=List.all_eq_true.mp h _ (List.getElem_mem q)
    simp only [Bool.and_eq_true, decide_eq_true_eq] at this
    exact this
  · have e:l.getD i 0 = 0:=by simp [List.getD, q]
    rw [e]; decide
theorem row3_c (kind cn left:Int):0 ≤ (L_row3 kind cn left).c ∧ (L_row3 kind cn left).c < 65536:=by
  unfold L_row3
  split
  · refine (?_:0 ≤ kindD kind ∧ kindD kind < 65536)
    rename_i h
    rcases any5 h with rfl | rfl | rfl | rfl | rfl <;> decide
  · split
    · exact getD_rng (by decide) _
    · split
      · exact getD_rng (by decide) _
      · split
        · exact getD_rng (by decide) _
        · split
          · exact getD_rng (by decide) _
          · split
            · refine getD_rng ?_ _
              have a:=fmod_rng (Int.fdiv left 6) (m:=256) (by decide)
              have b:=fmod_rng (Int.fdiv left 6) (m:=65536) (by decide)
              simp only [List.all_cons, List.all_nil, Bool.and_true, Bool.and_eq_true, decide_eq_true_eq]
              (repeat' refine And.intro ?_ ?_) <;> first | decide | exact a.1 | exact b.1 | exact Int.lt_trans a.2 (by decide) | exact b.2 | lia
            · generalize Int.toNat (Int.fmod left 6 - 3) = i
              match i with
              | 0 => decide
              | 1 => decide
              | 2 => decide
              | i + 3 => exact (by decide:0 ≤ (0:Int) ∧ (0:Int) < 65536)
theorem row2_c (kind left lo:Int):0 ≤ (L_row2 kind left lo).c ∧ (L_row2 kind left lo).c < 65536:=by
  unfold L_row2
  split
  · refine (?_:0 ≤ (_ + _:Int) ∧ (_ + _:Int) < 65536)
    have a:∀ i, 0 ≤ (([21, 69]:List Int).getD i 0) ∧ (([21, 69]:List Int).getD i 0) ≤ 69:=fun i => match i with
      | 0 => by decide
      | 1 => by decide
      | i + 2 => (by decide:0 ≤ (0:Int) ∧ (0:Int) ≤ 69)
    have b:∀ i, 0 ≤ (([0, 8]:List Int).getD i 0) ∧ (([0, 8]:List Int).getD i 0) ≤ 8:=fun i => match i with
      | 0 => by decide
      | 1 => by decide
      | i + 2 => (by decide:0 ≤ (0:Int) ∧ (0:Int) ≤ 8)
    have a:=a (Int.toNat (kind - 3))
    have b:=b (Int.toNat (Int.fmod (Int.fdiv left (lo ^ Int.toNat 2)) 2))
    exact ⟨Int.add_nonneg a.1 b.1, Int.lt_of_le_of_lt (Int.add_le_add a.2 b.2) (by decide)⟩
  · split
    · exact (by decide:0 ≤ (5:Int) ∧ (5:Int) < 65536)
    · exact row3_c ..
theorem rows_c (sc:List Int):∀ r ∈ rowsOf sc, 0 ≤ r.c ∧ r.c < 65536:=fun r m => by
  rcases List.mem_append.mp m with m | m
  · obtain ⟨q, _, rfl⟩:=List.mem_map.mp m
    exact row2_c ..
  · rw [List.mem_singleton.mp m]
    unfold lastOf
    split <;> decide
theorem law_facts (sc:List Int):∃ first, LawFacts (rowsOf sc) first (lastOf sc):=by
  have h0:0 < (rowsOf sc).length:=by rw [rows_len]; lia
  exact ⟨_, facts_of (by rw [rows_len]; have:=cells_le sc; lia) (List.getElem?_eq_getElem h0) (rows_last sc) (oct_facts h0 (rows_c sc))⟩
end Mine
end
theorem PySem.Challenge.cw_ok0162_01_holds : PySem.Challenge.rw_ok0162_01.Holds :=
  Mine.fin fun sc _ => Mine.law_facts sc
