import PyProof.Rows.All
import Wide.All
import OpenK.AllK
import Wide.FinOn
import Lean
import PySem.Challenge.RW_pf0166_01
set_option Elab.async false
set_option maxRecDepth 100000
set_option linter.all false
set_option compiler.extract_closed false
set_option bootstrap.genMatcherCode false
set_option genSizeOfSpec false
namespace Mine
open PySem PySem.W PySem.Calls PyProof.Rows
local macro_rules | `(tactic| kd_mem) => `(tactic| first | lia | omega)
local macro_rules | `(tactic| kd_p) => `(tactic| repeat (x_close))
def aW : Lean.Syntax := Lean.Unhygienic.run `(tacticSeq| (intros; with_unfolding_all rfl))
def aX : Lean.Syntax := Lean.Unhygienic.run `(tacticSeq| with_unfolding_all exact rfl)
def aK : Lean.Syntax := Lean.Unhygienic.run `(tacticSeq| kernel_rfl)
def aL : Lean.Syntax := Lean.Unhygienic.run `(tacticSeq| kernel_rfl!)
def aA : Lean.Syntax := Lean.Unhygienic.run `(tacticSeq| with_reducible assumption)
def aI : Lean.Syntax := Lean.Unhygienic.run `(tacticSeq| (intros; first | exact rfl | rfl))
def aS : Lean.Syntax := Lean.Unhygienic.run `(tacticSeq| first | assumption | decide +kernel)
def aE : Lean.Syntax := Lean.Unhygienic.run `(tacticSeq| with_reducible exact rfl)
def aD : Lean.Syntax := Lean.Unhygienic.run `(tacticSeq| first | decide | ktr_unf)
def aY : Lean.Syntax := Lean.Unhygienic.run `(tacticSeq| first | with_reducible assumption | with_unfolding_all exact rfl)
def aU : Lean.Syntax := Lean.Unhygienic.run `(tacticSeq| ktr_unf)
def aV : Lean.Syntax := Lean.Unhygienic.run `(tacticSeq| tb_rel)
def zhU (s : String) : Array Lean.Ident := (s.splitOn " ").toArray.map fun n => Lean.mkIdent (n.splitOn "." |>.foldl (fun a b => .str a b) `_root_.Mine)
def xI (s : String) : Lean.Ident := (zhU s)[0]!
abbrev XS := Lean.TSyntax ``Lean.Parser.Tactic.tacticSeq
abbrev XT := Lean.TSyntax `tactic
def zkU : XS := Lean.Unhygienic.run `(tacticSeq| fail)
def zst (n : Lean.Ident) : XS := Lean.Unhygienic.run `(tacticSeq| refine $n ?_)
def zsr (n : Lean.Ident) : XS := Lean.Unhygienic.run `(tacticSeq| exact $n)
def xRec (n : Lean.Ident) : XS := Lean.Unhygienic.run `(tacticSeq| (refine $n ?_; tb_start))
def zpc (n : Lean.Ident) : XS := Lean.Unhygienic.run `(tacticSeq| (apply $n; decide +kernel; tb_start))
def zsq (n : Lean.Ident) : XS := Lean.Unhygienic.run `(tacticSeq| (refine $n ?_ ?_ <;> tb_start))
def zjt (ts : Array XS) : XT := Lean.Unhygienic.run `(tactic| first $[| $ts]*)
def zrA (t : XT) : XT := Lean.Unhygienic.run `(tactic| with_reducible $t:tactic)
def zqG : Lean.Term := Lean.Unhygienic.run `(_)
def zsv (t : String) : Lean.Term := if t == "_" then zqG else ⟨(xI t).raw⟩
def zss (l : List Lean.Term) : Lean.Term := match l with
 | a :: r => Lean.Syntax.mkApp a r.toArray
 | [] => zqG
def zsu (T : Lean.Term) (f : XT) : XS := Lean.Unhygienic.run `(tacticSeq| (refine (?_ : $T); $f:tactic))
def xGrp (g : String) : XS := match g.splitOn ";" with
 | [h, ns] => zsu (zss ((h.splitOn " ").map zsv)) (zjt (((zhU ns).map zst).push zkU))
 | _ => zkU
def xAt (f g : Lean.Ident) (n : Nat) : XS := let k := Lean.Syntax.mkNumLit (toString n); Lean.Unhygienic.run `(tacticSeq| first | exact Eq.refl ($f _ $k) | exact Eq.refl ($g _ $k))
def zry : XT := zrA (zjt ((("SW w H _ _ _ _ _ _;zce zsf zqb znp znq zrq zkP|EW w H _ _ _ _ _ _;znY zqU zpn zpq en eg znT zpj zpk zk7 znR zl5 znP zl4 znQ zk6 znS zqS znU|LW w H _ _ _ _ _ _;zpE zpF zov zi8|TW w H _ _ _ _ _ _;zqh zd3 zeD zrr zsl zrs zqf zhR zo2|znG w H _ _ _ _ _ _ _;zkI zqa zoR|zgY _ _ _ _;zsa zrc|zb3 w H _ _ _ _ _;zjo zrk zrl zrm zrn zro zrp zoV|zmI H _ _ _ _;akf|zcM _ _ _ _;zat zlr|Op2 w H _ _ _ _ _ _;zr7 zpQ zq9 zr zr6 zr5 zr4 zr3 zpU zpT zoF zoE zpP zpO zpW zpV znf zni zly zlv zlA zpS zpR|IfK _ _ _;zft zf3|IfB _ _ _;zfs zex|Truth w H _ _ _ _;zlM|zaP w H _ _ _ _ _;range_one zjk zol zok|UW w H _ _ _ _ _ _ _;zql zqk zqj|UWs w H _ _ _ _ _ _ _;zqi zqm|PW w H _ _ _ _ _ _;zp8 zpY|zjw _ _;znk znl|zgZ _ _;zqd".splitOn "|").toArray.map xGrp ++ (zhU "zrh zri").map zst).push zkU))
def zrB : XT := zrA (zjt (((zhU "zjx.nil memH zcW.nil Put.here Put.nil zds.nil zds.here zpD zpG vk0 vk1 vk2 vk3 vk4 vk5 vk6 vk7 vk8 bindL bindC").map zsr ++ #[zsq (xI "zjx.cons"), zpc (xI "Put.there"), zpc (xI "zds.there")] ++ (zhU "memT zqO lkT lknT").map xRec).push (zsr (xI "zrO")) |>.push zkU))
def zrz : XT := zrA (zjt (((Array.range 25).map (xAt (xI "zp") (xI "zh8"))).push zkU))
def aN : Lean.Syntax := Lean.Unhygienic.run `(tacticSeq| exact $(Lean.mkIdent `zqL) fun V V V V => by kernel_rfl)
def aQ : Lean.Syntax := Lean.Unhygienic.run `(tacticSeq| exact $(Lean.mkIdent `zqQ))
def aB : Lean.Syntax := Lean.Unhygienic.run `(tacticSeq| tb_start)
inductive Ex2 {α0 : Type} {α1 : Type} (P : α0 → α1 → Prop) : Prop
 | mk (a0 : α0) (a1 : α1) (h : P a0 a1)
inductive Ex3 {α0 : Type} {α1 : Type} {α2 : Type} (P : α0 → α1 → α2 → Prop) : Prop
 | mk (a0 : α0) (a1 : α1) (a2 : α2) (h : P a0 a1 a2)
inductive Ex4 {α0 : Type} {α1 : Type} {α2 : Type} {α3 : Type} (P : α0 → α1 → α2 → α3 → Prop) : Prop
 | mk (a0 : α0) (a1 : α1) (a2 : α2) (a3 : α3) (h : P a0 a1 a2 a3)
inductive Ex5 {α0 : Type} {α1 : Type} {α2 : Type} {α3 : Type} {α4 : Type} (P : α0 → α1 → α2 → α3 → α4 → Prop) : Prop
 | mk (a0 : α0) (a1 : α1) (a2 : α2) (a3 : α3) (a4 : α4) (h : P a0 a1 a2 a3 a4)
inductive Ex6 {α0 : Type} {α1 : Type} {α2 : Type} {α3 : Type} {α4 : Type} {α5 : Type} (P : α0 → α1 → α2 → α3 → α4 → α5 → Prop) : Prop
 | mk (a0 : α0) (a1 : α1) (a2 : α2) (a3 : α3) (a4 : α4) (a5 : α5) (h : P a0 a1 a2 a3 a4 a5)
inductive Ex7 {α0 : Type} {α1 : Type} {α2 : Type} {α3 : Type} {α4 : Type} {α5 : Type} {α6 : Type} (P : α0 → α1 → α2 → α3 → α4 → α5 → α6 → Prop) : Prop
 | mk (a0 : α0) (a1 : α1) (a2 : α2) (a3 : α3) (a4 : α4) (a5 : α5) (a6 : α6) (h : P a0 a1 a2 a3 a4 a5 a6)
inductive Ex8 {α0 : Type} {α1 : Type} {α2 : Type} {α3 : Type} {α4 : Type} {α5 : Type} {α6 : Type} {α7 : Type} (P : α0 → α1 → α2 → α3 → α4 → α5 → α6 → α7 → Prop) : Prop
 | mk (a0 : α0) (a1 : α1) (a2 : α2) (a3 : α3) (a4 : α4) (a5 : α5) (a6 : α6) (a7 : α7) (h : P a0 a1 a2 a3 a4 a5 a6 a7)
inductive Ex9 {α0 : Type} {α1 : Type} {α2 : Type} {α3 : Type} {α4 : Type} {α5 : Type} {α6 : Type} {α7 : Type} {α8 : Type} (P : α0 → α1 → α2 → α3 → α4 → α5 → α6 → α7 → α8 → Prop) : Prop
 | mk (a0 : α0) (a1 : α1) (a2 : α2) (a3 : α3) (a4 : α4) (a5 : α5) (a6 : α6) (a7 : α7) (a8 : α8) (h : P a0 a1 a2 a3 a4 a5 a6 a7 a8)
inductive zaF (p0 p1 p2 : Prop) : Prop
 | mk (h0 : p0) (h1 : p1) (h2 : p2)
inductive zbI (p0 p1 p2 p3 : Prop) : Prop
 | mk (h0 : p0) (h1 : p1) (h2 : p2) (h3 : p3)
inductive ze5 (p0 p1 p2 p3 p4 : Prop) : Prop
 | mk (h0 : p0) (h1 : p1) (h2 : p2) (h3 : p3) (h4 : p4)
inductive znA (p0 p1 p2 p3 p4 p5 : Prop) : Prop
 | mk (h0 : p0) (h1 : p1) (h2 : p2) (h3 : p3) (h4 : p4) (h5 : p5)
inductive zhW (p0 p1 p2 p3 p4 p5 p6 : Prop) : Prop
 | mk (h0 : p0) (h1 : p1) (h2 : p2) (h3 : p3) (h4 : p4) (h5 : p5) (h6 : p6)
inductive zqH (p0 p1 p2 p3 p4 p5 p6 p7 : Prop) : Prop
 | mk (h0 : p0) (h1 : p1) (h2 : p2) (h3 : p3) (h4 : p4) (h5 : p5) (h6 : p6) (h7 : p7)
inductive And9 (p0 p1 p2 p3 p4 p5 p6 p7 p8 : Prop) : Prop
 | mk (h0 : p0) (h1 : p1) (h2 : p2) (h3 : p3) (h4 : p4) (h5 : p5) (h6 : p6) (h7 : p7) (h8 : p8)
@[elab_as_elim] theorem rwL.{u} {α : Sort u} {a b : α} {motive : α → Prop} (h : a = b) (k : motive b) : motive a := Eq.ndrec k h.symm
@[elab_as_elim] theorem rwR.{u} {α : Sort u} {a b : α} {motive : α → Prop} (h : b = a) (k : motive b) : motive a := Eq.ndrec k h
local macro_rules | `(tactic| exists $e) => `(tactic| refine rwL $e ?_)
theorem zm3 {G : Prop} (h : ∀ P : Prop, (G → P) → P) : G := h G id
local macro_rules | `(tactic| kcf_m) => do
 let p := Lean.mkIdent `P
 let q := Lean.mkIdent `hP
 `(tactic| refine zm3 (fun $p $q => ?_))
local macro_rules | `(tactic| kcj_m) => do
 let p := Lean.mkIdent `P
 let q := Lean.mkIdent `hP
 `(tactic| (refine $q ?_; clear $q $p))
local macro_rules | `(tactic| kpf_c) => `(tactic| (kernel_rfl))
noncomputable abbrev pw := PySem.Challenge.pw_pf0166_01
inductive AV where
 | none
 | bool (b : Bool)
 | int (i : Int)
 | str (x : Str)
 | raw (v : Value)
 | tup (xs : List AV)
 | lst (xs : List AV)
 | fset (S : Int → Bool)
 | mset (S : Int → Bool)
 | dcti (ks : List Int) (vs : List AV)
 | dctp (ks : List (List Int)) (vs : List AV)
 | obj (c : Addr) (ns : List Str) (vs : List AV)
 | meth (f : Value) (self : AV)
 | loc (k : Nat)
 | rng (a b c : Int)
 | at (p : Addr) (x : AV)
noncomputable abbrev zaq := Nat → Option Addr
noncomputable abbrev zau := Addr → Prop
def zaL (Y : zau) (β : zaq) (a : Addr) : Prop := ¬ Y a ∧ ∀ k, β k ≠ some a
noncomputable def zeg : List Nat := [7, 15, 31, 63, 127]
structure TOk (t : SetTable) : Prop where
 mask : t.mask ∈ zeg
 load : 5 * t.fill < 3 * t.mask
 rising : t.place.toList.Pairwise (· < ·)
 plain : t.plain = true
structure zad (w : World) (es : Array (Int × Value)) (t : SetTable) (S : Int → Bool) : Prop where
 ok : TOk t
 size : t.place.size = es.size
 small : es.size ≤ 16
 allInts : ∀ e ∈ es.toList, Ex2 fun i tk => zaF (e = (i, .int i tk)) (0 ≤ i) (i < 16)
 mem : ∀ i, S i = true ↔ ∃ e ∈ es.toList, ∃ tk, e.2 = .int i tk
 nodup : (es.toList.map (fun V => V.1)).Nodup
 led : t.led = !w.params.followText "set-order"
inductive zgL (w : World) (o : Obj) (T : String) (S : Int → Bool) : Prop
 | mk (es : Array (Int × Value)) (ep : Nat) (t : SetTable) (e : o = { cls := .type T, dict := Option.none, data := .set es ep t, slots := #[] }) (D : zad w es t S)
noncomputable abbrev kI (w : World) := intKind pw w
noncomputable abbrev kP (w : World) := tupleKind (intKind pw w)
inductive zgF : List Str → List Value → List DictEntry → Prop
 | nil : zgF [] [] []
 | cons {x t v hs ks vs es} : zgF ks vs es → zgF (x :: ks) (v :: vs) (⟨hs, .str x t, v⟩ :: es)
def ziO (h : Heap) (d : Addr) (ks : List Str) (vs : List Value) : Prop := Ex2 fun es n => zaF (h.get? d = some (dictOf es n)) (es.length ≤ 900) (zgF ks vs es)
inductive zrL (K : Heap → Addr → Array Value → Nat → Prop) (h : Heap) (Y : zau) (β : zaq) (P : List Value → Prop) (v : Value) : Prop
 | mk (a : Addr) (vs : Array Value) (n : Nat) (e : v = .ref a) (t : K h a vs n) (av : zaL Y β a) (l : P vs.toList)
inductive FsR (h : Heap) (Y : zau) (β : zaq) (P : Obj → Prop) (v : Value) : Prop
 | mk (a : Addr) (o : Obj) (e : v = .ref a) (t : h.get? a = some o) (f : P o) (av : zaL Y β a)
inductive DciR (w : World) (h : Heap) (Y : zau) (β : zaq) (ks : List Int) (P : List Value → Prop) (v : Value) : Prop
 | mk (a : Addr) (kvs : List (Int × Value)) (e : v = .ref a) (sm : (a == sysModules) = false) (hd : h.DictOf (kI w) a kvs) (av : zaL Y β a) (k : kvs.map (fun V => V.1) = ks) (l : P (kvs.map (fun V => V.2)))
inductive DcpR (w : World) (h : Heap) (Y : zau) (β : zaq) (ks : List (List Int)) (P : List Value → Prop) (v : Value) : Prop
 | mk (a : Addr) (xs : List (List Int × Addr × Value)) (e : v = .ref a) (sm : (a == sysModules) = false) (hd : h.DictOfH (kP w) a xs) (av : zaL Y β a) (kv : ∀ x ∈ xs, zaL Y β x.2.1) (k : xs.map (fun V => V.1) = ks) (l : P (xs.map (fun V => V.2.2)))
inductive ObjR (h : Heap) (Y : zau) (β : zaq) (c : Addr) (ns : List Str) (P : List Value → Prop) (v : Value) : Prop
 | mk (a d : Addr) (us : List Value) (e : v = .ref a) (t : h.get? a = some (instObj c d)) (n : ziO h d ns us) (av : zaL Y β a) (dv : zaL Y β d) (l : P us)
inductive MetR (h : Heap) (Y : zau) (β : zaq) (f : Value) (P : Value → Prop) (v : Value) : Prop
 | mk (a : Addr) (u : Value) (e : v = .ref a) (t : h.get? a = some (methodObj f u)) (av : zaL Y β a) (r : P u)
inductive RngR (h : Heap) (Y : zau) (β : zaq) (a b c : Int) (v : Value) : Prop
 | mk (p : Addr) (t u x : Tok) (e : v = .ref p) (r : IsRange h p a b c t u x) (av : zaL Y β p)
inductive zrD (P : Value → Prop) (R : List Value → Prop) (vs : List Value) : Prop
 | mk (v : Value) (r : List Value) (e : vs = v :: r) (p : P v) (l : R r)
mutual
noncomputable def Rep (w : World) (h : Heap) (Y : zau) (β : zaq) : AV → Value → Prop
 | .none, v => v = .none
 | .bool b, v => v = .bool b
 | .int i, v => ∃ t, v = .int i t
 | .str x, v => ∃ t, v = .str x t
 | .raw u, v => v = u
 | .tup xs, v => zrL IsT h Y β (zan w h Y β xs) v
 | .lst xs, v => zrL IsL h Y β (zan w h Y β xs) v
 | .fset S, v => FsR h Y β (fun o => zgL w o "frozenset" S) v
 | .mset S, v => FsR h Y β (fun o => zgL w o "set" S) v
 | .dcti ks vs, v => DciR w h Y β ks (zan w h Y β vs) v
 | .dctp ks vs, v => DcpR w h Y β ks (zan w h Y β vs) v
 | .obj c ns vs, v => ObjR h Y β c ns (zan w h Y β vs) v
 | .meth f self, v => MetR h Y β f (Rep w h Y β self) v
 | .loc k, v => ∃ a, β k = some a ∧ v = .ref a
 | .rng a b c, v => RngR h Y β a b c v
 | .at p x, v => v = .ref p ∧ Rep w h Y β x v
noncomputable def zan (w : World) (h : Heap) (Y : zau) (β : zaq) : List AV → List Value → Prop
 | [], vs => vs = []
 | x :: xs, vs => zrD (Rep w h Y β x) (zan w h Y β xs) vs
end
structure zaB (h : Heap) (Y : zau) (β : zaq) (h' : Heap) (Y' : zau) (β' : zaq) : Prop where
 keep : ∀ b o, h.get? b = some o → zaL Y β b → h'.get? b = some o
 avoid : ∀ b o, h.get? b = some o → zaL Y β b → zaL Y' β' b
 beta : ∀ k a, β k = some a → β' k = some a
theorem ziO.move {h h' : Heap} {d ks vs} (n : ziO h d ks vs) (e : ∀ o, h.get? d = some o → h'.get? d = some o) : ziO h' d ks vs := by obtain ⟨es, n, ho, r, q⟩ := n; exact ⟨es, n, e _ ho, r, q⟩
theorem ziO.some {h : Heap} {d ks vs} (n : ziO h d ks vs) : ∃ o, h.get? d = some o := by obtain ⟨V, V, ho, V, V⟩ := n; exact ⟨_, ho⟩
theorem zjf {h : Heap} {a m} (n : h.Ns a m) : ∃ o, h.get? a = some o := by obtain ⟨o, V, V, e, V⟩ := n; exact ⟨o, e⟩
theorem zeX {h h' : Heap} {a m} (n : h.Ns a m) (e : ∀ o, h.get? a = some o → h'.get? a = some o) : h'.Ns a m := by obtain ⟨o, es, ep, ho, r⟩ := n; exact ⟨o, es, ep, e _ ho, r⟩
mutual
noncomputable def AV.locs (D : Nat → Bool) : AV → Prop
 | .none | .bool _ | .int _ | .str _ | .raw _ | .fset _ | .mset _ | .rng _ _ _ => True
 | .tup xs | .lst xs | .dcti _ xs | .dctp _ xs | .obj _ _ xs => AV.locsL D xs
 | .meth _ x | .at _ x => AV.locs D x
 | .loc k => D k = true
noncomputable def AV.locsL (D : Nat → Bool) : List AV → Prop
 | [] => True
 | x :: r => AV.locs D x ∧ AV.locsL D r
end
structure Mv (D : Nat → Bool) (h : Heap) (Y : zau) (β : zaq) (h' : Heap) (Y' : zau) (β' : zaq) : Prop where
 keep : ∀ b o, h.get? b = some o → zaL Y β b → h'.get? b = some o
 avoid : ∀ b o, h.get? b = some o → zaL Y β b → zaL Y' β' b
 beta : ∀ k a, D k = true → β k = some a → β' k = some a
def zrK (w : World) (D : Nat → Bool) (h : Heap) (Y : zau) (β : zaq) (h' : Heap) (Y' : zau) (β' : zaq) (x : AV) : Prop := ∀ v, x.locs D → Rep w h Y β x v → Rep w h' Y' β' x v
def zqq (w : World) (D : Nat → Bool) (h : Heap) (Y : zau) (β : zaq) (h' : Heap) (Y' : zau) (β' : zaq) (x : List AV) : Prop := ∀ v, AV.locsL D x → zan w h Y β x v → zan w h' Y' β' x v
theorem zrf {w : World} {D : Nat → Bool} {h h' : Heap} {Y Y' : zau} {β β' : zaq} (S : Mv D h Y β h' Y' β') (x : AV) : zrK w D h Y β h' Y' β' x := by
 refine AV.rec (motive_1 := zrK w D h Y β h' Y' β') (motive_2 := zqq w D h Y β h' Y' β') ?_ ?_ ?_ ?_ ?_ ?_ ?_ ?_ ?_ ?_ ?_ ?_ ?_ ?_ ?_ ?_ ?_ ?_ x
 case refine_1 => exact fun V V r => r
 case refine_2 => exact fun V V V r => r
 case refine_3 => exact fun V V V r => r
 case refine_4 => exact fun V V V r => r
 case refine_5 => exact fun V V V r => r
 case refine_6 => intro xs ih v d r; obtain ⟨a, vs, n, e, t, av, l⟩ := r; exact ⟨a, vs, n, e, S.keep _ _ t av, S.avoid _ _ t av, ih _ d l⟩
 case refine_7 => intro xs ih v d r; obtain ⟨a, vs, n, e, t, av, l⟩ := r; exact ⟨a, vs, n, e, S.keep _ _ t av, S.avoid _ _ t av, ih _ d l⟩
 case refine_8 => intro f v d r; obtain ⟨a, o, e, t, f, av⟩ := r; exact ⟨a, o, e, S.keep _ _ t av, f, S.avoid _ _ t av⟩
 case refine_9 => intro f v d r; obtain ⟨a, o, e, t, f, av⟩ := r; exact ⟨a, o, e, S.keep _ _ t av, f, S.avoid _ _ t av⟩
 case refine_10 => intro ks xs ih v d r; kcf_m; obtain ⟨a, kvs, e, sm, ⟨o, es, ep, ho, r⟩, av, k, l⟩ := r; kcj_m; exact ⟨a, kvs, e, sm, ⟨o, es, ep, S.keep _ _ ho av, r⟩, S.avoid _ _ ho av, k, ih _ d l⟩
 case refine_11 =>
  intro ks xs ih v d r
  kcf_m
  obtain ⟨a, xs, e, sm, ⟨o, es, ep, ho, r1, r2, r3, r4, r5⟩, av, kv, k, l⟩ := r
  kcj_m
  refine ⟨a, xs, e, sm, ⟨o, es, ep, S.keep _ _ ho av, r1, r2, r3, fun x hx => ?_, r5⟩, S.avoid _ _ ho av, fun x hx => ?_, k, ih _ d l⟩
  ·obtain ⟨o', items, n, ho', q⟩ := r4 x hx
   exact ⟨o', items, n, S.keep _ _ ho' (kv x hx), q⟩
  ·obtain ⟨o', items, n, ho', q⟩ := r4 x hx
   exact S.avoid _ _ ho' (kv x hx)
 case refine_12 =>
  intro c ks xs ih v d r
  obtain ⟨a, dd, us, e, t, n, av, dv, l⟩ := r
  obtain ⟨o, ho⟩ := n.some
  exact ⟨a, dd, us, e, S.keep _ _ t av, n.move (fun o e => S.keep _ _ e dv), S.avoid _ _ t av, S.avoid _ _ ho dv, ih _ d l⟩
 case refine_13 => intro f y ih v d r; obtain ⟨a, u, e, t, av, r⟩ := r; exact ⟨a, u, e, S.keep _ _ t av, S.avoid _ _ t av, ih _ d r⟩
 case refine_14 => intro k v d r; obtain ⟨a, e, r⟩ := r; exact ⟨a, S.beta _ _ d e, r⟩
 case refine_15 => intro V V V v d r; obtain ⟨p, t, u, x, e, r, av⟩ := r; exact ⟨p, t, u, x, e, S.keep _ _ r av, S.avoid _ _ r av⟩
 case refine_16 => intro p y ih v d r; exact ⟨r.1, ih _ d r.2⟩
 case refine_17 => exact fun V V r => r
 case refine_18 => intro y ys ih ihs v d r; obtain ⟨u, vs, e, p, l⟩ := r; exact ⟨u, vs, e, ih _ d.1 p, ihs _ d.2 l⟩
theorem repLM {w : World} {D : Nat → Bool} {h h' : Heap} {Y Y' : zau} {β β' : zaq} (S : Mv D h Y β h' Y' β') (x : List AV) : zqq w D h Y β h' Y' β' x := by
 induction x with
 | nil => exact fun V V r => r
 | cons y ys ih => intro v d r; obtain ⟨u, vs, e, p, l⟩ := r; exact ⟨u, vs, e, zrf S y _ d.1 p, ih _ d.2 l⟩
noncomputable def zd9 : Nat → Bool := fun V => true
theorem AV.locs_every (x : AV) : x.locs zd9 := by
 refine AV.rec (motive_1 := AV.locs zd9) (motive_2 := AV.locsL zd9) trivial (fun V => trivial) (fun V => trivial) (fun V => trivial) (fun V => trivial) (fun V i => i) (fun V i => i) (fun V => trivial) (fun V => trivial) (fun V V i => i) (fun V V i => i) (fun V V V i => i) (fun V V i => i) (fun V => rfl) (fun V V V => trivial) (fun V V i => i) trivial (fun V V a b => ⟨a, b⟩) x
theorem AV.locsL_every (x : List AV) : AV.locsL zd9 x := by
 induction x with
 | nil => trivial
 | cons y ys ih => exact ⟨y.locs_every, ih⟩
theorem zaB.mv {h h' : Heap} {Y Y' : zau} {β β' : zaq} (S : zaB h Y β h' Y' β') : Mv zd9 h Y β h' Y' β' := ⟨S.keep, S.avoid, fun k a V e => S.beta k a e⟩
theorem Rep.stays {w : World} {h h' : Heap} {Y Y' : zau} {β β' : zaq} (S : zaB h Y β h' Y' β') {x : AV} {v : Value} (r : Rep w h Y β x v) : Rep w h' Y' β' x v := zrf S.mv x v x.locs_every r
theorem zan.stays {w : World} {h h' : Heap} {Y Y' : zau} {β β' : zaq} (S : zaB h Y β h' Y' β') {xs : List AV} {vs : List Value} (r : zan w h Y β xs vs) : zan w h' Y' β' xs vs := repLM S.mv xs vs (AV.locsL_every xs) r
section

inductive zb4 where
 | list (xs : List AV)
 | dcti (ks : List Int) (vs : List AV)
 | dctp (ks : List (List Int)) (vs : List AV)
 | dctx (ks : List Int) (vs : List AV) (o : Obj)
 | inst (c : Addr) (kd : Nat)
 | ns (ks : List Str) (vs : List AV)
noncomputable abbrev Mu := List (Nat × zb4)
noncomputable abbrev zaf := List (Str × AV)
inductive zrI (h : Heap) (a : Addr) (P : List Value → Prop) : Prop
 | mk (vs : Array Value) (n : Nat) (t : IsL h a vs n) (r : P vs.toList)
inductive DciM (w : World) (h : Heap) (a : Addr) (ks : List Int) (P : List Value → Prop) : Prop
 | mk (sm : (a == sysModules) = false) (kvs : List (Int × Value)) (hd : h.DictOf (kI w) a kvs) (e : kvs.map (fun V => V.1) = ks) (r : P (kvs.map (fun V => V.2)))
inductive DcpM (w : World) (h : Heap) (Y : zau) (β : zaq) (a : Addr) (ks : List (List Int)) (P : List Value → Prop) : Prop
 | mk (sm : (a == sysModules) = false) (xs : List (List Int × Addr × Value)) (hd : h.DictOfH (kP w) a xs) (kv : ∀ x ∈ xs, zaL Y β x.2.1) (e : xs.map (fun V => V.1) = ks) (r : P (xs.map (fun V => V.2.2)))
inductive DcxM (w : World) (h : Heap) (a : Addr) (o : Obj) (ks : List Int) (P : List Value → Prop) : Prop
 | mk (sm : (a == sysModules) = false) (ho : h.get? a = some o) (kvs : List (Int × Value)) (hd : h.DictOf (kI w) a kvs) (e : kvs.map (fun V => V.1) = ks) (r : P (kvs.map (fun V => V.2)))
def zcX (w : World) (h : Heap) (Y : zau) (β : zaq) (a : Addr) : zb4 → Prop
 | .list xs => zrI h a (zan w h Y β xs)
 | .dcti ks vs => DciM w h a ks (zan w h Y β vs)
 | .dctp ks vs => DcpM w h Y β a ks (zan w h Y β vs)
 | .dctx ks vs o => DcxM w h a o ks (zan w h Y β vs)
 | .inst c kd => ∃ d, β kd = some d ∧ h.get? a = some (instObj c d)
 | .ns ks vs => ∃ us, ziO h a ks us ∧ zan w h Y β vs us
structure zd4 (w : World) (h : Heap) (Y : zau) (β : zaq) (mu : Mu) : Prop where
 dom : ∀ k, (mu.lookup k).isSome = (β k).isSome
 inj : ∀ k k' a, β k = some a → β k' = some a → k = k'
 rep : ∀ k m a, mu.lookup k = some m → β k = some a → zcX w h Y β a m
 here : ∀ k a, β k = some a → ∃ o, h.get? a = some o
 apart : ∀ k a, β k = some a → ¬ Y a
structure GS (w : World) (H : Heap) (Y : zau) (β : zaq) (mu : Mu) (s : Shared) : Prop where
 base : ∀ b o, H.get? b = some o → s.heap.get? b = some o
 bBase : ∀ k a, β k = some a → H.get? a = none
 yBase : ∀ a, Y a → H.get? a = none
 yIn : ∀ a, Y a → ∃ o, s.heap.get? a = some o
 store : zd4 w s.heap Y β mu
structure zap (β : zaq) (s : Shared) (β' : zaq) (s' : Shared) : Prop where
 keep : ∀ b o, s.heap.get? b = some o → (∀ k, β k ≠ some b) → s'.heap.get? b = some o
 beta : ∀ k a, β k = some a → β' k = some a
 fresh : ∀ k a, β' k = some a → β k = some a ∨ s.heap.get? a = none
 dom : ∀ a o, s.heap.get? a = some o → ∃ o', s'.heap.get? a = some o'
 gens : s'.gens = s.gens
 os : s'.os = s.os
theorem zap.refl (β : zaq) (s : Shared) : zap β s β s := ⟨fun V V e V => e, fun V V e => e, fun V V e => .inl e, fun V o e => ⟨o, e⟩, rfl, rfl⟩
theorem zap.toks : zap β s β { s with toks := n } := ⟨fun V V e V => e, fun V V e => e, fun V V e => .inl e, fun V o e => ⟨o, e⟩, rfl, rfl⟩
theorem zap.trans (x : zap β s β' s') (y : zap β' s' β'' s'') : zap β s β'' s'' := by
 refine ⟨fun b o e n => y.keep b o (x.keep b o e n) fun k q => ?_, fun k a e => y.beta k a (x.beta k a e), fun k a e => ?_, fun a o e => let ⟨o', e'⟩ := x.dom a o e; y.dom a o' e', y.gens.trans x.gens, y.os.trans x.os⟩
 ·rcases x.fresh k b q with q | q
  ·exact n k q
  ·replace e := (q) ▸ e; contradiction
 ·rcases y.fresh k a e with q | q
  ·exact x.fresh k a q
  ·refine .inr ?_
   cases e2 : s.heap.get? a with
   | none => rfl
   | some o => obtain ⟨o', e3⟩ := x.dom a o e2; replace e3 := (q) ▸ e3; contradiction
theorem zap.stays {β β' : zaq} {s s' : Shared} (x : zap β s β' s') (Y : zau) : zaB s.heap Y β s'.heap Y β' where
 keep b o e a := x.keep b o e a.2
 avoid b o e a := ⟨a.1, fun k q => by
  rcases x.fresh k b q with q | q
  ·exact a.2 k q
  ·replace e := (q) ▸ e; cases e⟩
 beta := x.beta
theorem zap.rep (t : zap β s β' s') (r : Rep w s.heap Y β x v) : Rep w s'.heap Y β' x v := Rep.stays (t.stays Y) r
theorem zap.repL (t : zap β s β' s') (r : zan w s.heap Y β x v) : zan w s'.heap Y β' x v := zan.stays (t.stays Y) r
structure zia (env : Env) (Y : zau) : Prop where
 fn : env.scope.kind = .function
 glob : env.globals = mainGlobals
 blt : env.builtins = builtinsNs
 locY : Y env.locals
 cellY : ∀ x c, env.cells.lookup x = some c → Y c ∧ c ≠ env.locals
 cellInj : ∀ x y c, env.cells.lookup x = some c → env.cells.lookup y = some c → x = y
def zlV (env : Env) (h : Heap) (m : Str → Option Value) (x : Str) (v : Value) : Prop := (env.kindOf x = some .local ∧ m x = some v) ∨ (env.kindOf x = some .cell ∨ env.kindOf x = some .free) ∧ ∃ c, env.cells.lookup x = some c ∧ h.IsCell c (some v)
structure zai (w : World) (env : Env) (vars : zaf) (Y : zau) (β : zaq) (h : Heap) : Prop where
 eok : zia env Y
 cells : ∀ x c, env.cells.lookup x = some c → ∃ v, h.IsCell c v
 nodup : (vars.map (fun V => V.1)).Nodup
 vars : ∃ m, h.Ns env.locals m ∧ ∀ x av, (x, av) ∈ vars → ∃ v, Rep w h Y β av v ∧ zlV env h m x v
theorem zlV.move (a : zlV env h m x v) (k1 : m x = some v → m' x = some v) (k2 : ∀ c, env.cells.lookup x = some c → ∀ o, h.get? c = some o → h'.get? c = some o) : zlV env h' m' x v := by
 exact a.imp (And.imp_right k1) (And.imp_right fun qz => qz.imp fun c qz => ⟨qz.1, qz.2.imp fun o y => ⟨k2 c qz.1 o y.1, y.2⟩⟩)
theorem zai.step {vars : zaf} (x : zai w env vars Y β s.heap) (g : zd4 w s.heap Y β mu) (t : zap β s β' s') : zai w env vars Y β' s'.heap := by
 obtain ⟨e, hcs, nd, m, n, h⟩ := x
 have k : ∀ b, Y b → ∀ o, s.heap.get? b = some o → s'.heap.get? b = some o := fun b hb o ho => t.keep b o ho fun k q => g.apart k b q hb
 refine ⟨e, fun x c hc => ?_, nd, m, zeX n (k _ e.locY), fun y av hy => ?_⟩
 ·obtain ⟨v, o, ho, hd⟩ := hcs x c hc; exact ⟨v, o, k _ (e.cellY _ _ hc).1 _ ho, hd⟩
 obtain ⟨v, r, at_⟩ := h y av hy
 exact ⟨v, t.rep r, at_.move id fun c hc => k _ (e.cellY _ _ hc).1⟩
structure zbz (A : Around) (d : Nat) : Prop where
 handled : A.handled = none
 depth : A.depth + 10 * d ≤ 600
 units : A.units + 200 * d ≤ 8000
abbrev NoE : Value → Shared → Prop := fun V V => False
section
variable (w : World) (H : Heap)
inductive EPost (Y : zau) (β : zaq) (s : Shared) (Q : AV → Mu → Prop) (v : Value) (s' : Shared) : Prop
 | mk (β' : zaq) (av : AV) (mu' : Mu) (g : GS w H Y β' mu' s') (t : zap β s β' s') (r : Rep w s'.heap Y β' av v) (q : Q av mu')
inductive zqr (Y : zau) (β : zaq) (s : Shared) (Q : Bool → Mu → Prop) (b : Bool) (s' : Shared) : Prop
 | mk (β' : zaq) (mu' : Mu) (g : GS w H Y β' mu' s') (t : zap β s β' s') (q : Q b mu')
inductive zrM (Y : zau) (β : zaq) (s : Shared) (Q : Mu → Prop) (s' : Shared) : Prop
 | mk (β' : zaq) (mu' : Mu) (g : GS w H Y β' mu' s') (t : zap β s β' s') (q : Q mu')
inductive zrH (Y : zau) (β : zaq) (s : Shared) (Q : List AV → Mu → Prop) (vs : List Value) (s' : Shared) : Prop
 | mk (β' : zaq) (avs : List AV) (mu' : Mu) (g : GS w H Y β' mu' s') (t : zap β s β' s') (r : zan w s'.heap Y β' avs vs) (q : Q avs mu')
inductive zrE (Y : zau) (β : zaq) (s : Shared) (R : AV → Mu → Prop) (r : Result) (s' : Shared) : Prop
 | mk (β' : zaq) (av : AV) (v : Value) (mu' : Mu) (e : r = .ok (.ret v)) (g : GS w H Y β' mu' s') (t : zap β s β' s') (r' : Rep w s'.heap Y β' av v) (q : R av mu')
def EW (d : Nat) (env : Env) (t : Sem Value) (vars : zaf) (mu : Mu) (Q : AV → Mu → Prop) : Prop :=
 ∀ A Y β s, zbz A d → GS w H Y β mu s → zai w env vars Y β s.heap →
  wpAny (model pw w) A t (fun v s' => EPost w H Y β s Q v s') NoE s
def TW (d : Nat) (env : Env) (t : Sem Bool) (vars : zaf) (mu : Mu) (Q : Bool → Mu → Prop) : Prop :=
 ∀ A Y β s, zbz A d → GS w H Y β mu s → zai w env vars Y β s.heap →
  wpAny (model pw w) A t (fun b s' => zqr w H Y β s Q b s') NoE s
def LW (d : Nat) (env : Env) (t : Sem (List Value)) (vars : zaf) (mu : Mu) (Q : List AV → Mu → Prop) : Prop :=
 ∀ A Y β s, zbz A d → GS w H Y β mu s → zai w env vars Y β s.heap →
  wpAny (model pw w) A t (fun vs s' => zrH w H Y β s Q vs s') NoE s
def zar (d : Nat) (f : Value) (avs : List AV) (mu : Mu) (R : AV → Mu → Prop) : Prop :=
 ∀ A Y β s vs, zbz A d → GS w H Y β mu s → zan w s.heap Y β avs vs →
  codeAny (model pw w) A (.call f ⟨vs, []⟩) (fun r s' => zrE w H Y β s R r s') s
inductive zeH where
 | next | brk | cont
 | ret (av : AV)
def zes (h : Heap) (Y : zau) (β : zaq) : zeH → Flow → Prop
 | .next, f => f = .next
 | .brk, f => f = .brk
 | .cont, f => f = .cont
 | .ret av, f => ∃ v, f = .ret v ∧ Rep w h Y β av v
structure zaD (env : Env) (β : zaq) (s : Shared) (β' : zaq) (s' : Shared) : Prop where
 keep : ∀ b o, s.heap.get? b = some o → (∀ k, β k ≠ some b) → b ≠ env.locals → (env.func.isSome = true → ∀ x, env.cells.lookup x ≠ some b) → s'.heap.get? b = some o
 beta : ∀ k a, β k = some a → β' k = some a
 fresh : ∀ k a, β' k = some a → β k = some a ∨ s.heap.get? a = none
 dom : ∀ a o, s.heap.get? a = some o → ∃ o', s'.heap.get? a = some o'
 gens : s'.gens = s.gens
 os : s'.os = s.os
inductive zd8 (env : Env) (Y : zau) (β : zaq) (s : Shared) (Q : zeH → zaf → Mu → Prop) (f : Flow) (s' : Shared) : Prop
 | mk (β' : zaq) (af : zeH) (vars' : zaf) (mu' : Mu) (g : GS w H Y β' mu' s') (vo : zai w env vars' Y β' s'.heap) (t : zaD env β s β' s') (r : zes w s'.heap Y β' af f) (q : Q af vars' mu')
inductive zqs (env : Env) (Y : zau) (β : zaq) (s : Shared) (Q : zaf → Mu → Prop) (s' : Shared) : Prop
 | mk (β' : zaq) (vars' : zaf) (mu' : Mu) (g : GS w H Y β' mu' s') (vo : zai w env vars' Y β' s'.heap) (t : zaD env β s β' s') (S : zaB s.heap Y β s'.heap Y β') (q : Q vars' mu')
def SW (d : Nat) (env : Env) (t : Sem Flow) (vars : zaf) (mu : Mu) (Q : zeH → zaf → Mu → Prop) : Prop :=
 ∀ A Y β s, zbz A d → GS w H Y β mu s → zai w env vars Y β s.heap →
  wpAny (model pw w) A t (fun f s' => zd8 w H env Y β s Q f s') NoE s
def UW (d : Nat) (env : Env) (t : Value → Sem Unit) (av : AV) (vars : zaf) (mu : Mu) (Q : zaf → Mu → Prop) : Prop :=
 ∀ A Y β s v, zbz A d → GS w H Y β mu s → zai w env vars Y β s.heap → Rep w s.heap Y β av v →
  wpAny (model pw w) A (t v) (fun V s' => zqs w H env Y β s Q s') NoE s
end
theorem zaD.refl (env : Env) (β : zaq) (s : Shared) : zaD env β s β s := ⟨fun V V e V V V => e, fun V V e => e, fun k V e => .inl e, fun V o e => ⟨o, e⟩, rfl, rfl⟩
theorem zap.st (x : zap β s β' s') (env : Env) : zaD env β s β' s' := ⟨fun b o e n V V => x.keep b o e n, x.beta, x.fresh, x.dom, x.gens, x.os⟩
theorem zaD.trans (x : zaD env β s β' s') (y : zaD env β' s' β'' s'') : zaD env β s β'' s'' := by
 refine ⟨fun b o e n n1 n2 => y.keep b o (x.keep b o e n n1 n2) (fun k q => ?_) n1 n2, fun k a e => y.beta k a (x.beta k a e), fun k a e => ?_, fun a o e => let ⟨o', e'⟩ := x.dom a o e; y.dom a o' e', y.gens.trans x.gens, y.os.trans x.os⟩
 ·rcases x.fresh k b q with q | q
  ·exact n k q
  ·replace e := (q) ▸ e; contradiction
 ·rcases y.fresh k a e with q | q
  ·exact x.fresh k a q
  ·refine .inr ?_
   cases e2 : s.heap.get? a with
   | none => rfl
   | some o => obtain ⟨o', e3⟩ := x.dom a o e2; replace e3 := (q) ▸ e3; contradiction
theorem GS.toks (g : GS w H Y β mu s) (n : Nat) : GS w H Y β mu { s with toks := n } := ⟨g.base, g.bBase, g.yBase, g.yIn, g.store⟩
def zb4.locs (D : Nat → Bool) : zb4 → Prop
 | .list xs | .dcti _ xs | .dctp _ xs | .ns _ xs | .dctx _ xs _ => AV.locsL D xs
 | .inst _ k => D k = true
theorem zb4.locs_every (m : zb4) : m.locs zd9 := by
 cases m with
 | inst => rfl
 | list xs => exact AV.locsL_every xs
 | dcti _ xs => exact AV.locsL_every xs
 | dctp _ xs => exact AV.locsL_every xs
 | ns _ xs => exact AV.locsL_every xs
 | dctx _ xs _ => exact AV.locsL_every xs
theorem zqB (S : Mv D h Y β h' Y' β') (k : ∀ o, h.get? a = some o → h'.get? a = some o) (m : zb4) (d : m.locs D) (r : zcX w h Y β a m) : zcX w h' Y' β' a m := by
 cases m with
 | list xs => obtain ⟨vs, n, l, r⟩ := r; exact ⟨vs, n, k _ l, repLM S _ _ d r⟩
 | dcti ks xs => obtain ⟨sm, kvs, ⟨o, es, ep, ho, q⟩, e, r⟩ := r; exact ⟨sm, kvs, ⟨o, es, ep, k _ ho, q⟩, e, repLM S _ _ d r⟩
 | dctp ks vs =>
  kcf_m
  obtain ⟨sm, xs, ⟨o, es, ep, ho, r1, r2, r3, r4, r5⟩, kv, e, r⟩ := r
  kcj_m
  refine ⟨sm, xs, ⟨o, es, ep, k _ ho, r1, r2, r3, fun x hx => ?_, r5⟩, fun x hx => ?_, e, repLM S _ _ d r⟩
  ·obtain ⟨o', items, n, ho', q⟩ := r4 x hx
   exact ⟨o', items, n, S.keep _ _ ho' (kv x hx), q⟩
  ·obtain ⟨o', items, n, ho', q⟩ := r4 x hx
   exact S.avoid _ _ ho' (kv x hx)
 | dctx ks xs o => obtain ⟨sm, ho', kvs, ⟨o, es, ep, ho, q⟩, e, r⟩ := r; exact ⟨sm, k _ ho', kvs, ⟨o, es, ep, k _ ho, q⟩, e, repLM S _ _ d r⟩
 | inst c kd => obtain ⟨dd, e, r⟩ := r; exact ⟨dd, S.beta _ _ d e, k _ r⟩
 | ns ks xs => obtain ⟨us, n, r⟩ := r; exact ⟨us, n.move k, repLM S _ _ d r⟩
theorem zcX.stays (S : zaB h Y β h' Y' β') (k : ∀ o, h.get? a = some o → h'.get? a = some o) (r : zcX w h Y β a m) : zcX w h' Y' β' a m := zqB S.mv k m m.locs_every r
theorem GS.grow (g : GS w H Y β mu s) (k : ∀ b o, s.heap.get? b = some o → s'.heap.get? b = some o) : GS w H Y β mu s' := by
 have S : zaB s.heap Y β s'.heap Y β := ⟨fun b o e V => k b o e, fun V V V a => a, fun V V e => e⟩
 exact ⟨fun b o e => k b o (g.base b o e), g.bBase, g.yBase, fun a h => (g.yIn a h).imp fun o e => k a o e,
  ⟨g.store.dom, g.store.inj, fun q m a e e' => zcX.stays S (fun o => k a o) (g.store.rep q m a e e'), fun q a e => (g.store.here q a e).imp fun o e => k a o e, g.store.apart⟩⟩
theorem zap.grow (k : ∀ b o, s.heap.get? b = some o → s'.heap.get? b = some o) (g : s'.gens = s.gens) (o : s'.os = s.os) : zap β s β s' :=
 ⟨fun b o e V => k b o e, fun V V e => e, fun V V e => .inl e, fun a o e => ⟨o, k a o e⟩, g, o⟩
end
section
noncomputable def zoN (s : Stmt) : DefRec := @Stmt.casesOn (fun V => DefRec) s (fun n a b V V V sc V V p => ⟨n, a, b, sc, p⟩) (fun V V V V V V V V V V => ⟨default, default, [], default, default⟩) (fun V V V V V V V V V V V => ⟨default, default, [], default, default⟩) (fun V V => ⟨default, default, [], default, default⟩) (fun V V => ⟨default, default, [], default, default⟩) (fun V V V => ⟨default, default, [], default, default⟩) (fun V V V V V V V => ⟨default, default, [], default, default⟩) (fun V V V V => ⟨default, default, [], default, default⟩) (fun V V V V V => ⟨default, default, [], default, default⟩) (fun V V V V V => ⟨default, default, [], default, default⟩) (fun V V V V V => ⟨default, default, [], default, default⟩) (fun V V V V => ⟨default, default, [], default, default⟩) (fun V V V V => ⟨default, default, [], default, default⟩) (fun V V V => ⟨default, default, [], default, default⟩) (fun V V V => ⟨default, default, [], default, default⟩) (fun V V V => ⟨default, default, [], default, default⟩) (fun V V V => ⟨default, default, [], default, default⟩) (fun V V V V V => ⟨default, default, [], default, default⟩) (fun V V V V V => ⟨default, default, [], default, default⟩) (fun V V V => ⟨default, default, [], default, default⟩) (fun V V => ⟨default, default, [], default, default⟩) (fun V V V V => ⟨default, default, [], default, default⟩) (fun V V => ⟨default, default, [], default, default⟩) (fun V V => ⟨default, default, [], default, default⟩) (fun V V => ⟨default, default, [], default, default⟩) (fun V => ⟨default, default, [], default, default⟩) (fun V => ⟨default, default, [], default, default⟩) (fun V => ⟨default, default, [], default, default⟩)
noncomputable def bodyOf (s : Stmt) : List Stmt := @Stmt.casesOn (fun V => List Stmt) s (fun V V V V V V V V V V => []) (fun V V V V V V V V V V => []) (fun V V V b V V V V V V V => b) (fun V V => []) (fun V V => []) (fun V V V => []) (fun V V V V V V V => []) (fun V V V V => []) (fun V V V V V => []) (fun V V V V V => []) (fun V V V V V => []) (fun V V V V => []) (fun V V V V => []) (fun V V V => []) (fun V V V => []) (fun V V V => []) (fun V V V => []) (fun V V V V V => []) (fun V V V V V => []) (fun V V V => []) (fun V V => []) (fun V V V V => []) (fun V V => []) (fun V V => []) (fun V V => []) (fun V => []) (fun V => []) (fun V => [])
noncomputable def nth (l : List Stmt) (i : Nat) : Stmt := l.getD i (.Pass default)
noncomputable def top (i : Nat) : DefRec := zoN (nth pw.main.body i)
noncomputable def zbi (i j : Nat) : DefRec := zoN (nth (bodyOf (nth pw.main.body i)) j)
noncomputable def zl1 (d : Data) : Option FuncData := @Data.casesOn (fun V => Option FuncData) d none (fun V => none) (fun V V => none) (fun V V => none) (fun V V V => none) (fun V V => none) (fun V => none) some (fun V => none) (fun V => none) none
noncomputable def ziW (d : Data) : Option (Array Value) := @Data.casesOn (fun V => Option (Array Value)) d none (fun V => none) (fun V V => none) (fun V V => none) (fun V V V => none) (fun V V => none) (fun V => none) (fun V => none) (fun V => none) some none
noncomputable def zqR (d : Data) : Option (List Value) := @Data.casesOn (fun V => Option (List Value)) d none (fun V => none) (fun x V => some x.toList) (fun V V => none) (fun V V V => none) (fun V V => none) (fun V => none) (fun V => none) (fun V => none) (fun V => none) none
noncomputable def zrx (v : Value) : Option Addr := @Value.casesOn (fun V => Option Addr) v none none none (fun V => none) (fun V V => none) (fun V V => none) (fun V V => none) (fun V V => none) (fun V => none) (fun V => none) some
noncomputable def znv (v : Value) : Option Str := @Value.casesOn (fun V => Option Str) v none none none (fun V => none) (fun V V => none) (fun V V => none) (fun s V => some s) (fun V V => none) (fun V => none) (fun V => none) (fun V => none)
noncomputable def zk3 (h : Heap) (v : Value) : Option Data := (zrx v).bind fun a => (h.get? a).map (·.data)
noncomputable def zg3 (h : Heap) (v : Value) : Option Str := ((zk3 h v).bind ziW).bind fun vs => (vs[1]?).bind znv
noncomputable def fnV (s : Shared) (a : Addr) : Option (FuncData × Option Str) := (s.heap.get? a).bind fun o => (zl1 o.data).map fun fd => ({ fd with doc := .none, pyModule := .none, code := .none }, zg3 s.heap fd.code)
noncomputable def fnD (s : Shared) (a : Addr) : Option (FuncData × Option Str × Option (List Value)) := (s.heap.get? a).bind fun o => (zl1 o.data).map fun fd => ({ fd with doc := .none, pyModule := .none, code := .none, defaults := .none }, zg3 s.heap fd.code, (zk3 s.heap fd.defaults).bind zqR)
noncomputable def fnR (D : DefRec) (q : Str) : Option (FuncData × Option Str) := some ({ docDef D.name D.params D.body D.scope .none .none .none with qualname := q }, some q)
noncomputable def zr2 (s : Shared) : List (Option (FuncData × Option Str)) := [fnV s 28, fnV s 35, fnV s 42, fnV s 47, fnV s 54, fnV s 59, fnV s 64, fnV s 186, fnV s 191, fnV s 196, fnV s 203, fnV s 210, fnV s 215, fnV s 222, fnV s 229, fnV s 236, fnV s 243, fnV s 250, fnV s 257, fnV s 264, fnV s 271, fnV s 278, fnV s 286, fnV s 293, fnV s 300, fnV s 307, fnV s 363, fnV s 370, fnV s 377, fnV s 384, fnV s 391, fnV s 398, fnV s 405, fnV s 412, fnV s 417, fnV s 424, fnV s 431, fnV s 438, fnV s 445, fnV s 452, fnV s 457, fnV s 462, fnV s 467, fnV s 78, fnV s 83, fnV s 88, fnV s 95, fnV s 102, fnV s 109, fnV s 152, fnV s 159, fnV s 321, fnV s 328, fnV s 335, fnV s 342, fnV s 472]
noncomputable def zsp : List (Option (FuncData × Option Str)) := [fnR (top 4) "loans_of", fnR (top 5) "meets", fnR (top 6) "may_meet", fnR (top 7) "conflicts", fnR (top 8) "is_prefix", fnR (top 9) "killed_by", fnR (top 10) "killed_at_end", fnR (top 14) "points", fnR (top 15) "successors", fnR (top 16) "predecessors", fnR (top 17) "operands_of", fnR (top 18) "operands_at", fnR (top 19) "indices_of", fnR (top 21) "joined", fnR (top 22) "behind_block", fnR (top 23) "back_to", fnR (top 24) "solve_backward", fnR (top 25) "all_facts_before", fnR (top 26) "looked_at", fnR (top 27) "written_at", fnR (top 28) "dropped_at", fnR (top 29) "turned_at", fnR (top 32) "used_locals", fnR (top 33) "is_return", fnR (top 34) "dropped_locals", fnR (top 35) "set_locals", fnR (top 38) "_law_pool", fnR (top 39) "_law_take", fnR (top 40) "_law_one", fnR (top 41) "_law_places", fnR (top 42) "_law_event", fnR (top 43) "_law_line", fnR (top 44) "_law_goals", fnR (top 45) "_law_end", fnR (top 46) "_law_later", fnR (top 47) "_law_here", fnR (top 48) "_law_is_part", fnR (top 49) "_law_lives", fnR (top 50) "_law_span", fnR (top 51) "_law_hurts", fnR (top 52) "_law_reached", fnR (top 53) "_law_derefs", fnR (top 54) "_law_right", fnR (zbi 11 0) "LoanScopes.__init__", fnR (zbi 11 1) "LoanScopes.let_on", fnR (zbi 11 2) "LoanScopes.behind", fnR (zbi 11 3) "LoanScopes.lead", fnR (zbi 11 4) "LoanScopes.keep", fnR (zbi 11 5) "LoanScopes.at", fnR (zbi 13 3) "Body.statements", fnR (zbi 13 4) "Body.terminator", fnR (zbi 36 0) "Liveness.__init__", fnR (zbi 36 1) "Liveness.use_step", fnR (zbi 36 2) "Liveness.drop_step", fnR (zbi 36 3) "Liveness.for_use", fnR (top 55) "law"]
noncomputable def obsD (s : Shared) : Option (FuncData × Option Str × Option (List Value)) := fnD s 131
noncomputable def valD : Option (FuncData × Option Str × Option (List Value)) := some ({ docDef (zbi 13 0).name (zbi 13 0).params (zbi 13 0).body (zbi 13 0).scope .none .none .none with qualname := "Body.__init__" }, some ("Body.__init__" : Str), some [.none, .none])
noncomputable def zmZ : List Addr := [112, 177, 352, 111, 176, 351, 78, 83, 88, 95, 102, 109, 131, 152, 159, 321, 328, 335, 342]
noncomputable def fragOf (s : Shared) : Frag := zmZ.filterMap fun a => (s.heap.get? a).map fun o => (a, o)
noncomputable def gl (s : Shared) (x : Str) : Option Value := s.heap.nsMap mainGlobals x
noncomputable def fI (s : Shared) (a : Addr) (x : Str) : Option (Option Value) := findIn (fragOf s) (.ref a) x
noncomputable def bi (x : String) : Option (Option Value) := some (some (.builtin x))
noncomputable def tf : Option Value := some (.type "function")
noncomputable def rf (a : Addr) : Option Value := some (.ref a)
noncomputable def znd (s : Shared) : List (Option (Option Value)) := [fI s 112 "__getattribute__", fI s 112 "__getattr__", fI s 112 "__setattr__", fI s 112 "body", fI s 112 "loans", fI s 112 "values", fI s 112 "numbers", fI s 112 "after", fI s 112 "begins", fI s 112 "kept", fI s 112 "__init__", fI s 112 "let_on", specialIn (fragOf s) (.ref 83) "__get__", fI s 112 "behind", specialIn (fragOf s) (.ref 88) "__get__", fI s 112 "lead", specialIn (fragOf s) (.ref 95) "__get__", fI s 112 "keep", specialIn (fragOf s) (.ref 102) "__get__", fI s 112 "at", specialIn (fragOf s) (.ref 109) "__get__", fI s 177 "__getattribute__", fI s 177 "__getattr__", fI s 177 "__setattr__", fI s 177 "name", fI s 177 "arg_count", fI s 177 "locals", fI s 177 "blocks", fI s 177 "spots", fI s 177 "__init__", fI s 177 "statements", specialIn (fragOf s) (.ref 152) "__get__", fI s 177 "terminator", specialIn (fragOf s) (.ref 159) "__get__", fI s 352 "__getattribute__", fI s 352 "__getattr__", fI s 352 "__setattr__", fI s 352 "used", fI s 352 "dropped", fI s 352 "put", fI s 352 "use_facts", fI s 352 "drop_facts", fI s 352 "__init__", fI s 352 "use_step", specialIn (fragOf s) (.ref 328) "__get__", fI s 352 "drop_step", specialIn (fragOf s) (.ref 335) "__get__", fI s 352 "for_use", specialIn (fragOf s) (.ref 342) "__get__"]
noncomputable def znw : List (Option (Option Value)) := [bi "object.__getattribute__", some none, bi "object.__setattr__", some none, some none, some none, some none, some none, some none, some none, some (some (.ref 78)), some (some (.ref 83)), bi "function.__get__", some (some (.ref 88)), bi "function.__get__", some (some (.ref 95)), bi "function.__get__", some (some (.ref 102)), bi "function.__get__", some (some (.ref 109)), bi "function.__get__", bi "object.__getattribute__", some none, bi "object.__setattr__", some none, some none, some none, some none, some none, some (some (.ref 131)), some (some (.ref 152)), bi "function.__get__", some (some (.ref 159)), bi "function.__get__", bi "object.__getattribute__", some none, bi "object.__setattr__", some none, some none, some none, some none, some none, some (some (.ref 321)), some (some (.ref 328)), bi "function.__get__", some (some (.ref 335)), bi "function.__get__", some (some (.ref 342)), bi "function.__get__"]
noncomputable def zne (s : Shared) : List (Option Value) := [typeIn (fragOf s) (.ref 78), typeIn (fragOf s) (.ref 83), typeIn (fragOf s) (.ref 88), typeIn (fragOf s) (.ref 95), typeIn (fragOf s) (.ref 102), typeIn (fragOf s) (.ref 109), typeIn (fragOf s) (.ref 131), typeIn (fragOf s) (.ref 152), typeIn (fragOf s) (.ref 159), typeIn (fragOf s) (.ref 321), typeIn (fragOf s) (.ref 328), typeIn (fragOf s) (.ref 335), typeIn (fragOf s) (.ref 342), gl s "loans_of", gl s "meets", gl s "may_meet", gl s "conflicts", gl s "is_prefix", gl s "killed_by", gl s "killed_at_end", gl s "points", gl s "successors", gl s "predecessors", gl s "operands_of", gl s "operands_at", gl s "indices_of", gl s "joined", gl s "behind_block", gl s "back_to", gl s "solve_backward", gl s "all_facts_before", gl s "looked_at", gl s "written_at", gl s "dropped_at", gl s "turned_at", gl s "used_locals", gl s "is_return", gl s "dropped_locals", gl s "set_locals", gl s "_law_pool", gl s "_law_take", gl s "_law_one", gl s "_law_places", gl s "_law_event", gl s "_law_line", gl s "_law_goals", gl s "_law_end", gl s "_law_later", gl s "_law_here", gl s "_law_is_part", gl s "_law_lives", gl s "_law_span", gl s "_law_hurts", gl s "_law_reached", gl s "_law_derefs", gl s "_law_right", gl s "LoanScopes", gl s "Body", gl s "Liveness", gl s "len", s.heap.nsMap builtinsNs "len", gl s "max", s.heap.nsMap builtinsNs "max", gl s "sorted", s.heap.nsMap builtinsNs "sorted", gl s "range", s.heap.nsMap builtinsNs "range", gl s "zip", s.heap.nsMap builtinsNs "zip", gl s "enumerate", s.heap.nsMap builtinsNs "enumerate", gl s "list", s.heap.nsMap builtinsNs "list", gl s "tuple", s.heap.nsMap builtinsNs "tuple", gl s "int", s.heap.nsMap builtinsNs "int", gl s "dict", s.heap.nsMap builtinsNs "dict", gl s "set", s.heap.nsMap builtinsNs "set", gl s "frozenset", s.heap.nsMap builtinsNs "frozenset", gl s "NOTHING", gl s "law"]
noncomputable def znx : List (Option Value) := [tf, tf, tf, tf, tf, tf, tf, tf, tf, tf, tf, tf, tf, rf 28, rf 35, rf 42, rf 47, rf 54, rf 59, rf 64, rf 186, rf 191, rf 196, rf 203, rf 210, rf 215, rf 222, rf 229, rf 236, rf 243, rf 250, rf 257, rf 264, rf 271, rf 278, rf 286, rf 293, rf 300, rf 307, rf 363, rf 370, rf 377, rf 384, rf 391, rf 398, rf 405, rf 412, rf 417, rf 424, rf 431, rf 438, rf 445, rf 452, rf 457, rf 462, rf 467, rf 112, rf 177, rf 352, none, some (.builtin "len"), none, some (.builtin "max"), none, some (.builtin "sorted"), none, some (.type "range"), none, some (.type "zip"), none, some (.type "enumerate"), none, some (.type "list"), none, some (.type "tuple"), none, some (.type "int"), none, some (.type "dict"), none, some (.type "set"), none, some (.type "frozenset"), rf 279, rf 472]
noncomputable def zoz (s : Shared) : List Bool := [s.heap.isNs mainGlobals, s.heap.isNs builtinsNs, s.heap.isNs cStatics, (s.heap.nsMap cStatics "sys.recursionlimit").isNone, (s.heap.get? sysModules).isSome, hasDictIn (fragOf s) 112, plainOver (fragOf s) 112, makesIn (fragOf s) 112, takesIn (fragOf s) (.ref 83) == some false, takesIn (fragOf s) (.ref 88) == some false, takesIn (fragOf s) (.ref 95) == some false, takesIn (fragOf s) (.ref 102) == some false, takesIn (fragOf s) (.ref 109) == some false, hasDictIn (fragOf s) 177, plainOver (fragOf s) 177, makesIn (fragOf s) 177, takesIn (fragOf s) (.ref 152) == some false, takesIn (fragOf s) (.ref 159) == some false, hasDictIn (fragOf s) 352, plainOver (fragOf s) 352, makesIn (fragOf s) 352, takesIn (fragOf s) (.ref 328) == some false, takesIn (fragOf s) (.ref 335) == some false, takesIn (fragOf s) (.ref 342) == some false]
noncomputable def zo8 : List Bool := [true, true, true, true, true, true, true, true, true, true, true, true, true, true, true, true, true, true, true, true, true, true, true, true]
noncomputable abbrev Obs := List (Option (FuncData × Option Str)) × Option (FuncData × Option Str × Option (List Value)) × List (Option (Option Value)) × List (Option Value) × List Bool × Option Obj × Option Str × Option Str
noncomputable def zkn (s : Shared) : Obs := (zr2 s, obsD s, znd s, zne s, zoz s, s.heap.get? 279, (gl s "SHALLOW").bind znv, (gl s "DEEP").bind znv)
noncomputable def zkT (w : World) : Obs := (zsp, valD, znw, znx, zo8, some (({ cls := .type "frozenset", dict := none, data := .set #[] 0 (.fresh 0 0 (!w.params.followText "set-order")), slots := #[] } : Obj)), some "shallow", some "deep")
def Keeps (h h' : Heap) : Prop := ∀ b o, h.get? b = some o → h'.get? b = some o
def ziN (w : World) (H : Heap) : Prop := ∀ xs : List Int, xs.length ≤ 1000 → zar w H 8 (.ref 472) [.lst (xs.map .int)] [] fun r m => r = .bool true ∧ m = []
theorem zsg : Nonempty Params := ⟨{ strHash := fun V => 0, shareClass := fun V => 0, mergeTok := id, idOf := fun V => 0, idOfShared := fun V V => 0, followText := fun V => true, idOfImm := fun V => 0 }⟩
theorem zsh : Nonempty (World × Heap × Shared) := zsg.elim fun p => ⟨⟨fun V V => 0, p⟩, ⟨#[], {}⟩, {}⟩
def Bad (p : World × Heap × Shared) : Prop := (zkn p.2.2 = zkT p.1 ∧ Keeps p.2.2.heap p.2.1) ∧ ¬ ziN p.1 p.2.1
noncomputable def wH : World × Heap × Shared := @Classical.epsilon _ zsh Bad
noncomputable def w : World := wH.1
noncomputable def H : Heap := wH.2.1
abbrev QF := zeH → zaf → Mu → Prop
abbrev QL := List AV → Mu → Prop
abbrev QA := AV → Mu → Prop
abbrev QB := Bool → Mu → Prop
abbrev QV := Value → Shared → Prop
abbrev QU := zaf → Mu → Prop
noncomputable def sH : Shared := wH.2.2
noncomputable def Kf : Frag := fragOf sH
end
section
set_option maxHeartbeats 4000000
noncomputable def qv : Program := view pw [55]
noncomputable def lsv : List Str := pw.boundNames.filter fun n => !(n == "law")
noncomputable abbrev xtv (s : Shared) : Bool := xlAt qv [] s && recOk [] s
noncomputable def zjp : List Obj → Nat → BT → BT
 | [], _, t => t
 | o :: l, n, t => zjp l (n + 1) (t.ins n o)
noncomputable def zrP (P : Params) : BT := zjp (boot_heap P).objs.toList 0 .nil
theorem boot_abs (P : Params) : absHeap (zrP P) 11 (boot_heap P).life = boot_heap P := by kpf_c
noncomputable def zot (h₀ : Heap) (s : Shared) : Bool := staticsOk (importedModules pw.main.body) h₀ s.heap && namesBound pw s.heap && gensDone s && laidKept h₀ s.heap
noncomputable def oI (n : Nat) : Value := .int n 0
noncomputable def oS (x : Str) (t : Nat) : Value := .str x t
noncomputable def ob (c : Value) (d : Data) : Obj := { cls := c, data := d }
noncomputable def tp (l : List Value) : Obj := ob (.type "tuple") (.seq (Array.mk l) 0)
noncomputable def fs (c : Value) (l : List Value) : Obj := ob c (.fields (Array.mk l))
noncomputable def dcO (l : List DictEntry) (n : Nat) : Obj := ob (.type "dict") (.dict (Array.mk l) n)
noncomputable def zgH (w : World) (x : Str) (t : Nat) (v : Value) : DictEntry := ⟨reduceHash (w.params.strHash x.cps), oS x t, v⟩
structure zdz where
 o : List Obj
 e : List DictEntry
 k : List Value
 t : Nat
 m : Value
noncomputable def zqA : Str := "/claim/cut.py"
noncomputable def zrX (D : DefRec) : List Str := (D.scope.names.filter fun p => p.2 == .local).map (fun V => V.1)
noncomputable def zsi (l : List Str) (t : Nat) : List Value := (l.zipIdx t).map fun p => oS p.1 p.2
noncomputable def znK (a t : Nat) (x q : Str) (line n fl : Nat) (b : Bool) (vs : List Value) (j : Nat) : Obj :=
 fs (.type "code") ([oS x t, oS q (t + 1), oS zqA (t + 2), oI line, oI n, oI 0, oI 0, oI fl, .ref a, .bool b, oI 181, .ref (a + 1), .none] ++ vs ++ [oI (t + 3 + j), oI line, oS zqA (t + 4 + j)])
noncomputable def frO (c d : Nat) (m : Value) : Obj := { cls := .type "frame", slots := Array.mk [some (.ref c), some (.ref 3), some (.ref d), none, some m, none, some (.ref 0)] }
noncomputable def fd0 (D : DefRec) (q : Str) : FuncData := { name := D.name, qualname := q, params := D.params, body := .stmts D.body, scope := D.scope, globals := 0, closure := [], defaults := .none, kwdefaults := .none }
noncomputable def zrR (w : World) (b col : Nat) (pre : Str) (x : zdz) (s : Stmt) (f : Bool) (df : List Value) : zdz :=
 let D := zoN s; let q := pre ++ D.name; let ls := cond f (zrX D) []; let n := ls.length; let l := s.pos.line
 let a := b + x.o.length; let d := cond df.isEmpty [] [tp df]; let c := a + d.length; let j := c + cond ls.isEmpty 2 4
 { x with
  o := x.o ++ d ++ [tp [], fs .none []] ++ cond ls.isEmpty [] [tp (zsi ls (x.t + 3)), tp []] ++ [ob .none (.func (fd0 D q)),
   znK c x.t D.name q l D.params.args.length 3 true (cond ls.isEmpty [.none, .none] [.ref (c + 2), .ref (c + 3)] ++ [.ref j]) n,
   ob (.type "function") (.func { fd0 D q with globals := mainGlobals, defaults := cond df.isEmpty .none (.ref a), pyModule := x.m, code := .ref (j + 1), builtins := builtinsNs })]
  e := x.e ++ [zgH w D.name (x.t + 5 + n) (.ref (j + 2))], k := x.k ++ [oI l, oI col, .ref (j + 1)], t := x.t + 6 + n }
noncomputable def zih (w : World) (no : List Nat) (l : List Nat) (x : zdz) : zdz := l.foldl (fun x i => zrR w 15 0 "" x (nth pw.main.body i) (!no.contains i) []) x
noncomputable def zqv (w : World) (x v : Str) (s : zdz) : zdz := { s with e := s.e ++ [zgH w x (s.t + 1) (oS v s.t)], t := s.t + 2 }
noncomputable def zkj (v : Str) (s : zdz) : zdz := { s with m := oS v s.t, t := s.t + 2 }
noncomputable def zr1 (w : World) (s : zdz) : zdz := { s with o := s.o ++ [({ cls := .type "frozenset", dict := none, data := .set #[] 0 (.fresh 0 0 (!w.params.followText "set-order")), slots := #[] } : Obj)], e := s.e ++ [zgH w "NOTHING" s.t (.ref (s.o.length + 15))], t := s.t + 1 }
noncomputable def zqP (w : World) (i : Nat) (q : Str) (fl : List (Bool × List Value)) (st : List Str) (x : zdz) : zdz :=
 let s := nth pw.main.body i; let a := x.o.length + 15; let t := x.t; let l := s.pos.line
 let e1 := zgH w "__module__" (t + 7) x.m; let e2 := zgH w "__firstlineno__" (t + 11) (.int l (t + 10))
 let M := ((bodyOf s).zip fl).foldl (fun y p => zrR w (a + 7) 4 (q ++ ".") y p.1 p.2.1 p.2.2) ⟨[], [], [], t + 12, x.m⟩
 let b := a + 7 + M.o.length; let u := M.t + st.length; let c := b + 2
 let es := M.e ++ [zgH w "__static_attributes__" u (.ref b)]
 { x with
  o := x.o ++ [tp [], fs (.type "builtin_function_or_method") [.builtin "type.__prepare__", .type "type"], dcO (e1 :: zgH w "__qualname__" (t + 9) (oS q (t + 8)) :: e2 :: es) (es.length + 3), tp [], fs .none M.k,
   znK (a + 3) (t + 2) q q l 0 0 false [.none, .none, .none] 0, frO (a + 5) (a + 2) x.m] ++ M.o ++ [tp (zsi st M.t),
   dcO (e1 :: e2 :: es ++ [zgH w "__dict__" (u + 2) (.ref (c + 1)), zgH w "__weakref__" (u + 4) (.ref (c + 2)), zgH w "__doc__" (u + 5) .none]) 4,
   { cls := .type "type", data := .cls { name := q, bases := [.type "object"], mro := [.ref c, .type "object"], ns := b + 1, qualname := q }, slots := Array.mk [none, none, some (oS q t), some (oS q (t + 8)), some (.builtin "object.__new__"), some (.bool true)] },
   fs (.type "getset_descriptor") [oS "__dict__" (u + 1), .ref c, .builtin "function.__dict__", .builtin "function.__dict__#set"],
   fs (.type "getset_descriptor") [oS "__weakref__" (u + 3), .ref c, .builtin "ExceptionGroup.__weakref__", .none],
   fs (.type "super") [.ref c, .ref c, .ref c], fs (.type "builtin_function_or_method") [.builtin "object.__init_subclass__", .ref c]]
  e := x.e ++ [zgH w q (u + 7) (.ref c)], k := x.k ++ [oI l, oI 0, .ref (a + 5)], t := u + 8 }
noncomputable def mY : Bool × List Value := (true, [])
noncomputable def mN : Bool × List Value := (false, [])
noncomputable def x0 : zdz := ⟨[], [], [], 187, oS "__main__" 164⟩
noncomputable def x1 (w : World) : zdz := zqP w 11 "LoanScopes" [mY, mN, mN, mY, mY, mY] ["after", "begins", "body", "kept", "loans", "numbers", "values"] (zih w [7, 9, 10] [4, 5, 6, 7, 8, 9, 10] (zqv w "SHALLOW" "shallow" (zqv w "DEEP" "deep" (zkj "lendcore.loans" (zih w [] [0] x0)))))
noncomputable def x2 (w : World) : zdz := zqP w 13 "Body" [(true, [.none, .none]), mY, mY, mY, mY, mY, (true, [.bool true, .none])] ["arg_count", "blocks", "locals", "name", "spots"] (zkj "lendcore.mir" (x1 w))
noncomputable def x3 (w : World) : zdz := zih w [] [21, 22, 23, 24, 25, 26, 27, 28, 29] (zkj "lendcore.flow" (zih w [14, 15, 16, 19] [14, 15, 16, 17, 18, 19] (x2 w)))
noncomputable def x4 (w : World) : zdz := zqP w 36 "Liveness" [mY, mY, mY, mY, mY] ["drop_facts", "dropped", "put", "use_facts", "used"] (zih w [] [32, 33, 34, 35] (zr1 w (zkj "lendcore.liveness" (x3 w))))
noncomputable def x5 (w : World) : zdz := zih w [46, 52, 53, 54, 55] ((List.range 18).map (· + 38)) (zkj "law_pf0166_01" (x4 w))
noncomputable def zrQ (d : Data) : List DictEntry := @Data.casesOn (fun V => List DictEntry) d [] (fun V => []) (fun V V => []) (fun e V => e.toList) (fun V V V => []) (fun V V => []) (fun V => []) (fun V => []) (fun V => []) (fun V => []) []
noncomputable def zqC (w : World) (x : zdz) : List Obj :=
 let l := (boot_heap w.params).objs.toList; let e := zgH w "__name__" 165 x.m :: (zrQ (l.getD 3 default).data).drop 1 ++ x.e
 l.take 3 ++ [dcO e e.length] ++ l.drop 4 ++ [tp [], fs .none x.k, znK 11 182 "<module>" "<module>" 1 0 0 false [.none, .none, .none] 0, frO 13 3 (oS "__main__" 164)] ++ x.o
noncomputable def stM (w : World) (os : OsState) (x : zdz) : SharedT := ⟨zjp (zqC w x) 0 .nil, (zqC w x).length, (boot_heap w.params).life, Array.mk [], boot_drawn, x.t, os⟩
noncomputable def eM : Env := { scope := pw.main.scope, locals := mainNs, globals := mainNs, cells := [], code := .ref 13, frame := some 14 }
noncomputable def cM : Code := .body pw.main.body eM
noncomputable def pM (i : Nat) : Pos := (nth pw.main.body i).pos
noncomputable def ziw (i n : Nat) : List Stmt := (pw.main.body.drop i).take n
noncomputable abbrev zoP (w : World) (n : Nat) (s : SharedT) (i k : Nat) (p : Pos) : Option (Flow × SharedT × Code × Pos) := segRunT treeTable pw w 11 (some (.ref 6)) 1 n s (piecesOf (ziw i k) eM cM p [topFrame default])
theorem preM (w : World) (os : OsState) : topGo treeTable pw w 11 (some (.ref 6)) 12 ⟨boot_heap w.params, Array.mk [], boot_drawn, boot_toks, os⟩ (topStub pw) = some ((stM w os x0).abs, ⟨denote treeTable (.body pw.main.body eM), cM, default, [topFrame default]⟩) := by kpf_c
theorem run1 (w : World) (os : OsState) : zoP w 700 (stM w os x0) 0 12 default = some (.next, stM w os (x1 w), cM, pM 11) := by kpf_c
theorem run2 (w : World) (os : OsState) : zoP w 500 (stM w os (x1 w)) 12 2 (pM 11) = some (.next, stM w os (x2 w), cM, pM 13) := by kpf_c
theorem run3 (w : World) (os : OsState) : zoP w 500 (stM w os (x2 w)) 14 16 (pM 13) = some (.next, stM w os (x3 w), cM, pM 29) := by kpf_c
theorem run4 (w : World) (os : OsState) : zoP w 600 (stM w os (x3 w)) 30 7 (pM 29) = some (.next, stM w os (x4 w), cM, pM 36) := by kpf_c
theorem run5 (w : World) (os : OsState) : zoP w 600 (stM w os (x4 w)) 37 19 (pM 36) = some (.next, stM w os (x5 w), cM, pM 55) := by kpf_c
theorem zse (w : World) (os : OsState) : (zot (boot_heap w.params) (stM w os (x5 w)).abs, openSeen qv lsv (importedModules pw.main.body) xtv true (stM w os (x5 w)).abs) = (true, openGood qv lsv) := by kpf_c
theorem zsd (w : World) (os : OsState) : zkn (stM w os (x5 w)).abs = zkT w := by kpf_c
theorem zrb : pw.main.body = ziw 0 12 ++ (ziw 12 2 ++ (ziw 14 16 ++ (ziw 30 7 ++ (ziw 37 19 ++ [])))) := by kpf_c
theorem zqN (w : World) (s : Shared) : segRun treeTable pw w 11 (some (.ref 6)) 1 1 s (blockOf pw.main.body eM cM default [topFrame default]) = some (.next, s, cM, default) := by kpf_c
theorem finM (w : World) (s : Shared) : topRun treeTable pw w 11 (some (.ref 6)) 2 s ⟨doneF .next, cM, pM 55, [topFrame default]⟩ = some s := by kpf_c
theorem zqg (w : World) (os : OsState) : topRun treeTable pw w 11 (some (.ref 6)) 2940 ⟨boot_heap w.params, Array.mk [], boot_drawn, boot_toks, os⟩ (topStub pw) = some (stM w os (x5 w)).abs := by
 refine go_top (n := 12) (N := 2928) (preM w os) (piece_block (n := 1) (N := 2927) (zqN w _) ?_)
 refine rwL zrb ?_
 exact piece_app (N := 2227) (segRun_of (run1 w os)) (piece_app (N := 1727) (segRun_of (run2 w os)) (piece_app (N := 1227) (segRun_of (run3 w os)) (piece_app (N := 627) (segRun_of (run4 w os)) (piece_app (N := 27) (segRun_of (run5 w os)) (piece_nil (topRun_mono 25 _ _ _ _ (finM w _)))))))
theorem zmP (P : Params) : ((boot_heap P).isNs mainGlobals && (Array.mk [] : Array GenState).size == 0, (boot_heap P).objs.size, (boot_heap P).nsMap mainGlobals "__annotations__") = (true, 11, some (.ref 6)) := by kpf_c
theorem zrS (w : World) (os : OsState) : ∃ s : Shared, zaF (topRun treeTable pw w 11 (some (.ref 6)) 2940 ⟨boot_heap w.params, Array.mk [], boot_drawn, boot_toks, os⟩ (topStub pw) = some s) ((zot (boot_heap w.params) s, openSeen qv lsv (importedModules pw.main.body) xtv true s) = (true, openGood qv lsv)) (zkn s = zkT w) :=
 ⟨_, zqg w os, zse w os, zsd w os⟩
theorem zrV : LeftO pw qv lsv xtv zkn zkT 5440 := fun w => by
 obtain ⟨⟨h, gs, d, k, os⟩, e, e'⟩ := Option.map_eq_some_iff.mp (boot_open (p := pw) (N := 5440) rfl rfl (fun V => rfl) w)
 obtain ⟨rfl, rfl, rfl, rfl⟩ : And (h = boot_heap w.params) (And (gs = Array.mk []) (And (d = boot_drawn) (k = boot_toks))) := by simpa only [Prod.mk.injEq] using e'
 obtain ⟨z1, z2, z3⟩ : And _ (And _ _) := by simpa only [Prod.mk.injEq] using zmP w.params
 obtain ⟨s, r, l, l3⟩ := zrS w os
 obtain ⟨l1, l2⟩ := Prod.mk.inj l
 replace r := topRun_mono 2500 _ _ _ _ r
 have t : topFrom treeTable pw w 5440 ⟨boot_heap w.params, Array.mk [], boot_drawn, boot_toks, os⟩ = some s := by
  unfold topFrom
  dsimp only
  rw [z1, z2, z3, r]
  show (match zot (boot_heap w.params) s with | true => some s | false => none) = _
  rw [l1]
 delta openEnds
 rw [e, Option.bind_some, t, Option.map_some, l2, l3]
theorem wsN : namesResolve pw = true := by kpf_c
theorem wsM : (namesMeet pw pw.main.body fun V n => attrL n) = true := by kpf_c
theorem wsL : looksOpen pw = true := by
 delta looksOpen
 refine look_both (look_both (look_both (look_both ?_ wsN) ?_) ?_) wsM
 all_goals kernel_rfl
theorem ws0 : PySem.Challenge.rw_pf0166_01.row.wellSaid = true := by
 delta OpenRow.wellSaid OpenRow.partSaid
 repeat (any_goals with_reducible refine look_both ?_ ?_)
 ·exact wsL
 all_goals kernel_rfl
theorem ws : PySem.Challenge.rw_pf0166_01.wellSaid = true := by
 delta OpenLaw.wellSaid
 repeat (any_goals with_reducible refine look_both ?_ ?_)
 ·exact ws0
 all_goals kernel_rfl
end
section

def IfB (b : Bool) (P R : Prop) : Prop := if b then P else R
theorem zfs (h : P) : IfB true P R := h
theorem zex (h : R) : IfB false P R := h
theorem ifb (h1 : b = true → P) (h2 : b = false → R) : IfB b P R := by cases b; exact h2 rfl; exact h1 rfl
section
variable {d : Nat} {env : Env} {vars : zaf} {mu : Mu}
theorem EW.run (h : EW w H d env t vars mu Q) (hA : zbz A d) (g : GS w H Y β mu s) (vo : zai w env vars Y β s.heap) (k : ∀ v s' β' av mu', GS w H Y β' mu' s' → zap β s β' s' → zai w env vars Y β' s'.heap → Rep w s'.heap Y β' av v → Q av mu' → P v s') : wpAny (model pw w) A t P NoE s :=
 wpAny_mono (h A Y β s hA g vo) (by rintro v s' ⟨β', av, mu', g', t', r, q⟩; exact k v s' β' av mu' g' t' (vo.step g.store t') r q) fun V V x => x
theorem TW.run (h : TW w H d env t vars mu Q) (hA : zbz A d) (g : GS w H Y β mu s) (vo : zai w env vars Y β s.heap) (k : ∀ b s' β' mu', GS w H Y β' mu' s' → zap β s β' s' → zai w env vars Y β' s'.heap → Q b mu' → P b s') : wpAny (model pw w) A t P NoE s :=
 wpAny_mono (h A Y β s hA g vo) (by rintro v s' ⟨β', mu', g', t', q⟩; exact k v s' β' mu' g' t' (vo.step g.store t') q) fun V V x => x
theorem LW.run (h : LW w H d env t vars mu Q) (hA : zbz A d) (g : GS w H Y β mu s) (vo : zai w env vars Y β s.heap) (k : ∀ v s' β' av mu', GS w H Y β' mu' s' → zap β s β' s' → zai w env vars Y β' s'.heap → zan w s'.heap Y β' av v → Q av mu' → P v s') : wpAny (model pw w) A t P NoE s :=
 wpAny_mono (h A Y β s hA g vo) (by rintro v s' ⟨β', av, mu', g', t', r, q⟩; exact k v s' β' av mu' g' t' (vo.step g.store t') r q) fun V V x => x
theorem EW.mono (h : EW w H d env t vars mu Q) (k : ∀ a m, Q a m → Q' a m) : EW w H d env t vars mu Q' :=
 fun A Y β s hA g vo => wpAny_mono (h A Y β s hA g vo) (by rintro V V ⟨β', av, mu', g', t', r, q⟩; exact ⟨β', av, mu', g', t', r, k _ _ q⟩) fun V V x => x
theorem TW.mono (h : TW w H d env t vars mu Q) (k : ∀ a m, Q a m → Q' a m) : TW w H d env t vars mu Q' :=
 fun A Y β s hA g vo => wpAny_mono (h A Y β s hA g vo) (by rintro V V ⟨β', mu', g', t', q⟩; exact ⟨β', mu', g', t', k _ _ q⟩) fun V V x => x
def Op1 (w : World) (H : Heap) (d : Nat) (t : Value → Sem Value) (a : AV) (mu : Mu) (Q : QA) : Prop :=
 ∀ A Y β s va, zbz A d → GS w H Y β mu s → Rep w s.heap Y β a va →
  wpAny (model pw w) A (t va) (fun v s' => EPost w H Y β s Q v s') NoE s
def Op2 (w : World) (H : Heap) (d : Nat) (t : Value → Value → Sem Value) (a b : AV) (mu : Mu) (Q : QA) : Prop :=
 ∀ A Y β s va vb, zbz A d → GS w H Y β mu s → Rep w s.heap Y β a va → Rep w s.heap Y β b vb →
  wpAny (model pw w) A (t va vb) (fun v s' => EPost w H Y β s Q v s') NoE s
def Truth (w : World) (H : Heap) (d : Nat) (a : AV) (mu : Mu) (Q : QB) : Prop :=
 ∀ A Y β s va, zbz A d → GS w H Y β mu s → Rep w s.heap Y β a va →
  wpAny (model pw w) A (truthy va) (fun b s' => zqr w H Y β s Q b s') NoE s
theorem znY {i k pos} (h : Q (.int i) mu) : EW w H d env (eval (.Constant (.int i) k pos) env) vars mu Q :=
 fun V V β V V g V => wpAny_Constant_int ⟨β, .int i, _, g.toks _, .toks, ⟨_, rfl⟩, h⟩
theorem zqU {k pos} (h : Q (.str x) mu) : EW w H d env (eval (.Constant (.str x) k pos) env) vars mu Q :=
 fun V V β V V g V => wpAny_Constant_str ⟨β, .str x, _, g.toks _, .toks, ⟨_, rfl⟩, h⟩
theorem zpn {b k pos} (h : Q (.bool b) mu) : EW w H d env (eval (.Constant (.bool b) k pos) env) vars mu Q :=
 fun V V β s V g V => wpAny_Constant_bool ⟨β, .bool b, _, g, .refl _ _, rfl, h⟩
theorem zpq {k pos} (h : Q .none mu) : EW w H d env (eval (.Constant .none k pos) env) vars mu Q :=
 fun V V β s V g V => wpAny_Constant_none ⟨β, .none, _, g, .refl _ _, rfl, h⟩
theorem wpAny_cellGet (hc : s.heap.IsCell c v) (h : Q v s) : wpAny M A (cellGet c) Q E s := by
 obtain ⟨o, ho, hd⟩ := hc
 skip
 refine wpAny_bind (wpAny_load ho ?_)
 exists hd
 exact wpAny_pure h
theorem zpH (vo : zai w env vars Y β s.heap) (hv : (x, av) ∈ vars)
  (h : ∀ v, Rep w s.heap Y β av v → Q v s) (hn : autoParam ((x == ("__classdict__" : Str)) = false) aS) : wpAny (model pw w) A (loadName env x) Q NoE s := by
 obtain ⟨e, V, V, m, n, f⟩ := vo
 obtain ⟨v, r, at_⟩ := f x av hv
 rcases at_ with ⟨hk, hm⟩ | ⟨hk | hk, c, hc, ic⟩
 ·exact wpAny_loadName_local e.fn hk n hm (h v r)
 ·exact wpAny_loadName_cell e.fn hk hc ic (h v r)
 ·exact wpAny_loadName_free e.fn hk hc ic (h v r) hn
theorem zpp {pos} (hv : (x, av) ∈ vars) (h : Q av mu)
  (hd : autoParam ((x == ("__debug__" : Str)) = false) aS) (hn : autoParam ((x == ("__classdict__" : Str)) = false) aS) : EW w H d env (eval (.Name x pos) env) vars mu Q :=
 fun V V β s V g vo => wpAny_Name (zpH vo hv (fun v r => ⟨β, _, _, g, .refl _ _, r, h⟩) hn) hd
def znE (H : Heap) (x : Str) (v : Value) : Prop :=
 (∃ mg, H.Ns mainGlobals mg ∧ mg x = some v) ∨ Ex2 fun mg mb => zbI (H.Ns mainGlobals mg) (mg x = none) (H.Ns builtinsNs mb) (mb x = some v)
def zac (w : World) (H : Heap) (x : Str) (av : AV) : Prop := ∃ v, znE H x v ∧ Rep w H (fun V => False) (fun V => none) av v
theorem GS.stays {Y : zau} {β : zaq} {s : Shared} (g : GS w H Y β mu s) : zaB H (fun V => False) (fun V => none) s.heap Y β where
 keep b o e _ := g.base b o e
 avoid b o e _ := ⟨fun hy => (Option.some_ne_none o (e.symm.trans (g.yBase b hy))).elim, fun k q => (Option.some_ne_none o (e.symm.trans (g.bBase k b q))).elim⟩
 beta := nofun
theorem zhn (g : GS w H Y β mu s) (eo : zia env Y) (hg : znE H x v) (h : Q v s) : wpAny (model pw w) A (loadGlobal env x) Q NoE s := by
 rcases hg with ⟨mg, n, e⟩ | ⟨mg, mb, n, e, nb, eb⟩
 ·exact Calls.loadGlobal_global (mg := mg) (by exists eo.glob; exact n.keeps g.base) e h
 ·exact Calls.loadGlobal_builtin (mg := mg) (mb := mb) (by exists eo.glob; exact n.keeps g.base) e (by exists eo.blt; exact nb.keeps g.base) eb h
theorem zpo {x : Str} {pos} {av : AV} {Q : QA} (hk : env.kindOf x = some .globalImplicit) (hg : zac w H x av) (h : Q av mu) (hd : autoParam ((x == ("__debug__" : Str)) = false) aS) :
  EW w H d env (eval (.Name x pos) env) vars mu Q := fun V V β s V g vo => by
 obtain ⟨v, at_, r⟩ := hg
 exact Calls.Name_function_global vo.eok.fn hk (zhn g vo.eok at_ ⟨β, _, _, g, .refl _ _, Rep.stays g.stays r, h⟩) hd
theorem znW {l op r pos} {Q : QA} (h : EW w H d env (eval l env) vars mu fun a mu1 => EW w H d env (eval r env) vars mu1 fun b mu2 => Op2 w H d (binaryOp op) a b mu2 Q) :
  EW w H d env (eval (.BinOp l op r pos) env) vars mu Q := fun A Y β s hA g vo =>
 wpAny_BinOp (h.run hA g vo fun va s1 β1 a mu1 g1 t1 vo1 ra q1 => q1.run hA g1 vo1 fun vb s2 β2 b mu2 g2 t2 vo2 rb q2 =>
  wpAny_mono (q2 A Y β2 s2 va vb hA g2 (t2.rep ra) rb) (by rintro v s' ⟨β', av, mu', g', t', r', q'⟩; exact ⟨β', av, mu', g', (t1.trans t2).trans t', r', q'⟩) fun V V x => x)
theorem zk9 {l op r pos} (h : EW w H d env (eval l env) vars mu fun a mu1 => EW w H d env (eval r env) vars mu1 fun b mu2 => Op2 w H d (compareOp op) a b mu2 Q)
  (hm : autoParam (behindInMarks op r = false) aW) : EW w H d env (eval (.Compare l [op] [r] pos) env) vars mu Q := fun A Y β s hA g vo =>
 wpAny_Compare1 (h.run hA g vo fun va s1 β1 a mu1 g1 t1 vo1 ra q1 => q1.run hA g1 vo1 fun vb s2 β2 b mu2 g2 t2 vo2 rb q2 =>
  wpAny_mono (q2 A Y β2 s2 va vb hA g2 (t2.rep ra) rb) (by rintro v s' ⟨β', av, mu', g', t', r', q'⟩; exact ⟨β', av, mu', g', (t1.trans t2).trans t', r', q'⟩) fun V V x => x) hm
theorem zlN {l op r pos whole} (h : EW w H d env (eval l env) vars mu fun a mu1 => EW w H d env (eval r env) vars mu1 fun b mu2 => Op2 w H d (compareOp op) a b mu2 fun c mu3 => Truth w H d c mu3 Q)
  (hm : autoParam (behindInMarks op r = false) aW) : TW w H d env (isTrue (.Compare l [op] [r] pos) env whole) vars mu Q := fun A Y β s hA g vo =>
 wpAny_isTrue_Compare1 (h.run hA g vo fun va s1 β1 a mu1 g1 t1 vo1 ra q1 => q1.run hA g1 vo1 fun vb s2 β2 b mu2 g2 t2 vo2 rb q2 =>
  wpAny_mono (q2 A Y β2 s2 va vb hA g2 (t2.rep ra) rb) (fun v s' ⟨β', av, mu', g', t', r', q'⟩ =>
   wpAny_mono (q' A Y β' s' v hA g' r') (by rintro b s4 ⟨β4, mu4, g4, t4, q4⟩; exact ⟨β4, mu4, g4, ((t1.trans t2).trans t').trans t4, q4⟩) fun V V x => x) fun V V x => x) hm
theorem zo4 (h : EW w H d env whole vars mu fun a mu1 => Truth w H d a mu1 Q)
  (he : autoParam (isTrue e env whole = (do let v ← whole; standAt e.pos; holding [v] (truthy v))) aW) : TW w H d env (isTrue e env whole) vars mu Q := fun A Y β s hA g vo =>
 wpAny_isTrue_value (h.run hA g vo fun v s1 β1 a mu1 g1 t1 V ra q1 =>
  wpAny_mono (q1 A Y β1 s1 v hA g1 ra) (by rintro b s4 ⟨β4, mu4, g4, t4, q4⟩; exact ⟨β4, mu4, g4, t1.trans t4, q4⟩) fun V V x => x) he
theorem zrv {x pos whole} (h : TW w H d env (isTrue x env (eval x env)) vars mu fun b mu1 => Q (!b) mu1) : TW w H d env (isTrue (.UnaryOp .Not x pos) env whole) vars mu Q := fun A Y β s hA g vo => by
 exact wpAny_bind (h.run hA g vo fun b s1 β1 mu1 g1 t1 V q1 => wpAny_pure ⟨β1, mu1, g1, t1, q1⟩)
theorem zqh {op values pos whole} (h : TW w H d env (allTrue op values env) vars mu Q) : TW w H d env (isTrue (.BoolOp op values pos) env whole) vars mu Q :=
 fun A Y β s hA g vo => wpAny_isTrue_BoolOp (h A Y β s hA g vo)
theorem zd3 (h : Q true mu) : TW w H d env (allTrue .And [] env) vars mu Q := fun V V β V V g V => wpAny_pure ⟨β, mu, g, .refl _ _, h⟩
theorem zeD (h : Q false mu) : TW w H d env (allTrue .Or [] env) vars mu Q := fun V V β V V g V => wpAny_pure ⟨β, mu, g, .refl _ _, h⟩
theorem zru {x rest} {Q : QB} (h : TW w H d env (isTrue x env (eval x env)) vars mu fun b mu1 => IfB b (TW w H d env (allTrue .And rest env) vars mu1 Q) (Q false mu1)) :
  TW w H d env (allTrue .And (x :: rest) env) vars mu Q := fun A Y β s hA g vo =>
 wpAny_allTrue_And_cons (h.run hA g vo fun b s1 β1 mu1 g1 t1 vo1 q1 => by
  cases b with
  | true => exact TW.run (Q := Q) q1 hA g1 vo1 fun b s2 β2 mu2 g2 t2 V q2 => ⟨β2, mu2, g2, t1.trans t2, q2⟩
  | false => exact ⟨β1, mu1, g1, t1, q1⟩)
theorem zsm {x rest} {Q : QB} (h : TW w H d env (isTrue x env (eval x env)) vars mu fun b mu1 => IfB b (Q true mu1) (TW w H d env (allTrue .Or rest env) vars mu1 Q)) :
  TW w H d env (allTrue .Or (x :: rest) env) vars mu Q := fun A Y β s hA g vo =>
 wpAny_allTrue_Or_cons (h.run hA g vo fun b s1 β1 mu1 g1 t1 vo1 q1 => by
  cases b with
  | false => exact TW.run (Q := Q) q1 hA g1 vo1 fun b s2 β2 mu2 g2 t2 V q2 => ⟨β2, mu2, g2, t1.trans t2, q2⟩
  | true => exact ⟨β1, mu1, g1, t1, q1⟩)
theorem znX {test body orelse pos} {Q : QA}
  (h : TW w H d env (isTrue test env (eval test env)) vars mu fun b mu1 => IfB b (EW w H d env (eval body env) vars mu1 Q) (EW w H d env (eval orelse env) vars mu1 Q)) :
  EW w H d env (eval (.IfExp test body orelse pos) env) vars mu Q := fun A Y β s hA g vo =>
 wpAny_IfExp (h.run hA g vo fun b s1 β1 mu1 g1 t1 vo1 q1 => by
  cases b with
  | true => exact EW.run (Q := Q) q1 hA g1 vo1 fun v s2 β2 av mu2 g2 t2 V r q2 => ⟨β2, av, mu2, g2, t1.trans t2, r, q2⟩
  | false => exact EW.run (Q := Q) q1 hA g1 vo1 fun v s2 β2 av mu2 g2 t2 V r q2 => ⟨β2, av, mu2, g2, t1.trans t2, r, q2⟩)
theorem zmT {op values pos} (h : EW w H d env (boolOp pos op (evalEach values env)) vars mu Q) : EW w H d env (eval (.BoolOp op values pos) env) vars mu Q := h
theorem zqT {pos x y rest} {Q : QA} (h : EW w H d env x vars mu fun a mu1 => Truth w H d a mu1 fun b mu2 => IfB b (EW w H d env (boolOp pos .And (y :: rest)) vars mu2 Q) (Q a mu2)) :
  EW w H d env (boolOp pos .And (x :: y :: rest)) vars mu Q := fun A Y β s hA g vo => by
 refine wpAny_bind (h.run hA g vo fun v s1 β1 a mu1 g1 t1 vo1 ra q1 => wpAny_bind (wpAny_standAt (wpAny_bind (wpAny_holding (wpAny_mono (q1 A Y β1 s1 v hA g1 ra) (fun b s2 hq2' => ?_) fun V V x => x)))))
 obtain ⟨β2, mu2, g2, t2, q2⟩ := hq2'
 cases b with
 | true => exact EW.run (Q := Q) q2 hA g2 (vo1.step g1.store t2) fun v s3 β3 av mu3 g3 t3 V r q3 => ⟨β3, av, mu3, g3, (t1.trans t2).trans t3, r, q3⟩
 | false =>
  exact wpAny_pure ⟨β2, a, mu2, g2, t1.trans t2, t2.rep ra, q2⟩
theorem zov {pos} (h : Q [] mu) : LW w H d env (spliced (backTo pos (starEach [] env))) vars mu Q := fun V V β V V g V => wpAny_pure ⟨β, [], mu, g, .refl _ _, rfl, h⟩
theorem zml {pos}
  (h : EW w H d env (eval e env) vars mu fun a mu1 => LW w H d env (spliced (backTo pos (starEach rest env))) vars mu1 fun as mu2 => Q (a :: as) mu2)
  (he : autoParam (starEach (e :: rest) env = (false, eval e env) :: starEach rest env) aW) : LW w H d env (spliced (backTo pos (starEach (e :: rest) env))) vars mu Q := fun A Y β s hA g vo =>
 wpAny_items_cons (h.run hA g vo fun v s1 β1 a mu1 g1 t1 vo1 ra q1 => q1.run hA g1 vo1 fun vs s2 β2 as mu2 g2 t2 V ras q2 => ⟨β2, a :: as, mu2, g2, t1.trans t2, ⟨v, vs, rfl, t2.rep ra, ras⟩, q2⟩) he
theorem zah : ∀ {xs : List AV} {vs : List Value} {h : Heap} {Y : zau} {β : zaq}, zan w h Y β xs vs → vs.length = xs.length
 | [], _, _, _, _, e => by subst e; rfl
 | _ :: _, _, _, _, _, ⟨_, _, e, _, l⟩ => by subst e; simp [zah l]
theorem GS.push (g : GS w H Y β mu s) (o : Obj) : GS w H Y β mu { s with heap := s.heap.push o } :=
 g.grow (fun V V e => Heap.get?_push_of_some o e)
theorem zap.push (o : Obj) : zap β s β { s with heap := s.heap.push o } :=
 .grow (fun V V e => Heap.get?_push_of_some o e) rfl rfl
theorem GS.newAvoid (g : GS w H Y β mu s) : zaL Y β s.heap.objs.size :=
 ⟨fun h => let ⟨_, e⟩ := g.yIn _ h; Nat.lt_irrefl _ (Heap.lt_size e), fun k e => let ⟨_, e⟩ := g.store.here k _ e; Nat.lt_irrefl _ (Heap.lt_size e)⟩
theorem zn0 {k pos} (h : LW w H d env (spliced (backTo pos (starEach elts env))) vars mu fun as mu1 => as.length ≤ sizeLine ∧ Q (.tup as) mu1) : EW w H d env (eval (.Tuple elts k pos) env) vars mu Q := fun A Y β s hA g vo =>
 wpAny_Tuple (h.run hA g vo fun vs s1 β1 as mu1 g1 t1 V r q => ⟨by rw [zah r]; exact q.1, β1, .tup as, mu1, g1.push _, t1.trans (.push _),
  ⟨_, vs.toArray, 0, rfl, IsT.new _ _, g1.newAvoid, by simpa using (zap.push _).repL r⟩, q.2⟩)
theorem za6 {pos} (h : LW w H d env (spliced (backTo pos (starEach elts env))) vars mu fun as mu1 => as.length ≤ sizeLine ∧ Q (.lst as) mu1) : EW w H d env (eval (.List elts pos) env) vars mu Q := fun A Y β s hA g vo =>
 wpAny_List (h.run hA g vo fun vs s1 β1 as mu1 g1 t1 V r q => ⟨by rw [zah r]; exact q.1, β1, .lst as, mu1, g1.push _, t1.trans (.push _),
  ⟨_, vs.toArray, 0, rfl, IsL.new _ _, g1.newAvoid, by simpa using (zap.push _).repL r⟩, q.2⟩)
end
end
section

inductive Put : zaf → Str → AV → zaf → Prop
 | nil {x av} : Put [] x av [(x, av)]
 | here {r x a av} : Put ((x, a) :: r) x av ((x, av) :: r)
 | there {r r' y b x av} : (y == x) = false → Put r x av r' → Put ((y, b) :: r) x av ((y, b) :: r')
theorem Put.keys {vs x av vs'} (p : Put vs x av vs') : ∀ y, y ∈ vs'.map (fun V => V.1) → y = x ∨ y ∈ vs.map (fun V => V.1) := by
 induction p with
 | nil => intro y h; replace h := List.mem_singleton.mp h; exact .inl h
 | here => intro y h; exact .inr h
 | there _ _ ih =>
  intro y h
  simp only [List.map_cons, List.mem_cons] at h ⊢
  rcases h with h | h
  ·exact .inr (.inl h)
  ·exact (ih y h).imp id .inr
theorem Put.nodup {vs x av vs'} (p : Put vs x av vs') (n : (vs.map (fun V => V.1)).Nodup) : (vs'.map (fun V => V.1)).Nodup := by
 induction p with
 | nil => simp
 | here => exact n
 | there hne hp ih =>
  rw [List.map_cons, List.nodup_cons] at n ⊢
  refine ⟨fun h => ?_, ih n.2⟩
  rcases hp.keys _ h with e | e
  ·exact absurd e (by exact of_decide_eq_false hne)
  ·exact n.1 e
theorem Put.mem {vs x av vs'} (p : Put vs x av vs') (n : (vs.map (fun V => V.1)).Nodup) : ∀ y b, (y, b) ∈ vs' → (y = x ∧ b = av) ∨ (y ≠ x ∧ (y, b) ∈ vs) := by
 induction p with
 | nil => intro y b h; simp at h; exact .inl h
 | here =>
  intro y b h
  rw [List.map_cons, List.nodup_cons] at n
  rcases List.mem_cons.mp h with h | h
  ·cases h; exact .inl ⟨rfl, rfl⟩
  ·exact .inr ⟨fun e => n.1 (List.mem_map.mpr ⟨_, h, e⟩), List.mem_cons_of_mem _ h⟩
 | there hne hp ih =>
  intro y b h
  rw [List.map_cons, List.nodup_cons] at n
  rcases List.mem_cons.mp h with h | h
  ·cases h; exact .inr ⟨by exact of_decide_eq_false hne, List.mem_cons_self⟩
  ·exact (ih n.2 y b h).imp id fun q => ⟨q.1, List.mem_cons_of_mem _ q.2⟩
section
variable {d : Nat} {env : Env} {vars : zaf} {mu : Mu}
theorem GS.moveY (g : GS w H Y β mu s) (k : ∀ b o, ¬ Y b → s.heap.get? b = some o → s'.heap.get? b = some o) (dom : ∀ a, Y a → ∃ o, s'.heap.get? a = some o) : GS w H Y β mu s' := by
 have S : zaB s.heap Y β s'.heap Y β := ⟨fun b o e a => k b o a.1 e, fun V V V a => a, fun V V e => e⟩
 refine ⟨fun b o e => k b o (fun y => ?_) (g.base b o e), g.bBase, g.yBase, dom, ⟨g.store.dom, g.store.inj, fun q m a e e' => zcX.stays S (fun o => k a o (g.store.apart q a e')) (g.store.rep q m a e e'), fun q a e => (g.store.here q a e).imp fun o e' => k a o (g.store.apart q a e) e', g.store.apart⟩⟩
 exact Option.some_ne_none o (e.symm.trans (g.yBase b y))
theorem zcI (k : ∀ b o, ¬ Y b → h.get? b = some o → h'.get? b = some o) : zaB h Y β h' Y β := ⟨fun b o e a => k b o a.1 e, fun V V V a => a, fun V V e => e⟩
def zbC (env : Env) (x : Str) : Prop := env.kindOf x = some .local ∨ (zaF (env.func.isSome = true) (env.kindOf x = some .cell) ((env.cells.lookup x).isSome = true))
theorem zfN (g : GS w H Y β mu s) (vo : zai w env vars Y β s.heap) (r : Rep w s.heap Y β av v) (hk : zbC env x) (hp : Put vars x av vars')
  (h : ∀ s', GS w H Y β mu s' → zai w env vars' Y β s'.heap → zaD env β s β s' → zaB s.heap Y β s'.heap Y β → Q () s') : wpAny (model pw w) A (storeName env x v) Q NoE s := by
 kcf_m
 obtain ⟨e, hcs, nd, m, n, f⟩ := vo
 kcj_m
 rcases hk with hk | ⟨hf, hk, hc⟩
 ·refine wpAny_storeName_local hk n (fun h' hn' hs => ?_) (by exists e.fn; rfl)
  have k : ∀ b o, b ≠ env.locals → s.heap.get? b = some o → h'.get? b = some o := fun b o hb e => (hs.2 b hb).trans e
  have S : zaB s.heap Y β h' Y β := zcI fun b o hb => k b o fun q => hb (q ▸ e.locY)
  refine h _ (g.moveY (fun b o hb => k b o fun q => hb (q ▸ e.locY)) fun a ha => ?_) ⟨e, fun y c hc => ?_, hp.nodup nd, _, hn', fun y b hm => ?_⟩ ⟨fun b o e V hl V => k b o hl e, fun V V e => e, fun k a e => .inl e, fun a o ho => ?_, rfl, rfl⟩ S
  ·by_cases ha' : a = env.locals
   ·subst ha'; exact zjf hn'
   ·exact (g.yIn a ha).imp fun o e => k a o ha' e
  ·obtain ⟨v', o, ho, hd⟩ := hcs y c hc; exact ⟨v', o, k _ _ (e.cellY _ _ hc).2 ho, hd⟩
  ·rcases hp.mem nd y b hm with ⟨rfl, rfl⟩ | ⟨hne, hm⟩
   ·exact ⟨v, Rep.stays S r, .inl ⟨hk, if_pos rfl⟩⟩
   ·obtain ⟨u, hu, at_⟩ := f y b hm
    refine ⟨u, Rep.stays S hu, ?_⟩
    exact at_.move (fun q => by simpa [hne] using q) fun c hc o => k _ o (e.cellY _ _ hc).2
  ·by_cases ha' : a = env.locals
   ·subst ha'; exact zjf hn'
   ·exact ⟨o, k a o ha' ho⟩
 ·as_aux_lemma =>
  obtain ⟨c, hc⟩ := Option.isSome_iff_exists.mp hc
  obtain ⟨v₀, hv₀⟩ := hcs x c hc
  refine wpAny_storeName_cell e.fn hk hc hv₀ fun h' hc' hs => ?_
  have k : ∀ b o, b ≠ c → s.heap.get? b = some o → h'.get? b = some o := fun b o hb e => (hs.2 b hb).trans e
  have S : zaB s.heap Y β h' Y β := zcI fun b o hb => k b o fun q => hb (q ▸ (e.cellY _ _ hc).1)
  refine h _ (g.moveY (fun b o hb => k b o fun q => hb (q ▸ (e.cellY _ _ hc).1)) fun a ha => ?_) ⟨e, fun y c' hc2 => ?_, hp.nodup nd, m, zeX n (fun o => k _ o (e.cellY _ _ hc).2.symm), fun y b hm => ?_⟩ ⟨fun b o e V V hl => k b o (fun q => hl hf x (q ▸ hc)) e, fun V V e => e, fun k a e => .inl e, fun a o ho => ?_, rfl, rfl⟩ S
  ·by_cases ha' : a = c
   ·subst ha'; obtain ⟨o, ho, V⟩ := hc'; exact ⟨o, ho⟩
   ·exact (g.yIn a ha).imp fun o e => k a o ha' e
  ·by_cases q : c' = c
   ·subst q; exact ⟨_, hc'⟩
   ·obtain ⟨v', o, ho, hd⟩ := hcs y c' hc2; exact ⟨v', o, k _ _ q ho, hd⟩
  ·rcases hp.mem nd y b hm with ⟨rfl, rfl⟩ | ⟨hne, hm⟩
   ·exact ⟨v, Rep.stays S r, .inr ⟨.inl hk, c, hc, hc'⟩⟩
   ·kcf_m
    obtain ⟨u, hu, at_⟩ := f y b hm
    kcj_m
    refine ⟨u, Rep.stays S hu, ?_⟩
    exact at_.move id fun c2 hc2 o => k _ o fun q => hne (e.cellInj _ _ _ (q ▸ hc2) hc)
  ·by_cases ha' : a = c
   ·subst ha'; obtain ⟨o', ho', V⟩ := hc'; exact ⟨o', ho'⟩
   ·exact ⟨o, k a o ha' ho⟩
end
end
section
section
variable {d : Nat} {env : Env} {vars : zaf} {mu : Mu}
theorem SW.run (h : SW w H d env t vars mu Q) (hA : zbz A d) (g : GS w H Y β mu s) (vo : zai w env vars Y β s.heap) (k : ∀ f s' β' af vars' mu', GS w H Y β' mu' s' → zai w env vars' Y β' s'.heap → zaD env β s β' s' → zes w s'.heap Y β' af f → Q af vars' mu' → P f s') : wpAny (model pw w) A t P NoE s :=
 wpAny_mono (h A Y β s hA g vo) (by rintro f s' ⟨β', af, vars', mu', g', vo', t', r, q⟩; exact k f s' β' af vars' mu' g' vo' t' r q) fun V V x => x
theorem UW.run (h : UW w H d env t av vars mu Q) (hA : zbz A d) (g : GS w H Y β mu s) (vo : zai w env vars Y β s.heap) (r : Rep w s.heap Y β av v) (k : ∀ s' β' vars' mu', GS w H Y β' mu' s' → zai w env vars' Y β' s'.heap → zaD env β s β' s' → zaB s.heap Y β s'.heap Y β' → Q vars' mu' → P () s') : wpAny (model pw w) A (t v) P NoE s :=
 wpAny_mono (h A Y β s v hA g vo r) (by rintro V s' ⟨β', vars', mu', g', vo', t', b, q⟩; exact k s' β' vars' mu' g' vo' t' b q) fun V V x => x
theorem SW.mono (h : SW w H d env t vars mu Q) (k : ∀ f v m, Q f v m → Q' f v m) : SW w H d env t vars mu Q' :=
 fun A Y β s hA g vo => wpAny_mono (h A Y β s hA g vo) (by rintro V V ⟨β', af, v, mu', g', vo', t', r, q⟩; exact ⟨β', af, v, mu', g', vo', t', r, k _ _ _ q⟩) fun V V x => x
theorem zrq (h : Q .next vars mu) : SW w H d env (execs [] env) vars mu Q := fun _ _ β _ _ g vo => wpAny_execs_nil ⟨β, .next, vars, mu, g, vo, .refl _ _ _, rfl, h⟩
def znG (w : World) (H : Heap) (d : Nat) (env : Env) (rest : List Stmt) (Q : QF) : zeH → zaf → Mu → Prop
 | .next, v, m => SW w H d env (execs rest env) v m Q
 | f, v, m => Q f v m
theorem zkI {rest} (h : SW w H d env (execs rest env) vars mu Q) : znG w H d env rest Q .next vars mu := h
theorem zqa {rest a} (h : Q (.ret a) vars mu) : znG w H d env rest Q (.ret a) vars mu := h
theorem zoR {rest} (h : Q .cont vars mu) : znG w H d env rest Q .cont vars mu := h
def IfK (b : Bool) (P R : Prop) : Prop := if b then P else R
theorem zft (h : P) : IfK true P R := h
theorem zf3 (h : R) : IfK false P R := h
theorem ifk (h1 : b = true → P) (h2 : b = false → R) : IfK b P R := by cases b; exact h2 rfl; exact h1 rfl
theorem zce {st rest} {Q : QF} (h : SW w H d env (exec st env) vars mu (znG w H d env rest Q)) :
  SW w H d env (execs (st :: rest) env) vars mu Q := fun A Y β s hA g vo =>
 wpAny_execs_cons (h.run hA g vo fun f s1 β1 af vars1 mu1 g1 vo1 t1 r1 q1 => by
  cases af with
  | next => subst r1; exact SW.run (Q := Q) q1 hA g1 vo1 fun f s2 β2 af vars2 mu2 g2 vo2 t2 r2 q2 => ⟨β2, af, vars2, mu2, g2, vo2, t1.trans t2, r2, q2⟩
  | brk => subst r1; exact ⟨β1, .brk, vars1, mu1, g1, vo1, t1, rfl, q1⟩
  | cont => subst r1; exact ⟨β1, .cont, vars1, mu1, g1, vo1, t1, rfl, q1⟩
  | ret av => obtain ⟨v, rfl, rv⟩ := r1; exact ⟨β1, .ret av, vars1, mu1, g1, vo1, t1, ⟨v, rfl, rv⟩, q1⟩)
theorem zkP {pos} (h : Q .cont vars mu) : SW w H d env (exec (.Continue pos) env) vars mu Q := fun V V β V V g vo => wpAny_Continue ⟨β, .cont, vars, mu, g, vo, .refl _ _ _, rfl, h⟩
theorem zb2 {e pos} (h : EW w H d env (eval e env) vars mu fun a mu1 => Q (.ret a) vars mu1) : SW w H d env (exec (.Return (some e) pos) env) vars mu Q := fun A Y β s hA g vo =>
 wpAny_Return_some (h.run hA g vo fun v s1 β1 a mu1 g1 t1 vo1 ra q1 => ⟨β1, .ret a, vars, mu1, g1, vo1, t1.st env, ⟨v, rfl, ra⟩, q1⟩)
theorem za1 {e pos} (h : EW w H d env (eval e env) vars mu fun _ mu1 => Q .next vars mu1)
  (hi : autoParam (interactive env = false) aW) (hs : autoParam (swapsWith e none pos.line env = pure false) aW) : SW w H d env (exec (.Expr e pos) env) vars mu Q := fun A Y β s hA g vo =>
 wpAny_Expr_any (h.run hA g vo fun v s1 β1 a mu1 g1 t1 vo1 ra q1 => ⟨β1, .next, vars, mu1, g1, vo1, t1.st env, rfl, q1⟩) hi hs
theorem zsk {test body orelse pos} {Q : QF}
  (h : TW w H d env (isTrue test env (eval test env)) vars mu fun b mu1 => IfK b (SW w H d env (execs body env) vars mu1 Q) (SW w H d env (execs orelse env) vars mu1 Q)) :
  SW w H d env (exec (.If test body orelse pos) env) vars mu Q := fun A Y β s hA g vo =>
 wpAny_If (h.run hA g vo fun b s1 β1 mu1 g1 t1 vo1 q1 => by
  cases b with
  | true => exact SW.run (Q := Q) q1 hA g1 vo1 fun f s2 β2 af vars2 mu2 g2 vo2 t2 r2 q2 => ⟨β2, af, vars2, mu2, g2, vo2, (t1.st env).trans t2, r2, q2⟩
  | false => exact SW.run (Q := Q) q1 hA g1 vo1 fun f s2 β2 af vars2 mu2 g2 vo2 t2 r2 q2 => ⟨β2, af, vars2, mu2, g2, vo2, (t1.st env).trans t2, r2, q2⟩)
def zgY (vars : zaf) (x : Str) (av : AV) (Q : zaf → Prop) : Prop := ∃ vars', Put vars x av vars' ∧ Q vars'
theorem zjr {x pos} (hk : zbC env x) (h : zgY vars x av fun vars' => Q vars' mu) : UW w H d env (fun v => assign (.Name x pos) env v) av vars mu Q := fun A Y β s v hA g vo r => by
 obtain ⟨vars', hp, q⟩ := h
 exact wpAny_assign_Name (zfN g vo r hk hp fun s' g' vo' t' S => ⟨β, vars', mu, g', vo', t', S, q⟩)
theorem zbX {x pos' value pos} (h : EW w H d env (eval value env) vars mu fun a mu1 => zgY vars x a fun vars' => Q .next vars' mu1) (hk : zbC env x)
  (hs : autoParam (swapsWith value (some (.Name x pos')) pos.line env = pure false) aW) : SW w H d env (exec (.Assign [.Name x pos'] value pos) env) vars mu Q := fun A Y β s hA g vo =>
 wpAny_Assign_Name (h.run hA g vo fun v s1 β1 a mu1 g1 t1 vo1 ra ⟨vars', hp, q⟩ =>
  zfN g1 vo1 ra hk hp fun s' g' vo' t' S => ⟨β1, .next, vars', mu1, g', vo', (t1.st env).trans t', rfl, q⟩) hs
theorem znu {t value pos} {Q : QF} (h : EW w H d env (eval value env) vars mu fun a mu1 => UW w H d env (fun v => assign t env v) a vars mu1 fun vars' mu2 => Q .next vars' mu2)
  (hs : autoParam (swapsWithSole [t] value pos.line env = pure false) aW) (hw : autoParam (swappedStores [t] value env = pure none) aW) (he : autoParam ((assignEach [t] env).map (fun V => V.2) = [assign t env]) aW) :
  SW w H d env (exec (.Assign [t] value pos) env) vars mu Q := fun A Y β s hA g vo =>
 wpAny_Assign_stores (h.run hA g vo fun v s1 β1 a mu1 g1 t1 vo1 ra q1 => by
  exists he
  exact UW.run q1 hA g1 vo1 ra fun s2 β2 vars2 mu2 g2 vo2 t2 S2 q2 => ⟨β2, .next, vars2, mu2, g2, vo2, (t1.st env).trans t2, rfl, q2⟩) hs hw
noncomputable def UWs (w : World) (H : Heap) (d : Nat) (env : Env) : List Expr → List AV → zaf → Mu → (zaf → Mu → Prop) → Prop
 | [], [], vars, mu, Q => Q vars mu
 | t :: ts, a :: as, vars, mu, Q => UW w H d env (fun v => assign t env v) a vars mu fun vars1 mu1 => UWs w H d env ts as vars1 mu1 Q
 | _, _, _, _, _ => False
theorem UWs.run {A : Around} {Y : zau} (hA : zbz A d) {P : Unit → Shared → Prop} {Q : QU} : ∀ {ts : List Expr} {as : List AV} {vars : zaf} {mu : Mu} {β : zaq} {s : Shared} {vs : List Value}, UWs w H d env ts as vars mu Q → GS w H Y β mu s → zai w env vars Y β s.heap → zan w s.heap Y β as vs →
  (∀ s' β' vars' mu', GS w H Y β' mu' s' → zai w env vars' Y β' s'.heap → zaD env β s β' s' → zaB s.heap Y β s'.heap Y β' → Q vars' mu' → P () s') → wpAny (model pw w) A (assignInOrder (ts.map fun t v => assign t env v) vs) P NoE s
 | [], [], _, _, _, _, _, q, g, vo, r, k => by subst r; exact wpAny_pure (k _ _ _ _ g vo (.refl _ _ _) ⟨fun V V e V => e, fun V V V a => a, fun V V e => e⟩ q)
 | t :: ts, a :: as, _, _, _, _, _, q, g, vo, ⟨v, r, e, p, l⟩, k => by
  subst e
  exact wpAny_bind (wpAny_holding (UW.run q hA g vo p fun s1 β1 vars1 mu1 g1 vo1 t1 S1 q1 =>
   UWs.run hA q1 g1 vo1 (zan.stays S1 l) fun s2 β2 vars2 mu2 g2 vo2 t2 S2 q2 => k s2 β2 vars2 mu2 g2 vo2 (t1.trans t2) ⟨fun b o e a => S2.keep b o (S1.keep b o e a) (S1.avoid b o e a), fun b o e a => S2.avoid b o (S1.keep b o e a) (S1.avoid b o e a), fun k a e => S2.beta k a (S1.beta k a e)⟩ q2))
 | [], _ :: _, _, _, _, _, _, q, _, _, _, _ => q.elim
 | _ :: _, [], _, _, _, _, _, q, _, _, _, _ => q.elim
theorem zgP (k : Heap.ExtBut h.objs.size h h') : ∀ b o, h.get? b = some o → h'.get? b = some o := fun b o e => k b o (Nat.ne_of_lt (Heap.lt_size e)) e
theorem zo6 {elts : List Expr} {k pos} {as : List AV} {Q : QU} (h : UWs w H d env elts as vars mu Q) (he : (assignEach elts env) = elts.map fun t => (false, fun v => assign t env v)) (hn : elts.length = as.length) :
  UW w H d env (fun v => assign (.Tuple elts k pos) env v) (.tup as) vars mu Q := fun A Y β s v hA g vo r => by
 obtain ⟨a, vs, n, rfl, ht, av, l⟩ := r
 refine assign_Tuple_tuple hA.handled ⟨_, ht, rfl, _, rfl⟩ (by rw [he, List.length_map, hn]; simpa using (zah l).symm) (by exists he; clear he h hn; induction elts <;> simp_all [List.findIdx?_cons]) fun h' hx => ?_
 have kk := zgP hx
 have t1 : zap β s β { s with heap := h' } := .grow (s' := { s with heap := h' }) kk rfl rfl
 exists ((by (refine rwL he ?_; refine rwL List.map_map ?_); rfl : (assignEach elts env).map (fun V => V.2) = elts.map fun t v => assign t env v))
 exact UWs.run hA h (g.grow (s' := { s with heap := h' }) kk) (vo.step g.store t1) (t1.repL l) fun s2 β2 vars2 mu2 g2 vo2 t2 S2 q2 =>
  ⟨β2, vars2, mu2, g2, vo2, (t1.st env).trans t2, ⟨fun b o e a => S2.keep b o (kk b o e) a, fun b o e a => S2.avoid b o (kk b o e) a, S2.beta⟩, q2⟩
end
end
section

theorem AV.locs_all (h : ∀ k, D k = true) (x : AV) : x.locs D := (funext h : D = zd9) ▸ x.locs_every
theorem zb4.locs_all (h : ∀ k, D k = true) (m : zb4) : m.locs D := (funext h : D = zd9) ▸ m.locs_every
noncomputable def cut (D : Nat → Bool) (β : zaq) : zaq := fun k => if D k then β k else none
structure Cuts (Y : zau) (β : zaq) (D : Nat → Bool) (Y' : zau) (β' : zaq) : Prop where
 loc : ∀ k a, D k = true → β k = some a → β' k = some a
 avoid : ∀ a, zaL Y β a → zaL Y' β' a
theorem Cuts.cut (h : ∀ a, Y' a → Y a) : Cuts Y β D Y' (cut D β) := by
 refine ⟨fun k a hd e => by unfold Mine.cut; exists if_pos hd; exact e, fun a n => ⟨fun y => n.1 (h a y), fun k e => ?_⟩⟩
 unfold Mine.cut at e
 split at e
 ·exact n.2 k e
 ·contradiction
theorem Cuts.mv (C : Cuts Y β D Y' β') : Mv D h Y β h Y' β' := ⟨fun V V e V => e, fun b V V a => C.avoid b a, C.loc⟩
theorem Rep.cuts (C : Cuts Y β D Y' β') (d : x.locs D) (r : Rep w h Y β x v) : Rep w h Y' β' x v := zrf C.mv x v d r
theorem zan.cuts (C : Cuts Y β D Y' β') (d : AV.locsL D xs) (r : zan w h Y β xs vs) : zan w h Y' β' xs vs := repLM C.mv xs vs d r
theorem zcX.cuts (C : Cuts Y β D Y' β') (d : m.locs D) (r : zcX w h Y β a m) : zcX w h Y' β' a m := zqB C.mv (fun V e => e) m d r
mutual
inductive Fz (mu : Mu) (D : Nat → Bool) : AV → AV → Prop
 | same {x} : x.locs D → Fz mu D x x
 | list {k xs ys} : D k = false → mu.lookup k = some (.list xs) → FzL mu D xs ys → Fz mu D (.loc k) (.lst ys)
 | dctp {k ks xs ys} : D k = false → mu.lookup k = some (.dctp ks xs) → FzL mu D xs ys → Fz mu D (.loc k) (.dctp ks ys)
 | dcti {k ks xs ys} : D k = false → mu.lookup k = some (.dcti ks xs) → FzL mu D xs ys → Fz mu D (.loc k) (.dcti ks ys)
 | inst {k kd c ks xs ys} : D k = false → D kd = false → mu.lookup k = some (.inst c kd) → mu.lookup kd = some (.ns ks xs) → FzL mu D xs ys → Fz mu D (.loc k) (.obj c ks ys)
inductive FzL (mu : Mu) (D : Nat → Bool) : List AV → List AV → Prop
 | nil : FzL mu D [] []
 | cons {x y xs ys} : Fz mu D x y → FzL mu D xs ys → FzL mu D (x :: xs) (y :: ys)
end
section
variable {h : Heap} {Y Y' : zau} {β : zaq} {mu : Mu} {D : Nat → Bool}
theorem zdA (S : zd4 w h Y β mu) (hY : ∀ a, Y' a → Y a) {k a} (hd : D k = false) (e : β k = some a) : zaL Y' (cut D β) a := by
 refine ⟨fun y => S.apart k a e (hY a y), fun k' e' => ?_⟩
 unfold cut at e'
 split at e'
 ·rename_i hd'
  have := S.inj _ _ _ e e'
  subst this; rw [hd] at hd'; exact absurd hd' Bool.false_ne_true
 ·as_aux_lemma =>
  contradiction
theorem FzL.rep (S : zd4 w h Y β mu) (hY : ∀ a, Y' a → Y a) (f : FzL mu D xs ys) : ∀ {vs}, zan w h Y β xs vs → zan w h Y' (cut D β) ys vs := by
 refine FzL.rec (motive_1 := fun x y V => ∀ {v}, Rep w h Y β x v → Rep w h Y' (cut D β) y v) (motive_2 := fun xs ys V => ∀ {vs}, zan w h Y β xs vs → zan w h Y' (cut D β) ys vs) ?_ ?_ ?_ ?_ ?_ ?_ ?_ f
 case refine_1 => exact fun d V r => Rep.cuts (.cut hY) d r
 case refine_2 => intro k xs ys hd hm f ih v r; kcf_m; obtain ⟨a, e, q⟩ := r; kcj_m; obtain ⟨vs, n, l, r⟩ := S.rep _ _ _ hm e; exact ⟨a, vs, n, q, l, zdA S hY hd e, ih r⟩
 case refine_3 => intro k ks xs ys hd hm f ih v r; obtain ⟨a, e, q⟩ := r; obtain ⟨sm, xs, t, kv, k, r⟩ := S.rep _ _ _ hm e; exact ⟨a, xs, q, sm, t, zdA S hY hd e, fun x hx => (Cuts.cut hY).avoid _ (kv x hx), k, ih r⟩
 case refine_4 => intro k ks xs ys hd hm f ih v r; obtain ⟨a, e, q⟩ := r; obtain ⟨sm, xs, t, k, r⟩ := S.rep _ _ _ hm e; exact ⟨a, xs, q, sm, t, zdA S hY hd e, k, ih r⟩
 case refine_5 =>
  intro k kd c ks xs ys hd hd' hm hm' f ih v r
  obtain ⟨a, e, q⟩ := r
  obtain ⟨b, eb, t⟩ := S.rep _ _ _ hm e
  obtain ⟨us, n, r⟩ := S.rep _ _ _ hm' eb
  exact ⟨a, b, us, q, t, n, zdA S hY hd e, zdA S hY hd' eb, ih r⟩
 case refine_6 => exact fun r => r
 case refine_7 => intro x y xs ys f fs ih ihs vs r; obtain ⟨v, r, e, p, l⟩ := r; exact ⟨v, r, e, ih p, ihs l⟩
theorem Fz.rep (S : zd4 w h Y β mu) (hY : ∀ a, Y' a → Y a) (f : Fz mu D x y) {v} (r : Rep w h Y β x v) : Rep w h Y' (cut D β) y v := by
 obtain ⟨u, V, e, p, V⟩ := FzL.rep S hY (.cons f .nil) (vs := [v]) ⟨v, [], rfl, r, rfl⟩
 injection e with e; subst e; exact p
theorem zd4.cut (S : zd4 w h Y β mu) (hY : ∀ a, Y' a → Y a) {mu2 : Mu} (hm : ∀ k, mu2.lookup k = if D k then mu.lookup k else none) (hl : ∀ k m, D k = true → mu.lookup k = some m → m.locs D) : zd4 w h Y' (cut D β) mu2 where
 dom k := by rw [hm]; unfold Mine.cut; split; exact S.dom k; rfl
 inj k k' a e e' := by
  unfold Mine.cut at e e'
  split at e <;> split at e' <;> first | exact S.inj _ _ _ e e' | cases e | contradiction
 rep k m a e e' := by
  unfold Mine.cut at e'
  rw [hm] at e
  split at e'
  ·rename_i hd; rw [if_pos hd] at e; exact zcX.cuts (.cut hY) (hl k m hd e) (S.rep k m a e e')
  ·contradiction
 here k a e := by
  unfold Mine.cut at e
  split at e
  ·exact S.here k a e
  ·contradiction
 apart k a e y := by
  unfold Mine.cut at e
  split at e
  ·exact S.apart k a e (hY a y)
  ·as_aux_lemma =>
   contradiction
end
end
section

def zaP (w : World) (H : Heap) (d : Nat) (f : AV) (as : List AV) (mu : Mu) (Q : QA) : Prop :=
 ∀ A Y β s vf vs, zbz A d → GS w H Y β mu s → Rep w s.heap Y β f vf → zan w s.heap Y β as vs →
  (∃ k, (k = Keeper.frame ∨ k = Keeper.machine ∨ k = Keeper.boundFrame) ∧ Looks (model pw w) s.heap (keeperOf vf) k) ∧
  wpAny (model pw w) A (call vf vs) (fun v s' => EPost w H Y β s Q v s') NoE s
section
variable {d : Nat} {env : Env} {vars : zaf} {mu : Mu}
theorem zqF [Decidable c] (h1 : wpAny M A a Q E s) (h2 : wpAny M A b Q E s) : wpAny M A (if c then a else b) Q E s :=
 iteInduction (motive := fun t => wpAny M A t Q E s) (fun V => h1) (fun V => h2)
theorem zcY {A : Around} {s : Shared} {pos : Pos} {f : Value} {first : List Value} {args : List (Bool × Sem Value)} {Q : QV} (hplain : args.any (fun V => V.1) = false)
  (h : wpAny (model pw w) A (spliced args) (fun vs s₁ => (∃ k, (k = Keeper.frame ∨ k = Keeper.machine ∨ k = Keeper.boundFrame) ∧ Looks (model pw w) s₁.heap (keeperOf f) k) ∧ wpAny (model pw w) A (call f (first ++ vs)) Q NoE s₁) NoE s) :
  wpAny (model pw w) A (callWith pos f first args []) Q NoE s := by
 unfold callWith
 have tail : ∀ {t : Sem Value} {s₁}, wpAny (model pw w) A t Q NoE s₁ → wpAny (model pw w) A (t >>= fun r => holding [r] point >>= fun V => pure r) Q NoE s₁ :=
  fun ht => wpAny_bind (wpAny_mono ht (fun r s₂ hr => wpAny_bind (wpAny_holding (wpAny_point (wpAny_pure hr)))) fun V V x => x)
 have ea : ∀ {P : Args → Shared → Prop}, wpAny (model pw w) A (spliced args) (fun vs s₁ => P ⟨vs, []⟩ s₁) NoE s → wpAny (model pw w) A (evalArgs f true args []) P NoE s := by
  intro P hP
  cases args with
  | nil =>
   skip
   exact wpAny_bind (wpAny_mono hP (fun vs s' h' => wpAny_holding (wpAny_bind (wpAny_pure (wpAny_bind (wpAny_pure (wpAny_pure h')))))) fun V V x => x)
  | cons a r =>
   obtain ⟨b, x⟩ := a
   have : b = false := by simpa using (by simpa using hplain : b = false ∧ _).1
   subst this
   exact Calls.evalArgs_plain hP
 refine wpAny_bind (wpAny_holding (ea (wpAny_mono h (fun vs s₁ h₁ => wpAny_bind (wpAny_standAt ?_)) fun V V x => x)))
 kcf_m
 obtain ⟨⟨k, hk, L⟩, hc⟩ := h₁
 kcj_m
 exists hplain
 refine wpAny_bind (L.here ?_)
 have marked (mk : Value) : wpAny (model pw w) A (callMarked mk f (first ++ vs) []) Q NoE s₁ := Calls.wpAny_keep hc
 rcases hk with rfl | rfl | rfl
 ·exact zqF (tail hc) (tail (marked _))
 ·exact tail hc
 ·exact zqF (tail hc) (tail (marked _))
theorem zi1
  (h : EW w H d env (eval (.Name x p) env) vars mu fun f mu1 => LW w H d env (spliced (backTo pos (starEach args env))) vars mu1 fun as mu2 => zaP w H d f as mu2 Q)
  (hp : autoParam ((backTo pos (starEach args env)).any (fun V => V.1) = false) aW) : EW w H d env (eval (.Call (.Name x p) args [] pos) env) vars mu Q := fun A Y β s hA g vo =>
 wpAny_Call_NameR (h.run hA g vo fun vf s1 β1 f mu1 g1 t1 vo1 rf q1 => zcY hp (q1.run hA g1 vo1 fun vs s2 β2 as mu2 g2 t2 vo2 ra q2 => by
  obtain ⟨hk, hc⟩ := q2 A Y β2 s2 vf vs hA g2 (t2.rep rf) ra
  exact ⟨hk, wpAny_mono hc (by rintro v s' ⟨β', av, mu', g', t', r', q'⟩; exact ⟨β', av, mu', g', (t1.trans t2).trans t', r', q'⟩) fun V V x => x⟩))
theorem zbz.mono (h : zbz A d) (le : d' ≤ d) : zbz A d' := ⟨h.handled, by have := h.depth; kd_mem, by have := h.units; kd_mem⟩
theorem zar.mono {f as} (h : zar w H d f as mu R) (le : d ≤ d') (k : ∀ a m, R a m → R' a m) : zar w H d' f as mu R' :=
 fun A Y β s vs hA g r => codeAny_mono (h A Y β s vs (hA.mono le) g r) fun V V0 ⟨β', av, v, mu', e, g', t', r', q⟩ => ⟨β', av, v, mu', e, g', t', r', k _ _ q⟩
structure zaE (H : Heap) (a : Addr) (D : DefRec) (q : Str) : Prop where
 ex : Ex4 fun o pm cd doc => zaF (H.get? a = some o) (o.data = .func { docDef D.name D.params D.body D.scope pm cd doc with qualname := q }) (H.CodeRec cd q)
theorem zaU {a D q} (F : zaE H a D q) (h : zar w H d' (.ref a) as mu Q) (le : d' ≤ d) : zaP w H d (.raw (.ref a)) as mu Q := fun A Y β s vf vs hA g rf ra => by
 subst rf
 refine ⟨?_, wpAny_call (codeAny_mono (h A Y β s vs (hA.mono le) g ra) fun r s' ⟨β', av, v, mu', e, g', t', r', q⟩ => by subst e; exact ⟨β', av, mu', g', t', r', q⟩)⟩
 obtain ⟨o, pm, cd, doc, ho, hd, hc⟩ := F.ex
 refine ⟨.frame, .inl rfl, ?_⟩
 unfold keeperOf
 refine (Looks.ld (part := none) (g.base _ _ ho)).andThen ?_
 exists hd
 exact .now
end
end
section

noncomputable def zdg (D : DefRec) (L a : Addr) (cd : Value) (q : Str) : Env :=
 { scope := D.scope, locals := L, globals := mainGlobals, cells := cellsFrom (L + 1) D.scope.names [], qual := q ++ ".<locals>.", func := some a, code := cd, frame := some L, builtins := builtinsNs }
def zcS (mu : Mu) (R : QA) (af : zeH) (mu' : Mu) : Prop :=
 Ex3 fun av2 mu2 D => ze5 ((match af with | .ret av => Fz mu' D av av2 | .next => av2 = .none | _ => False)) ((∀ k, (mu.lookup k).isSome = true → D k = true)) ((∀ k, mu2.lookup k = if D k then mu'.lookup k else none)) (
  (∀ k m, D k = true → mu'.lookup k = some m → m.locs D)) (R av2 mu2)
theorem zgn {kindOf : Str → Option NameKind} {x : Str} : ∀ {l : List (Str × Value)} {m : Str → Option Value}, x ∉ l.map (fun V => V.1) → bindL kindOf l m x = m x
 | [], _, _ => rfl
 | (n, v) :: r, m, h => by
  rw [List.map_cons, List.mem_cons, not_or] at h
  skip
  exists zgn h.2
  split
  ·simp [h.1]
  ·rfl
theorem zif {kindOf : Str → Option NameKind} {x : Str} {v : Value} (hk : kindOf x = some .local) : ∀ {l : List (Str × Value)} {m : Str → Option Value}, (l.map (fun V => V.1)).Nodup → (x, v) ∈ l → bindL kindOf l m x = some v
 | (n, u) :: r, m, nd, h => by
  rw [List.map_cons, List.nodup_cons] at nd
  unfold bindL
  rcases List.mem_cons.mp h with e | h
  ·cases e
   (exists zgn nd.1; exists if_pos hk); simp
  ·exact zif hk nd.2 h
theorem zgm {kindOf : Str → Option NameKind} {x : Str} : ∀ {l : List (Str × Value)} {m : Str → Option Value}, x ∉ l.map (fun V => V.1) → bindC kindOf l m x = m x
 | [], _, _ => rfl
 | (n, v) :: r, m, h => by
  rw [List.map_cons, List.mem_cons, not_or] at h
  skip
  exists zgm h.2
  split
  ·rfl
  ·simp [h.1]
theorem zie {kindOf : Str → Option NameKind} {x : Str} {v : Value} (hk : kindOf x ≠ some .local) : ∀ {l : List (Str × Value)} {m : Str → Option Value}, (l.map (fun V => V.1)).Nodup → (x, v) ∈ l → bindC kindOf l m x = some v
 | (n, u) :: r, m, nd, h => by
  rw [List.map_cons, List.nodup_cons] at nd
  unfold bindC
  rcases List.mem_cons.mp h with e | h
  ·cases e
   (exists zgm nd.1; exists if_neg hk); simp
  ·exact zie hk nd.2 h
theorem zmG {h : Heap} {Y : zau} {β : zaq} : ∀ {ps : List Str} {as : List AV} {vs : List Value}, zan w h Y β as vs → ∀ {x av}, (x, av) ∈ ps.zip as → ∃ v, (x, v) ∈ ps.zip vs ∧ Rep w h Y β av v
 | [], _, _, _, _, _, h => by simp at h
 | _ :: _, [], _, _, _, _, h => by simp at h
 | p :: ps, a :: as, _, ⟨v, r, e, q, l⟩, x, av, h => by
  subst e
  rw [List.zip_cons_cons] at h ⊢
  rcases List.mem_cons.mp h with h | h
  ·cases h; exact ⟨v, List.mem_cons_self, q⟩
  ·obtain ⟨v', m, r'⟩ := zmG l h; exact ⟨v', List.mem_cons_of_mem _ m, r'⟩
theorem zer {α : Type} : ∀ {ps : List Str} {vs : List α}, vs.length = ps.length → (ps.zip vs).map (fun V => V.1) = ps
 | [], _, _ => by trivial
 | p :: ps, [], h => by contradiction
 | p :: ps, v :: vs, h => by rw [List.zip_cons_cons, List.map_cons, zer (by simpa using h)]
theorem zdO : ∀ (names : List (Str × NameKind)) (n m : Nat) (a b : List (Str × Addr)), a.map (fun V => V.1) = b.map (fun V => V.1) → (cellsFrom n names a).map (fun V => V.1) = (cellsFrom m names b).map (fun V => V.1)
 | [], _, _, _, _, h => h
 | (x, k) :: r, n, m, a, b, h => by
  unfold cellsFrom
  split
  ·exact zdO r _ _ _ _ (by simp [h])
  ·exact zdO r _ _ _ _ h
theorem zee {α β : Type} {x : Str} : ∀ {a : List (Str × α)} {b : List (Str × β)}, a.map (fun V => V.1) = b.map (fun V => V.1) → (a.lookup x).isSome = (b.lookup x).isSome
 | [], [], _ => rfl
 | [], _ :: _, h => by simp at h
 | _ :: _, [], h => by simp at h
 | (k, v) :: r, (k', v') :: r', h => by
  simp only [List.map_cons, List.cons.injEq] at h
  obtain ⟨h1, h2⟩ := h
  subst h1
  (exists List.lookup_cons; exists List.lookup_cons)
  split
  ·rfl
  ·exact zee h2
noncomputable def zfw (names : List (Str × NameKind)) (ps : List Str) : Bool := ps.all fun x => names.lookup x == some .local || (names.lookup x == some .cell && ((cellsFrom 0 names []).lookup x).isSome)
theorem zll (h : zfw names ps = true) : ∀ x ∈ ps, names.lookup x = some .local ∨ (names.lookup x = some .cell ∧ ∀ n, ((cellsFrom n names []).lookup x).isSome = true) := fun x hx => by
 have := List.all_eq_true.mp h x hx
 simp only [Bool.or_eq_true, Bool.and_eq_true, beq_iff_eq] at this
 exact this.imp id fun q => ⟨q.1, fun n => by refine rwR q.2 ?_; exact zee (zdO names n 0 [] [] rfl)⟩
theorem zip_unzip {α β : Type} : ∀ l : List (α × β), (l.map (fun V => V.1)).zip (l.map (fun V => V.2)) = l
 | [] => rfl
 | (a, b) :: r => by simp [zip_unzip r]
section
variable {d : Nat} {mu : Mu}
theorem GS.noLimit (g : GS w H Y β mu s) (h : H.NoLimit) : s.heap.NoLimit := h.keeps g.base
theorem zeF {prog : Program} {A : Around} {s : Shared} {R : Result → Shared → Prop} {a : Addr} {o : Obj} {fd : FuncData} {body : List Stmt} {vals : List Value} {binds : List (Str × Value)}
  (hroom : A.depth < recursionLimit) (ho : s.heap.get? a = some o) (hdata : o.data = .func fd) (hlim : s.heap.NoLimit) (hcd : s.heap.CodeRec fd.code fd.qualname)
  (hbody : fd.body = .stmts body) (hbind : BindsTo s fd ⟨vals, []⟩ binds) (hclo : fd.closure = [])
  (hkind : ∀ x ∈ binds, fd.scope.names.lookup x.1 = some .local ∨ (fd.scope.names.lookup x.1 = some .cell ∧ ((cellsFrom (s.heap.objs.size + 1) fd.scope.names []).lookup x.1).isSome = true))
  (h : ∀ s₁, InCallC s (callEnvC fd s.heap.objs.size a).locals (bindL (callEnvC fd s.heap.objs.size a).kindOf binds fun V => none) (callEnvC fd s.heap.objs.size a).cells
    (bindC (callEnvC fd s.heap.objs.size a).kindOf binds fun V => none) s₁ →
   wpAny (model prog w) (A.deeper (callEnvC fd s.heap.objs.size a)) (execs body (callEnvC fd s.heap.objs.size a)) (fun f s' => R (.ok (.ret (match f with | .ret v => v | _ => .none))) s')
    (fun e s' => wpAny (model prog w) (A.deeper (callEnvC fd s.heap.objs.size a)) (leaving (callEnvC fd s.heap.objs.size a) e) (fun V s'' => R (.error e) s'') (fun e' s'' => R (.error e') s'') s') s₁)
  (hco : autoParam (fd.scope.isCoroutine = false) aI) (hgen : autoParam (fd.scope.isGenerator = false) aI) (hk : autoParam (fd.scope.kind = .function) aI) :
  codeAny (model prog w) A (.call (.ref a) ⟨vals, []⟩) R s := by
 refine codeAny_call_function hroom ho hdata hco hgen hbody hcd ?_
 refine hbind _ _ _ _ ?_
 exists hclo
 refine wpAny_newFunctionEnv_cells hk hkind fun env he s' x => ?_
 subst he
 exact ⟨hlim.keeps x.toInCall.keep, codeAny_func (h s' x)⟩
theorem zar.introG {st : Stmt} (ho : H.get? a = some o) (hd : o.data = .func { docDef D.name D.params D.body D.scope pm cd doc with qualname := q, defaults := dv }) (hc : H.CodeRec cd q) (hlim : H.NoLimit)
  (hsw : ∀ L cd, SW w H d (zdg D L a cd q) (execs (st :: rest) (zdg D L a cd q)) (ps.zip as) mu fun af _ mu' => zcS mu R af mu')
  (hb : D.body = st :: rest) (hn : as.length = ps.length)
  (hbind : ∀ (s : Shared), (∀ b o, H.get? b = some o → s.heap.get? b = some o) → ∀ vs, vs.length = ps.length → BindsTo s { docDef D.name D.params D.body D.scope pm cd doc with qualname := q, defaults := dv } ⟨vs, []⟩ (ps.zip vs))
  (hkind : zfw D.scope.names ps = true)
  (nd : ps.Nodup) (hk : D.scope.kind = .function) (hco : D.scope.isCoroutine = false) (hgen : D.scope.isGenerator = false) : zar w H (d + 1) (.ref a) as mu R := by
 intro A Y β s vs hA g r
 replace hkind := zll hkind
 have hlen := zah r
 refine zeF (fd := { docDef D.name D.params D.body D.scope pm cd doc with qualname := q, defaults := dv }) (binds := ps.zip vs) (by have := hA.depth; show _ < 1000; kd_mem) (g.base _ _ ho) hd (g.noLimit hlim) (hc.keeps g.base)
  (body := st :: rest) (by show FuncBody.stmts D.body = _; rw [hb]) (hbind s g.base vs (by rw [hlen, hn])) rfl (fun x hx => ?_) (fun s₁ X => ?_) hco hgen hk
 ·have hm : x.1 ∈ ps := by
   have : x.1 ∈ (ps.zip vs).map (fun V => V.1) := List.mem_map.mpr ⟨x, hx, rfl⟩
   rwa [zer (by rw [hlen, hn])] at this
  exact (hkind x.1 hm).imp id fun q => ⟨q.1, q.2 _⟩
 ·have eenv : callEnvC { docDef D.name D.params D.body D.scope pm cd doc with qualname := q, defaults := dv } s.heap.objs.size a = zdg D s.heap.objs.size a cd q := rfl
  rw [eenv] at X ⊢
  generalize henv : zdg D s.heap.objs.size a cd q = env at X ⊢
  have hL : env.locals = s.heap.objs.size := by rw [← henv]; rfl
  have above : ∀ x c, env.cells.lookup x = some c → s.heap.objs.size < c := fun x c hx => hL ▸ X.above x c (mem_of_lookup hx)
  let Y' : zau := fun b => Y b ∨ b = env.locals ∨ ∃ x, env.cells.lookup x = some b
  have old : ∀ b o, s.heap.get? b = some o → ¬ (b = env.locals ∨ ∃ x, env.cells.lookup x = some b) := fun b o e h => by
   have := Heap.lt_size e
   rcases h with h | ⟨x, h⟩
   ·rw [h, hL] at this; exact Nat.lt_irrefl _ this
   ·exact Nat.lt_asymm this (above x b h)
  have S : zaB s.heap Y β s₁.heap Y' β := ⟨fun b o e _ => X.toInCall.keep b o e, fun b o e av => ⟨fun y => y.elim av.1 (old b o e), av.2⟩, fun _ _ e => e⟩
  kcf_m
  obtain ⟨h₁, tk, hs₁, _⟩ := X.done
  kcj_m
  have g1 : GS w H Y' β mu s₁ := by
   refine ⟨fun b o e => X.toInCall.keep b o (g.base b o e), g.bBase, fun b hy => ?_, fun b hy => ?_, ⟨g.store.dom, g.store.inj, fun k m b e e' => zcX.stays S (fun o => X.toInCall.keep b o) (g.store.rep k m b e e'), fun k b e => (g.store.here k b e).imp fun o e => X.toInCall.keep b o e, fun k b e y => ?_⟩⟩
   ·rcases hy with y | y
    ·exact g.yBase b y
    ·cases e : H.get? b with
     | none => rfl
     | some o => exact absurd y (old b o (g.base b o e))
   ·rcases hy with y | y | ⟨x, y⟩
    ·exact (g.yIn b y).imp fun o e => X.toInCall.keep b o e
    ·exists y; exact zjf X.toInCall.ns
    ·obtain ⟨o, e, _⟩ := X.cell x b y; exact ⟨o, e⟩
   ·rcases y with y | y
    ·exact g.store.apart k b e y
    ·obtain ⟨o, e'⟩ := g.store.here k b e; exact old b o e' y
  have eo : zia env Y' := ⟨by rw [← henv]; exact hk, by rw [← henv]; rfl, by rw [← henv]; rfl, .inr (.inl rfl), fun x c hx => ⟨.inr (.inr ⟨x, hx⟩), fun e => by have := above x c hx; rw [e, hL] at this; exact Nat.lt_irrefl _ this⟩, fun x y c hx hy => name_of_addr X.apart (mem_of_lookup hx) (mem_of_lookup hy)⟩
  have vo : zai w env (ps.zip as) Y' β s₁.heap := by
   refine ⟨eo, fun x c hx => ⟨_, X.cell x c hx⟩, by rw [zer hn]; exact nd, _, X.toInCall.ns, fun x av hm => ?_⟩
   obtain ⟨v, hv, rv⟩ := zmG r hm
   have hx : x ∈ ps := by
    have : x ∈ (ps.zip as).map (fun V => V.1) := List.mem_map.mpr ⟨_, hm, rfl⟩
    rwa [zer hn] at this
   have nd' : ((ps.zip vs).map (fun V => V.1)).Nodup := by rw [zer (by rw [hlen, hn])]; exact nd
   refine ⟨v, Rep.stays S rv, ?_⟩
   have ek : env.kindOf x = D.scope.names.lookup x := by refine rwR henv ?_; rfl
   rcases hkind x hx with h | ⟨h, hc⟩
   ·exact .inl ⟨ek.trans h, zif (by rw [ek, h]) nd' hv⟩
   ·obtain ⟨c, hc⟩ := Option.isSome_iff_exists.mp (hc (s.heap.objs.size + 1))
    have hc : env.cells.lookup x = some c := by rw [← henv]; exact hc
    have := X.cell x c hc
    rw [zie (by (exists ek; exists h); simp) nd' hv] at this
    exact .inr ⟨.inl (ek.trans h), c, hc, this⟩
  have hA' : zbz (A.deeper env) d := ⟨hA.handled, by have := hA.depth; show A.depth + 1 + 10 * d ≤ 600; kd_mem, by have := hA.units; show A.units + 3 + 200 * d ≤ 8000; kd_mem⟩
  refine wpAny_mono ((henv ▸ hsw s.heap.objs.size cd) (A.deeper env) Y' β s₁ hA' g1 vo) (fun f s' hq2' => ?_) fun _ _ x => x.elim
  obtain ⟨β', af, vars', mu', g', vo', t', r', ex⟩ := hq2'
  obtain ⟨av2, mu2, Dd, hf, hD, hm2, hl, hR⟩ := ex
  have hv : ∃ v, (f = .ret v ∨ (f = .next ∧ v = .none)) ∧ Rep w s'.heap Y (cut Dd β') av2 v := by
   cases af with
   | next => subst r'; exact ⟨.none, .inr ⟨rfl, rfl⟩, by subst hf; rfl⟩
   | ret av => obtain ⟨v, rfl, rv⟩ := r'; exact ⟨v, .inl rfl, Fz.rep g'.store (fun b y => .inl y) hf rv⟩
   | brk => exact hf.elim
   | cont => exact hf.elim
  obtain ⟨v, e1, rv⟩ := hv
  refine ⟨cut Dd β', av2, v, mu2, by rcases e1 with rfl | ⟨rfl, rfl⟩ <;> rfl, ⟨g'.base, fun k b e => ?_, g.yBase, fun b y => g'.yIn b (.inl y), g'.store.cut (fun b y => .inl y) hm2 hl⟩, ⟨fun b o e n => ?_, fun k b e => ?_, fun k b e => ?_, fun b o e => ?_, ?_, ?_⟩, rv, hR⟩
  ·unfold cut at e; split at e
   ·exact g'.bBase k b e
   ·contradiction
  ·exact t'.keep b o (X.toInCall.keep b o e) n (fun q => old b o e (.inl q)) (fun _ x q => old b o e (.inr ⟨x, q⟩))
  ·unfold cut
   rw [if_pos (hD k (by rw [g.store.dom, e]; rfl))]
   exact t'.beta k b e
  ·unfold cut at e; split at e
   ·as_aux_lemma =>
    rcases t'.fresh k b e with q | q
    ·exact .inl q
    ·refine .inr ?_
     cases e2 : s.heap.get? b with
     | none => rfl
     | some o => rw [X.toInCall.keep b o e2] at q; contradiction
   ·contradiction
  ·exact t'.dom b o (X.toInCall.keep b o e)
  ·rw [t'.gens, hs₁]
  ·rw [t'.os, hs₁]
theorem zar.of (pas : zaf) {st : Stmt} (F : zaE H a D q) (hlim : H.NoLimit)
  (hb : D.body = st :: rest) (has : as = pas.map (fun V => V.2))
  (hsw : ∀ L cd, SW w H d (zdg D L a cd q) (execs (st :: rest) (zdg D L a cd q)) pas mu fun af V mu' => zcS mu R af mu')
  (hbind : ∀ pm cd doc vs, vs.length = (pas.map (fun V => V.1)).length → bindArgs { docDef D.name D.params D.body D.scope pm cd doc with qualname := q } ⟨vs, []⟩ = pure ((pas.map (fun V => V.1)).zip vs))
  (hkind : zfw D.scope.names (pas.map (fun V => V.1)) = true)
  (nd : (pas.map (fun V => V.1)).Nodup) (hk : autoParam (D.scope.kind = .function) aW) (hco : autoParam (D.scope.isCoroutine = false) aW) (hgen : autoParam (D.scope.isGenerator = false) aW) : zar w H (d + 1) (.ref a) as mu R := by
 cases has
 obtain ⟨o, pm, cd, doc, ho, hd, hc⟩ := F.ex
 exact zar.introG (dv := .none) ho hd hc hlim (by rw [zip_unzip]; exact hsw) hb (by simp) (fun s V vs e => .of_eq (hbind pm cd doc vs e)) hkind nd hk hco hgen
end
end
section

mutual
noncomputable def AV.pd : AV → Option PyData
 | .none => some .none
 | .bool b => some (.bool b)
 | .int i => some (.int i)
 | .str x => some (.str x)
 | .tup xs => (AV.pdL xs).map .tuple
 | .lst xs => (AV.pdL xs).map .list
 | _ => Option.none
noncomputable def AV.pdL : List AV → Option (List PyData)
 | [] => some []
 | x :: r => (AV.pd x).bind fun d => (AV.pdL r).map (d :: ·)
end
noncomputable def zoJ : Option zb4 → Option PyData
 | some (.list xs) => (AV.pdL xs).map .list
 | _ => Option.none
noncomputable def AV.pdm (mu : Mu) (x : AV) : Option PyData := match x with
 | .loc k => zoJ (mu.lookup k)
 | x => x.pd
theorem zoK (h : zoJ o = some d) : ∃ xs, o = some (.list xs) ∧ (AV.pdL xs).map .list = some d := by
 cases o with
 | none => contradiction
 | some m => cases m with
  | list xs => exact ⟨xs, rfl, h⟩
  | _ => contradiction
theorem zkB (x : AV) : ∀ v d, Rep w h Y β x v → x.pd = some d → ∃ as, Reads h v d as := by
 refine AV.rec (motive_1 := fun x => ∀ v d, Rep w h Y β x v → x.pd = some d → ∃ as, Reads h v d as) (motive_2 := fun xs => ∀ vs ds, zan w h Y β xs vs → AV.pdL xs = some ds → ∃ as, ReadsAll h vs ds as) ?_ ?_ ?_ ?_ ?_ ?_ ?_ ?_ ?_ ?_ ?_ ?_ ?_ ?_ ?_ ?_ ?_ ?_ x
 case refine_1 => intro v d r e; subst r; cases Option.some.inj e; exact ⟨_, .none⟩
 case refine_2 => intro b v d r e; subst r; cases Option.some.inj e; exact ⟨_, .bool b⟩
 case refine_3 => intro i v d r e; obtain ⟨t, r⟩ := r; subst r; cases Option.some.inj e; exact ⟨_, .int _ t⟩
 case refine_4 => intro x v d r e; obtain ⟨t, r⟩ := r; subst r; cases Option.some.inj e; exact ⟨_, .str _ t⟩
 case refine_6 => intro xs ih v d r e; obtain ⟨a, vs, n, r, t, av, l⟩ := r; obtain ⟨ds, e, q⟩ := Option.map_eq_some_iff.mp e; obtain ⟨as, p⟩ := ih _ _ l e; cases r; subst q; exact ⟨_, .tuple t rfl rfl p⟩
 case refine_7 => intro xs ih v d r e; obtain ⟨a, vs, n, r, t, av, l⟩ := r; obtain ⟨ds, e, q⟩ := Option.map_eq_some_iff.mp e; obtain ⟨as, p⟩ := ih _ _ l e; cases r; subst q; exact ⟨_, .list t rfl rfl p⟩
 case refine_17 => intro vs ds r e; subst r; cases Option.some.inj e; exact ⟨_, .nil⟩
 case refine_18 => intro x xs ih ihs vs ds r e; obtain ⟨v, r, q, p, l⟩ := r; obtain ⟨d, e1, e⟩ := Option.bind_eq_some_iff.mp e; obtain ⟨ds, e2, e⟩ := Option.map_eq_some_iff.mp e; obtain ⟨as, q1⟩ := ih _ _ p e1; obtain ⟨bs, q2⟩ := ihs _ _ l e2; subst q; subst e; exact ⟨_, .cons q1 q2⟩
 all_goals intros; rename_i e; contradiction
theorem Rep.reads (r : Rep w h Y β x v) (e : x.pd = some d) : ∃ as, Reads h v d as := zkB x v d r e
theorem zan.reads : ∀ {vs : List Value} {ds : List PyData}, zan w h Y β xs vs → AV.pdL xs = some ds → ∃ as, ReadsAll h vs ds as := by
 induction xs with
 | nil => intro vs ds r e; subst r; cases Option.some.inj e; exact ⟨_, .nil⟩
 | cons x xs ih => intro vs ds r e; obtain ⟨v, r, q, p, l⟩ := r; obtain ⟨d, e1, e⟩ := Option.bind_eq_some_iff.mp e; obtain ⟨ds, e2, e⟩ := Option.map_eq_some_iff.mp e; obtain ⟨as, q1⟩ := zkB _ _ _ p e1; obtain ⟨bs, q2⟩ := ih l e2; subst q; subst e; exact ⟨_, .cons q1 q2⟩
theorem zbn (S : zd4 w h Y β mu) (r : Rep w h Y β x v) (e : x.pdm mu = some d) : ∃ as, Reads h v d as := by
 cases x with
 | loc k =>
  obtain ⟨a, eb, q⟩ := r
  subst q
  obtain ⟨xs, hm, e⟩ := zoK e
  obtain ⟨ds, e', q⟩ := Option.map_eq_some_iff.mp e
  subst q
  obtain ⟨vs, n, l, rr⟩ := S.rep _ _ _ hm eb
  obtain ⟨as, q⟩ := zan.reads rr e'
  exact ⟨_, .list l rfl rfl q⟩
 | _ => exact Rep.reads r e
noncomputable def fine (d : PyData) : Bool := d.canLay0 && decide (d.depth ≤ 64)
abbrev zcf (d : PyData) : Prop := fine d = true
theorem zbo (h : zcf d) : d.canLay0 = true ∧ d.depth ≤ 64 := by simpa [zcf, fine] using h
section
variable {d : Nat} {env : Env} {vars : zaf} {mu : Mu}
theorem zlM (h : Q b mu) : Truth w H d (.bool b) mu Q := fun A Y β s va hA g r => by
 subst r; exact wpAny_truthy_bool ⟨β, mu, g, .refl _ _, h⟩
theorem zgA {a b : AV} {da db : PyData} {Q : QA} (ha : a.pdm mu = some da) (hb : b.pdm mu = some db) (fa : zcf da) (fb : zcf db) {c : Bool} (hc : PyData.eqv da db = c) (h : Q (.bool c) mu) :
  Op2 w H d (compareOp .Eq) a b mu Q := fun A Y β s va vb hA g ra rb => by
 obtain ⟨as, qa⟩ := zbn g.store ra ha
 obtain ⟨bs, qb⟩ := zbn g.store rb hb
 exact SeqAt.compareEq_reads qa qb (zbo fa).1 (zbo fb).1 (by have := hA.units; have := (zbo fa).2; show _ < 9900; kd_mem) ⟨β, .bool _, mu, g, .refl _ _, rfl, by first | (exists hc; exact h) | (rw [hb]; exact h) | exact h⟩
theorem zeh {a b : AV} {da db : PyData} {Q : QA} (ha : a.pdm mu = some da) (hb : b.pdm mu = some db) (fa : zcf da) (fb : zcf db) {c : Bool} (hc : (!PyData.eqv da db) = c) (h : Q (.bool c) mu) :
  Op2 w H d (compareOp .NotEq) a b mu Q := fun A Y β s va vb hA g ra rb => by
 obtain ⟨as, qa⟩ := zbn g.store ra ha
 obtain ⟨bs, qb⟩ := zbn g.store rb hb
 exact SeqAt.compareNe_reads qa qb (zbo fa).1 (zbo fb).1 (by have := hA.units; have := (zbo fa).2; show _ < 9900; kd_mem) ⟨β, .bool _, mu, g, .refl _ _, rfl, by first | (exists hc; exact h) | (rw [hb]; exact h) | exact h⟩
theorem zkp (hx : x.pdm mu = some dx) (hc : c.pdm mu = some (.list ds) ∨ c.pdm mu = some (.tuple ds)) (fx : zcf dx) (fc : zcf (.list ds)) (hb : (ds.any fun y => PyData.eqv y dx) = b) (h : Q (.bool b) mu) : Op2 w H d (compareOp .In) x c mu Q := fun A Y β s vx vc hA g rx rc => by
 obtain ⟨as, qx⟩ := zbn g.store rx hx
 have hu : A.units + 1 + min (PyData.depthAll ds) dx.depth < 9900 := by have := hA.units; have := (zbo fx).2; kd_mem
 have hl : PyData.canLayAll0 ds = true := by simpa [PyData.canLay0] using (zbo fc).1
 rcases hc with hc | hc
 ·obtain ⟨bs, qc⟩ := zbn g.store rc hc
  exact SeqAt.in_list_reads qc qx hl (zbo fx).1 hu ⟨β, .bool _, mu, g, .refl _ _, rfl, by first | (rw [hc]; exact h) | (rw [hb]; exact h) | exact h⟩
 ·obtain ⟨bs, qc⟩ := zbn g.store rc hc
  exact SeqAt.in_tuple_reads qc qx hl (zbo fx).1 hu ⟨β, .bool _, mu, g, .refl _ _, rfl, by first | (rw [hc]; exact h) | (rw [hb]; exact h) | exact h⟩
theorem zfB (hx : x.pdm mu = some dx) (hc : c.pdm mu = some (.list ds) ∨ c.pdm mu = some (.tuple ds)) (fx : zcf dx) (fc : zcf (.list ds)) (hb : (!ds.any fun y => PyData.eqv y dx) = b) (h : Q (.bool b) mu) : Op2 w H d (compareOp .NotIn) x c mu Q := fun A Y β s vx vc hA g rx rc => by
 obtain ⟨as, qx⟩ := zbn g.store rx hx
 have hu : A.units + 1 + min (PyData.depthAll ds) dx.depth < 9900 := by have := hA.units; have := (zbo fx).2; kd_mem
 have hl : PyData.canLayAll0 ds = true := by simpa [PyData.canLay0] using (zbo fc).1
 rcases hc with hc | hc
 ·obtain ⟨bs, qc⟩ := zbn g.store rc hc
  exact SeqAt.notIn_list_reads qc qx hl (zbo fx).1 hu ⟨β, .bool _, mu, g, .refl _ _, rfl, by first | (rw [hc]; exact h) | (rw [hb]; exact h) | exact h⟩
 ·obtain ⟨bs, qc⟩ := zbn g.store rc hc
  exact SeqAt.notIn_tuple_reads qc qx hl (zbo fx).1 hu ⟨β, .bool _, mu, g, .refl _ _, rfl, by first | (rw [hc]; exact h) | (rw [hb]; exact h) | exact h⟩
end
end
section
section
variable {d : Nat} {env : Env} {vars : zaf} {mu : Mu}
noncomputable def AV.isNone : AV → Bool
 | .none => true
 | _ => false
noncomputable def AV.notRaw : AV → Bool
 | .raw _ | .at _ _ => false
 | _ => true
theorem zkH (r : Rep w h Y β x v) (hx : x.notRaw = true) : (v == Value.none) = x.isNone := by
 cases x with
 | none => subst r; rfl
 | bool => subst r; rfl
 | int => obtain ⟨V, r⟩ := r; subst r; rfl
 | str => obtain ⟨V, r⟩ := r; subst r; rfl
 | raw => exact Bool.noConfusion hx
 | tup => obtain ⟨V, V, V, r, V⟩ := r; subst r; rfl
 | lst => obtain ⟨V, V, V, r, V⟩ := r; subst r; rfl
 | fset => obtain ⟨V, V, r, V⟩ := r; subst r; rfl
 | mset => obtain ⟨V, V, r, V⟩ := r; subst r; rfl
 | dcti => obtain ⟨V, V, r, V⟩ := r; subst r; rfl
 | dctp => obtain ⟨V, V, r, V⟩ := r; subst r; rfl
 | obj => obtain ⟨V, V, V, r, V⟩ := r; subst r; rfl
 | meth => obtain ⟨V, V, r, V⟩ := r; subst r; rfl
 | loc => obtain ⟨V, V, r⟩ := r; subst r; rfl
 | rng => obtain ⟨V, V, V, V, r, V⟩ := r; subst r; rfl
 | «at» => exact Bool.noConfusion hx
theorem zlx (ha : a.notRaw = true) (h : Q (.bool a.isNone) mu) : Op2 w H d (compareOp .Is) a .none mu Q := fun A Y β s va vb hA g ra rb => by
 subst rb
 exact is_none_gen (by exists zkH ra ha; exact ⟨β, .bool _, mu, g, .refl _ _, rfl, h⟩)
theorem zh5 (ha : a.notRaw = true) (h : Q (.bool (!a.isNone)) mu) : Op2 w H d (compareOp .IsNot) a .none mu Q := fun A Y β s va vb hA g ra rb => by
 subst rb
 exact isnot_none_gen (by exists zkH ra ha; exact ⟨β, .bool _, mu, g, .refl _ _, rfl, h⟩)
theorem zq9 (h : Q (.int (a + b)) mu) : Op2 w H d (binaryOp .Add) (.int a) (.int b) mu Q := fun A Y β s va vb hA g hq8' hq9' => by
 obtain ⟨t, ra⟩ := hq8'
 obtain ⟨u, rb⟩ := hq9'
 subst ra rb; exact PyProof.Rows.add_int ⟨β, .int _, mu, g.toks _, .toks, ⟨_, rfl⟩, h⟩
theorem zr (h : Q (.int (a - b)) mu) : Op2 w H d (binaryOp .Sub) (.int a) (.int b) mu Q := fun A Y β s va vb hA g hq8' hq9' => by
 obtain ⟨t, ra⟩ := hq8'
 obtain ⟨u, rb⟩ := hq9'
 subst ra rb; exact PyProof.Rows.sub_int ⟨β, .int _, mu, g.toks _, .toks, ⟨_, rfl⟩, h⟩
theorem zeY (hm : IntMulOk a b) (h : Q (.int (a * b)) mu) : Op2 w H d (binaryOp .Mult) (.int a) (.int b) mu Q := fun A Y β s va vb hA g hq8' hq9' => by
 obtain ⟨t, ra⟩ := hq8'
 obtain ⟨u, rb⟩ := hq9'
 subst ra rb; exact PyProof.Rows.mul_int ⟨β, .int _, mu, g.toks _, .toks, ⟨_, rfl⟩, h⟩ hm
theorem zmp (hb : b ≠ 0) (hs : b.natAbs < 1073741824 ∨ b.natAbs.log2 < 9000) (h : Q (.int (a.fdiv b)) mu) : Op2 w H d (binaryOp .FloorDiv) (.int a) (.int b) mu Q := fun A Y β s va vb hA g hq8' hq9' => by
 obtain ⟨t, ra⟩ := hq8'
 obtain ⟨u, rb⟩ := hq9'
 subst ra rb
 exact PyProof.Rows.floordiv_int hb ⟨β, .int _, mu, g.toks _, .toks, ⟨_, rfl⟩, h⟩ (.inl (hs.elim PyProof.noPylong_small PyProof.noPylong_of_log2))
theorem zeA (hb : b ≠ 0) (h : Q (.int (a.fmod b)) mu) : Op2 w H d (binaryOp .Mod) (.int a) (.int b) mu Q := fun A Y β s va vb hA g hq8' hq9' => by
 obtain ⟨t, ra⟩ := hq8'
 obtain ⟨u, rb⟩ := hq9'
 subst ra rb
 exact PyProof.Rows.mod_int' hb ⟨β, .int _, mu, g.toks _, .toks, ⟨_, rfl⟩, h⟩
theorem zr6 (h : Q (.bool (decide (a < b))) mu) : Op2 w H d (compareOp .Lt) (.int a) (.int b) mu Q := fun A Y β s va vb hA g hq8' hq9' => by
 obtain ⟨t, ra⟩ := hq8'
 obtain ⟨u, rb⟩ := hq9'
 subst ra rb; exact PyProof.Rows.lt_int ⟨β, .bool _, mu, g, .refl _ _, rfl, h⟩
theorem zr5 (h : Q (.bool (decide (a ≤ b))) mu) : Op2 w H d (compareOp .LtE) (.int a) (.int b) mu Q := fun A Y β s va vb hA g hq8' hq9' => by
 obtain ⟨t, ra⟩ := hq8'
 obtain ⟨u, rb⟩ := hq9'
 subst ra rb; exact PyProof.Rows.le_int ⟨β, .bool _, mu, g, .refl _ _, rfl, h⟩
theorem zr4 (h : Q (.bool (decide (b < a))) mu) : Op2 w H d (compareOp .Gt) (.int a) (.int b) mu Q := fun A Y β s va vb hA g hq8' hq9' => by
 obtain ⟨t, ra⟩ := hq8'
 obtain ⟨u, rb⟩ := hq9'
 subst ra rb; exact PyProof.Rows.gt_int ⟨β, .bool _, mu, g, .refl _ _, rfl, h⟩
theorem zr3 (h : Q (.bool (decide (b ≤ a))) mu) : Op2 w H d (compareOp .GtE) (.int a) (.int b) mu Q := fun A Y β s va vb hA g hq8' hq9' => by
 obtain ⟨t, ra⟩ := hq8'
 obtain ⟨u, rb⟩ := hq9'
 subst ra rb; exact PyProof.Rows.ge_int ⟨β, .bool _, mu, g, .refl _ _, rfl, h⟩
theorem znf (h : Q (.bool (a == b)) mu) : Op2 w H d (compareOp .Eq) (.int a) (.int b) mu Q := zgA (da := .int a) (db := .int b) rfl rfl rfl rfl rfl h
theorem zni (h : Q (.bool (!(a == b))) mu) : Op2 w H d (compareOp .NotEq) (.int a) (.int b) mu Q := zeh (da := .int a) (db := .int b) rfl rfl rfl rfl rfl h
theorem zly (h : Q (.bool (!(a == b))) mu) : Op2 w H d (compareOp .NotEq) (.bool a) (.bool b) mu Q := zeh (da := .bool a) (db := .bool b) rfl rfl rfl rfl rfl h
def zb3 (w : World) (H : Heap) (d : Nat) (o i : AV) (mu : Mu) (Q : QA) : Prop :=
 ∀ A Y β s vo vi, zbz A d → GS w H Y β mu s → Rep w s.heap Y β o vo → Rep w s.heap Y β i vi →
  (Ex2 fun T id => s.TypeIs vo T ∧ typeLookup (.type T) "__getitem__" = pure (some (.builtin id))) ∧
  wpAny (model pw w) A (getItem vo vi) (fun v s' => EPost w H Y β s Q v s') NoE s
theorem zmA {A : Around} {s : Shared} {value slice : Expr} {o i : Value} {T id : String} {Q : QV} (hT : s.TypeIs o T) (hl : typeLookup (.type T) "__getitem__" = pure (some (.builtin id))) (h : wpAny (model pw w) A (getItem o i) Q NoE s) :
  wpAny (model pw w) A (subscriptTail value slice o i) Q NoE s := by
 have fin : ∀ ops, wpAny (model pw w) A (operate ops (getItem o i)) (fun r s₃ => wpAny (model pw w) A (letTemporaryGo value o r >>= fun V => pure r) Q NoE s₃) NoE s :=
  fun ops => wpAny_operateT (wpAny_mono h (fun r s₃ h₃ => wpAny_bind (wpAny_letTemporaryGo (wpAny_pure h₃))) fun V V x => x)
 skip
 refine wpAny_bind ?_
 skip
 refine wpAny_bind (wpAny_specialOf hT hl ?_)
 have sub : ∃ ops, subscripted slice false o i = operate ops (getItem o i) := by
  skip
  cases slice with
  | Slice lo up st p => cases st <;> exact ⟨_, rfl⟩
  | _ => exact ⟨_, rfl⟩
 obtain ⟨ops, e⟩ := sub
 first
  | exact wpAny_pure (wpAny_bind (e ▸ fin ops))
  | exact wpAny_bind (wpAny_pure (wpAny_bind (e ▸ fin ops)))
theorem zqV {value slice pos} {Q : QA} (h : EW w H d env (eval value env) vars mu fun o mu1 => EW w H d env (eval slice env) vars mu1 fun i mu2 => zb3 w H d o i mu2 Q) :
  EW w H d env (eval (.Subscript value slice pos) env) vars mu Q := fun A Y β s hA g vo =>
 Subscript_ (h.run hA g vo fun v1 s1 β1 o mu1 g1 t1 vo1 r1 q1 => q1.run hA g1 vo1 fun v2 s2 β2 i mu2 g2 t2 vo2 r2 q2 => by
  obtain ⟨⟨T, id, hT, hl⟩, hg⟩ := q2 A Y β2 s2 v1 v2 hA g2 (t2.rep r1) r2
  exact zmA hT hl (wpAny_mono hg (by rintro v s' ⟨β', av, mu', g', t', r', q'⟩; exact ⟨β', av, mu', g', (t1.trans t2).trans t', r', q'⟩) fun V V x => x))
theorem zb9 {h : Heap} {Y : zau} {β : zaq} : ∀ {xs : List AV} {vs : List Value} {k : Nat} {x : AV}, zan w h Y β xs vs → xs[k]? = some x → ∃ v, vs[k]? = some v ∧ Rep w h Y β x v
 | _ :: _, _, 0, _, ⟨v, r, e, p, l⟩, hx => by subst e; cases hx; exact ⟨v, rfl, p⟩
 | _ :: _, _, k + 1, _, ⟨v, r, e, p, l⟩, hx => by subst e; obtain ⟨u, hu, r⟩ := zb9 l (by simpa using hx); exact ⟨u, by simpa using hu, r⟩
theorem zqe (hi : 0 ≤ i) (hx : xs[i.toNat]? = some x) (hz : xs.length < 2 ^ 60) (h : Q x mu) : zb3 w H d (.tup xs) (.int i) mu Q := fun A Y β s vo vi hA g hq8' hq9' => by
 kcf_m
 obtain ⟨a, vs, n, e, t, av, l⟩ := hq8'
 obtain ⟨u, ei⟩ := hq9'
 kcj_m
 subst e ei
 obtain ⟨v, hv, rv⟩ := zb9 l hx
 have hlen : i.toNat < xs.length := (List.getElem?_eq_some_iff.mp hx).1
 have hs : vs.size = xs.length := by refine rwR (zah l) ?_; simp
 refine ⟨⟨"tuple", _, ⟨_, t, rfl⟩, F.slot_tuple_getitem.lookup⟩, ?_⟩
 have e63 : (2 : Int) ^ 63 = 9223372036854775808 := by decide +kernel
 have e60 : (2 : Nat) ^ 60 = 1152921504606846976 := by decide +kernel
 refine P.getItem_tuple t (by kd_mem) (by kd_mem) (k := i.toNat) ?_ (by simpa using hv) ⟨β, x, mu, g, .refl _ _, rv, h⟩
 unfold seqIndex?
 have : ¬ i < 0 := by kd_mem
 simp only [this, if_false]
 simp [hi, (by kd_mem : i < (vs.size : Int))]
theorem zmB {A : Around} {Y : zau} {β : zaq} {s : Shared} {a : Addr} {vs : Array Value} {n : Nat} {u : Tok} {xs : List AV} {i : Int} {x : AV} {Q : QA} (g : GS w H Y β mu s) (t : IsL s.heap a vs n) (l : zan w s.heap Y β xs vs.toList) (hi : 0 ≤ i) (hx : xs[i.toNat]? = some x) (hz : xs.length < 2 ^ 60) (h : Q x mu) :
  (Ex2 fun T id => s.TypeIs (.ref a) T ∧ typeLookup (.type T) "__getitem__" = pure (some (.builtin id))) ∧ wpAny (model pw w) A (getItem (.ref a) (.int i u)) (fun v s' => EPost w H Y β s Q v s') NoE s := by
 kcf_m
 obtain ⟨v, hv, rv⟩ := zb9 l hx
 kcj_m
 have hlen : i.toNat < xs.length := (List.getElem?_eq_some_iff.mp hx).1
 have h63 : i < 2 ^ 63 := by kd_mem
 exact ⟨⟨"list", _, ⟨_, t, rfl⟩, F.slot_list_getitem.lookup⟩, wpAny_getItem_list ⟨_, t, rfl, _, rfl⟩ hi h63 (by simpa using hv) ⟨β, x, mu, g, .refl _ _, rv, h⟩⟩
theorem zgU (hi : 0 ≤ i) (hx : xs[i.toNat]? = some x) (hz : xs.length < 2 ^ 60) (h : Q x mu) : zb3 w H d (.lst xs) (.int i) mu Q := fun A Y β s vo vi hA g r ri => by
 kcf_m
 obtain ⟨a, vs, n, e, t, av, l⟩ := r
 kcj_m
 obtain ⟨u, ei⟩ := ri
 subst e; subst ei
 exact zmB g t l hi hx hz h
theorem zd2 (hm : mu.lookup k = some (.list xs)) (hi : 0 ≤ i) (hx : xs[i.toNat]? = some x) (hz : xs.length < 2 ^ 60) (h : Q x mu) : zb3 w H d (.loc k) (.int i) mu Q := fun A Y β s vo vi hA g r ri => by
 kcf_m
 obtain ⟨a, eb, e⟩ := r
 kcj_m
 obtain ⟨u, ei⟩ := ri
 subst e; subst ei
 obtain ⟨vs, n, t, l⟩ := g.store.rep _ _ _ hm eb
 exact zmB g t l hi hx hz h
end
end
section

noncomputable abbrev zaw : Nat → Bool := fun V => false
theorem zaa (h : av.locs zaw) (hR : R av []) : zcS [] R (.ret av) mu' :=
 ⟨av, [], zaw, .same h, by simp, by simp, by simp, hR⟩
theorem FzL.same {mu : Mu} {D : Nat → Bool} : ∀ {xs : List AV}, AV.locsL D xs → FzL mu D xs xs
 | [], _ => .nil
 | _ :: _, ⟨a, b⟩ => .cons (.same a) (FzL.same b)
theorem zbl (hm : mu'.lookup k = some (.list xs)) (h : AV.locsL zaw xs) (hR : R (.lst xs) []) : zcS [] R (.ret (.loc k)) mu' :=
 ⟨.lst xs, [], zaw, .list rfl hm (FzL.same h), by simp, by simp, by simp, hR⟩
theorem zbN (hR : R av mu') : zcS mu R (.ret av) mu' :=
 ⟨av, mu', fun V => true, .same (AV.locs_all (fun V => rfl) _), fun V V => rfl, fun V => rfl, fun V m V V => zb4.locs_all (fun V => rfl) m, hR⟩
theorem zb7 (hR : R .none mu') : zcS mu R .next mu' :=
 ⟨.none, mu', fun _ => true, rfl, fun _ _ => rfl, fun _ => rfl, fun _ m _ _ => zb4.locs_all (fun _ => rfl) m, hR⟩
section
variable {d : Nat} {mu : Mu}
structure zal (w : World) (H : Heap) (d : Nat) (f : Value) (as : List AV) (R : AV → Prop) : Prop where
 at_ : ∀ mu, zar w H d f as mu fun r m => R r ∧ m = mu
theorem zar.frame (h : zar w H d f as [] fun r m => R r ∧ m = []) (hc : AV.locsL zaw as) : zal w H d f as R := ⟨by
 intro mu A Y β s vs hA g r
 let Y' : zau := fun a => Y a ∨ ∃ k, β k = some a
 let β0 : zaq := fun V => none
 have C : Cuts Y β zaw Y' β0 := by
  refine ⟨fun k a e => (nomatch e), fun a n => ⟨fun y => ?_, fun k e => (nomatch e)⟩⟩
  rcases y with y | ⟨k, e⟩
  ·exact n.1 y
  ·exact n.2 k e
 have g0 : GS w H Y' β0 [] s := ⟨g.base, fun k a e => (nomatch e), fun a y => y.elim (g.yBase a) fun ⟨k, e⟩ => g.bBase k a e, fun a y => y.elim (g.yIn a) fun ⟨k, e⟩ => g.store.here k a e,
  ⟨fun V => rfl, fun V V V e => (nomatch e), fun V V V e => (nomatch e), fun V V e => (nomatch e), fun V V e => (nomatch e)⟩⟩
 refine codeAny_mono (h A Y' β0 s vs hA g0 (zan.cuts C hc r)) fun r s' ⟨β1, av, v, mu1, e, g1, t1, rv, q, hm⟩ => ?_
 subst hm
 have hb : β1 = β0 := by
  funext k
  have := g1.store.dom k
  cases e : β1 k with
  | none => rfl
  | some a => replace this := (e) ▸ this; exact Bool.noConfusion this
 subst hb
 have keep : ∀ b o, s.heap.get? b = some o → s'.heap.get? b = some o := fun b o e => t1.keep b o e fun k q => (nomatch q)
 exact ⟨β, av, v, mu, e, g.grow keep, .grow keep t1.gens t1.os, Rep.stays (⟨fun V V e V => e, fun a o e n => ⟨fun y => n.1 (.inl y), fun k e => n.1 (.inr ⟨k, e⟩)⟩, fun k a e => (nomatch e)⟩ : zaB s'.heap Y' β0 s'.heap Y β) rv, q, rfl⟩⟩
theorem zal.call (h : zal w H d' (.ref a) as R) (F : zaE H a D q) (le : d' ≤ d) (k : ∀ r, R r → Q r mu) : zaP w H d (.raw (.ref a)) as mu Q :=
 zaU F ((h.at_ mu).mono (Nat.le_refl _) fun r m ⟨hr, hm⟩ => hm ▸ k r hr) le
end
end
section

noncomputable def zaz (Y : zau) (Z : List Addr) : zau := fun b => Y b ∨ b ∈ Z
noncomputable def zeZ : List String := ["enumerate", "zip", "dict_itemiterator", "dict_reverseitemiterator", "odict_iterator", "itertools.zip_longest", "itertools.pairwise"]
theorem zcR (ho : s.heap.get? I = some o) (hc : o.cls = .type c) (hd : o.data = .fields vs) (hn : zeZ.contains c = false)
  (h : Q () s) : wpAny (model pw w) A (letOwnedTupleGo tgt (.ref I) v) Q E s := by
 cases tgt <;> first
  | exact wpAny_pure h
  | (cases v <;> first
    | exact wpAny_pure h
    | (refine wpAny_bind (wpAny_load ho ?_); refine rwL hc ?_; refine rwL hd ?_; exact cast (congrArg (fun t => wpAny (model pw w) A t Q E s) (if_neg fun q => Bool.false_ne_true (hn.symm.trans (Bool.and_eq_true_iff.mp q).1)).symm) (wpAny_pure h)))
structure Src (w : World) (H : Heap) (A : Around) (R : Heap → zau → zaq → AV → Value → Prop) (tgt : Expr) (it : Value) (Z : List Addr) (items : List AV) (St : zau → Nat → Heap → zaq → Prop) : Prop where
 frame : ∀ Y i h β Y' h' β', St Y i h β → zaB h Y β h' Y' β' → (∀ b ∈ Z, ∀ o, h.get? b = some o → h'.get? b = some o) → St Y' i h' β'
 turn : ∀ Y i s β mu, (∀ b ∈ Z, Y b) → i < items.length → GS w H Y β mu s → St Y i s.heap β → wpAny (model pw w) A (pyNext it) (fun r s1 => ∃ v, r = some v ∧ wpAny (model pw w) A (letOwnedTupleGo tgt it v) (fun V s2 =>
  ze5 ((Ex2 fun h tk => s2 = { s with heap := h, toks := tk })) ((∀ b o, b ∉ Z → s.heap.get? b = some o → s2.heap.get? b = some o)) ((∀ b ∈ Z, ∃ o, s2.heap.get? b = some o)) (St Y (i + 1) s2.heap β) (∃ x, items[i]? = some x ∧ R s2.heap Y β x v)) NoE s1) NoE s
 done : ∀ Y s β mu, (∀ b ∈ Z, Y b) → GS w H Y β mu s → St Y items.length s.heap β → wpAny (model pw w) A (pyNext it) (fun r s1 => zaF (r = none) ((Ex2 fun h tk => s1 = { s with heap := h, toks := tk })) (∀ b o, b ∉ Z → s.heap.get? b = some o → s1.heap.get? b = some o)) NoE s
 self : ∀ Y i s β mu, GS w H Y β mu s → St Y i s.heap β → wpAny (model pw w) A (pyIter it) (fun it' s' => it' = it ∧ s' = s) NoE s
section
variable (w : World) (H : Heap)
inductive zrF (R : Heap → zau → zaq → AV → Value → Prop) (tgt : Expr) (A : Around) (Y : zau) (β : zaq) (s : Shared) (Q : QL) (it : Value) (s2 : Shared) : Prop
 | mk (β' : zaq) (items : List AV) (mu' : Mu) (Z : List Addr) (St : zau → Nat → Heap → zaq → Prop) (src : Src w H A R tgt it Z items St) (st : St (zaz Y Z) 0 s2.heap β') (hn : ∀ b ∈ Z, s.heap.get? b = none)
  (g : GS w H (zaz Y Z) β' mu' s2) (t : zap β s β' s2) (q : Q items mu')
def IW (R : Heap → zau → zaq → AV → Value → Prop) (tgt : Expr) (d : Nat) (env : Env) (iter : Expr) (vars : zaf) (mu : Mu) (Q : QL) : Prop :=
 ∀ A Y β s, zbz A d → GS w H Y β mu s → zai w env vars Y β s.heap →
  wpAny (model pw w) A (eval iter env) (fun xv s1 => wpAny (model pw w) A (pyIter xv) (fun it s2 => zrF w H R tgt A Y β s Q it s2) NoE s1) NoE s
def UR (R : Heap → zau → zaq → AV → Value → Prop) (d : Nat) (env : Env) (t : Value → Sem Unit) (av : AV) (vars : zaf) (mu : Mu) (Q : QU) : Prop :=
 ∀ A Y β s v, zbz A d → GS w H Y β mu s → zai w env vars Y β s.heap → R s.heap Y β av v →
  wpAny (model pw w) A (t v) (fun V s' => zqs w H env Y β s Q s') NoE s
end
section
variable {d : Nat} {env : Env} {vars : zaf} {mu : Mu}
theorem zaD.stays {env : Env} {β β' : zaq} {s s' : Shared} {Y : zau} (eo : zia env Y) (x : zaD env β s β' s') : zaB s.heap Y β s'.heap Y β' where
 keep b o e a := x.keep b o e a.2 (fun q => a.1 (q ▸ eo.locY)) (fun V y q => a.1 (eo.cellY y b q).1)
 avoid b o e a := ⟨a.1, fun k q => by
  rcases x.fresh k b q with q | q
  ·exact a.2 k q
  ·replace e := (q) ▸ e; cases e⟩
 beta := x.beta
theorem zaB.trans (x : zaB h Y β h' Y' β') (y : zaB h' Y' β' h'' Y'' β'') : zaB h Y β h'' Y'' β'' :=
 ⟨fun b o e a => y.keep b o (x.keep b o e a) (x.avoid b o e a), fun b o e a => y.avoid b o (x.keep b o e a) (x.avoid b o e a), fun k a e => y.beta k a (x.beta k a e)⟩
theorem zaD.touch {Z : List Addr} (x : zaD env β s β' s1) (hZ : ∀ b ∈ Z, s.heap.get? b = none) (k : ∀ b o, b ∉ Z → s1.heap.get? b = some o → s2.heap.get? b = some o) (hg : s2.gens = s1.gens) (ho : s2.os = s1.os) : zaD env β s β' s2 := by
 have ne : ∀ b o, s.heap.get? b = some o → b ∉ Z := fun b o e q => by rw [hZ b q] at e; contradiction
 exact ⟨fun b o e n n1 n2 => k b o (ne b o e) (x.keep b o e n n1 n2), x.beta, x.fresh, fun b o e => let ⟨o', e'⟩ := x.dom b o e; ⟨o', k b o' (ne b o e) e'⟩, hg.trans x.gens, ho.trans x.os⟩
theorem zai.narrow (vo : zai w env vars Y' β h) (eo : zia env Y) (hY : ∀ a, Y a → Y' a) : zai w env vars Y β h := by
 kcf_m
 obtain ⟨e, hcs, nd, m, n, f⟩ := vo
 kcj_m
 exact ⟨eo, hcs, nd, m, n, fun x av hm => let ⟨v, r, a⟩ := f x av hm; ⟨v, Rep.stays (⟨fun V V e V => e, fun V V V a => ⟨fun y => a.1 (hY _ y), a.2⟩, fun V V e => e⟩ : zaB h Y' β h Y β) r, a⟩⟩
theorem GS.narrow (g : GS w H Y' β mu s) (hY : ∀ a, Y a → Y' a) : GS w H Y β mu s := by
 have S : zaB s.heap Y' β s.heap Y β := ⟨fun V V e V => e, fun V V V a => ⟨fun y => a.1 (hY _ y), a.2⟩, fun V V e => e⟩
 exact ⟨g.base, g.bBase, fun a y => g.yBase a (hY a y), fun a y => g.yIn a (hY a y), ⟨g.store.dom, g.store.inj, fun k m a e e' => zcX.stays S (fun V x => x) (g.store.rep k m a e e'), g.store.here, fun k a e y => g.store.apart k a e (hY a y)⟩⟩
theorem zai.touch {Z : List Addr} (vo : zai w env vars Y β h) (hZ : ∀ b ∈ Z, Y b) (hL : env.locals ∉ Z) (hC : ∀ x c, env.cells.lookup x = some c → c ∉ Z) (k : ∀ b o, b ∉ Z → h.get? b = some o → h'.get? b = some o) : zai w env vars Y β h' := by
 obtain ⟨e, hcs, nd, m, n, f⟩ := vo
 refine ⟨e, fun x c hc => ?_, nd, m, zeX n (fun o => k _ o hL), fun x av hm => ?_⟩
 ·obtain ⟨v, o, ho, hd⟩ := hcs x c hc; exact ⟨v, o, k _ _ (hC x c hc) ho, hd⟩
 ·obtain ⟨v, r, at_⟩ := f x av hm
  refine ⟨v, Rep.stays (zcI fun b o hb => k b o fun q => hb (hZ b q) : zaB h Y β h' Y β) r, ?_⟩
  exact at_.move id fun c hc o => k _ o (hC _ c hc)
theorem zai.prefix (vo : zai w env v1 Y β h) (e : v1 = v2 ++ v3) : zai w env v2 Y β h := by
 subst e
 obtain ⟨e, hcs, nd, m, n, f⟩ := vo
 exact ⟨e, hcs, by rw [List.map_append] at nd; exact (List.nodup_append.mp nd).1, m, n, fun x av hm => f x av (List.mem_append_left _ hm)⟩
def ze6 (Inv : QU) (Q : QF) : zeH → zaf → Mu → Prop
 | .next, v, m | .cont, v, m => Ex2 fun v2 v3 => v = v2 ++ v3 ∧ Inv v2 m
 | .brk, v, m => Q .next v m
 | .ret a, v, m => Q (.ret a) v m
theorem zaj {Inv : QU} {Q : QF} {v m} (v2 v3) (e : v = v2 ++ v3) (h : Inv v2 m) : ze6 Inv Q .next v m := ⟨v2, v3, e, h⟩
theorem zf8 {Inv : QU} {Q : QF} {v m} (v2 v3) (e : v = v2 ++ v3) (h : Inv v2 m) : ze6 Inv Q .cont v m := ⟨v2, v3, e, h⟩
theorem zho {Inv : QU} {a v m} (h : Q (.ret a) v m) : ze6 Inv Q (.ret a) v m := h
theorem zai.stays (vo : zai w env vars Y β h) (S : zaB h Y β h' Y' β') (hY : ∀ a, Y a → Y' a) (k : ∀ b, Y b → ∀ o, h.get? b = some o → h'.get? b = some o) : zai w env vars Y' β' h' := by
 obtain ⟨e, hcs, nd, m, n, f⟩ := vo
 refine ⟨⟨e.fn, e.glob, e.blt, hY _ e.locY, fun x c hc => ⟨hY _ (e.cellY x c hc).1, (e.cellY x c hc).2⟩, e.cellInj⟩, fun x c hc => ?_, nd, m, zeX n (k _ e.locY), fun x av hm => ?_⟩
 ·obtain ⟨v, o, ho, hd⟩ := hcs x c hc; exact ⟨v, o, k _ (e.cellY x c hc).1 _ ho, hd⟩
 ·obtain ⟨v, r, at_⟩ := f x av hm
  refine ⟨v, Rep.stays S r, ?_⟩
  exact at_.move id fun c hc => k _ (e.cellY _ c hc).1
theorem zch (k : ∀ b o, b ∉ Z → h.get? b = some o → h'.get? b = some o) : zaB h (zaz Y Z) β h' Y β :=
 ⟨fun b o e a => k b o (fun q => a.1 (.inr q)) e, fun V V V a => ⟨fun y => a.1 (.inl y), a.2⟩, fun V V e => e⟩
theorem GS.leave (g : GS w H (zaz Y Z) β mu s) (hZ : ∀ b ∈ Z, ¬ Y b) (k : ∀ b o, b ∉ Z → s.heap.get? b = some o → s'.heap.get? b = some o) : GS w H Y β mu s' := by
 have nb : ∀ q a, β q = some a → a ∉ Z := fun q a e e' => g.store.apart q a e (.inr e')
 exact ⟨fun b o e => k b o (fun q => Option.some_ne_none o (e.symm.trans (g.yBase b (.inr q)))) (g.base b o e), g.bBase, fun a y => g.yBase a (.inl y), fun a y => (g.yIn a (.inl y)).imp fun o e => k a o (fun q => hZ a q y) e,
  ⟨g.store.dom, g.store.inj, fun q m a e e' => zcX.stays (zch (Y := Y) (β := β) k) (fun o => k a o (nb q a e')) (g.store.rep q m a e e'), fun q a e => (g.store.here q a e).imp fun o e' => k a o (nb q a e) e', fun q a e y => g.store.apart q a e (.inl y)⟩⟩
theorem zai.leave (vi : zai w env vars (zaz Y Z) β h) (eo : zia env Y) (hZ : ∀ b ∈ Z, ¬ Y b) (k' : ∀ b o, b ∉ Z → h.get? b = some o → h'.get? b = some o) : zai w env vars Y β h' := by
 obtain ⟨e, hcs, nd, m', n', f⟩ := vi
 have kY : ∀ b, Y b → ∀ o, h.get? b = some o → h'.get? b = some o := fun b y o => k' b o fun q => hZ b q y
 refine ⟨eo, fun x c hc => ?_, nd, m', zeX n' (kY _ eo.locY), fun x av hm => ?_⟩
 ·obtain ⟨v', o, ho, hd'⟩ := hcs x c hc; exact ⟨v', o, kY _ (eo.cellY x c hc).1 _ ho, hd'⟩
 ·obtain ⟨u, r, at_⟩ := f x av hm
  refine ⟨u, Rep.stays (zch k') r, ?_⟩
  exact at_.move id fun c hc => kY _ (eo.cellY _ c hc).1
theorem drop_cons {items rest : List α} (hd : items.drop i = x :: rest) : zaF (i < items.length) (items[i]? = some x) (items.drop (i + 1) = rest) := by
 have hi : i < items.length := by
  rcases Nat.lt_or_ge i items.length with q | q
  ·exact q
  ·replace hd := (List.drop_eq_nil_iff.mpr q) ▸ hd; contradiction
 rw [List.drop_eq_getElem_cons hi] at hd
 injection hd with h1 h2
 exact ⟨hi, by rw [List.getElem?_eq_getElem hi, h1], h2⟩
theorem zoY (R : Heap → zau → zaq → AV → Value → Prop) {target iter body orelse pos} (Inv : List AV → zaf → Mu → Prop)
  (h : IW w H R target d env iter vars mu fun items mu1 => Inv items vars mu1)
  (turn : ∀ x rest v m, Inv (x :: rest) v m → UR w H R d env (fun u => assign target env u) x v m fun v1 m1 => SW w H d env (execs body env) v1 m1 (ze6 (Inv rest) Q))
  (done : ∀ v m, Inv [] v m → SW w H d env (execs orelse env) v m Q)
  (hs : autoParam (∀ x, foldedSetIterable iter env x = pure x) aW) : SW w H d env (exec (.For target iter body orelse pos) env) vars mu Q := fun A Y β s hA g vo => by
 refine wpAny_For (wpAny_mono (h A Y β s hA g vo) (fun xv s1 h1 => wpAny_mono h1 (fun it s2 h2 => ?_) fun _ _ x => x.elim) fun _ _ x => x.elim) hs
 obtain ⟨β2, items, mu2, Z, St, W, st, hI, g2, t2, inv⟩ := h2
 have hZY : ∀ b ∈ Z, ¬ Y b := fun b hb y => by obtain ⟨o, e⟩ := g.yIn b y; replace e := (hI b hb) ▸ e; contradiction
 have hL : env.locals ∉ Z := fun q => hZY _ q vo.eok.locY
 have hC : ∀ x c, env.cells.lookup x = some c → c ∉ Z := fun x c e q => hZY _ q (vo.eok.cellY x c e).1
 have ne : ∀ b o, s.heap.get? b = some o → b ∉ Z := fun b o e q => by replace e := (hI b q) ▸ e; contradiction
 have S2 : zaB s.heap Y β s2.heap (zaz Y Z) β2 := ⟨(t2.stays Y).keep, fun b o e a => ⟨fun y => y.elim a.1 (ne b o e), ((t2.stays Y).avoid b o e a).2⟩, t2.beta⟩
 have vo2 : zai w env vars (zaz Y Z) β2 s2.heap := vo.stays S2 (fun _ y => .inl y) fun b y o e => t2.keep b o e fun k q => g.store.apart k b q y
 refine codeAny_forLoop_any (fun n si => Ex5 fun rem βi v m i => zhW (n = rem.length) ((i ≤ items.length ∧ items.drop i = rem)) (Inv rem v m) (GS w H (zaz Y Z) βi m si) (zai w env v (zaz Y Z) βi si.heap) (zaD env β s βi si) (St (zaz Y Z) i si.heap βi))
  (fun n si ⟨rem, βi, v, m, i, hn, ⟨hle, hd⟩, iv, gi, vi, ti, sti⟩ => ?_) items.length ⟨items, β2, vars, mu2, 0, rfl, ⟨Nat.zero_le _, rfl⟩, inv, g2, vo2, t2.st env, st⟩
 cases rem with
 | nil =>
  have hi : items.length ≤ i := List.drop_eq_nil_iff.mp hd
  obtain rfl : i = items.length := by exact Nat.le_antisymm ‹_› ‹_›
  refine wpAny_mono (W.done (zaz Y Z) si βi m (fun _ h => .inr h) gi sti) (fun r se hq2' => ?_) fun _ _ z => z.elim
  kcf_m
  obtain ⟨hr, ⟨h', tk, hse⟩, k'⟩ := hq2'
  kcj_m
  subst hr
  have te : zaD env β s βi se := ti.touch hI k' (by rw [hse]) (by rw [hse])
  exact wpAny_mono (SW.run (done v m iv) hA (gi.leave hZY k') (vi.leave vo.eok hZY k' : zai w env v Y βi se.heap) fun f s3 β3 af v3 m3 g3 vo3 t3 r3 q3 => (⟨β3, af, v3, m3, g3, vo3, te.trans t3, r3, q3⟩ : zd8 w H env Y β s Q f s3)) (fun _ _ z => z) fun _ _ z => z.elim
 | cons x rest =>
  obtain ⟨hi, hx, hrest⟩ := drop_cons hd
  refine wpAny_mono (W.turn (zaz Y Z) i si βi m (fun _ h => .inr h) hi gi sti) (fun r s1 hq2' => ?_) fun _ _ z => z.elim
  kcf_m
  obtain ⟨u, hr, hlet⟩ := hq2'
  kcj_m
  subst hr
  refine wpAny_mono hlet (fun _ sj hq2' => ?_) fun _ _ z => z.elim
  kcf_m
  obtain ⟨⟨h', tk, hsj⟩, k', hz, stj, x', hx', rj⟩ := hq2'
  kcj_m
  rw [hx] at hx'; obtain rfl := Option.some.inj hx'
  have gj : GS w H (zaz Y Z) βi m sj := gi.moveY (fun b o hb => k' b o fun q => hb (.inr q)) fun a y => by
   by_cases q : a ∈ Z
   ·exact hz a q
   ·exact (gi.yIn a y).imp fun o e => k' a o q e
  refine wpAny_mono (turn x rest v m iv A (zaz Y Z) βi sj u hA gj (vi.touch (fun b hb => .inr hb) hL hC k') rj) (fun _ sk ⟨βk, v1, m1, gk, vk, tk', Sk, q1⟩ => wpAny_mono (SW.run q1 hA gk vk (P := fun f s3 => match f with
      | .next | .cont => ∃ m, m < n ∧ (Ex5 fun rem βi v m' i => zhW (m = rem.length) ((i ≤ items.length ∧ items.drop i = rem)) (Inv rem v m') (GS w H (zaz Y Z) βi m' s3) (zai w env v (zaz Y Z) βi s3.heap) (zaD env β s βi s3) (St (zaz Y Z) i s3.heap βi))
      | .brk => (zd8 w H env Y β s Q .next s3)
      | .ret v => (zd8 w H env Y β s Q (.ret v) s3))
      fun f s3 β3 af v3 m3 g3 vo3 t3 r3 q3 => ?_) (fun _ _ z => z) fun _ _ z => z.elim) fun _ _ z => z.elim
  have tot : zaD env β s β3 s3 := ((ti.touch hI k' (by rw [hsj]) (by rw [hsj])).trans tk').trans t3
  have keepZ : ∀ b ∈ Z, ∀ o, sj.heap.get? b = some o → s3.heap.get? b = some o := fun b hb o e =>
   t3.keep b o (tk'.keep b o e (fun k q => gj.store.apart k b q (.inr hb)) (fun q => hL (q ▸ hb)) (fun _ x q => hC x b q hb)) (fun k q => gk.store.apart k b q (.inr hb)) (fun q => hL (q ▸ hb)) (fun _ x q => hC x b q hb)
  have st3 : St (zaz Y Z) (i + 1) s3.heap β3 := W.frame _ (i + 1) _ _ _ _ _ stj (Sk.trans (zaD.stays vo3.eok t3)) keepZ
  have gY : GS w H Y β3 m3 s3 := g3.narrow fun _ y => .inl y
  have vY : zai w env v3 Y β3 s3.heap := vo3.narrow vo.eok fun _ y => .inl y
  have frep : ∀ {x f}, zes w s3.heap (zaz Y Z) β3 x f → zes w s3.heap Y β3 x f := fun {x f} r => by
   cases x with
   | ret a => obtain ⟨u, e, r⟩ := r; exact ⟨u, e, Rep.stays (zch fun _ _ _ e => e) r⟩
   | next => exact r
   | brk => exact r
   | cont => exact r
  have back : ∀ {v2 v4}, v3 = v2 ++ v4 → Inv rest v2 m3 → ∃ m, m < n ∧ (Ex5 fun rem βi v m' i => zhW (m = rem.length) ((i ≤ items.length ∧ items.drop i = rem)) (Inv rem v m') (GS w H (zaz Y Z) βi m' s3) (zai w env v (zaz Y Z) βi s3.heap) (zaD env β s βi s3) (St (zaz Y Z) i s3.heap βi)) :=
   fun {v2 v4} e iv => ⟨rest.length, by rw [hn]; exact Nat.lt_succ_self _, rest, β3, v2, m3, i + 1, rfl, ⟨hi, hrest⟩, iv, g3, vo3.prefix e, tot, st3⟩
  cases af with
  | next => subst r3; obtain ⟨v2, v4, e, iv⟩ := q3; exact back e iv
  | cont => subst r3; obtain ⟨v2, v4, e, iv⟩ := q3; exact back e iv
  | brk => subst r3; exact ⟨β3, .next, v3, m3, gY, vY, tot, rfl, q3⟩
  | ret a =>
   have r4 := frep r3
   obtain ⟨u, rfl, ru⟩ := r3
   exact ⟨β3, .ret a, v3, m3, gY, vY, tot, r4, q3⟩
end
end
section
section
variable {d : Nat} {env : Env} {vars : zaf} {mu : Mu}
theorem zak (h : Heap) : h.get? h.objs.size = none := by
 cases e : h.get? h.objs.size with
 | none => rfl
 | some o => exact absurd (Heap.lt_size e) (Nat.lt_irrefl _)
theorem zaN (t : zap β s β' s') (h : s'.heap.get? a = none) : s.heap.get? a = none := by
 cases e : s.heap.get? a with
 | none => rfl
 | some o => obtain ⟨o', e'⟩ := t.dom a o e; rw [h] at e'; contradiction
theorem zca (hZ : ∀ b ∈ Z, h.get? b = none) (k : ∀ b o, h.get? b = some o → h'.get? b = some o) : zaB h Y β h' (zaz Y Z) β :=
 ⟨fun b o e V => k b o e, fun b o e a => ⟨fun y => y.elim a.1 fun q => Option.some_ne_none o (e.symm.trans (hZ b q)), a.2⟩, fun V V e => e⟩
theorem GS.addI (g : GS w H Y β mu s) (hZ : ∀ b ∈ Z, s.heap.get? b = none) (hn : ∀ b ∈ Z, ∃ o, s'.heap.get? b = some o) (k : ∀ b o, s.heap.get? b = some o → s'.heap.get? b = some o) : GS w H (zaz Y Z) β mu s' := by
 have S := zca (Y := Y) (β := β) hZ k
 refine ⟨fun b o e => k b o (g.base b o e), g.bBase, fun a y => y.elim (g.yBase a) fun q => ?_, fun a y => y.elim (fun y => (g.yIn a y).imp fun o e => k a o e) fun q => hn a q,
  ⟨g.store.dom, g.store.inj, fun q m a e e' => zcX.stays S (fun o => k a o) (g.store.rep q m a e e'), fun q a e => (g.store.here q a e).imp fun o e => k a o e, fun q a e y => y.elim (g.store.apart q a e) fun q' => ?_⟩⟩
 ·cases e : H.get? a with
  | none => rfl
  | some o => have := hZ a q; replace this := (g.base a o e) ▸ this; contradiction
 ·obtain ⟨o, e2⟩ := g.store.here q a e
  replace e2 := (hZ a q') ▸ e2; contradiction
structure Itr (w : World) (A : Around) (I : Addr) (fp : List Addr) (n : Nat) (P : Nat → Value → Prop) (St : Nat → Heap → Prop) : Prop where
 walks : Walks pw w A I fp [I] n P St
 other : ∀ i h, St i h → Ex3 fun o c vs => zbI (h.get? I = some o) (o.cls = .type c) (o.data = .fields vs) (zeZ.contains c = false)
def zrG (w : World) (Y : zau) (I : Addr) (fp : List Addr) (items : List AV) (P : Nat → Value → Prop) (St : Nat → Heap → Prop) (i : Nat) (h : Heap) (β : zaq) : Prop :=
 zaF (St i h) ((∀ b ∈ fp, b = I ∨ (zaL Y β b ∧ ∃ o, h.get? b = some o))) (∀ i v x, P i v → items[i]? = some x → Rep w h Y β x v)
theorem Itr.src {A : Around} {I : Addr} {fp : List Addr} {items : List AV} {P : Nat → Value → Prop} {St : Nat → Heap → Prop} {tgt : Expr} (W : Itr w A I fp items.length P St) :
  Src w H A (Rep w) tgt (.ref I) [I] items (fun Y => zrG w Y I fp items P St) where
 frame Y i h β Y' h' β' st S k := ⟨W.walks.frame i h h' st.1 fun b hb o e => by
   rcases st.2 b hb with q | ⟨a, _⟩
   ·exact k b (by rw [q]; exact List.mem_singleton.mpr rfl) o e
   ·exact S.keep b o e a, fun b hb => (st.2 b hb).imp id fun ⟨a, o, e⟩ => ⟨S.avoid b o e a, o, S.keep b o e a⟩, fun i v x hv hx => Rep.stays S (st.3 i v x hv hx)⟩
 turn Y i s β mu hY hi g st := by
  have hY : Y I := hY I (List.mem_singleton.mpr rfl)
  refine W.walks.item i s _ _ hi st.1 fun v h' tk hv st' k => ⟨v, rfl, ?_⟩
  kcf_m
  obtain ⟨o, c, vs, ho, hc, hd, hn⟩ := W.other _ _ st'
  kcj_m
  have k' : ∀ b o, b ≠ I → s.heap.get? b = some o → h'.get? b = some o := fun b o hb => k b o (by simpa using hb)
  have S : zaB s.heap Y β h' Y β := zcI fun b o hb => k' b o fun q => hb (q ▸ hY)
  refine zcR (s := { s with heap := h', toks := tk }) ho hc hd hn ⟨⟨h', tk, rfl⟩, k, fun b hb => by rw [List.mem_singleton.mp hb]; exact ⟨o, ho⟩, ⟨st', fun b hb => ?_, fun i v x hv hx => Rep.stays S (st.3 i v x hv hx)⟩, ?_⟩
  ·rcases st.2 b hb with q | ⟨a, o2, e⟩
   ·exact .inl q
   ·exact .inr ⟨a, o2, k' b o2 (fun q => a.1 (q ▸ hY)) e⟩
  ·exact ⟨_, (List.getElem?_eq_getElem hi), Rep.stays S (st.3 i v _ hv (List.getElem?_eq_getElem hi))⟩
 done Y s β mu _ g st := W.walks.done s _ _ st.1 fun h' tk k => ⟨rfl, ⟨h', tk, rfl⟩, k⟩
 self Y i s β mu g st := W.walks.self i s _ _ st.1 ⟨rfl, rfl⟩
def zlU (w : World) (H : Heap) (A : Around) (R : Heap → zau → zaq → AV → Value → Prop) (tgt : Expr) (Y : zau) (β : zaq) (s0 : Shared) (it : Value) (items : List AV) (mu : Mu) (s : Shared) : Prop :=
 Ex2 fun Z St => zbI (Src w H A R tgt it Z items St) (St (zaz Y Z) 0 s.heap β) ((∀ b ∈ Z, s0.heap.get? b = none)) (GS w H (zaz Y Z) β mu s)
def zmJ (w : World) (H : Heap) (d : Nat) (a : AV) (mu : Mu) (items : List AV) : Prop :=
 ∀ A Y β s v tgt, zbz A d → GS w H Y β mu s → Rep w s.heap Y β a v →
  wpAny (model pw w) A (pyIter v) (fun it s2 => zlU w H A (Rep w) tgt Y β s it items mu s2 ∧ zap β s β s2) NoE s
theorem zaC (h : EW w H d env (eval iter env) vars mu fun a mu1 => ∃ items, zmJ w H d a mu1 items ∧ Q items mu1) : IW w H (Rep w) tgt d env iter vars mu Q := fun A Y β s hA g vo =>
 h.run hA g vo fun v s1 β1 a mu1 g1 t1 vo1 r ⟨items, hi, q⟩ => wpAny_mono (hi A Y β1 s1 v tgt hA g1 r) (fun it s2 ⟨⟨Z, St, W, st, hI, g2⟩, t2⟩ =>
  ⟨β1, items, mu1, Z, St, W, st, fun b hb => zaN t1 (hI b hb), g2, t1.trans t2, q⟩) fun V V x => x
theorem zf4 : zmJ w H d (.tup xs) mu xs := fun A Y β s v tgt hA g hq8' => by
 obtain ⟨a, vs, n, e, t, av, l⟩ := hq8'
 subst e
 have ht : s.heap.IsTuple a vs := ⟨_, t, rfl, _, rfl⟩
 have hI := zak s.heap
 have k : ∀ b o, s.heap.get? b = some o → (s.heap.push { cls := .type "tuple_iterator", data := .fields #[.ref a, .int 0 0] }).get? b = some o := fun b o e => Heap.get?_push_of_some _ e
 have hnew : (s.heap.push { cls := .type "tuple_iterator", data := .fields #[.ref a, .int 0 0] }).get? s.heap.objs.size = some _ := Heap.get?_push_size _ rfl
 have hZ : ∀ b ∈ [s.heap.objs.size], s.heap.get? b = none := fun b hb => by exists List.mem_singleton.mp hb; exact hI
 have S := zca (Y := Y) (β := β) hZ k
 have hs : vs.size = xs.length := by refine rwR (zah l) ?_; simp
 have W : Itr w A s.heap.objs.size [s.heap.objs.size, a] xs.length _ _ := ⟨hs ▸ Walks.tuple hA.handled s.heap.objs.size a (Nat.ne_of_lt (Heap.lt_size t)) vs, by
  intro i h st
  kcf_m
  obtain ⟨o, ho, hc, hd⟩ := st.1
  kcj_m
  exact ⟨o, _, _, ho, hc, hd, by decide +kernel⟩⟩
 refine wpAny_pyIter_tuple ht ⟨⟨[s.heap.objs.size], _, W.src, ⟨⟨⟨_, hnew, rfl, rfl⟩, ht.at fun o => k a o⟩, fun b hb => ?_, fun i u x hu hx => ?_⟩, hZ, g.addI hZ (fun b hb => by exists List.mem_singleton.mp hb; exact ⟨_, hnew⟩) k⟩, .grow k rfl rfl⟩
 ·rcases List.mem_cons.mp hb with q | hb
  ·exact .inl q
  ·exists List.mem_singleton.mp hb; exact .inr ⟨S.avoid a _ t av, _, k _ _ t⟩
 ·kcf_m
  obtain ⟨v', hv', rv⟩ := zb9 l hx
  kcj_m
  have hu' : vs.toList[i]? = some u := by simpa using hu
  rw [hu'] at hv'; obtain rfl := Option.some.inj hv'
  exact Rep.stays S rv
theorem zm6 {xs : List AV} {tgt : Expr} {A : Around} {Y : zau} {β : zaq} {s : Shared} {a : Addr} {vs : Array Value} {n : Nat} (hA : zbz A d) (g : GS w H Y β mu s) (t : IsL s.heap a vs n) (av : zaL Y β a) (l : zan w s.heap Y β xs vs.toList) :
  wpAny (model pw w) A (pyIter (.ref a)) (fun it s2 => zlU w H A (Rep w) tgt Y β s it xs mu s2 ∧ zap β s β s2) NoE s := by
 have ht : s.heap.IsList a vs := ⟨_, t, rfl, _, rfl⟩
 have hI := zak s.heap
 have k : ∀ b o, s.heap.get? b = some o → (s.heap.push { cls := .type "list_iterator", data := .fields #[.ref a, .int 0 0] }).get? b = some o := fun b o e => Heap.get?_push_of_some _ e
 have hnew : (s.heap.push { cls := .type "list_iterator", data := .fields #[.ref a, .int 0 0] }).get? s.heap.objs.size = some _ := Heap.get?_push_size _ rfl
 have hZ : ∀ b ∈ [s.heap.objs.size], s.heap.get? b = none := fun b hb => by exists List.mem_singleton.mp hb; exact hI
 have S := zca (Y := Y) (β := β) hZ k
 have hs : vs.size = xs.length := by refine rwR (zah l) ?_; simp
 have W : Itr w A s.heap.objs.size [s.heap.objs.size, a] xs.length _ _ := ⟨hs ▸ Walks.list hA.handled s.heap.objs.size a (Nat.ne_of_lt (Heap.lt_size t)) vs, by
  intro i h st
  kcf_m
  obtain ⟨o, ho, hc, hd⟩ := st.1
  kcj_m
  exact ⟨o, _, _, ho, hc, hd, by decide +kernel⟩⟩
 refine wpAny_pyIter_list ht ⟨⟨[s.heap.objs.size], _, W.src, ⟨⟨⟨_, hnew, rfl, rfl⟩, ht.at fun o => k a o⟩, fun b hb => ?_, fun i u x hu hx => ?_⟩, hZ, g.addI hZ (fun b hb => by exists List.mem_singleton.mp hb; exact ⟨_, hnew⟩) k⟩, .grow k rfl rfl⟩
 ·rcases List.mem_cons.mp hb with q | hb
  ·exact .inl q
  ·exists List.mem_singleton.mp hb; exact .inr ⟨S.avoid a _ t av, _, k _ _ t⟩
 ·kcf_m
  obtain ⟨v', hv', rv⟩ := zb9 l hx
  kcj_m
  have hu' : vs.toList[i]? = some u := by simpa using hu
  rw [hu'] at hv'; obtain rfl := Option.some.inj hv'
  exact Rep.stays S rv
theorem zbj : zmJ w H d (.lst xs) mu xs := fun A Y β s v tgt hA g ⟨a, vs, n, e, t, av, l⟩ => by subst e; exact zm6 hA g t av l
noncomputable def zcE (a b c : Int) : Nat := (Builtin.Range.rangeSize a b c).toNat
noncomputable def zbV (a b c : Int) : List AV := (List.range (zcE a b c)).map fun (i : Nat) => .int (a + (i : Int) * c)
theorem zoc (hsm : Builtin.Range.small a b c = true) (h0 : 0 ≤ Builtin.Range.rangeSize a b c) : zmJ w H d (.rng a b c) mu (zbV a b c) := fun A Y β s v tgt hA g hq8' => by
 obtain ⟨p, t, u, x, e, hr, av⟩ := hq8'
 subst e
 have hI := zak s.heap
 have k : ∀ b' o, s.heap.get? b' = some o → (s.heap.push { cls := .type "range_iterator", data := .fields #[rawInt a, rawInt (Builtin.Range.rangeSize a b c), rawInt c] }).get? b' = some o := fun b o e => Heap.get?_push_of_some _ e
 have hnew : (s.heap.push { cls := .type "range_iterator", data := .fields #[rawInt a, rawInt (Builtin.Range.rangeSize a b c), rawInt c] }).get? s.heap.objs.size = some _ := Heap.get?_push_size _ rfl
 have hZ : ∀ b ∈ [s.heap.objs.size], s.heap.get? b = none := fun b hb => by exists List.mem_singleton.mp hb; exact hI
 have hl : (zbV a b c).length = zcE a b c := by simp [zbV]
 have W : Itr w A s.heap.objs.size [s.heap.objs.size] (zbV a b c).length _ _ := ⟨hl ▸ Walks.range hA.handled s.heap.objs.size a c (zcE a b c), fun i h st => ⟨_, _, _, st, rfl, rfl, by decide +kernel⟩⟩
 refine wpAny_pyIter_range hr hsm ⟨⟨[s.heap.objs.size], _, W.src, ⟨?_, fun b hb => .inl (List.mem_singleton.mp hb), fun i u x hu hx => ?_⟩, hZ, g.addI hZ (fun b hb => by exists List.mem_singleton.mp hb; exact ⟨_, hnew⟩) k⟩, .grow k rfl rfl⟩
 ·have e1 : a + ((0 : Nat) : Int) * c = a := by simp
  show IsRangeIter _ _ (a + ((0 : Nat) : Int) * c) (((zbV a b c).length : Int) - ((0 : Nat) : Int)) c
  (exists e1; exists hl; exists ((by unfold zcE; kd_mem : ((zcE a b c : Nat) : Int) - ((0 : Nat) : Int) = Builtin.Range.rangeSize a b c))); exact hnew
 ·obtain ⟨tk, rfl⟩ := hu
  unfold zbV at hx
  rw [List.getElem?_map] at hx
  obtain ⟨j, hj, rfl⟩ := Option.map_eq_some_iff.mp hx
  obtain ⟨hj1, hj2⟩ := List.getElem?_eq_some_iff.mp hj
  simp at hj2
  subst hj2
  exact ⟨tk, rfl⟩
end
end
section

def TT (w : World) (H : Heap) (d : Nat) (env : Env) (ifs : List Expr) (vars : zaf) (mu : Mu) (Q : QB) : Prop := match ifs with
 | [] => Q true mu
 | [c] => TW w H d env (isTrue c env (eval c env)) vars mu Q
 | _ => False
noncomputable abbrev zmD (ifs : List Expr) (env : Env) : Sem Bool := forIn ifs true fun c r => if r = true then do let ok ← isTrue c env (eval c env); pure (ForInStep.yield ok) else pure (ForInStep.yield r)
def zfX (names : List (Str × NameKind)) (env : Env) (cl : List (Str × Addr)) (vs : zaf) : Prop :=
 ∀ p ∈ vs, zaF ((env.kindOf p.1 = some .cell ∨ env.kindOf p.1 = some .free)) (names.lookup p.1 = some .free) (∃ c, cl.lookup p.1 = some c ∧ env.cells.lookup p.1 = some c)
section
variable {d : Nat} {env : Env} {vars : zaf} {mu : Mu}
theorem TT.run (h : TT w H d env ifs vars mu Q) (hA : zbz A d) (g : GS w H Y β mu s) (vo : zai w env vars Y β s.heap) (k : ∀ b s' β' mu', GS w H Y β' mu' s' → zap β s β' s' → zai w env vars Y β' s'.heap → Q b mu' → P b s') : wpAny (model pw w) A (zmD ifs env) P NoE s := by
 match ifs, h with
 | [], h => exact wpAny_tests_nil (k true s β mu g (.refl _ _) vo h)
 | [c], h => exact wpAny_tests_one (TW.run h hA g vo k)
theorem zea (I : Nat → Shared → Prop)
  (turn : ∀ n s, I n s → wpAny (model pw w) A (pyNext it) (fun r s₁ => match r with
   | none => R (.ok .next) s₁
   | some v => wpAny (model pw w) A (letOwnedTupleGo target it v) (fun _ s₁' => wpAny (model pw w) A (assign target cenv v) (fun _ s₂ =>
     wpAny (model pw w) A (zmD ifs cenv) (fun ok s₃ =>
      if ok = true then wpAny (model pw w) A (eval elt cenv) (fun x s₄ =>
       wpAny (model pw w) A (call (.builtin "list.append") [acc, x]) (fun _ s₅ => ∃ m, m < n ∧ I m s₅) NoE s₄) NoE s₃
      else ∃ m, m < n ∧ I m s₃) NoE s₂) NoE s₁') NoE s₁) NoE s)
  (n : Nat) (h : I n s) : codeAny (model pw w) A (.compLoop (.ListComp elt [⟨target, iter, ifs, 0⟩] scope pos) 0 it acc cenv) R s := by
 refine codeAny_loop rfl I (fun n s hI => ?_) n h
 show wpAny _ A ((compTurn (.ListComp elt [⟨target, iter, ifs, 0⟩] scope pos) 0 it acc cenv).onRaise (fun x => do noteFrame x cenv; theTreesLotGoes x)) _ _ s
 refine wpAny_noted ?_
 rw [compTurn_list]
 refine wpAny_bind (wpAny_standAt (wpAny_bind (wpAny_mono (turn n s hI) (fun r s₁ h₁ => ?_) fun _ _ h' => h'.elim)))
 cases r with
 | none => exact wpAny_pure h₁
 | some v =>
  refine wpAny_bind (wpAny_mono h₁ (fun _ s₁' h₁' => ?_) fun _ _ h' => h'.elim)
  refine wpAny_bind (wpAny_mono h₁' (fun _ s₂ h₂ => wpAny_bind (wpAny_mono h₂ (fun ok s₃ h₃ => ?_) fun _ _ h' => h'.elim)) fun _ _ h' => h'.elim)
  cases ok with
  | false => exact wpAny_pure ⟨rfl, h₃⟩
  | true =>
   exact wpAny_bind (wpAny_bind (wpAny_mono h₃ (fun x s₄ h₄ => wpAny_bind (wpAny_mono h₄ (fun _ s₅ h₅ => wpAny_pure (wpAny_pure ⟨rfl, h₅⟩)) fun _ _ h' => h'.elim)) fun _ _ h' => h'.elim))
theorem zcP {env : Env} {k : NameKind} {x : Str} : ∀ {names : List (Str × NameKind)}, names.lookup x = some .free →
  (names.map fun (n, k) => if (k == NameKind.free && env.scope.kind == .function && env.kindOf n == some .cell) then (n, NameKind.cell) else (n, k)).lookup x = some .free ∨
  (names.map fun (n, k) => if (k == NameKind.free && env.scope.kind == .function && env.kindOf n == some .cell) then (n, NameKind.cell) else (n, k)).lookup x = some .cell
 | [], h => by simp at h
 | (n, k') :: r, h => by
  rw [List.map_cons]
  cases hx : x == n with
  | true =>
   rw [List.lookup_cons, hx] at h
   cases h
   dsimp only
   split
   ·right; rw [List.lookup_cons, hx]
   ·left; rw [List.lookup_cons, hx]
  | false =>
   rw [List.lookup_cons, hx] at h
   have ih := zcP (env := env) (k := k) h
   dsimp only
   split
   ·(exists List.lookup_cons; exists hx); exact ih
   ·(exists List.lookup_cons; exists hx); exact ih
theorem znL (vo : zai w env vars Y β h) (hk : scope.kind = .function) (hcl : ∀ x c, cl.lookup x = some c → env.cells.lookup x = some c) (hcap : zfX scope.names env cl cvars) (hsub : ∀ p ∈ cvars, p ∈ vars)
  (hnd : (cvars.map (fun V => V.1)).Nodup) (hC : h.get? C = none) (hCZ : C ∈ Z) (k : ∀ b o, h.get? b = some o → h'.get? b = some o) (hZ : ∀ b ∈ Z, h.get? b = none) {m} (hn : h'.Ns C m) : zai w (compEnvC scope cl C env) cvars (zaz Y Z) β h' := by
 obtain ⟨e, hcs, nd, m0, n0, f⟩ := vo
 have S := zca (Y := Y) (β := β) hZ k
 refine ⟨⟨hk, e.glob, e.blt, .inr hCZ, fun x c hc => ⟨.inl (e.cellY x c (hcl x c hc)).1, fun q => ?_⟩, fun x y c hx hy => e.cellInj x y c (hcl x c hx) (hcl y c hy)⟩, fun x c hc => ?_, hnd, m, hn, fun x av hm => ?_⟩
 ·obtain ⟨v, o, ho, V⟩ := hcs x c (hcl x c hc)
  rw [show c = C from q, hC] at ho; contradiction
 ·obtain ⟨v, o, ho, hd⟩ := hcs x c (hcl x c hc)
  exact ⟨v, o, k _ _ ho, hd⟩
 ·kcf_m
  obtain ⟨v, r, at_⟩ := f x av (hsub _ hm)
  kcj_m
  obtain ⟨hk1, hk2, c, hc1, hc2⟩ := hcap _ hm
  refine ⟨v, Rep.stays S r, ?_⟩
  have cell : ∃ c, (compEnvC scope cl C env).cells.lookup x = some c ∧ h'.IsCell c (some v) := by
   rcases at_ with ⟨e1, qz⟩ | ⟨qz, c', hc', o, ho, hd⟩
   ·rcases hk1 with hk1 | hk1 <;> exact nomatch e1.symm.trans hk1
   obtain rfl := Option.some.inj (hc2.symm.trans hc')
   exact ⟨_, hc1, o, k _ _ ho, hd⟩
  exact .inr ⟨(zcP (env := env) (k := .free) hk2).symm, cell⟩
inductive zlR (w : World) (H : Heap) (Y : zau) (β : zaq) (s : Shared) (Q : QL) (v : Value) (s' : Shared) : Prop
 | mk (β' : zaq) (xs : List AV) (mu' : Mu) (D : Addr) (vs : Array Value) (n : Nat) (e : v = .ref D) (hn : s.heap.get? D = none) (hl : IsL s'.heap D vs n) (g : GS w H (zaz Y [D]) β' mu' s') (t : zap β s β' s') (r : zan w s'.heap (zaz Y [D]) β' xs vs.toList) (q : Q xs mu')
def EWL (w : World) (H : Heap) (d : Nat) (env : Env) (t : Sem Value) (vars : zaf) (mu : Mu) (Q : QL) : Prop :=
 ∀ A Y β s, zbz A d → GS w H Y β mu s → zai w env vars Y β s.heap →
  wpAny (model pw w) A t (fun v s' => zlR w H Y β s Q v s') NoE s
theorem zc5 {h : Heap} {Y : zau} {β : zaq} {y : AV} {v : Value} (r : Rep w h Y β y v) : ∀ {xs : List AV} {vs : List Value}, zan w h Y β xs vs → zan w h Y β (xs ++ [y]) (vs ++ [v])
 | [], _, e => by subst e; exact ⟨v, [], rfl, r, rfl⟩
 | _ :: _, _, ⟨u, t, e, p, l⟩ => by subst e; exact ⟨u, _, rfl, p, zc5 r l⟩
inductive zlQ (w : World) (H : Heap) (Y : zau) (β : zaq) (s : Shared) (Q : QL) (acc : Value) (C : Addr) (s' : Shared) : Prop
 | mk (β' : zaq) (xs : List AV) (m : Mu) (D : Addr) (vs : Array Value) (n : Nat) (mC : Str → Option Value) (e : acc = .ref D) (h1 : s.heap.get? D = none) (h2 : s.heap.get? C = none) (h3 : D ≠ C) (h4 : IsL s'.heap D vs n) (h5 : s'.heap.Ns C mC)
  (g : GS w H (zaz (zaz Y [D]) [C]) β' m s') (t : zap β s β' s') (r : zan w s'.heap (zaz (zaz Y [D]) [C]) β' xs vs.toList) (q : Q xs m)
theorem zig (R : Heap → zau → zaq → AV → Value → Prop) {elt tgt iter : Expr} {ifs : List Expr} {scope : Scope} {pos : Pos} (cl : List (Str × Addr)) (cvars : zaf) {Q : QL} (Inv : List AV → List AV → Mu → Prop)
  (h : IW w H R tgt d env iter vars mu fun items mu1 => items.length ≤ sizeLine ∧ Inv items [] mu1)
  (turn : ∀ C x rest acc m, Inv (x :: rest) acc m → UR w H R d (compEnvC scope cl C env) (fun u => assign tgt (compEnvC scope cl C env) u) x cvars m fun v1 m1 => (∃ v3, v1 = cvars ++ v3) ∧
   TT w H d (compEnvC scope cl C env) ifs v1 m1 fun b m2 => IfB b (EW w H d (compEnvC scope cl C env) (eval elt (compEnvC scope cl C env)) v1 m2 fun y m3 => Inv rest (acc ++ [y]) m3) (Inv rest acc m2))
  (done : ∀ acc m, Inv [] acc m → Q acc m)
  (hclos : closureFor scope env = pure cl) (hcl : ∀ x c, cl.lookup x = some c → env.cells.lookup x = some c) (hcap : zfX scope.names env cl cvars) (hsub : ∀ p ∈ cvars, p ∈ vars) (hnd : (cvars.map (fun V => V.1)).Nodup)
  (hcell : ∀ y ∈ scope.names, y.2 ≠ .cell) (hkind : scope.kind = .function) {A : Around} {Y : zau} {β : zaq} {s : Shared} (hA : zbz A d) (g : GS w H Y β mu s) (vo : zai w env vars Y β s.heap) :
  wpAny (model pw w) A (eval iter env) (fun xv s1 => wpAny (model pw w) A (pyIter xv) (fun it s2 => wpAny (model pw w) A (newList []) (fun acc s₃ =>
   wpAny (model pw w) A (newFunctionEnv scope env.globals cl [] env.qual none .none (some env)) (fun cenv s₄ =>
    codeAny (model pw w) A (.compStart (.ListComp elt [⟨tgt, iter, ifs, 0⟩] scope pos) 0 it acc { cenv with scope := relabel scope env }) (fun r s' => r = .ok .next ∧ zlQ w H Y β s Q acc cenv.locals s') s₄) NoE s₃) NoE s2) NoE s1) NoE s := by
 refine wpAny_mono (h A Y β s hA g vo) (fun xv s1 h1 => wpAny_mono h1 (fun it s2 h2 => ?_) fun _ _ e => e) fun _ _ e => e
 obtain ⟨β2, items, mu2, Z, St, W, st, hI, g2, t2, hz, inv⟩ := h2
 refine wpAny_newObj_type (wpAny_newFunctionEnv hcell (by intro y hy; simp at hy) (fun h₁ hns₁ hsb₁ => ?_) hkind)
 dsimp only at hns₁ hsb₁ ⊢
 generalize hH2 : s2.heap.push { cls := .type "list", dict := none, data := .seq ([] : List Value).toArray } = H2 at hns₁ hsb₁ ⊢
 have hCs : H2.objs.size = s2.heap.objs.size + 1 := by rw [← hH2, Heap.size_push]
 have hDC : s2.heap.objs.size ≠ H2.objs.size := by rw [hCs]; exact Nat.ne_of_lt (Nat.lt_succ_self _)
 have below : ∀ b o, s2.heap.get? b = some o → b ≠ H2.objs.size := fun b o e => by rw [hCs]; exact Nat.ne_of_lt (Nat.lt_succ_of_lt (Heap.lt_size e))
 have old : ∀ b o, s2.heap.get? b = some o → h₁.get? b = some o := fun b o e => hsb₁.extBut b o (below b o e) (Heap.get?_push_of_some _ (hH2 ▸ Heap.get?_push_of_some _ e))
 have hDn : s2.heap.get? s2.heap.objs.size = none := zak _
 have hCn : s2.heap.get? H2.objs.size = none := by
  cases e : s2.heap.get? H2.objs.size with
  | none => rfl
  | some o => exact absurd rfl (below _ o e)
 have hDo : IsL h₁ s2.heap.objs.size #[] 0 := hsb₁.extBut _ _ hDC (Heap.get?_push_of_some _ (hH2 ▸ Heap.get?_push_size _ rfl))
 generalize hD : s2.heap.objs.size = D at hDC hDn hDo ⊢
 generalize hC : H2.objs.size = C at hDC hCn hns₁ hsb₁ ⊢
 clear below hCs
 have hsD : s.heap.get? D = none := zaN t2 hDn
 have hsC : s.heap.get? C = none := zaN t2 hCn
 have hZ2 : ∀ b ∈ Z, ∃ o, s2.heap.get? b = some o := fun b hb => g2.yIn b (.inr hb)
 have hDZ : D ∉ Z := fun q => by obtain ⟨o, e⟩ := hZ2 D q; replace e := (hDn) ▸ e; contradiction
 have hCZ : C ∉ Z := fun q => by obtain ⟨o, e⟩ := hZ2 C q; replace e := (hCn) ▸ e; contradiction
 let Y2 : zau := zaz (zaz Y Z) [D, C]
 have hZD : ∀ b ∈ [D, C], s2.heap.get? b = none := fun b hb => by
  rcases List.mem_cons.mp hb with q | hb
  ·exists q; exact hDn
  ·exists List.mem_singleton.mp hb; exact hCn
 have hD2 : Y2 D := .inr (by simp)
 have hC2 : Y2 C := .inr (by simp)
 have hZ2' : ∀ b ∈ Z, Y2 b := fun b hb => .inl (.inr hb)
 have hsZ : ∀ b ∈ Z, s.heap.get? b = none := hI
 have clZ : ∀ x c, cl.lookup x = some c → ∃ o, s.heap.get? c = some o := fun x c hc => by obtain ⟨v, o, ho, _⟩ := vo.cells x c (hcl x c hc); exact ⟨o, ho⟩
 let cenv := compEnvC scope cl C env
 have hfun : ∀ {P : Prop}, cenv.func.isSome = true → P := fun q => by exact Bool.noConfusion q
 suffices loop : ∀ s4 : Shared, s4 = { s2 with heap := h₁, toks := s2.toks + ([] : List (Str × Value)).length } → codeAny (model pw w) A (.compLoop (.ListComp elt [⟨tgt, iter, ifs, 0⟩] scope pos) 0 it (.ref D) cenv)
   (fun r s' => r = .ok .next ∧ zlQ w H Y β s Q (.ref D) C s') s4 by
  have g4 : GS w H (zaz Y Z) β2 mu2 { s2 with heap := h₁, toks := s2.toks + ([] : List (Str × Value)).length } := g2.grow (s' := { s2 with heap := h₁, toks := s2.toks + ([] : List (Str × Value)).length }) old
  have st4 : St (zaz Y Z) 0 h₁ β2 := W.frame _ 0 _ _ _ _ _ st ⟨fun b o e _ => old b o e, fun _ _ _ a => a, fun _ _ e => e⟩ fun b hb o e => old b o e
  exact codeAny_compStart_list (loop _ rfl) (wpAny_mono (W.self _ 0 _ β2 mu2 g4 st4) (fun it' s' ⟨e1, e2⟩ => by (exists e1; exists e2); exact loop _ rfl) fun _ _ z => z.elim)
 rintro s4 hs4
 have hs4h : s4.heap = h₁ := by rw [hs4]
 have old4 : ∀ b o, s2.heap.get? b = some o → s4.heap.get? b = some o := by exists hs4h; exact old
 have g4 : GS w H Y2 β2 mu2 s4 := g2.addI hZD (fun b hb => by
  exists hs4h
  rcases List.mem_cons.mp hb with q | hb
  ·rw [q]; exact ⟨_, hDo⟩
  ·rw [List.mem_singleton.mp hb]; exact zjf hns₁) old4
 have S24 : zaB s2.heap (zaz Y Z) β2 s4.heap Y2 β2 := zca hZD old4
 have t4 : zaD cenv β s β2 s4 := ((t2.trans (.grow old4 (by rw [hs4]) (by rw [hs4]))).st cenv)
 have st4 : St Y2 0 s4.heap β2 := W.frame _ 0 _ _ _ _ _ st S24 fun b hb o e => old4 b o e
 have v4 : zai w cenv cvars Y2 β2 s4.heap := by
  have ne : ∀ b o, s.heap.get? b = some o → b ∉ Z := fun b o e q => by replace e := (hI b q) ▸ e; contradiction
  have v2 : zai w env vars (zaz Y Z) β2 s2.heap := vo.stays (⟨(t2.stays Y).keep, fun b o e a => ⟨fun y => y.elim a.1 (ne b o e), ((t2.stays Y).avoid b o e a).2⟩, t2.beta⟩) (fun _ y => .inl y) fun b y o e => t2.keep b o e fun k q => g.store.apart k b q y
  exact znL v2 hkind hcl hcap hsub hnd hCn (by simp) old4 hZD (by exists hs4h; exact hns₁)
 refine zea (fun n si => Ex7 fun rem βi m i accs vals nn => And9 (n = rem.length) ((i ≤ items.length ∧ items.drop i = rem)) (Inv rem accs m) (accs.length ≤ i) (GS w H Y2 βi m si) (zai w cenv cvars Y2 βi si.heap) (zaD cenv β s βi si) (St Y2 i si.heap βi) (IsL si.heap D vals nn ∧ zan w si.heap Y2 βi accs vals.toList))
  (fun n si ⟨rem, βi, m, i, accs, vals, nn, hn, ⟨hle, hd⟩, iv, hal, gi, vi, ti, sti, hDi, ri⟩ => ?_) items.length ⟨items, β2, mu2, 0, [], #[], 0, rfl, ⟨Nat.zero_le _, rfl⟩, inv, Nat.le_refl _, g4, v4, t4, st4, by rw [hs4h]; exact hDo, rfl⟩
 have hLZ : cenv.locals ∉ Z := hCZ
 have hCeZ : ∀ x c, cenv.cells.lookup x = some c → c ∉ Z := fun x c hc q => by obtain ⟨o, e⟩ := clZ x c hc; replace e := (hI c q) ▸ e; contradiction
 cases rem with
 | nil =>
  have hi : items.length ≤ i := List.drop_eq_nil_iff.mp hd
  obtain rfl : i = items.length := by exact Nat.le_antisymm ‹_› ‹_›
  refine wpAny_mono (W.done Y2 si βi m hZ2' gi sti) (fun r se hq2' => ?_) fun _ _ z => z
  obtain ⟨hr, ⟨h', tk, hse⟩, k'⟩ := hq2'
  subst hr
  kcf_m
  kcf_m
  obtain ⟨mC, hnC, _⟩ := vi.vars
  kcj_m
  kcj_m
  have hmem : ∀ b, zaz (zaz (zaz Y [D]) [C]) Z b → Y2 b := fun b y => by
   rcases y with ((y | y) | y) | y
   ·exact .inl (.inl y)
   ·rw [List.mem_singleton.mp y]; exact hD2
   ·rw [List.mem_singleton.mp y]; exact hC2
   ·exact hZ2' b y
  have gn : GS w H (zaz (zaz (zaz Y [D]) [C]) Z) βi m si := gi.narrow hmem
  have hout : ∀ b ∈ Z, ¬ zaz (zaz Y [D]) [C] b := fun b hb y => by
   rcases y with (y | y) | y
   ·obtain ⟨o, e⟩ := g.yIn b y; replace e := (hI b hb) ▸ e; contradiction
   ·exact hDZ (List.mem_singleton.mp y ▸ hb)
   ·exact hCZ (List.mem_singleton.mp y ▸ hb)
  have gf : GS w H (zaz (zaz Y [D]) [C]) βi m se := gn.leave hout k'
  have Sn : zaB si.heap Y2 βi si.heap (zaz (zaz (zaz Y [D]) [C]) Z) βi := ⟨fun _ _ e _ => e, fun b o e a => ⟨fun y => a.1 (hmem b y), a.2⟩, fun _ _ e => e⟩
  have tf : zaD cenv β s βi se := ti.touch (s2 := se) hI k' (by rw [hse]) (by rw [hse])
  refine ⟨rfl, βi, accs, m, D, vals, nn, mC, rfl, hsD, hsC, hDC, k' D _ hDZ hDi, zeX hnC (fun o => k' C o hCZ), gf, ⟨fun b o e n' => tf.keep b o e n' (fun q => ?_) hfun, tf.beta, tf.fresh, tf.dom, tf.gens, tf.os⟩, zan.stays (zch k') (zan.stays Sn ri), done accs m iv⟩
  have q : b = C := q
  rw [q, hsC] at e; contradiction
 | cons x rest =>
  obtain ⟨hi, hx, hrest⟩ := drop_cons hd
  refine wpAny_mono (W.turn Y2 i si βi m hZ2' hi gi sti) (fun r s1 hq2' => ?_) fun _ _ z => z
  kcf_m
  obtain ⟨u, hr, hlet⟩ := hq2'
  kcj_m
  subst hr
  refine wpAny_mono hlet (fun _ sj hq2' => ?_) fun _ _ z => z
  kcf_m
  obtain ⟨⟨h', tk, hsj⟩, k', hzj, stj, x', hx', rj⟩ := hq2'
  kcj_m
  rw [hx] at hx'; obtain rfl := Option.some.inj hx'
  have gj : GS w H Y2 βi m sj := gi.moveY (fun b o hb => k' b o fun q => hb (hZ2' b q)) fun a y => by
   by_cases q : a ∈ Z
   ·exact hzj a q
   ·exact (gi.yIn a y).imp fun o e => k' a o q e
  have vj := vi.touch hZ2' hLZ hCeZ k'
  have tj : zaD cenv β s βi sj := ti.touch hI k' (by rw [hsj]) (by rw [hsj])
  have hDj : IsL sj.heap D vals nn := k' D _ hDZ hDi
  have rj' : zan w sj.heap Y2 βi accs vals.toList := zan.stays (zcI fun b o hb => k' b o fun q => hb (hZ2' b q)) ri
  refine wpAny_mono (turn C x rest accs m iv A Y2 βi sj u hA gj vj rj) (fun _ sk hq2' => ?_) fun _ _ z => z
  kcf_m
  obtain ⟨βk, v1, m1, gk, vk, tk', Sk, ⟨v3, hv3⟩, q1⟩ := hq2'
  kcj_m
  have hDk : IsL sk.heap D vals nn := tk'.keep D _ hDj (fun k q => gj.store.apart k D q hD2) hDC hfun
  refine TT.run q1 hA gk vk fun ok sl βl m2 gl tl vl q2 => ?_
  have tsl : zaD cenv β s βl sl := (tj.trans tk').trans (tl.st cenv)
  have hDl : IsL sl.heap D vals nn := tl.keep D _ hDk fun k q => gk.store.apart k D q hD2
  have stl : St Y2 (i + 1) sl.heap βl := W.frame _ _ _ _ _ _ _ (W.frame _ _ _ _ _ _ _ stj Sk fun b hb o e => tk'.keep b o e (fun k q => gj.store.apart k b q (hZ2' b hb)) (fun q => hLZ (q ▸ hb)) hfun) (tl.stays Y2) fun b hb o e => tl.keep b o e fun k q => gk.store.apart k b q (hZ2' b hb)
  have rl : zan w sl.heap Y2 βl accs vals.toList := zan.stays (Sk.trans (tl.stays Y2)) rj'
  have vlc : zai w cenv cvars Y2 βl sl.heap := vl.prefix hv3
  cases ok with
  | false =>
   exact ⟨rest.length, by exists hn; exact Nat.lt_succ_self _, rest, βl, m2, i + 1, accs, vals, nn, rfl, ⟨hi, hrest⟩, q2, Nat.le_succ_of_le hal, gl, vlc, tsl, stl, hDl, rl⟩
  | true =>
   rw [if_pos rfl]
   have q2 : EW w H d (compEnvC scope cl C env) (eval elt (compEnvC scope cl C env)) v1 m2 fun y m3 => Inv rest (accs ++ [y]) m3 := q2
   refine q2.run hA gl vl fun y sm βm av m3 gm tm vm rm q3 => ?_
   have hDm : IsL sm.heap D vals nn := tm.keep D _ hDl fun k q => gl.store.apart k D q hD2
   have stm : St Y2 (i + 1) sm.heap βm := W.frame _ _ _ _ _ _ _ stl (tm.stays Y2) fun b hb o e => tm.keep b o e fun k q => gl.store.apart k b q (hZ2' b hb)
   have rml : zan w sm.heap Y2 βm accs vals.toList := tm.repL rl
   have vmc : zai w cenv cvars Y2 βm sm.heap := vm.prefix hv3
   have hvs : vals.size ≤ sizeLine := by
    have : vals.size = accs.length := by rw [← zah ri]; simp
    kd_mem
   refine wpAny_list_append_plain ⟨nn, hDm⟩ (fun hf hq1' hsb => ?_) hvs
   obtain ⟨nf, hpf⟩ := hq1'
   have kf : ∀ b o, b ∉ [D] → sm.heap.get? b = some o → hf.get? b = some o := fun b o hb e => (hsb.2 b (by simpa using hb)).trans e
   have hDY : ∀ b ∈ [D], Y2 b := fun b hb => by rw [List.mem_singleton.mp hb]; exact hD2
   have Sf : zaB sm.heap Y2 βm hf Y2 βm := zcI fun b o hb => kf b o fun q => hb (hDY b q)
   have gf : GS w H Y2 βm m3 { sm with heap := hf } := gm.moveY (fun b o hb => kf b o fun q => hb (hDY b q)) fun a y => by
    by_cases q : a ∈ [D]
    ·rw [List.mem_singleton.mp q]; exact ⟨_, hpf⟩
    ·exact (gm.yIn a y).imp fun o e => kf a o q e
   refine ⟨rest.length, by rw [hn]; exact Nat.lt_succ_self _, rest, βm, m3, i + 1, accs ++ [av], vals.push y, nf, rfl, ⟨hi, hrest⟩, q3, by rw [List.length_append]; exact Nat.add_le_add_right hal 1, gf, ?_, ?_, ?_, hpf, ?_⟩
   ·refine vmc.touch hDY (fun q => hDC (List.mem_singleton.mp q).symm) (fun x c hc q => ?_) kf
    obtain ⟨o, e⟩ := clZ x c hc
    rw [List.mem_singleton.mp q, hsD] at e; contradiction
   ·exact (tsl.trans (tm.st cenv)).touch (Z := [D]) (s2 := { sm with heap := hf }) (fun b hb => by rw [List.mem_singleton.mp hb]; exact hsD) kf rfl rfl
   ·exact W.frame _ _ _ _ _ _ _ stm Sf fun b hb o e => kf b o (fun q => hDZ (List.mem_singleton.mp q ▸ hb)) e
   ·rw [Array.toList_push]; exact zc5 (Rep.stays Sf rm) (zan.stays Sf rml)
theorem zjR (R : Heap → zau → zaq → AV → Value → Prop) (cl : List (Str × Addr)) (cvars : zaf) (Inv : List AV → List AV → Mu → Prop)
  (h : IW w H R tgt d env iter vars mu fun items mu1 => items.length ≤ sizeLine ∧ Inv items [] mu1)
  (turn : ∀ C x rest acc m, Inv (x :: rest) acc m → UR w H R d (compEnvC scope cl C env) (fun u => assign tgt (compEnvC scope cl C env) u) x cvars m fun v1 m1 => (∃ v3, v1 = cvars ++ v3) ∧
   TT w H d (compEnvC scope cl C env) ifs v1 m1 fun b m2 => IfB b (EW w H d (compEnvC scope cl C env) (eval elt (compEnvC scope cl C env)) v1 m2 fun y m3 => Inv rest (acc ++ [y]) m3) (Inv rest acc m2))
  (done : ∀ acc m, Inv [] acc m → Q acc m)
  (hclos : closureFor scope env = pure cl) (hcl : ∀ x c, cl.lookup x = some c → env.cells.lookup x = some c) (hcap : zfX scope.names env cl cvars) (hsub : ∀ p ∈ cvars, p ∈ vars) (hnd : (cvars.map (fun V => V.1)).Nodup)
  (hcell : ∀ y ∈ scope.names, y.2 ≠ .cell) (hnames : ∀ y ∈ scope.names, y.2 = .local → scope.names.lookup y.1 = some .local) (hkind : autoParam (scope.kind = .function) aW)
  (hs : autoParam (∀ x, foldedSetIterable iter env x = pure x) aW) : EWL w H d env (eval (.ListComp elt [⟨tgt, iter, ifs, 0⟩] scope pos) env) vars mu Q := fun A Y β s hA g vo => by
 skip
 refine wpAny_comprehension_free (use := none) rfl hs hclos hkind hnames (wpAny_mono (zig R cl cvars Inv h turn done hclos hcl hcap hsub hnd hcell hkind hA g vo) (fun xv s1 h1 => wpAny_mono h1 (fun it s2 h2 => wpAny_mono h2 (fun acc s3 h3 => wpAny_mono h3 (fun cenv s4 h4 => codeAny_mono h4 fun r s' hq2' => ?_) fun V V e => e) fun V V e => e) fun V V e => e) fun V V e => e)
 obtain ⟨e, hf⟩ := hq2'
 subst e
 obtain ⟨β', xs, m, D, vs, n, mC, rfl, hsD, hsC, hDC, hl, hn, gf, tf, rf, q⟩ := hf
 refine ⟨mC, hn, fun hf hsb => ?_⟩
 have kf : ∀ b o, b ∉ [cenv.locals] → s'.heap.get? b = some o → hf.get? b = some o := fun b o hb e => (hsb.2 b (by simpa using hb)).trans e
 have hout : ∀ b ∈ [cenv.locals], ¬ zaz Y [D] b := fun b hb y => by
  rw [List.mem_singleton.mp hb] at y
  rcases y with y | y
  ·obtain ⟨o, e⟩ := g.yIn _ y; replace e := (hsC) ▸ e; contradiction
  ·exact hDC (List.mem_singleton.mp y).symm
 have ne : ∀ b o, s.heap.get? b = some o → b ∉ [cenv.locals] := fun b o e q => by rw [List.mem_singleton.mp q, hsC] at e; contradiction
 exact ⟨β', xs, m, D, vs, n, rfl, hsD, kf D _ (by simpa using hDC) hl, GS.leave (s' := { s' with heap := hf }) gf hout kf,
  ⟨fun b o e n' => kf b o (ne b o e) (tf.keep b o e n'), tf.beta, tf.fresh, fun b o e => let ⟨o', e'⟩ := tf.dom b o e; ⟨o', kf b o' (ne b o e) e'⟩, tf.gens, tf.os⟩, zan.stays (zch kf) rf, q⟩
end
end
section

inductive zeI (xs : List AV) (m : Mu) : AV → Mu → Prop
 | frozen : zeI xs m (.lst xs) m
 | born {k} : m.lookup k = none → zeI xs m (.loc k) ((k, .list xs) :: m)
section
variable {d : Nat} {env : Env} {vars : zaf} {mu : Mu}
noncomputable def zbJ (β : zaq) (k : Nat) (a : Addr) : zaq := fun j => if j = k then some a else β j
theorem zfM (hk : β k = none) : zaB h (zaz Y [D]) β h Y (zbJ β k D) := by
 refine ⟨fun V V e V => e, fun b o e a => ⟨fun y => a.1 (.inl y), fun j q => ?_⟩, fun j a e => ?_⟩
 ·unfold zbJ at q
  split at q
  ·injection q with q; subst q; exact a.1 (.inr (by simp))
  ·exact a.2 j q
 ·unfold zbJ
  rw [if_neg (fun q => by rw [q, hk] at e; contradiction)]; exact e
theorem GS.bear (g : GS w H (zaz Y [D]) β m s) (hk : m.lookup k = none) (hY : ¬ Y D) (ho : zcX w s.heap Y (zbJ β k D) D o) : GS w H Y (zbJ β k D) ((k, o) :: m) s := by
 have hb : β k = none := by
  have := g.store.dom k
  replace this := (hk) ▸ this
  cases e : β k with
  | none => rfl
  | some a => replace this := (e) ▸ this; exact Bool.noConfusion this
 have hD : zaz Y [D] D := .inr (by simp)
 refine ⟨g.base, fun j a e => ?_, fun a y => g.yBase a (.inl y), fun a y => g.yIn a (.inl y), ⟨fun j => ?_, fun j j' a e e' => ?_, fun j mo a e e' => ?_, fun j a e => ?_, fun j a e y => ?_⟩⟩
 ·unfold zbJ at e; split at e
  ·obtain rfl := Option.some.inj e; exact g.yBase _ hD
  ·exact g.bBase j a e
 ·unfold zbJ
  rw [List.lookup_cons]
  by_cases q : j = k
  ·subst q; simp
  ·have : (j == k) = false := by simpa using q
   (exists this; exists if_neg q); exact g.store.dom j
 ·unfold zbJ at e e'
  split at e <;> split at e'
  ·rename_i q q'; rw [q, q']
  ·obtain rfl := Option.some.inj e; exact absurd hD (g.store.apart j' _ e')
  ·obtain rfl := Option.some.inj e'; exact absurd hD (g.store.apart j _ e)
  ·exact g.store.inj j j' a e e'
 ·rw [List.lookup_cons] at e
  unfold zbJ at e'
  by_cases q : j = k
  ·cases q; rw [if_pos rfl] at e'; obtain rfl := Option.some.inj e'
   simp at e; subst e; exact ho
  ·have : (j == k) = false := by simpa using q
   rw [this] at e; rw [if_neg q] at e'
   exact zcX.stays (zfM (Y := Y) (h := s.heap) (D := D) hb) (fun _ x => x) (g.store.rep j mo a e e')
 ·unfold zbJ at e; split at e
  ·obtain rfl := Option.some.inj e; exact g.yIn _ hD
  ·exact g.store.here j a e
 ·unfold zbJ at e; split at e
  ·obtain rfl := Option.some.inj e; exact hY y
  ·exact g.store.apart j a e (.inl y)
theorem zap.bear (t : zap β s β' s') (hk : β' k = none) (hD : s.heap.get? D = none) : zap β s (zbJ β' k D) s' := by
 refine ⟨t.keep, fun j a e => ?_, fun j a e => ?_, t.dom, t.gens, t.os⟩
 ·have := t.beta j a e
  unfold zbJ
  rw [if_neg (fun q => by rw [q, hk] at this; contradiction)]; exact this
 ·unfold zbJ at e; split at e
  ·obtain rfl := Option.some.inj e; exact .inr hD
  ·exact t.fresh j a e
theorem GS.free (g : GS w H Y β m s) (hk : m.lookup k = none) : β k = none := by
 have := g.store.dom k
 replace this := (hk) ▸ this
 cases e : β k with
 | none => rfl
 | some a => replace this := (e) ▸ this; exact Bool.noConfusion this
theorem zeI.take (c : zeI xs m av m') (hY : ¬ Y D) (hD : s.heap.get? D = none) (hl : IsL s'.heap D vs n) (g : GS w H (zaz Y [D]) β' m s')
  (t : zap β s β' s') (r : zan w s'.heap (zaz Y [D]) β' xs vs.toList) : ∃ β'', zbI (GS w H Y β'' m' s') (zap β s β'' s') (Rep w s'.heap Y β'' av (.ref D)) (zaB s'.heap (zaz Y [D]) β' s'.heap Y β'') := by
 cases c with
 | frozen =>
  have S : zaB s'.heap (zaz Y [D]) β' s'.heap Y β' := zch fun _ _ _ e => e
  exact ⟨β', g.narrow fun _ y => .inl y, t, ⟨D, vs, n, rfl, hl, ⟨hY, fun k e => g.store.apart k D e (.inr (by simp))⟩, zan.stays S r⟩, S⟩
 | born hk =>
  rename_i k
  refine ⟨zbJ β' k D, g.bear hk hY ⟨vs, n, hl, zan.stays (zfM (Y := Y) (h := s'.heap) (D := D) (g.free hk)) r⟩, t.bear (g.free hk) hD, ⟨D, ?_, rfl⟩, (zfM (Y := Y) (h := s'.heap) (D := D) (g.free hk))⟩
  unfold zbJ; simp
theorem zil (h : EWL w H d env t vars mu fun xs m => Ex2 fun av m' => zeI xs m av m' ∧ Q av m') : EW w H d env t vars mu Q := fun A Y β s hA g vo =>
 wpAny_mono (h A Y β s hA g vo) (fun v s' hq2' => by
  obtain ⟨β', xs, m, D, vs, n, e, hD, hl, g', t', r, av, m', c, q⟩ := hq2'
  subst e
  obtain ⟨β'', g2, t2, r2, V⟩ := c.take (fun y => by obtain ⟨o, e⟩ := g.yIn D y; rw [hD] at e; contradiction) hD hl g' t' r
  exact ⟨β'', av, m', g2, t2, r2, q⟩) fun V V x => x
theorem zam (h : EWL w H d env t vars mu fun xs m => Q (.lst xs) m) : EW w H d env t vars mu Q :=
 zil fun A Y β s hA g vo => wpAny_mono (h A Y β s hA g vo) (by rintro v s' ⟨β', xs, m, D, vs, n, e, hD, hl, g', t', r, q⟩; exact ⟨β', xs, m, D, vs, n, e, hD, hl, g', t', r, _, _, .frozen, q⟩) fun V V x => x
theorem zaO (k : Nat) (h : EWL w H d env t vars mu fun xs m => m.lookup k = none ∧ Q (.loc k) ((k, .list xs) :: m)) : EW w H d env t vars mu Q :=
 zil fun A Y β s hA g vo => wpAny_mono (h A Y β s hA g vo) (by rintro v s' ⟨β', xs, m, D, vs, n, e, hD, hl, g', t', r, hk, q⟩; exact ⟨β', xs, m, D, vs, n, e, hD, hl, g', t', r, _, _, .born hk, q⟩) fun V V x => x
theorem newObj (g : GS w H Y β m s) (o : Obj) (ho : o.isFreed = false) : GS w H (zaz Y [s.heap.objs.size]) β m { s with heap := s.heap.push o } ∧ zaB s.heap Y β (s.heap.push o) (zaz Y [s.heap.objs.size]) β := by
 have k : ∀ b o', s.heap.get? b = some o' → (s.heap.push o).get? b = some o' := fun b o' e => Heap.get?_push_of_some _ e
 exact ⟨GS.addI (s' := { s with heap := s.heap.push o }) g (fun b hb => by rw [List.mem_singleton.mp hb]; exact zak _) (fun b hb => by exists List.mem_singleton.mp hb; exact ⟨_, Heap.get?_push_size _ ho⟩) k, zca (fun b hb => by rw [List.mem_singleton.mp hb]; exact zak _) k⟩
theorem zaG {pos} (h : LW w H d env (spliced (backTo pos (starEach elts env))) vars mu fun as mu1 => as.length ≤ sizeLine ∧ Q as mu1) : EWL w H d env (eval (.List elts pos) env) vars mu Q := fun A Y β s hA g vo =>
 wpAny_List (h.run hA g vo fun vs s1 β1 as mu1 g1 t1 V r q => ⟨by rw [zah r]; exact q.1, by
  obtain ⟨g2, S⟩ := newObj g1 { cls := .type "list", data := .seq vs.toArray } rfl
  exact ⟨β1, as, mu1, _, vs.toArray, 0, rfl, zaN t1 (zak _), IsL.new _ _, g2, t1.trans (.push _), (zan.stays S r), q.2⟩⟩)
noncomputable def zn : Option zb4 → Option (List AV)
 | some (.list xs) => some xs
 | _ => none
noncomputable def zcV (mu : Mu) : AV → Option (List AV)
 | .lst xs => some xs
 | .loc k => zn (mu.lookup k)
 | _ => none
theorem zou (h : zn o = some xs) : o = some (.list xs) := by
 cases o with
 | none => contradiction
 | some m => cases m with
  | list ys => obtain rfl := Option.some.inj h; rfl
  | _ => contradiction
theorem zf9 (h : zcV mu a = some xs) : a = .lst xs ∨ ∃ k, a = .loc k ∧ mu.lookup k = some (.list xs) := by
 cases a with
 | lst ys => obtain rfl := Option.some.inj h; exact .inl rfl
 | loc k => exact .inr ⟨k, rfl, zou h⟩
 | _ => contradiction
theorem zbH (g : GS w H Y β m s) (h : zcV m a = some xs) (r : Rep w s.heap Y β a v) : Ex3 fun l vs n => zaF (v = .ref l) (IsL s.heap l vs n) (zan w s.heap Y β xs vs.toList) := by
 rcases zf9 h with e | ⟨k, e, hm⟩ <;> subst e
 ·obtain ⟨a, vs, n, e, t, V, l⟩ := r; exact ⟨a, vs, n, e, t, l⟩
 ·obtain ⟨a, eb, e⟩ := r
  obtain ⟨vs, n, t, l⟩ := g.store.rep _ _ _ hm eb
  exact ⟨a, vs, n, e, t, l⟩
theorem zej {h : Heap} {Y : zau} {β : zaq} : ∀ {xs ys : List AV} {vs ws : List Value}, zan w h Y β xs vs → zan w h Y β ys ws → zan w h Y β (xs ++ ys) (vs ++ ws)
 | [], _, _, _, e, r => by subst e; exact r
 | _ :: _, _, _, _, ⟨v, t, e, p, l⟩, r => by subst e; exact ⟨v, _, rfl, p, zej l r⟩
theorem zeu {l r pos} {Q : QL} (h : EW w H d env (eval l env) vars mu fun a mu1 => EW w H d env (eval r env) vars mu1 fun b mu2 => Ex2 fun xs ys => zbI (zcV mu2 a = some xs) (zcV mu2 b = some ys) (xs.length + ys.length ≤ sizeLine) (Q (xs ++ ys) mu2)) :
  EWL w H d env (eval (.BinOp l .Add r pos) env) vars mu Q := fun A Y β s hA g vo =>
 wpAny_BinOp (h.run hA g vo fun va s1 β1 a mu1 g1 t1 vo1 ra q1 => q1.run hA g1 vo1 fun vb s2 β2 b mu2 g2 t2 vo2 rb hq9' => by
  obtain ⟨xs, ys, ha, hb, hz, q⟩ := hq9'
  obtain ⟨l1, vs, n1, rfl, h1, r1⟩ := zbH g2 ha (t2.rep ra)
  obtain ⟨l2, ws, n2, rfl, h2, r2⟩ := zbH g2 hb rb
  have e1 : vs.size = xs.length := by refine rwR (zah r1) ?_; simp
  have e2 : ws.size = ys.length := by refine rwR (zah r2) ?_; simp
  refine P.add_list h1 h2 ?_ (by kd_mem)
  obtain ⟨g3, S⟩ := newObj g2 { cls := .type "list", data := .seq (vs ++ ws) } rfl
  exact ⟨β2, xs ++ ys, mu2, _, vs ++ ws, 0, rfl, zaN (t1.trans t2) (zak _), Heap.get?_push_size _ rfl, g3, (t1.trans t2).trans (.push _), by
   exists Array.toList_append; exact zej (zan.stays S r1) (zan.stays S r2), q⟩)
end
end
section
section
variable {d : Nat} {env : Env} {vars : zaf} {mu : Mu}
theorem zhO (R : Heap → zau → zaq → AV → Value → Prop) (cl : List (Str × Addr)) (cvars : zaf) (Inv : List AV → List AV → Mu → Prop)
  (h : IW w H R tgt d env iter vars mu fun items mu1 => items.length ≤ sizeLine ∧ Inv items [] mu1)
  (turn : ∀ C x rest acc m, Inv (x :: rest) acc m → UR w H R d (compEnvC scope cl C env) (fun u => assign tgt (compEnvC scope cl C env) u) x cvars m fun v1 m1 => (∃ v3, v1 = cvars ++ v3) ∧
   TT w H d (compEnvC scope cl C env) ifs v1 m1 fun b m2 => IfB b (EW w H d (compEnvC scope cl C env) (eval elt (compEnvC scope cl C env)) v1 m2 fun y m3 => Inv rest (acc ++ [y]) m3) (Inv rest acc m2))
  (done : ∀ acc m, Inv [] acc m → Ex3 fun av m' vars' => zaF (zeI acc m av m') (Put vars y av vars') (Q .next vars' m'))
  (hsw : swapsWith (.ListComp elt [⟨tgt, iter, ifs, 0⟩] scope pos) (some (.Name y py)) spos.line env = pure true) (hy : zbC env y)
  (hclos : closureFor scope env = pure cl) (hcl : ∀ x c, cl.lookup x = some c → env.cells.lookup x = some c) (hcap : zfX scope.names env cl cvars) (hsub : ∀ p ∈ cvars, p ∈ vars) (hnd : (cvars.map (fun V => V.1)).Nodup)
  (hcell : ∀ y ∈ scope.names, y.2 ≠ .cell) (hnames : ∀ y ∈ scope.names, y.2 = .local → scope.names.lookup y.1 = some .local) (hkind : autoParam (scope.kind = .function) aW)
  (hs : autoParam (∀ x, foldedSetIterable iter env x = pure x) aW) : SW w H d env (exec (.Assign [.Name y py] (.ListComp elt [⟨tgt, iter, ifs, 0⟩] scope pos) spos) env) vars mu Q := fun A Y β s hA g vo => by
 exists exec_Assign_Name_used _ _ _ _ hsw
 refine wpAny_bind (wpAny_standAt (wpAny_bind ?_))
 refine wpAny_bind (wpAny_mono (wpAny_comprehension_free (use := some (assign (.Name y py) env)) (Q := fun _ s' => zd8 w H env Y β s Q .next s') rfl hs hclos hkind hnames
  (wpAny_mono (zig R (Q := fun acc m => Ex3 fun av m' vars' => zaF (zeI acc m av m') (Put vars y av vars') (Q .next vars' m')) cl cvars Inv h turn done hclos hcl hcap hsub hnd hcell hkind hA g vo) (fun xv s1 h1 => wpAny_mono h1 (fun it s2 h2 => wpAny_mono h2 (fun acc s3 h3 => wpAny_mono h3 (fun cenv s4 h4 => codeAny_mono h4 fun r s' ⟨e, hf⟩ => ?_) fun _ _ e => e) fun _ _ e => e) fun _ _ e => e) fun _ _ e => e)) (fun _ s' hq => wpAny_pure (wpAny_pure hq)) fun _ _ e => e)
 subst e
 obtain ⟨β', xs, m, D, vs, n, mC, rfl, hsD, hsC, hDC, hl, hn, gf, tf, rf, av, m', vars', hc, hp, q⟩ := hf
 have nYD : ¬ Y D := fun y => by obtain ⟨o, e⟩ := g.yIn _ y; replace e := (hsD) ▸ e; contradiction
 have nYC : ¬ Y cenv.locals := fun y => by obtain ⟨o, e⟩ := g.yIn _ y; replace e := (hsC) ▸ e; contradiction
 let YC : zau := zaz Y [cenv.locals]
 have sw : ∀ b, zaz YC [D] b → zaz (zaz Y [D]) [cenv.locals] b := fun b y => by
  rcases y with (y | y) | y
  ·exact .inl (.inl y)
  ·exact .inr y
  ·exact .inl (.inr y)
 have gc : GS w H (zaz YC [D]) β' m s' := gf.narrow sw
 have rc : zan w s'.heap (zaz YC [D]) β' xs vs.toList := zan.stays ⟨fun _ _ e _ => e, fun b o e a => ⟨fun y => a.1 (sw b y), a.2⟩, fun _ _ e => e⟩ rf
 have nYCD : ¬ YC D := fun y => y.elim nYD fun q => hDC (List.mem_singleton.mp q)
 obtain ⟨β2, g2, t2, r2, S2⟩ := hc.take nYCD hsD hl gc tf rc
 have ne : ∀ b o, s.heap.get? b = some o → b ∉ [cenv.locals] := fun b o e q => by rw [List.mem_singleton.mp q, hsC] at e; contradiction
 have Ss : zaB s.heap Y β s'.heap YC β2 := ⟨(t2.stays Y).keep, fun b o e a => ⟨fun y => y.elim a.1 (ne b o e), ((t2.stays Y).avoid b o e a).2⟩, t2.beta⟩
 have v2 : zai w env vars YC β2 s'.heap := vo.stays Ss (fun _ y => .inl y) fun b y o e => t2.keep b o e fun k q => g.store.apart k b q y
 refine wpAny_assign_Name (zfN g2 v2 r2 hy hp fun se ge ve te Se => ⟨mC, zeX hn (fun o e => te.keep _ o e (fun k q => g2.store.apart k _ q (.inr (by simp))) (fun q => nYC (q ▸ vo.eok.locY)) (fun _ x q => nYC (vo.eok.cellY x _ q).1)), fun hf hsb => ?_⟩)
 have kf : ∀ b o, b ∉ [cenv.locals] → se.heap.get? b = some o → hf.get? b = some o := fun b o hb e => (hsb.2 b (by simpa using hb)).trans e
 have hout : ∀ b ∈ [cenv.locals], ¬ Y b := fun b hb y => nYC (List.mem_singleton.mp hb ▸ y)
 exact ⟨β2, .next, vars', m', GS.leave (s' := { se with heap := hf }) ge hout kf, zai.leave ve vo.eok hout kf,
  ((t2.st env).trans te).touch (Z := [cenv.locals]) (s2 := { se with heap := hf }) (fun b hb => by exists List.mem_singleton.mp hb; exact hsC) kf rfl rfl, rfl, q⟩
end
end
section

def zhX (w : World) (h : Heap) (Y : zau) (β : zaq) (x : AV) (v : Value) : Prop := Ex3 fun xs T vals => zbI (x = .tup xs) (v = .ref T) (IsTup h T vals) (zan w h Y β xs vals.toList)
structure zpg (w : World) (A : Around) (e : Addr) (fp wr : List Addr) (n : Nat) (Pt : Nat → Array Value → Prop) (St : Nat → Heap → Prop) (Mid : Nat → Addr → Heap → Prop) : Prop where
 walks : WalksT pw w A e fp wr n Pt St Mid
 live : ∀ i h, St i h → ∀ b ∈ wr, ∃ o, h.get? b = some o
def PSt (w : World) (fp wr : List Addr) (items : List AV) (Pt : Nat → Array Value → Prop) (St : Nat → Heap → Prop) (Y : zau) (i : Nat) (h : Heap) (β : zaq) : Prop :=
 zaF (St i h) ((∀ b ∈ fp, b ∈ wr ∨ (zaL Y β b ∧ ∃ o, h.get? b = some o))) (∀ i vals x, Pt i vals → items[i]? = some x → ∃ xs, x = .tup xs ∧ zan w h Y β xs vals.toList)
section
variable {d : Nat} {env : Env} {vars : zaf} {mu : Mu}
theorem zpg.src {A : Around} {e : Addr} {fp wr : List Addr} {items : List AV} {Pt : Nat → Array Value → Prop} {St : Nat → Heap → Prop} {Mid : Nat → Addr → Heap → Prop} {elts : List Expr} {k : Nat} {pos : Pos} (W : zpg w A e fp wr items.length Pt St Mid) :
  Src w H A (zhX w) (.Tuple elts k pos) (.ref e) wr items (PSt w fp wr items Pt St) where
 frame Y i h β Y' h' β' st S kz := ⟨W.walks.frame i h h' st.1 fun b hb o e => by
   rcases st.2 b hb with q | ⟨a, _⟩
   ·exact kz b q o e
   ·exact S.keep b o e a, fun b hb => (st.2 b hb).imp id fun ⟨a, o, e⟩ => ⟨S.avoid b o e a, o, S.keep b o e a⟩, fun i v x hv hx => let ⟨xs, e, r⟩ := st.3 i v x hv hx; ⟨xs, e, zan.stays S r⟩⟩
 turn Y i s β mu hY hi g st := by
  refine W.walks.item i s _ _ hi st.1 fun T vals h' tk hv hsz hT hm k1 => ⟨.ref T, rfl, ?_⟩
  refine W.walks.go elts k pos i T { s with heap := h', toks := tk } _ _ hm fun h'' st' k2 => ?_
  have kk : ∀ b o, b ∉ wr → s.heap.get? b = some o → h''.get? b = some o := fun b o hb e => k2 b o hb (k1 b o hb e)
  have S : zaB s.heap Y β h'' Y β := zcI fun b o hb => kk b o fun q => hb (hY b q)
  have hx : items[i]? = some items[i] := List.getElem?_eq_getElem hi
  obtain ⟨xs, ex, rx⟩ := st.3 i vals _ hv hx
  kcf_m
  obtain ⟨oT, hoT, hcT, nT, hdT⟩ := hT
  kcj_m
  refine ⟨⟨h'', tk, rfl⟩, kk, W.live _ _ st', ⟨st', fun b hb => ?_, fun i v x hv hx => let ⟨xs, e, r⟩ := st.3 i v x hv hx; ⟨xs, e, zan.stays S r⟩⟩, _, hx, xs, T, vals, ex, rfl, ⟨oT, k2 T oT (W.walks.apart i T h' hm) hoT, hcT, nT, hdT⟩, zan.stays S rx⟩
  rcases st.2 b hb with q | ⟨a, o2, e⟩
  ·exact .inl q
  ·exact .inr ⟨a, o2, kk b o2 (fun q => a.1 (hY b q)) e⟩
 done Y s β mu _ g st := W.walks.done s _ _ st.1 fun h' tk k => ⟨rfl, ⟨h', tk, rfl⟩, k⟩
 self Y i s β mu g st := W.walks.self i s _ _ st.1 ⟨rfl, rfl⟩
theorem zfR {elts : List Expr} {k pos} {as : List AV} {Q : QU} (h : UWs w H d env elts as vars mu Q) (he : (assignEach elts env) = elts.map fun t => (false, fun v => assign t env v)) (hn : elts.length = as.length) :
  UR w H (zhX w) d env (fun v => assign (.Tuple elts k pos) env v) (.tup as) vars mu Q := fun A Y β s v hA g vo hq8' => by
 obtain ⟨xs, T, vs, e, e2, ht, l⟩ := hq8'
 injection e with e; subst e
 subst e2
 refine assign_Tuple_tuple hA.handled ht (by rw [he, List.length_map, hn]; simpa using (zah l).symm) (by exists he; clear he h hn; induction elts <;> simp_all [List.findIdx?_cons]) fun h' hx => ?_
 have kk := zgP hx
 have t1 : zap β s β { s with heap := h' } := .grow (s' := { s with heap := h' }) kk rfl rfl
 have e2 : (assignEach elts env).map (fun V => V.2) = elts.map fun t v => assign t env v := by (exists he; exists List.map_map); rfl
 exists e2
 exact UWs.run hA h (g.grow (s' := { s with heap := h' }) kk) (vo.step g.store t1) (t1.repL l) fun s2 β2 vars2 mu2 g2 vo2 t2 S2 q2 =>
  ⟨β2, vars2, mu2, g2, vo2, (t1.st env).trans t2, ⟨fun b o e a => S2.keep b o (kk b o e) a, fun b o e a => S2.avoid b o (kk b o e) a, S2.beta⟩, q2⟩
theorem za8 (h : UW w H d env t a vars mu Q) : UR w H (Rep w) d env t a vars mu Q := h
noncomputable def zaX (n : Int) : List AV → List AV
 | [] => []
 | x :: r => .tup [.int n, x] :: zaX (n + 1) r
theorem zbE : ∀ (xs : List AV) (n : Int), (zaX n xs).length = xs.length
 | [], _ => rfl
 | _ :: r, n => by simp [zaX, zbE r]
theorem zfh : ∀ (xs : List AV) (n : Int) (i : Nat) (y : AV), (zaX n xs)[i]? = some y → ∃ x, xs[i]? = some x ∧ y = .tup [.int (n + i), x]
 | [], _, _, _, h => by simp [zaX] at h
 | x :: r, n, 0, y, h => by simp [zaX] at h; exact ⟨x, rfl, by rw [← h]; simp⟩
 | x :: r, n, i + 1, y, h => by
  obtain ⟨x', h1, h2⟩ := zfh r (n + 1) i y (by simpa [zaX] using h)
  exact ⟨x', by simpa using h1, by congr 3; push_cast; kd_mem⟩
theorem zmf {e : Expr} {p1 p2 p3 : Pos} {k : Nat} {elts : List Expr} {Q : QL} (hk : env.kindOf "enumerate" = some .globalImplicit) (hg : zac w H "enumerate" (.raw (.type "enumerate")))
  (h : EW w H d env (eval e env) vars mu fun a mu1 => ∃ xs, a = .lst xs ∧ Q (zaX 0 xs) mu1) (hse : autoParam (backTo p2 (starEach [e] env) = [(false, eval e env)]) aW) :
  IW w H (zhX w) (.Tuple elts k p3) d env (.Call (.Name "enumerate" p1) [e] [] p2) vars mu Q := fun A Y β s hA g vo => by
 obtain ⟨v, at_, rg⟩ := hg
 subst rg
 refine wpAny_Call_NameR (Calls.Name_function_global vo.eok.fn hk (zhn g vo.eok at_ ?_))
 exists hse
 refine PySem.callWith_type rfl (Calls.evalArgs_plain (Calls.spliced_cons (h.run hA g vo fun va s1 β1 a mu1 g1 t1 vo1 ra ⟨xs, ea, q⟩ => Calls.spliced_nil ?_)))
 subst ea
 obtain ⟨l, vs, n, rfl, hl, hav, rl⟩ := ra
 refine call_enumerate_1 hl fun h' he hit hsz kk => ?_
 refine wpAny_pyIter_enum (s := { s1 with heap := h' }) he ?_
 have he' : h'.get? (s1.heap.objs.size + 1) = some _ := he
 have hI1 : s1.heap.get? (s1.heap.objs.size + 1) = none := by
  cases e : s1.heap.get? (s1.heap.objs.size + 1) with
  | none => rfl
  | some o => exact absurd (Nat.lt_trans (Nat.lt_succ_self _) (Heap.lt_size e)) (Nat.lt_irrefl _)
 have hZ : ∀ b ∈ [s1.heap.objs.size + 1, s1.heap.objs.size], s1.heap.get? b = none := fun b hb => by
  rcases List.mem_cons.mp hb with q | hb
  ·exists q; exact hI1
  ·exists List.mem_singleton.mp hb; exact (zak _ : s1.heap.get? s1.heap.objs.size = none)
 have S := zca (Y := Y) (β := β1) hZ kk
 have hsz : vs.size = xs.length := by refine rwR (zah rl) ?_; simp
 have hle : l < s1.heap.objs.size := Heap.lt_size hl
 have W : zpg w A (s1.heap.objs.size + 1) [s1.heap.objs.size + 1, s1.heap.objs.size, l] [s1.heap.objs.size + 1, s1.heap.objs.size] (zaX 0 xs).length _ _ _ :=
  ⟨by rw [zbE]; rw [← hsz]; exact WalksT.enumerate hA.handled (s1.heap.objs.size + 1) s1.heap.objs.size l (Nat.succ_ne_self _) (Nat.ne_of_lt (Nat.lt_succ_of_lt hle)) (Nat.ne_of_lt hle) vs, by
   intro i h st b hb
   obtain ⟨⟨old, a1⟩, ⟨o2, a2, V⟩, V⟩ := st
   rcases List.mem_cons.mp hb with q | hb
   ·rw [q]; exact ⟨_, a1⟩
   ·rw [List.mem_singleton.mp hb]; exact ⟨_, a2⟩⟩
 have hn0 : ∀ b ∈ [s1.heap.objs.size + 1, s1.heap.objs.size], ∃ o, h'.get? b = some o := fun b hb => by
  rcases List.mem_cons.mp hb with q | hb
  ·exists q; exact ⟨_, he'⟩
  ·exists List.mem_singleton.mp hb; obtain ⟨o, e, V⟩ := hit; exact ⟨o, e⟩
 refine ⟨β1, zaX 0 xs, mu1, _, _, W.src, ⟨⟨⟨_, he⟩, hit, ⟨_, kk _ _ hl, rfl, _, rfl⟩⟩, fun b hb => ?_, fun i vals x hv hx => ?_⟩, fun b hb => zaN t1 (hZ b hb), GS.addI (s' := { s1 with heap := h' }) g1 hZ hn0 kk, t1.trans (.grow (s' := { s1 with heap := h' }) kk rfl rfl), q⟩
 ·rcases List.mem_cons.mp hb with q | hb
  ·exists q; exact .inl (by simp)
  rcases List.mem_cons.mp hb with q | hb
  ·rw [q]; exact .inl (by simp)
  ·exists List.mem_singleton.mp hb; exact .inr ⟨S.avoid l _ hl hav, _, kk _ _ hl⟩
 ·obtain ⟨t, y, hy, rfl⟩ := hv
  obtain ⟨x', h1, h2⟩ := zfh xs 0 i x hx
  obtain ⟨v', hv', rv⟩ := zb9 rl h1
  have : vs.toList[i]? = some y := by simpa using hy
  rw [this] at hv'; obtain rfl := Option.some.inj hv'
  exact ⟨_, h2, .int i t, [y], rfl, ⟨t, by simp⟩, y, [], rfl, Rep.stays S rv, rfl⟩
end
end
section

structure Inner (w : World) (IsIt : Heap → Addr → Addr → Nat → Prop) (IsSq : Heap → Addr → Array Value → Prop) : Prop where
 itMove : ∀ {h h' a l i}, IsIt h a l i → (∀ o, h.get? a = some o → h'.get? a = some o) → IsIt h' a l i
 sqMove : ∀ {h h' l xs}, IsSq h l xs → (∀ o, h.get? l = some o → h'.get? l = some o) → IsSq h' l xs
 itIn : ∀ {h a l i}, IsIt h a l i → ∃ o, h.get? a = some o
 item : ∀ {A : Around} {E : QV} {s : Shared} {it l i items x} {Q : QV}, IsIt s.heap it l i → IsSq s.heap l items → items[i]? = some x →
  (∀ h', IsIt h' it l (i + 1) → Heap.SameBut it s.heap h' → Q x { s with heap := h' }) → wpAny (model pw w) A (Builtin.SmallTypes.nextOf (.ref it)) Q E s
 fin : ∀ {A : Around} {E : QV} {s : Shared} {it l i items} {Q : QV}, A.handled = none → IsIt s.heap it l i → IsSq s.heap l items → items[i]? = none →
  (∀ h' e, Heap.ExtBut it s.heap h' → (∃ o, h'.get? e = some o ∧ o.cls = .type "StopIteration") → E (.ref e) { s with heap := h' }) → wpAny (model pw w) A (Builtin.SmallTypes.nextOf (.ref it)) Q E s
theorem zlg : Inner w (fun h a l i => h.IsListIter a l i) (fun h l xs => h.IsList l xs) where
 itMove x e := x.at e
 sqMove x e := x.at e
 itIn x := by obtain ⟨o, e, V⟩ := x; exact ⟨o, e⟩
 item h1 h2 h3 h4 := wpAny_nextOf_list_item h1 h2 h3 h4
 fin hh h1 h2 h3 h4 := wpAny_nextOf_list_end hh h1 h2 h3 h4
theorem zls (hit : s.heap.IsTupleIter it t i) (ht : s.heap.IsTuple t items) (hx : items[i]? = some x)
  (hQ : ∀ h', h'.IsTupleIter it t (i + 1) → Heap.SameBut it s.heap h' → Q x { s with heap := h' }) : wpAny (model pw w) A (Builtin.SmallTypes.nextOf (.ref it)) Q E s := by
 obtain ⟨o, ho, hc, hd⟩ := id hit
 kcf_m
 obtain ⟨ol, hol, V, nl, hdl⟩ := ht
 kcj_m
 unfold Builtin.SmallTypes.nextOf
 refine wpAny_bind (wpAny_callSpecial?_slot (name := Str.ofString "__next__") hit.typeIs F.slot_tuple_iterator_next
  (wpAny_call_entry F.slot_tuple_iterator_next hit.typeIs F.entry_tuple_iterator_next ?_ (F.args_tuple_iterator_next_1 _)))
 show wpAny _ _ (field (.ref it) 0 >>= _) _ _ s
 refine wpAny_bind (wpAny_field ho hd (x := .ref t) rfl ?_)
 skip
 refine wpAny_bind (wpAny_field ho hd (x := .int i 0) rfl ?_)
 refine wpAny_bind (wpAny_seqItems hol hdl ?_)
 simp only [Int.toNat_natCast, hx]
 refine wpAny_bind (wpAny_setField ho hd (by simp) (wpAny_pure ⟨x, rfl, wpAny_pure (hQ _ ?_ (Heap.SameBut.update ..))⟩))
 exact ⟨_, Heap.get?_update_self _ ho (Obj.isFreed_of_fields (Obj.data_mapFields hd _)), (Obj.cls_mapFields ..).trans hc, by
  rw [Obj.data_mapFields hd]; rfl⟩
theorem zhu (hh : A.handled = none) (hit : s.heap.IsTupleIter it t i) (ht : s.heap.IsTuple t items) (hx : items[i]? = none)
  (hE : ∀ h' e, Heap.ExtBut it s.heap h' → (∃ o, h'.get? e = some o ∧ o.cls = .type "StopIteration") → E (.ref e) { s with heap := h' }) : wpAny (model pw w) A (Builtin.SmallTypes.nextOf (.ref it)) Q E s := by
 obtain ⟨o, ho, hc, hd⟩ := id hit
 kcf_m
 obtain ⟨ol, hol, V, nl, hdl⟩ := ht
 kcj_m
 skip
 refine wpAny_bind (wpAny_callSpecial?_slot (name := Str.ofString "__next__") hit.typeIs F.slot_tuple_iterator_next
  (wpAny_call_entry F.slot_tuple_iterator_next hit.typeIs F.entry_tuple_iterator_next ?_ (F.args_tuple_iterator_next_1 _)))
 show wpAny _ _ (field (.ref it) 0 >>= _) _ _ s
 refine wpAny_bind (wpAny_field ho hd (x := .ref t) rfl ?_)
 skip
 refine wpAny_bind (wpAny_field ho hd (x := .int i 0) rfl ?_)
 refine wpAny_bind (wpAny_seqItems hol hdl ?_)
 simp only [Int.toNat_natCast, hx]
 refine wpAny_bind (wpAny_rule (wpAny_bind (wpAny_setField ho hd (by simp) ?_)))
 refine wpAny_bind ?_
 skip
 refine wpAny_bind (wpAny_newObj_type ?_ (by size_fits))
 refine wpAny_bind (m := firstArgMember _ _) (wpAny_of_eq (a := Value.none) (by first | rfl | (simp only [firstArgMember]; rfl)) ?_)
 refine wpAny_newObj_type ?_ (by size_fits)
 skip
 refine wpAny_bind (wpAny_handled ?_)
 first | rw [show A.in1.handled = none from hh] | rw [hh]
 refine wpAny_bind (wpAny_pure (wpAny_throw ?_))
 exact hE _ _ (((Heap.SameBut.update ..).extBut.push _).push _) ⟨_, Heap.get?_push_size _ rfl, rfl⟩
theorem zj8 : Inner w (fun h a l i => h.IsTupleIter a l i) (fun h l xs => h.IsTuple l xs) where
 itMove x e := x.at e
 sqMove x e := x.at e
 itIn x := by obtain ⟨o, e, V⟩ := x; exact ⟨o, e⟩
 item h1 h2 h3 h4 := zls h1 h2 h3 h4
 fin hh h1 h2 h3 h4 := zhu hh h1 h2 h3 h4
section
variable {IsIt : Heap → Addr → Addr → Nat → Prop} {IsSq : Heap → Addr → Array Value → Prop} {A : Around} {E : QV} {s : Shared}
structure zco (IsIt : Heap → Addr → Addr → Nat → Prop) (IsSq : Heap → Addr → Array Value → Prop) (z TI TO i1 i2 l1 l2 : Addr) (xs ys : Array Value) (k : Nat) (h : Heap) : Prop where
 inn : IsPair h TI (.ref i1) (.ref i2)
 out : Ex2 fun a b => IsPair h TO a b
 it1 : IsIt h i1 l1 k
 it2 : IsIt h i2 l2 k
 sq1 : IsSq h l1 xs
 sq2 : IsSq h l2 ys
theorem zpe (I : Inner w IsIt IsSq) {z TI TO i1 i2 l1 l2 : Addr} {k : Nat} {xs ys : Array Value} {x y : Value} {Q : QV} (D : ZipApart z TI TO i1 i2 l1 l2) (hz : IsZip s.heap z TI TO .none) (Z : zco IsIt IsSq z TI TO i1 i2 l1 l2 xs ys k s.heap)
  (hx : xs[k]? = some x) (hy : ys[k]? = some y)
  (hQ : ∀ h', IsZip h' z TI TO (rawInt s.heap.objs.size) → zco IsIt IsSq z TI TO i1 i2 l1 l2 xs ys (k + 1) h' → IsPair h' s.heap.objs.size x y →
   (∀ c o, c ≠ z → c ≠ TO → c ≠ i1 → c ≠ i2 → s.heap.get? c = some o → h'.get? c = some o) → Q (.ref s.heap.objs.size) { s with heap := h' }) :
  wpAny (model pw w) A (Builtin.«zip.__next__» ⟨[.ref z], []⟩) (fun fin s' => ∃ v, fin = .done (.ret v) ∧ Q v s') E s := by
 obtain ⟨hTI, ⟨a, b, hTO⟩, h1, h2, q1, q2⟩ := Z
 show wpAny _ _ (field (.ref z) 2 >>= _) _ _ _
 refine wpAny_bind (wpAny_field hz rfl (x := .bool false) rfl ?_)
 refine wpAny_bind (wpAny_field hz rfl (x := .ref TI) rfl (wpAny_bind (wpAny_seqItems hTI rfl ?_)))
 refine wpAny_bind ?_
 skip
 refine wpAny_bind (wpAny_field hz rfl (x := .none) rfl (wpAny_pure ?_))
 skip
 refine wpAny_bind (wpAny_rule (wpAny_bind (wpAny_field hz rfl (x := .ref TO) rfl (wpAny_bind (wpAny_setField_rec hz (by simp) fun ha hza sa => ?_)))))
 replace hza : IsZip ha z TI TO .ellipsis := hza
 have ka := sa.extBut
 refine wpAny_bind ?_
 simp only [List.zipIdx_cons, List.zipIdx_nil, List.forIn_cons, List.forIn_nil]
 refine wpAny_bind (wpAny_bind (wpAny_onRaise ?_))
 show wpAny _ _ (Builtin.SmallTypes.nextOf (.ref i1) >>= _) _ _ _
 refine wpAny_bind (I.item (I.itMove h1 fun o => ka _ o D.i1z) (I.sqMove q1 fun o => ka _ o D.l1z) hx fun hb h1b sb => wpAny_pure ?_)
 have kb := sb.extBut
 have tob : IsPair hb TO a b := kb _ _ D.TOi1 (ka _ _ D.TOz hTO)
 refine wpAny_bind (wpAny_seqItems tob rfl (wpAny_bind (wpAny_updateSeq_pair tob fun hc toc sc => wpAny_bind (wpAny_letGo (wpAny_pure ?_)))))
 replace toc : IsPair hc TO x b := toc
 have kc := sc.extBut
 refine wpAny_bind (wpAny_bind (wpAny_onRaise ?_))
 show wpAny _ _ (Builtin.SmallTypes.nextOf (.ref i2) >>= _) _ _ _
 refine wpAny_bind (I.item (I.itMove h2 fun o e => kc _ o D.TOi2.symm (kb _ o D.i12.symm (ka _ o D.i2z e))) (I.sqMove q2 fun o e => kc _ o D.l2TO (kb _ o D.l2i1 (ka _ o D.l2z e))) hy fun hd h2d sd => wpAny_pure ?_)
 have kd := sd.extBut
 refine wpAny_bind (wpAny_seqItems (kd _ _ D.TOi2 toc) rfl (wpAny_bind (wpAny_updateSeq_pair (kd _ _ D.TOi2 toc) fun he toe se => wpAny_bind (wpAny_letGo (wpAny_pure (wpAny_pure ?_))))))
 replace toe : IsPair he TO x y := toe
 have ke := se.extBut
 refine wpAny_bind (wpAny_seqItems toe rfl (wpAny_bind (wpAny_newTuple ?_)))
 have zE : IsZip he z TI TO .ellipsis := ke _ _ D.TOz.symm (kd _ _ D.i2z.symm (kc _ _ D.TOz.symm (kb _ _ D.i1z.symm hza)))
 have all : ∀ c o, c ≠ z → c ≠ TO → c ≠ i1 → c ≠ i2 → s.heap.get? c = some o → he.get? c = some o := fun c o c1 c2 c3 c4 e => ke _ _ c2 (kd _ _ c4 (kc _ _ c2 (kb _ _ c3 (ka _ _ c1 e))))
 have i1E : IsIt he i1 l1 (k + 1) := I.itMove h1b fun o e => ke _ o D.TOi1.symm (kd _ o D.i12 (kc _ o D.TOi1.symm e))
 have i2E : IsIt he i2 l2 (k + 1) := I.itMove h2d fun o e => ke _ o D.TOi2.symm e
 have zlt : z < he.objs.size := Heap.lt_size zE
 refine wpAny_bind ?_
 unfold Builtin.SmallTypes.ownedTupleHandOut
 have zF : IsZip (he.push { cls := .type "tuple", data := .seq #[x, y] }) z TI TO .ellipsis := Heap.get?_push_of_some _ zE
 refine wpAny_bind (wpAny_setField_rec zF (by simp) fun hg zg sg => ?_)
 replace zg : IsZip hg z TI TO (rawInt he.objs.size) := zg
 refine wpAny_setField_rec zg (by simp) fun hh zh sh => ?_
 replace zh : IsZip hh z TI TO (rawInt he.objs.size) := zh
 have up : ∀ c o, c ≠ z → he.get? c = some o → hh.get? c = some o := fun c o c1 e => sh.extBut _ _ c1 (sg.extBut _ _ c1 (Heap.get?_push_of_some _ e))
 have tN : IsPair hh he.objs.size x y := sh.extBut _ _ (Nat.ne_of_gt zlt) (sg.extBut _ _ (Nat.ne_of_gt zlt) (Heap.get?_push_size _ rfl))
 rw [(by rw [se.1, sd.1, sc.1, sb.1, sa.1] : he.objs.size = s.heap.objs.size)] at zh tN
 refine wpAny_pure ⟨_, rfl, ?_⟩
 show Q (.ref he.objs.size) _
 rw [(by rw [se.1, sd.1, sc.1, sb.1, sa.1] : he.objs.size = s.heap.objs.size)]
 refine hQ hh zh ⟨up _ _ D.TIz (all _ _ D.TIz D.TITO D.TIi1 D.TIi2 hTI), ⟨x, y, up _ _ D.TOz toe⟩, I.itMove i1E fun o => up _ o D.i1z, I.itMove i2E fun o => up _ o D.i2z,
  I.sqMove q1 fun o e => up _ o D.l1z (all _ o D.l1z D.l1TO D.l1i1 D.l1i2 e), I.sqMove q2 fun o e => up _ o D.l2z (all _ o D.l2z D.l2TO D.l2i1 D.l2i2 e)⟩ tN fun c o c1 c2 c3 c4 e => up c o c1 (all c o c1 c2 c3 c4 e)
theorem zqp (I : Inner w IsIt IsSq) {z TI TO i1 i2 l1 l2 : Addr} {k : Nat} {xs ys : Array Value} {Q : Fin → Shared → Prop} (hh : A.handled = none) (D : ZipApart z TI TO i1 i2 l1 l2) (hz : IsZip s.heap z TI TO .none) (Z : zco IsIt IsSq z TI TO i1 i2 l1 l2 xs ys k s.heap)
  (hend : xs[k]? = none ∨ ys[k]? = none)
  (hE : ∀ h' e, (∀ c o, c ≠ z → c ≠ TO → c ≠ i1 → c ≠ i2 → s.heap.get? c = some o → h'.get? c = some o) → (∃ o, h'.get? e = some o ∧ o.cls = .type "StopIteration") → E (.ref e) { s with heap := h' }) :
  wpAny (model pw w) A (Builtin.«zip.__next__» ⟨[.ref z], []⟩) Q E s := by
 kcf_m
 obtain ⟨hTI, ⟨a, b, hTO⟩, h1, h2, q1, q2⟩ := Z
 kcj_m
 show wpAny _ _ (field (.ref z) 2 >>= _) _ _ _
 refine wpAny_bind (wpAny_field hz rfl (x := .bool false) rfl ?_)
 refine wpAny_bind (wpAny_field hz rfl (x := .ref TI) rfl (wpAny_bind (wpAny_seqItems hTI rfl ?_)))
 refine wpAny_bind ?_
 skip
 refine wpAny_bind (wpAny_field hz rfl (x := .none) rfl (wpAny_pure ?_))
 skip
 refine wpAny_bind (wpAny_rule (wpAny_bind (wpAny_field hz rfl (x := .ref TO) rfl (wpAny_bind (wpAny_setField_rec hz (by simp) fun ha hza sa => ?_)))))
 replace hza : IsZip ha z TI TO .ellipsis := hza
 have ka := sa.extBut
 have stop : ∀ {hp : Heap} {e : Addr}, IsZip hp z TI TO .ellipsis → (∃ o, hp.get? e = some o ∧ o.cls = .type "StopIteration") → e ≠ z := fun hzp hq1' q => by
  obtain ⟨o, ho, hc⟩ := hq1'
  cases q; replace ho := (hzp) ▸ ho; obtain rfl := Option.some.inj ho; simp at hc
 refine wpAny_bind ?_
 simp only [List.zipIdx_cons, List.zipIdx_nil, List.forIn_cons, List.forIn_nil]
 refine wpAny_bind (wpAny_bind (wpAny_onRaise ?_))
 have h1a := I.itMove h1 fun o => ka _ o D.i1z
 cases hx : xs[k]? with
 | none =>
  refine wpAny_bind (I.fin hh h1a (I.sqMove q1 fun o => ka _ o D.l1z) hx fun hb e kb he => ?_)
  have zb : IsZip hb z TI TO .ellipsis := kb _ _ D.i1z.symm hza
  obtain ⟨oe, hoe, hce⟩ := he
  refine wpAny_setField_rec zb (by simp) fun hc V sc => hE hc e (fun c o c1 V c3 V x => sc.extBut _ _ c1 (kb _ _ c3 (ka _ _ c1 x))) ⟨oe, sc.extBut _ _ (stop zb ⟨oe, hoe, hce⟩) hoe, hce⟩
 | some x =>
  have hy : ys[k]? = none := by
   rcases hend with q | q
   ·rw [hx] at q; contradiction
   ·exact q
  refine wpAny_bind (I.item h1a (I.sqMove q1 fun o => ka _ o D.l1z) hx fun hb h1b sb => wpAny_pure ?_)
  have kb := sb.extBut
  refine wpAny_bind (wpAny_seqItems (kb _ _ D.TOi1 (ka _ _ D.TOz hTO) : IsPair hb TO a b) rfl (wpAny_bind (wpAny_updateSeq_pair (kb _ _ D.TOi1 (ka _ _ D.TOz hTO) : IsPair hb TO a b) fun hc toc sc => wpAny_bind (wpAny_letGo (wpAny_pure ?_)))))
  have kc := sc.extBut
  refine wpAny_bind (wpAny_bind (wpAny_onRaise ?_))
  show wpAny _ _ (Builtin.SmallTypes.nextOf (.ref i2) >>= _) _ _ _
  refine wpAny_bind (I.fin hh (I.itMove h2 fun o e => kc _ o D.TOi2.symm (kb _ o D.i12.symm (ka _ o D.i2z e))) (I.sqMove q2 fun o e => kc _ o D.l2TO (kb _ o D.l2i1 (ka _ o D.l2z e))) hy fun hd e kd he => ?_)
  have zd : IsZip hd z TI TO .ellipsis := kd _ _ D.i2z.symm (kc _ _ D.TOz.symm (kb _ _ D.i1z.symm hza))
  kcf_m
  obtain ⟨oe, hoe, hce⟩ := he
  kcj_m
  refine wpAny_setField_rec zd (by simp) fun hf V sf => hE hf e (fun c o c1 c2 c3 c4 x => sf.extBut _ _ c1 (kd _ _ c4 (kc _ _ c2 (kb _ _ c3 (ka _ _ c1 x))))) ⟨oe, sf.extBut _ _ (stop zd ⟨oe, hoe, hce⟩) hoe, hce⟩
end
end
section
section
variable {IsIt : Heap → Addr → Addr → Nat → Prop} {IsSq : Heap → Addr → Array Value → Prop} {A : Around}
theorem zco.move (I : Inner w IsIt IsSq) (Z : zco IsIt IsSq z TI TO i1 i2 l1 l2 xs ys k h) (m : ∀ b ∈ [TI, TO, i1, i2, l1, l2], ∀ o, h.get? b = some o → h'.get? b = some o) : zco IsIt IsSq z TI TO i1 i2 l1 l2 xs ys k h' :=
 let ⟨a, b, c⟩ := Z.out
 ⟨m TI (by simp) _ Z.inn, ⟨a, b, m TO (by simp) _ c⟩, I.itMove Z.it1 (m i1 (by simp)), I.itMove Z.it2 (m i2 (by simp)), I.sqMove Z.sq1 (m l1 (by simp)), I.sqMove Z.sq2 (m l2 (by simp))⟩
theorem znz (I : Inner w IsIt IsSq) (hh : A.handled = none) (z TI TO i1 i2 l1 l2 : Addr) (D : ZipApart z TI TO i1 i2 l1 l2) (xs ys : Array Value) :
  WalksT pw w A z [z, TI, TO, i1, i2, l1, l2] [z, TO, i1, i2] (min xs.size ys.size) (fun i vals => Ex2 fun x y => zaF (xs[i]? = some x) (ys[i]? = some y) (vals = #[x, y]))
   (fun i h => IsZip h z TI TO .none ∧ zco IsIt IsSq z TI TO i1 i2 l1 l2 xs ys i h)
   (fun i T h => znA (IsZip h z TI TO (rawInt T)) (zco IsIt IsSq z TI TO i1 i2 l1 l2 xs ys (i + 1) h) (T ≠ z) (T ≠ TO) (T ≠ i1) (T ≠ i2)) where
 sub c hc := by simp at hc ⊢; rcases hc with rfl | rfl | rfl | rfl <;> simp
 frame i h h' st k := ⟨k z (by simp) _ st.1, st.2.move I fun b hb => k b (List.mem_cons_of_mem _ hb)⟩
 item i s Q E hi st hQ := by
  have hix : xs[i]? = some xs[i] := Array.getElem?_eq_getElem (Nat.lt_of_lt_of_le hi (Nat.min_le_left ..))
  have hiy : ys[i]? = some ys[i] := Array.getElem?_eq_getElem (Nat.lt_of_lt_of_le hi (Nat.min_le_right ..))
  have lt : ∀ {c o}, s.heap.get? c = some o → s.heap.objs.size ≠ c := fun e => Nat.ne_of_gt (Heap.lt_size e)
  unfold pyNext
  refine wpAny_bind (wpAny_attempt (wpAny_callSpecial?_slot (name := Str.ofString "__next__") (⟨_, st.1, rfl⟩) F.slot_zip_next (wpAny_call_entry F.slot_zip_next (⟨_, st.1, rfl⟩) F.entry_zip_next
   (zpe I D st.1 st.2 hix hiy fun h' zz Z' tN k => wpAny_pure ?_) (F.args_zip_next_1 _))))
  obtain ⟨a, b, hTO⟩ := st.2.out
  exact hQ s.heap.objs.size #[xs[i], ys[i]] h' s.toks ⟨_, _, hix, hiy, rfl⟩ (Nat.le_refl _) ⟨_, tN, rfl, _, rfl⟩ ⟨zz, Z', lt st.1, lt hTO, (let ⟨_, e⟩ := I.itIn st.2.it1; lt e), (let ⟨_, e⟩ := I.itIn st.2.it2; lt e)⟩
   fun c o hc e => k c o (fun q => hc (by simp [q])) (fun q => hc (by simp [q])) (fun q => hc (by simp [q])) (fun q => hc (by simp [q])) e
 go elts k pos i T s Q E hm hQ := by
  refine wpAny_letOwnedTupleGo_zip hm.1 fun h' hz' hs' => hQ h' ⟨hz', hm.2.move I fun b hb => hs'.extBut b |> fun f o => f o ?_⟩ fun c o hc e => hs'.extBut _ _ (fun q => hc (by simp [q])) e
  simp at hb
  rcases hb with rfl | rfl | rfl | rfl | rfl | rfl
  ·exact D.TIz
  ·exact D.TOz
  ·exact D.i1z
  ·exact D.i2z
  ·exact D.l1z
  ·exact D.l2z
 apart i T h hm hT := by
  simp at hT
  rcases hT with rfl | rfl | rfl | rfl
  ·exact hm.3 rfl
  ·exact hm.4 rfl
  ·exact hm.5 rfl
  ·exact hm.6 rfl
 done s Q E st hQ := by
  have hend : xs[min xs.size ys.size]? = none ∨ ys[min xs.size ys.size]? = none := by
   rcases Nat.le_total xs.size ys.size with q | q
   ·left; rw [Nat.min_eq_left q]; simp
   ·right; rw [Nat.min_eq_right q]; simp
  unfold pyNext
  refine wpAny_bind (wpAny_attempt (wpAny_callSpecial?_slot (name := Str.ofString "__next__") (⟨_, st.1, rfl⟩) F.slot_zip_next (wpAny_call_entry F.slot_zip_next (⟨_, st.1, rfl⟩) F.entry_zip_next
   (zqp I hh D st.1 st.2 hend fun h' e k he => ?_) (F.args_zip_next_1 _))))
  obtain ⟨o, ho, hc⟩ := he
  refine wpAny_bind (wpAny_isInstance (T := "StopIteration") (b := true) ⟨o, ho, hc⟩ isSubtype_stop ?_)
  exact wpAny_pure (hQ _ s.toks fun c o hc e => k c o (fun q => hc (by simp [q])) (fun q => hc (by simp [q])) (fun q => hc (by simp [q])) (fun q => hc (by simp [q])) e)
 self i s Q E st hQ := wpAny_pyIter_zip st.1 hQ
theorem zkV (I : Inner w IsIt IsSq) (hz : IsZip h z TI TO .none) (Z : zco IsIt IsSq z TI TO i1 i2 l1 l2 xs ys i h) : ∀ b ∈ [z, TO, i1, i2], ∃ o, h.get? b = some o := fun b hb => by
 obtain ⟨a, c, hTO⟩ := Z.out
 simp at hb
 rcases hb with rfl | rfl | rfl | rfl
 ·exact ⟨_, hz⟩
 ·exact ⟨_, hTO⟩
 ·exact I.itIn Z.it1
 ·exact I.itIn Z.it2
end
noncomputable abbrev zp1 (c : String) (h : Heap) (l : Addr) : Heap := h.push { cls := .type c, data := .fields #[.ref l, .int 0 0] }
noncomputable abbrev zp2 (c : String) (h : Heap) (l l' : Addr) : Heap := (zp1 c h l).push { cls := .type c, data := .fields #[.ref l', .int 0 0] }
noncomputable abbrev zp3 (c : String) (h : Heap) (l l' : Addr) : Heap := (zp2 c h l l').push { cls := .type "tuple", data := .seq #[.ref h.objs.size, .ref (zp1 c h l).objs.size] }
noncomputable abbrev zp4 (c : String) (h : Heap) (l l' : Addr) : Heap := (zp3 c h l l').push { cls := .type "tuple", data := .seq #[.none, .none] }
noncomputable abbrev zp5 (c : String) (h : Heap) (l l' : Addr) : Heap := (zp4 c h l l').push { cls := .type "zip", data := .fields #[.none, .bool false, .bool false, .ref (zp2 c h l l').objs.size, .ref (zp3 c h l l').objs.size] }
noncomputable def zme (c : String) (l : Addr) : Obj := { cls := .type c, data := .fields #[.ref l, .int 0 0] }
theorem zhV (c : String) (h : Heap) (l l' : Addr) : zhW ((zp4 c h l l').objs.size = h.objs.size + 4) (IsZip (zp5 c h l l') (h.objs.size + 4) (h.objs.size + 2) (h.objs.size + 3) .none) (IsPair (zp5 c h l l') (h.objs.size + 2) (.ref h.objs.size) (.ref (h.objs.size + 1))) (
  IsPair (zp5 c h l l') (h.objs.size + 3) .none .none) ((zp5 c h l l').get? h.objs.size = some (zme c l)) ((zp5 c h l l').get? (h.objs.size + 1) = some (zme c l')) (∀ b o, h.get? b = some o → (zp5 c h l l').get? b = some o) := by
 have z1 : (zp1 c h l).objs.size = h.objs.size + 1 := Heap.size_push ..
 have z2 : (zp2 c h l l').objs.size = h.objs.size + 2 := by rw [Heap.size_push, z1]
 have z3 : (zp3 c h l l').objs.size = h.objs.size + 3 := by rw [Heap.size_push, z2]
 have z4 : (zp4 c h l l').objs.size = h.objs.size + 4 := by rw [Heap.size_push, z3]
 have up : ∀ {h' : Heap} {b : Addr} {o o' : Obj}, h'.get? b = some o → (h'.push o').get? b = some o := fun e => Heap.get?_push_of_some _ e
 have g5 : (zp5 c h l l').get? (zp4 c h l l').objs.size = some _ := Heap.get?_push_size _ rfl
 have g4 : (zp5 c h l l').get? (zp3 c h l l').objs.size = some _ := up (Heap.get?_push_size _ rfl)
 have g3 : (zp5 c h l l').get? (zp2 c h l l').objs.size = some _ := up (up (Heap.get?_push_size _ rfl))
 have g2 : (zp5 c h l l').get? (zp1 c h l).objs.size = some (zme c l') := up (up (up (Heap.get?_push_size _ rfl)))
 rw [z2, z3, z4] at g5
 rw [z1, z2] at g3
 rw [z3] at g4
 rw [z1] at g2
 exact ⟨z4, g5, g3, g4, (up (up (up (up (Heap.get?_push_size _ rfl))))), g2, fun b o e => up (up (up (up (up e))))⟩
theorem zga (l1 l2 : Addr) (xs ys : Array Value) :
  Meets (Builtin.«zip.__new__» ⟨[.type "zip", .ref l1, .ref l2], []⟩) (fun V R s => zaF (s.heap.IsTuple l1 xs) (s.heap.IsTuple l2 ys) (R (.ok (.ret (.ref (zp4 "tuple_iterator" s.heap l1 l2).objs.size))) { s with heap := zp5 "tuple_iterator" s.heap l1 l2 })) :=
 .of_wp fun prog w A R s h => by
  obtain ⟨hp, g, d, tk, os⟩ := s; obtain ⟨hl1, hl2, h⟩ := h
  have hsub := sub_zip
  have hL1 : Heap.IsTuple (Shared.heap ⟨hp, g, d, tk, os⟩) l1 xs := hl1
  have hL2 : Heap.IsTuple (Shared.heap ⟨hp.push { cls := .type "tuple_iterator", data := .fields #[.ref l1, .int 0 0] }, g, d, tk, os⟩) l2 ys := let ⟨o, ho, r⟩ := hl2; ⟨o, Heap.get?_push_of_some _ ho, r⟩
  wp_walk using wpAny_pyIter_tuple hL1, wpAny_pyIter_tuple hL2
  exact ⟨_, rfl, h⟩
theorem zgJ (l1 l2 : Addr) (xs ys : Array Value) :
  Meets (Builtin.«zip.__new__» ⟨[.type "zip", .ref l1, .ref l2], []⟩) (fun V R s => zaF (s.heap.IsList l1 xs) (s.heap.IsList l2 ys) (R (.ok (.ret (.ref (zp4 "list_iterator" s.heap l1 l2).objs.size))) { s with heap := zp5 "list_iterator" s.heap l1 l2 })) :=
 .of_wp fun prog w A R s h => by
  obtain ⟨hp, g, d, tk, os⟩ := s; obtain ⟨hl1, hl2, h⟩ := h
  have hsub := sub_zip
  have hL1 : Heap.IsList (Shared.heap ⟨hp, g, d, tk, os⟩) l1 xs := hl1
  have hL2 : Heap.IsList (Shared.heap ⟨hp.push { cls := .type "list_iterator", data := .fields #[.ref l1, .int 0 0] }, g, d, tk, os⟩) l2 ys := let ⟨o, ho, r⟩ := hl2; ⟨o, Heap.get?_push_of_some _ ho, r⟩
  wp_walk using wpAny_pyIter_list hL1, wpAny_pyIter_list hL2
  exact ⟨_, rfl, h⟩
section
variable {d : Nat} {env : Env} {vars : zaf} {mu : Mu}
noncomputable def zipItems (xs ys : List AV) : List AV := (xs.zip ys).map fun p => .tup [p.1, p.2]
theorem zmH {IsIt : Heap → Addr → Addr → Nat → Prop} {IsSq : Heap → Addr → Array Value → Prop} (I : Inner w IsIt IsSq) (c : String) {A : Around} {Y : zau} {β : zaq} {s : Shared} {l1 l2 : Addr} {vs ws : Array Value} {xs ys : List AV} {elts : List Expr} {k : Nat} {pos : Pos} {o1 o2 : Obj}
  (hA : zbz A d) (g : GS w H Y β mu s) (h1 : s.heap.get? l1 = some o1) (h2 : s.heap.get? l2 = some o2) (a1 : zaL Y β l1) (a2 : zaL Y β l2) (q1 : IsSq s.heap l1 vs) (q2 : IsSq s.heap l2 ws) (r1 : zan w s.heap Y β xs vs.toList) (r2 : zan w s.heap Y β ys ws.toList)
  (hit : ∀ h a l, h.get? a = some (zme c l) → IsIt h a l 0) :
  zlU w H A (zhX w) (.Tuple elts k pos) Y β s (.ref (s.heap.objs.size + 4)) (zipItems xs ys) mu { s with heap := zp5 c s.heap l1 l2 } ∧ zap β s β { s with heap := zp5 c s.heap l1 l2 } := by
 obtain ⟨V, f1, f2, f3, f4, f5, kk⟩ := zhV c s.heap l1 l2
 have no : ∀ j, s.heap.get? (s.heap.objs.size + j) = none := fun j => by
  cases e : s.heap.get? (s.heap.objs.size + j) with
  | none => rfl
  | some o => exact absurd (Heap.lt_size e) (Nat.not_lt.mpr (Nat.le_add_right _ _))
 have no0 : s.heap.get? s.heap.objs.size = none := no 0
 have ne : ∀ {a o}, s.heap.get? a = some o → ∀ j, a ≠ s.heap.objs.size + j := fun e j q => by rw [q, no j] at e; contradiction
 have ne0 : ∀ {a o}, s.heap.get? a = some o → a ≠ s.heap.objs.size := fun e q => ne e 0 q
 have D : ZipApart (s.heap.objs.size + 4) (s.heap.objs.size + 2) (s.heap.objs.size + 3) s.heap.objs.size (s.heap.objs.size + 1) l1 l2 := by
  generalize hN : s.heap.objs.size = N at ne ne0 ⊢
  have e : ∀ i j : Nat, i ≠ j → N + i ≠ N + j := fun i j h q => h (Nat.add_left_cancel q)
  have e0 : ∀ j : Nat, j ≠ 0 → N ≠ N + j := fun j h q => h (Nat.add_left_cancel (q.symm : N + j = N + 0))
  exact ⟨e _ _ (by decide), e _ _ (by decide), e0 _ (by decide), e _ _ (by decide), e _ _ (by decide), (e0 _ (by decide)).symm, e _ _ (by decide), (e0 _ (by decide)).symm, e _ _ (by decide), e0 _ (by decide),
   ne h1 _, ne h1 _, ne0 h1, ne h1 _, ne h2 _, ne h2 _, ne0 h2, ne h2 _⟩
 have hZ : ∀ b ∈ [s.heap.objs.size + 4, s.heap.objs.size + 3, s.heap.objs.size, s.heap.objs.size + 1], s.heap.get? b = none := fun b hb => by
  simp at hb
  rcases hb with rfl | rfl | rfl | rfl
  ·exact no 4
  ·exact no 3
  ·exact no0
  ·exact no 1
 have S := zca (Y := Y) (β := β) hZ kk
 have hlen : min vs.size ws.size = (zipItems xs ys).length := by
  unfold zipItems
  rw [List.length_map, List.length_zip, ← zah r1, ← zah r2]; simp
 have W : zpg w A (s.heap.objs.size + 4) _ [s.heap.objs.size + 4, s.heap.objs.size + 3, s.heap.objs.size, s.heap.objs.size + 1] (zipItems xs ys).length _ _ _ :=
  ⟨hlen ▸ znz I hA.handled _ _ _ _ _ _ _ D vs ws, fun i h st => zkV I st.1 st.2⟩
 have g2 : GS w H (zaz Y [s.heap.objs.size + 4, s.heap.objs.size + 3, s.heap.objs.size, s.heap.objs.size + 1]) β mu { s with heap := zp5 c s.heap l1 l2 } := GS.addI (s' := { s with heap := zp5 c s.heap l1 l2 }) g hZ (zkV I f1 (⟨f2, ⟨_, _, f3⟩, hit _ _ _ f4, hit _ _ _ f5, I.sqMove q1 fun o => kk _ o, I.sqMove q2 fun o => kk _ o⟩ : zco IsIt IsSq (s.heap.objs.size + 4) (s.heap.objs.size + 2) (s.heap.objs.size + 3) s.heap.objs.size (s.heap.objs.size + 1) l1 l2 vs ws 0 (zp5 c s.heap l1 l2))) kk
 refine ⟨⟨_, _, W.src, ⟨⟨f1, (⟨f2, ⟨_, _, f3⟩, hit _ _ _ f4, hit _ _ _ f5, I.sqMove q1 fun o => kk _ o, I.sqMove q2 fun o => kk _ o⟩ : zco IsIt IsSq (s.heap.objs.size + 4) (s.heap.objs.size + 2) (s.heap.objs.size + 3) s.heap.objs.size (s.heap.objs.size + 1) l1 l2 vs ws 0 (zp5 c s.heap l1 l2))⟩, fun b hb => ?_, fun i vals x hv hx => ?_⟩, hZ, g2⟩, .grow (s' := { s with heap := zp5 c s.heap l1 l2 }) kk rfl rfl⟩
 ·simp at hb
  rcases hb with rfl | rfl | rfl | rfl | rfl | rfl | rfl
  ·exact .inl (by simp)
  ·refine .inr ⟨⟨fun y => ?_, fun k e => ?_⟩, _, f2⟩
   ·rcases y with y | y
    ·obtain ⟨o, e⟩ := g.yIn _ y; rw [no 2] at e; cases e
    ·simp at y
   ·obtain ⟨o, e⟩ := g.store.here k _ e; rw [no 2] at e; cases e
  ·exact .inl (by simp)
  ·exact .inl (by simp)
  ·exact .inl (by simp)
  ·exact .inr ⟨S.avoid _ _ h1 a1, _, kk _ _ h1⟩
  ·exact .inr ⟨S.avoid _ _ h2 a2, _, kk _ _ h2⟩
 ·obtain ⟨x', y', hx', hy', rfl⟩ := hv
  unfold zipItems at hx
  rw [List.getElem?_map] at hx
  obtain ⟨⟨p, q⟩, hz, rfl⟩ := Option.map_eq_some_iff.mp hx
  obtain ⟨hz1, hz2⟩ := List.getElem?_zip_eq_some.mp hz
  obtain ⟨v1, e1, rv1⟩ := zb9 r1 hz1
  obtain ⟨v2, e2, rv2⟩ := zb9 r2 hz2
  have t1 : vs.toList[i]? = some x' := by simpa using hx'
  have t2 : ws.toList[i]? = some y' := by simpa using hy'
  replace e1 := (t1) ▸ e1; replace e2 := (t2) ▸ e2; obtain rfl := Option.some.inj e1; obtain rfl := Option.some.inj e2
  exact ⟨[p, q], rfl, x', [y'], rfl, Rep.stays S rv1, y', [], rfl, Rep.stays S rv2, rfl⟩
theorem zlh {e1 e2 : Expr} {p1 p2 p3 : Pos} {k : Nat} {elts : List Expr} {Q : QL} (hk : env.kindOf "zip" = some .globalImplicit) (hg : zac w H "zip" (.raw (.type "zip")))
  (h : EW w H d env (eval e1 env) vars mu fun a mu1 => EW w H d env (eval e2 env) vars mu1 fun b mu2 => Ex2 fun xs ys => ((a = .lst xs ∧ b = .lst ys) ∨ (a = .tup xs ∧ b = .tup ys)) ∧ Q (zipItems xs ys) mu2)
  (hse : autoParam (backTo p2 (starEach [e1, e2] env) = [(false, eval e1 env), (false, eval e2 env)]) aW) :
  IW w H (zhX w) (.Tuple elts k p3) d env (.Call (.Name "zip" p1) [e1, e2] [] p2) vars mu Q := fun A Y β s hA g vo => by
 kcf_m
 obtain ⟨v, at_, rg⟩ := hg
 kcj_m
 subst rg
 refine wpAny_Call_NameR (Calls.Name_function_global vo.eok.fn hk (zhn g vo.eok at_ ?_))
 exists hse
 refine PySem.callWith_type rfl (Calls.evalArgs_plain (Calls.spliced_cons (h.run hA g vo fun va s1 β1 a mu1 g1 t1 vo1 ra q1 => Calls.spliced_cons (q1.run hA g1 vo1 fun vb s2 β2 b mu2 g2 t2 vo2 rb ⟨xs, ys, hk2, q⟩ => Calls.spliced_nil ?_))))
 have ra' := t2.rep ra
 rcases hk2 with ⟨rfl, rfl⟩ | ⟨rfl, rfl⟩
 ·obtain ⟨l1, vs, n1, rfl, hl1, av1, r1⟩ := ra'
  obtain ⟨l2, ws, n2, rfl, hl2, av2, r2⟩ := rb
  obtain ⟨so, st⟩ := zmH (zlg) "list_iterator" (elts := elts) (k := k) (pos := p3) hA g2 hl1 hl2 av1 av2 ⟨_, hl1, rfl, _, rfl⟩ ⟨_, hl2, rfl, _, rfl⟩ r1 r2 (fun h a l e => ⟨_, e, rfl, rfl⟩)
  refine callType_new F.called_zip (by rfl) (F.typeCall_zip_2 _ _) (F.newCall_zip_2 _ _) (fun obj => F.args_object_init_3 obj _ _) F.entry_zip_new (zgJ l1 l2 vs ws) ⟨⟨_, hl1, rfl, _, rfl⟩, ⟨_, hl2, rfl, _, rfl⟩, ?_⟩
  obtain ⟨f0, f1, V⟩ := zhV "list_iterator" s2.heap l1 l2
  show _ ∧ _
  exists f0
  refine ⟨⟨_, f1, rfl⟩, wpAny_pyIter_zip (s := { s2 with heap := zp5 "list_iterator" s2.heap l1 l2 }) f1 ?_⟩
  obtain ⟨Z, St, W, st0, hI, g3⟩ := so
  exact ⟨β2, zipItems xs ys, mu2, Z, St, W, st0, fun b hb => zaN (t1.trans t2) (hI b hb), g3, (t1.trans t2).trans st, q⟩
 ·obtain ⟨l1, vs, n1, rfl, hl1, av1, r1⟩ := ra'
  obtain ⟨l2, ws, n2, rfl, hl2, av2, r2⟩ := rb
  obtain ⟨so, st⟩ := zmH (zj8) "tuple_iterator" (elts := elts) (k := k) (pos := p3) hA g2 hl1 hl2 av1 av2 ⟨_, hl1, rfl, _, rfl⟩ ⟨_, hl2, rfl, _, rfl⟩ r1 r2 (fun h a l e => ⟨_, e, rfl, rfl⟩)
  refine callType_new F.called_zip (by rfl) (F.typeCall_zip_2 _ _) (F.newCall_zip_2 _ _) (fun obj => F.args_object_init_3 obj _ _) F.entry_zip_new (zga l1 l2 vs ws) ⟨⟨_, hl1, rfl, _, rfl⟩, ⟨_, hl2, rfl, _, rfl⟩, ?_⟩
  obtain ⟨f0, f1, V⟩ := zhV "tuple_iterator" s2.heap l1 l2
  show _ ∧ _
  exists f0
  refine ⟨⟨_, f1, rfl⟩, wpAny_pyIter_zip (s := { s2 with heap := zp5 "tuple_iterator" s2.heap l1 l2 }) f1 ?_⟩
  obtain ⟨Z, St, W, st0, hI, g3⟩ := so
  exact ⟨β2, zipItems xs ys, mu2, Z, St, W, st0, fun b hb => zaN (t1.trans t2) (hI b hb), g3, (t1.trans t2).trans st, q⟩
end
end
section

def zeQ (mu : Mu) (k : Nat) (m : zb4) (mu' : Mu) : Prop := (mu.lookup k).isSome = true ∧ ∀ j, mu'.lookup j = if j = k then some m else mu.lookup j
theorem zeQ.here {k a m r} : zeQ ((k, a) :: r) k m ((k, m) :: r) := by
 refine ⟨by simp, fun j => ?_⟩
 (exists List.lookup_cons; exists List.lookup_cons)
 by_cases h : j = k
 ·subst h; simp
 ·have : (j == k) = false := by simpa using h
  rw [this, if_neg h]
theorem zeQ.there {j k a m r r'} (h : j ≠ k) (p : zeQ r k m r') : zeQ ((j, a) :: r) k m ((j, a) :: r') := by
 refine ⟨by (exists List.lookup_cons; exists (show (k == j) = false by simpa using h.symm)); exact p.1, fun i => ?_⟩
 (exists List.lookup_cons; exists List.lookup_cons)
 by_cases hi : i = j
 ·subst hi; simp [h]
 ·have : (i == j) = false := by simpa using hi
  exists this; exact p.2 i
def zcM (mu : Mu) (k : Nat) (m : zb4) (Q : Mu → Prop) : Prop := ∃ mu', zeQ mu k m mu' ∧ Q mu'
theorem zat {k a m r} (h : Q ((k, m) :: r)) : zcM ((k, a) :: r) k m Q := ⟨_, .here, h⟩
theorem zbT {j k a m r} (hj : j ≠ k) (h : zcM r k m fun r' => Q ((j, a) :: r')) : zcM ((j, a) :: r) k m Q := by obtain ⟨r', p, q⟩ := h; exact ⟨_, .there hj p, q⟩
noncomputable def mset (mu : Mu) (k : Nat) (m : zb4) : Mu := mu.map fun p => if p.1 = k then (k, m) else p
theorem zeQ.any {k m0 m} : ∀ {mu : Mu}, mu.lookup k = some m0 → zeQ mu k m (mset mu k m)
 | [], h => by simp at h
 | (j, a) :: r, h => by
  by_cases hj : j = k
  ·subst hj
   refine ⟨by simp, fun i => ?_⟩
   unfold mset
   rw [List.map_cons, if_pos rfl, List.lookup_cons, List.lookup_cons]
   by_cases hi : i = j
   ·subst hi; simp
   ·have : (i == j) = false := by simpa using hi
    (exists this; exists if_neg hi)
    clear h
    induction r with
    | nil => rfl
    | cons q r ih =>
     rw [List.map_cons, List.lookup_cons]
     by_cases hq : q.1 = j
     ·(exists if_pos hq; exists List.lookup_cons; exists this)
      exists (show (i == q.1) = false by refine rwL hq ?_; exact this); exact ih
     ·(exists if_neg hq; exists List.lookup_cons)
      cases hh : i == q.1 with
      | true => rfl
      | false => exact ih
  ·rw [List.lookup_cons, show (k == j) = false by simpa using fun e : k = j => hj e.symm] at h
   have : mset ((j, a) :: r) k m = (j, a) :: mset r k m := by unfold mset; rw [List.map_cons, if_neg hj]
   exists this
   exact .there hj (zeQ.any h)
section
variable {d : Nat} {env : Env} {vars : zaf} {mu : Mu}
theorem GS.mutate (g : GS w H Y β mu s) (p : zeQ mu k m mu') (ha : β k = some a) (kk : ∀ b o, b ≠ a → s.heap.get? b = some o → s'.heap.get? b = some o)
  (hr : zcX w s'.heap Y β a m) (hin : ∃ o, s'.heap.get? a = some o) (hg : s'.gens = s.gens) (ho : s'.os = s.os) : GS w H Y β mu' s' ∧ zap β s β s' := by
 have S : zaB s.heap Y β s'.heap Y β := ⟨fun b o e av => kk b o (fun q => av.2 k (q ▸ ha)) e, fun _ _ _ av => av, fun _ _ e => e⟩
 refine ⟨⟨fun b o e => kk b o (fun q => ?_) (g.base b o e), g.bBase, g.yBase, fun b y => (g.yIn b y).imp fun o e => kk b o ((fun b y q => g.store.apart k a ha (q ▸ y) : ∀ b, Y b → b ≠ a) b y) e, ⟨fun j => ?_, g.store.inj, fun j mo b e e' => ?_, fun j b e => ?_, g.store.apart⟩⟩,
  ⟨fun b o e n => kk b o (fun q => n k (q ▸ ha)) e, fun _ _ e => e, fun _ _ e => .inl e, fun b o e => ?_, hg, ho⟩⟩
 ·rw [q, g.bBase k a ha] at e; contradiction
 ·rw [p.2]
  split
  ·rename_i q; subst q; exists ha; rfl
  ·exact g.store.dom j
 ·rw [p.2] at e
  split at e
  ·rename_i q; subst q; obtain rfl := Option.some.inj e; rw [ha] at e'; obtain rfl := Option.some.inj e'; exact hr
  ·rename_i q
   have hne : b ≠ a := fun x => q (g.store.inj j k b e' (x ▸ ha))
   exact zcX.stays S (fun o => kk b o hne) (g.store.rep j mo b e e')
 ·by_cases q : b = a
  ·subst q; exact hin
  ·exact (g.store.here j b e).imp fun o e => kk b o q e
 ·by_cases q : b = a
  ·subst q; exact hin
  ·exact ⟨o, kk b o q e⟩
theorem zdT (x : IsL h l items n) (f : Array Value → Array Value) : ∃ n', IsL (h.update l (Obj.mapSeq f)) l (f items) n' := ⟨_, x.update f⟩
theorem zbe {o e : Expr} {apos pos : Pos} {Q : QA}
  (h : EW w H d env (eval o env) vars mu fun a mu1 => Ex2 fun k xs0 => zaF (a = .loc k) (mu1.lookup k = some (.list xs0)) (EW w H d env (eval e env) vars mu1 fun x mu2 => ∃ xs, zaF (mu2.lookup k = some (.list xs)) (xs.length ≤ sizeLine) (zcM mu2 k (.list (xs ++ [x])) (Q .none))))
  (hbase : autoParam (attributeBase o "append" env (eval o env) = eval o env) aW) (hline : autoParam ((apos.endLine == pos.line) = true) aW) (htrees : autoParam (backTo pos (starEach [e] env) = [(false, eval e env)]) aW) :
  EW w H d env (eval (.Call (.Attribute o "append" apos) [e] [] pos) env) vars mu Q := fun A Y β s hA g vo => by
 refine wpAny_Call_method1_late hbase hline htrees (h.run hA g vo fun va s1 β1 a mu1 g1 t1 vo1 ra hq9' => ?_)
 obtain ⟨k, xs0, ek, hm0, q1⟩ := hq9'
 subst ek
 obtain ⟨l, eb, rfl⟩ := ra
 obtain ⟨vs0, n0, hl0, V⟩ := g1.store.rep _ _ _ hm0 eb
 refine ⟨"list", "list.append", F.plainAttrs_list, F.slot_list_append, F.type_list_append, ⟨_, hl0, rfl⟩, fun a e => by injection e with e; subst e; exact ⟨_, hl0, rfl⟩, P.append_list (q1.run hA g1 vo1 fun v s2 β2 x mu2 g2 t2 vo2 rx hq9' => ?_)⟩
 kcf_m
 obtain ⟨xs, hm, hz, mu3, hp, q⟩ := hq9'
 kcj_m
 have eb2 := t2.beta k l eb
 obtain ⟨vs, n, hl, rl⟩ := g2.store.rep _ _ _ hm eb2
 have hs : vs.size = xs.length := by refine rwR (zah rl) ?_; simp
 obtain ⟨n', hl'⟩ := zdT hl (fun ys => ys.push v)
 have kk : ∀ b o, b ≠ l → s2.heap.get? b = some o → (s2.heap.update l (Obj.mapSeq fun ys => ys.push v)).get? b = some o := fun b o hb e => (Heap.get?_update_other _ _ (Ne.symm hb)).trans e
 have S : zaB s2.heap Y β2 (s2.heap.update l (Obj.mapSeq fun ys => ys.push v)) Y β2 := ⟨fun b o e av => kk b o (fun q => av.2 k (q ▸ eb2)) e, fun V V V av => av, fun V V e => e⟩
 obtain ⟨g3, t3⟩ := g2.mutate (s' := { s2 with heap := s2.heap.update l (Obj.mapSeq fun ys => ys.push v) }) hp eb2 kk ⟨vs.push v, n', hl', by rw [Array.toList_push]; exact zc5 (Rep.stays S rx) (zan.stays S rl)⟩ ⟨_, hl'⟩ rfl rfl
 exact ⟨vs, n, by kd_mem, hl, β2, .none, mu3, g3, (t1.trans t2).trans t3, rfl, q⟩
theorem zdE {o e : Expr} {apos pos : Pos} {Q : QA}
  (h : EW w H d env (eval o env) vars mu fun a mu1 => Ex2 fun k xs0 => zaF (a = .loc k) (mu1.lookup k = some (.list xs0)) (EW w H d env (eval e env) vars mu1 fun x mu2 => Ex2 fun xs ys => zbI (mu2.lookup k = some (.list xs)) (zcV mu2 x = some ys) (xs.length + ys.length ≤ sizeLine) (zcM mu2 k (.list (xs ++ ys)) (Q .none))))
  (hbase : autoParam (attributeBase o "extend" env (eval o env) = eval o env) aW) (hline : autoParam ((apos.endLine == pos.line) = true) aW) (htrees : autoParam (backTo pos (starEach [e] env) = [(false, eval e env)]) aW) :
  EW w H d env (eval (.Call (.Attribute o "extend" apos) [e] [] pos) env) vars mu Q := fun A Y β s hA g vo => by
 refine wpAny_Call_method1_late hbase hline htrees (h.run hA g vo fun va s1 β1 a mu1 g1 t1 vo1 ra hq9' => ?_)
 obtain ⟨k, xs0, ek, hm0, q1⟩ := hq9'
 subst ek
 obtain ⟨l, eb, rfl⟩ := ra
 obtain ⟨vs0, n0, hl0, V⟩ := g1.store.rep _ _ _ hm0 eb
 refine ⟨"list", "list.extend", F.plainAttrs_list, F.slot_list_extend, F.type_list_extend, ⟨_, hl0, rfl⟩, fun a e => by injection e with e; subst e; exact ⟨_, hl0, rfl⟩, P.extend_list (q1.run hA g1 vo1 fun v s2 β2 x mu2 g2 t2 vo2 rx hq9' => ?_)⟩
 kcf_m
 obtain ⟨xs, ys, hm, hy, hz, mu3, hp, q⟩ := hq9'
 kcj_m
 have eb2 := t2.beta k l eb
 obtain ⟨vs, n, hl, rl⟩ := g2.store.rep _ _ _ hm eb2
 obtain ⟨b, ws, n2, rfl, hb, rb⟩ := zbH g2 hy rx
 have hs : vs.size = xs.length := by refine rwR (zah rl) ?_; simp
 have hs2 : ws.size = ys.length := by rw [← zah rb]; simp
 obtain ⟨n', hl'⟩ := zdT hl (fun x => x ++ ws)
 have kk : ∀ b o, b ≠ l → s2.heap.get? b = some o → (s2.heap.update l (Obj.mapSeq fun x => x ++ ws)).get? b = some o := fun b o hb e => (Heap.get?_update_other _ _ (Ne.symm hb)).trans e
 have S : zaB s2.heap Y β2 (s2.heap.update l (Obj.mapSeq fun x => x ++ ws)) Y β2 := ⟨fun b o e av => kk b o (fun q => av.2 k (q ▸ eb2)) e, fun V V V av => av, fun V V e => e⟩
 obtain ⟨g3, t3⟩ := g2.mutate (s' := { s2 with heap := s2.heap.update l (Obj.mapSeq fun x => x ++ ws) }) hp eb2 kk ⟨vs ++ ws, n', hl', by rw [Array.toList_append]; exact zej (zan.stays S rl) (zan.stays S rb)⟩ ⟨_, hl'⟩ rfl rfl
 have e24 : sizeLine < 2 ^ 60 := by decide
 refine ⟨b, vs, ws, n, n2, by kd_mem, by kd_mem, ?_, rfl, hl, hb, β2, .none, mu3, g3, (t1.trans t2).trans t3, rfl, q⟩
 have : Builtin.List.listTooLong (vs.size + ws.size) = false := by
  simp only [Builtin.List.listTooLong]
  simp; kd_mem
 rw [this, Bool.and_false]; simp
theorem zmS (xs : List α) (x : α) : (xs ++ [x]).toArray.eraseIdxIfInBounds ((xs ++ [x]).toArray.size - 1) = xs.toArray := by
 apply Array.toList_inj.mp
 simp [Array.eraseIdxIfInBounds, List.eraseIdx_append_of_length_le]
theorem zhC {h : Heap} {Y : zau} {β : zaq} : ∀ {xs : List AV} {x : AV} {vs : List Value}, zan w h Y β (xs ++ [x]) vs → Ex2 fun us u => zaF (vs = us ++ [u]) (zan w h Y β xs us) (Rep w h Y β x u)
 | [], x, _, ⟨v, r, e, p, l⟩ => by cases l; subst e; exact ⟨[], v, rfl, rfl, p⟩
 | y :: ys, x, _, ⟨v, r, e, p, l⟩ => by
  obtain ⟨us, u, e2, a, b⟩ := zhC (xs := ys) l
  subst e e2; exact ⟨v :: us, u, rfl, ⟨v, us, rfl, p, a⟩, b⟩
theorem zi3 {o : Expr} {apos pos : Pos} {Q : QA}
  (h : EW w H d env (eval o env) vars mu fun a mu1 => Ex3 fun k xs x => zbI (a = .loc k) (mu1.lookup k = some (.list (xs ++ [x]))) (xs.length < sizeLine) (zcM mu1 k (.list xs) (Q x)))
  (hbase : autoParam (attributeBase o "pop" env (eval o env) = eval o env) aW) (hline : autoParam ((apos.endLine == pos.line) = true) aW) :
  EW w H d env (eval (.Call (.Attribute o "pop" apos) [] [] pos) env) vars mu Q := fun A Y β s hA g vo => by
 refine wpAny_Call_method0_late hbase hline (h.run hA g vo fun va s1 β1 a mu1 g1 t1 vo1 ra hq9' => ?_)
 kcf_m
 obtain ⟨k, xs, x, ek, hm, hz, mu3, hp, q⟩ := hq9'
 kcj_m
 subst ek
 obtain ⟨l, eb, rfl⟩ := ra
 obtain ⟨vs, n, hl, rl⟩ := g1.store.rep _ _ _ hm eb
 obtain ⟨us, u, e, ra, rx⟩ := zhC rl
 have ev : vs = (us ++ [u]).toArray := by apply Array.toList_inj.mp; exact e
 have hs : us.length = xs.length := zah ra
 refine ⟨"list", "list.pop", F.plainAttrs_list, F.slot_list_pop, F.type_list_pop, ⟨_, hl, rfl⟩, fun a e => by injection e with e; subst e; exact ⟨_, hl, rfl⟩, P.pop_list (y := u) hl (by exists ev; simp) ?_ (by exists ev; simp; kd_mem)⟩
 obtain ⟨n', hl'⟩ := zdT hl (fun xs => xs.eraseIdxIfInBounds (vs.size - 1))
 have e2 : vs.eraseIdxIfInBounds (vs.size - 1) = us.toArray := by exists ev; exact zmS us u
 rw [e2] at hl'
 have kk : ∀ b o, b ≠ l → s1.heap.get? b = some o → (s1.heap.update l (Obj.mapSeq fun xs => xs.eraseIdxIfInBounds (vs.size - 1))).get? b = some o := fun b o hb e => (Heap.get?_update_other _ _ (Ne.symm hb)).trans e
 have S : zaB s1.heap Y β1 (s1.heap.update l (Obj.mapSeq fun xs => xs.eraseIdxIfInBounds (vs.size - 1))) Y β1 := ⟨fun b o e av => kk b o (fun q => av.2 k (q ▸ eb)) e, fun V V V av => av, fun V V e => e⟩
 obtain ⟨g3, t3⟩ := g1.mutate (s' := { s1 with heap := s1.heap.update l (Obj.mapSeq fun xs => xs.eraseIdxIfInBounds (vs.size - 1)) }) hp eb kk ⟨us.toArray, n', hl', by exact zan.stays S ra⟩ ⟨_, hl'⟩ rfl rfl
 exact ⟨β1, x, mu3, g3, t1.trans t3, Rep.stays S rx, q⟩
end
end
section
section
variable {d : Nat} {env : Env} {vars : zaf} {mu : Mu}
theorem zbP (id : String) : ∃ k, (k = Keeper.frame ∨ k = Keeper.machine ∨ k = Keeper.boundFrame) ∧ Looks (model pw w) h (keeperOf (.builtin id)) k := ⟨.machine, .inr (.inl rfl), Looks.of_pure rfl⟩
theorem za2 (n : String) : ∃ k, (k = Keeper.frame ∨ k = Keeper.machine ∨ k = Keeper.boundFrame) ∧ Looks (model pw w) h (keeperOf (.type n)) k := ⟨.machine, .inr (.inl rfl), Looks.of_pure rfl⟩
theorem zdm (r : zan w h Y β [a] vs) : ∃ v, vs = [v] ∧ Rep w h Y β a v := by
 obtain ⟨v, t, e, p, l⟩ := r; subst l; exact ⟨v, e, p⟩
theorem zqD (r : zan w h Y β [a, b] vs) : Ex2 fun v u => zaF (vs = [v, u]) (Rep w h Y β a v) (Rep w h Y β b u) := by
 obtain ⟨v, t, e, p, l⟩ := r; obtain ⟨u, rfl, q⟩ := zdm l; exact ⟨v, u, e, p, q⟩
theorem zsc (r : zan w h Y β [a, b, c] vs) : Ex3 fun v u t => zbI (vs = [v, u, t]) (Rep w h Y β a v) (Rep w h Y β b u) (Rep w h Y β c t) := by
 obtain ⟨v, t, e, p, l⟩ := r; obtain ⟨u, x, rfl, q, q'⟩ := zqD l; exact ⟨v, u, x, e, p, q, q'⟩
theorem zpA (ha : zcV mu a = some xs) (hz : xs.length < 2 ^ 60) (h : Q (.int xs.length) mu) : zaP w H d (.raw (.builtin "len")) [a] mu Q := fun A Y β s vf vs hA g rf ra => by
 subst rf
 obtain ⟨v, rfl, rv⟩ := zdm ra
 obtain ⟨l, us, n, rfl, hl, rl⟩ := zbH g ha rv
 have hs : us.size = xs.length := by refine rwR (zah rl) ?_; simp
 have hb : (us.size : Int) < 2 ^ 63 := by
  have e1 : (2 : Nat) ^ 60 = 1152921504606846976 := by decide
  have e2 : (2 : Int) ^ 63 = 9223372036854775808 := by decide
  kd_mem
 exact ⟨zbP _, Calls.call_len_list ⟨_, hl, rfl, _, rfl⟩ hb ⟨β, .int us.size, mu, g.toks _, .toks, ⟨_, rfl⟩, by exists hs; exact h⟩⟩
theorem zpB (hz : xs.length < 2 ^ 60) (h : Q (.int xs.length) mu) : zaP w H d (.raw (.builtin "len")) [.tup xs] mu Q := fun A Y β s vf vs hA g rf ra => by
 subst rf
 obtain ⟨v, rfl, l, us, n, rfl, hl, V, rl⟩ := zdm ra
 have hs : us.size = xs.length := by refine rwR (zah rl) ?_; simp
 have hb : ¬ (us.size : Int) ≥ 2 ^ 63 := by
  have e1 : (2 : Nat) ^ 60 = 1152921504606846976 := by decide
  have e2 : (2 : Int) ^ 63 = 9223372036854775808 := by decide
  kd_mem
 exact ⟨zbP _, P.len_tuple hl hb ⟨β, .int us.size, mu, g.toks _, .toks, ⟨_, rfl⟩, by exists hs; exact h⟩⟩
theorem zeN (g : GS w H Y β mu s) (o : Obj) (n : Nat) : GS w H Y β mu { s with heap := s.heap.push o, toks := n } := (g.push o).toks n
theorem range_one (h : Q (.rng 0 n 1) mu) : zaP w H d (.raw (.type "range")) [.int n] mu Q := fun A Y β s vf vs hA g rf ra => by
 subst rf
 obtain ⟨v, rfl, t, rfl⟩ := zdm ra
 refine ⟨za2 _, call_range_1 ⟨β, .rng 0 n 1, mu, zeN g _ _, (zap.push _).trans .toks, ⟨_, _, _, _, rfl, Heap.get?_push_size _ rfl, g.newAvoid⟩, h⟩⟩
theorem zkA (hc : c ≠ 0) (hs : c.natAbs < 1073741824) (h : Q (.rng a b c) mu) : zaP w H d (.raw (.type "range")) [.int a, .int b, .int c] mu Q := fun A Y β s vf vs hA g rf ra => by
 subst rf
 obtain ⟨v, u, x, rfl, ⟨t, rfl⟩, ⟨t', rfl⟩, ⟨t'', rfl⟩⟩ := zsc ra
 refine ⟨za2 _, call_range_3 hc ⟨β, .rng a b c, mu, zeN g _ _, (zap.push _).trans .toks, ⟨_, _, _, _, rfl, Heap.get?_push_size _ rfl, g.newAvoid⟩, h⟩ (.inl (PyProof.noPylong_small hs))⟩
end
end
section
section
variable {d : Nat} {env : Env} {vars : zaf} {mu : Mu}
def zi (w : World) (H : Heap) (d : Nat) (f : AV) (as : List AV) (mu : Mu) (Q : QL) : Prop :=
 ∀ A Y β s vf vs, zbz A d → GS w H Y β mu s → Rep w s.heap Y β f vf → zan w s.heap Y β as vs →
  (∃ k, (k = Keeper.frame ∨ k = Keeper.machine ∨ k = Keeper.boundFrame) ∧ Looks (model pw w) s.heap (keeperOf vf) k) ∧
  wpAny (model pw w) A (call vf vs) (fun v s' => zlR w H Y β s Q v s') NoE s
theorem zcr
  (h : EW w H d env (eval (.Name x p) env) vars mu fun f mu1 => LW w H d env (spliced (backTo pos (starEach args env))) vars mu1 fun as mu2 => zi w H d f as mu2 Q)
  (hp : autoParam ((backTo pos (starEach args env)).any (fun V => V.1) = false) aW) : EWL w H d env (eval (.Call (.Name x p) args [] pos) env) vars mu Q := fun A Y β s hA g vo =>
 wpAny_Call_NameR (h.run hA g vo fun vf s1 β1 f mu1 g1 t1 vo1 rf q1 => zcY hp (q1.run hA g1 vo1 fun vs s2 β2 as mu2 g2 t2 vo2 ra q2 => by
  obtain ⟨hk, hc⟩ := q2 A Y β2 s2 vf vs hA g2 (t2.rep rf) ra
  exact ⟨hk, wpAny_mono hc (by rintro v s' ⟨β', xs, mu', D, us, n, e, hD, hl, g', t', r', q'⟩; exact ⟨β', xs, mu', D, us, n, e, zaN (t1.trans t2) hD, hl, g', (t1.trans t2).trans t', r', q'⟩) fun V V x => x⟩))
theorem zab : sizeLine = 2 ^ 24 := by rw [sizeLine_eq]
theorem grown {Y : zau} {β : zaq} {s s' : Shared} (g : GS w H Y β mu s) (k : ∀ b o, s.heap.get? b = some o → s'.heap.get? b = some o) {D : Addr} (hD : s.heap.get? D = none) (hin : ∃ o, s'.heap.get? D = some o) (hg : s'.gens = s.gens) (ho : s'.os = s.os) :
  zaF (GS w H (zaz Y [D]) β mu s') (zap β s β s') (zaB s.heap Y β s'.heap (zaz Y [D]) β) := by
 exact ⟨g.addI (fun b hb => by rw [List.mem_singleton.mp hb]; exact hD) (fun b hb => by exists List.mem_singleton.mp hb; exact hin) k, .grow k hg ho, zca (fun b hb => by rw [List.mem_singleton.mp hb]; exact hD) k⟩
theorem zon (hsm : Builtin.Range.small a b c = true) (h0 : 0 ≤ Builtin.Range.rangeSize a b c) (hl : zcE a b c ≤ 2 ^ 24) (h : Q (zbV a b c) mu) : zi w H d (.raw (.type "list")) [.rng a b c] mu Q := fun A Y β s vf vs hA g rf ra => by
 subst rf
 obtain ⟨v, rfl, p, t, u, x, rfl, hr, V⟩ := zdm ra
 refine ⟨za2 _, call_list_range hA.handled hr hsm (n := zcE a b c) (by unfold zcE; kd_mem) hl fun h' tk acc c' kk hD hI => ?_⟩
 obtain ⟨g2, t2, S⟩ := grown (s' := { s with heap := h', toks := tk }) g kk (zak _) ⟨_, hD⟩ rfl rfl
 refine ⟨β, zbV a b c, mu, _, acc, c', rfl, zak _, hD, g2, t2, ?_, h⟩
 have key : ∀ (n i : Nat) (vs : List Value), vs.length = n → (∀ (j : Nat) (v : Value), vs[j]? = some v → ∃ t, v = Value.int (a + ((i + j : Nat) : Int) * c) t) → zan w h' (zaz Y [s.heap.objs.size]) β ((List.range' i n).map fun (i : Nat) => AV.int (a + (i : Int) * c)) vs := by
  intro n
  induction n with
  | zero => intro i vs hl V; replace hl := List.eq_nil_of_length_eq_zero hl; subst hl; rfl
  | succ n ih =>
   intro i vs hl hv
   cases vs with
   | nil => contradiction
   | cons v r =>
    obtain ⟨t, ht⟩ := hv 0 v rfl
    refine ⟨v, r, rfl, ⟨t, by simpa using ht⟩, ih (i + 1) r (by simpa using hl) fun j u hu => ?_⟩
    obtain ⟨t, ht⟩ := hv (j + 1) u (by simpa using hu)
    exact ⟨t, by congr 4; kd_mem⟩
 have := key (zcE a b c) 0 acc.toList (by simpa using hI.1) (fun j v hv => by simpa using hI.2 j v (by simpa using hv))
 rw [← List.range_eq_range'] at this
 exact this
theorem zpC (ha : zcV mu a = some xs) (hl : xs.length ≤ sizeLine) (h : Q xs mu) : zi w H d (.raw (.type "list")) [a] mu Q := fun A Y β s vf vs hA g rf ra => by
 subst rf
 obtain ⟨v, rfl, rv⟩ := zdm ra
 obtain ⟨l, us, n, rfl, hu, ru⟩ := zbH g ha rv
 have hs : us.size = xs.length := by refine rwR (zah ru) ?_; simp
 refine ⟨za2 _, call_list_seq l (.inl rfl) hu rfl rfl (fun h' c' kk hD => ?_) (by kd_mem)⟩
 obtain ⟨g2, t2, S⟩ := grown (s' := { s with heap := h' }) g kk (zak _) ⟨_, hD⟩ rfl rfl
 exact ⟨β, xs, mu, _, us, c', rfl, zak _, hD, g2, t2, zan.stays S ru, h⟩
theorem zo3 (ha : zcV mu a = some xs) (hl : xs.length ≤ sizeLine) (h : Q (.tup xs) mu) : zaP w H d (.raw (.type "tuple")) [a] mu Q := fun A Y β s vf vs hA g rf ra => by
 subst rf
 obtain ⟨v, rfl, rv⟩ := zdm ra
 obtain ⟨l, us, n, rfl, hu, ru⟩ := zbH g ha rv
 have hs : us.size = xs.length := by refine rwR (zah ru) ?_; simp
 refine ⟨za2 _, call_tuple_list ⟨_, hu, rfl, _, rfl⟩ (fun h' kk => ?_) (by kd_mem)⟩
 have t1 : zap β s β { s with heap := h' } := .grow (s' := { s with heap := h' }) kk rfl rfl
 have g1 : GS w H Y β mu { s with heap := h' } := g.grow (s' := { s with heap := h' }) kk
 exact ⟨β, .tup xs, mu, g1.push _, t1.trans (.push _), ⟨_, us, 0, rfl, IsT.new _ _, g1.newAvoid, (zap.push _).repL (t1.repL ru)⟩, h⟩
theorem zlo (h : Q (.int (max a b)) mu) : zaP w H d (.raw (.builtin "max")) [.int a, .int b] mu Q := fun A Y β s vf vs hA g rf ra => by
 subst rf
 obtain ⟨v, u, rfl, ⟨t, rfl⟩, ⟨t', rfl⟩⟩ := zqD ra
 refine ⟨zbP _, max_two_ints hA.handled fun h' tk kk => ⟨β, .int (max a b), mu, (g.grow (s' := { s with heap := h', toks := tk }) kk), .grow (s' := { s with heap := h', toks := tk }) kk rfl rfl, ?_, h⟩⟩
 by_cases hab : b > a
 ·rw [if_pos hab]; exact ⟨_, by rw [Int.max_eq_right (by kd_mem)]⟩
 ·rw [if_neg hab]; exact ⟨_, by rw [Int.max_eq_left (by kd_mem)]⟩
theorem int_int (h : Q (.int n) mu) : zaP w H d (.raw (.type "int")) [.int n] mu Q := fun A Y β s vf vs hA g rf ra => by
 subst rf
 obtain ⟨v, rfl, t, rfl⟩ := zdm ra
 exact ⟨za2 _, call_int_int ⟨β, .int _, mu, g, .refl _ _, ⟨_, rfl⟩, h⟩⟩
theorem int_bool (h : Q (.int (if b then 1 else 0)) mu) : zaP w H d (.raw (.type "int")) [.bool b] mu Q := fun A Y β s vf vs hA g rf ra => by
 subst rf
 obtain ⟨v, rfl, rv⟩ := zdm ra
 subst rv
 exact ⟨za2 _, call_int_bool ⟨β, .int _, mu, g.toks _, .toks, ⟨_, rfl⟩, h⟩⟩
end
end
section

noncomputable def zci : Option Nat → Nat
 | none => 0
 | some a => a
noncomputable def zdt (n : Nat) : Option Nat → Nat
 | none => n
 | some b => b
noncomputable def zdx (xs : List AV) (lo hi : Option Nat) : List AV := (xs.take (zdt xs.length hi)).drop (zci lo)
def zgd (v : Value) : Option Nat → Prop
 | none => v = .none
 | some a => ∃ t, v = .int a t
theorem zph (lo hi : Option Nat) (n : Nat) : Builtin.Slice.sliceAdjust (lo.map fun (x : Nat) => (x : Int)) (hi.map fun (x : Nat) => (x : Int)) 1 (n : Int) = (((min (zci lo) n : Nat) : Int), ((min (zdt n hi) n : Nat) : Int)) := by
 unfold Builtin.Slice.sliceAdjust
 cases lo <;> cases hi <;> simp only [(by decide : ¬ ((1 : Int) < 0)), if_false, Option.map_none, Option.map_some, zci, zdt]
 ·congr 1 <;> kd_mem
 ·rename_i b
  have : ¬ ((b : Int) < 0) := by kd_mem
  simp only [this, if_false]
  congr 1 <;> kd_mem
 ·rename_i a
  have : ¬ ((a : Int) < 0) := by kd_mem
  simp only [this, if_false]
  congr 1 <;> kd_mem
 ·rename_i a b
  have h2 : ¬ ((a : Int) < 0) := by kd_mem
  have h3 : ¬ ((b : Int) < 0) := by kd_mem
  simp only [h2, h3, if_false]
  congr 1 <;> kd_mem
theorem zpZ (a b : Nat) : Builtin.Slice.slicePlaces (a : Int) (b : Int) 1 = b - a := by
 unfold Builtin.Slice.slicePlaces
 simp only [(by decide : (1 : Int) > 0), if_true, Int.ediv_one]
 split <;> kd_mem
section
variable {prog : Program} {A : Around} {E : QV} {s : Shared}
theorem zmr (hp : zgd v k) (h : Q (k.map fun (x : Nat) => (x : Int)) s) : wpAny (model prog w) A (Builtin.Slice.slicePartIndex v) Q E s := by
 cases k with
 | none => subst hp; exact slicePart_none h
 | some a => obtain ⟨t, rfl⟩ := hp; exact slicePart_int h
theorem znH {lo hi : Option Nat} {Q : Int × Int × Nat → Shared → Prop} (hs : s.heap.IsSliceOf sl vl vu .none) (pl : zgd vl lo) (pu : zgd vu hi)
  (h : Q (((min (zci lo) n : Nat) : Int), 1, min (zdt n hi) n - min (zci lo) n) s) : wpAny (model prog w) A (Builtin.Slice.sliceApplied (.ref sl) (pure (n : Int))) Q E s := by
 kcf_m
 obtain ⟨os, hos, hcs, hds⟩ := id hs
 kcj_m
 skip
 refine wpAny_bind (wpAny_bind (wpAny_field hos hds (x := vl) rfl (wpAny_bind (wpAny_field hos hds (x := vu) rfl (wpAny_bind (wpAny_field hos hds (x := .none) rfl (wpAny_pure ?_)))))))
 refine wpAny_bind (slicePart_none ?_)
 exists (if_neg (by decide))
 refine wpAny_bind (zmr pl (wpAny_bind (zmr pu (wpAny_bind (wpAny_pure ?_)))))
 show wpAny _ _ (match Builtin.Slice.sliceAdjust (lo.map fun (x : Nat) => (x : Int)) (hi.map fun (x : Nat) => (x : Int)) 1 (n : Int) with | (lo, hi) => pure (lo, (1 : Int), Builtin.Slice.slicePlaces lo hi 1)) _ _ s
 rw [zph]
 show wpAny _ _ (pure (((min (zci lo) n : Nat) : Int), (1 : Int), Builtin.Slice.slicePlaces ((min (zci lo) n : Nat) : Int) ((min (zdt n hi) n : Nat) : Int) 1)) _ _ s
 rw [zpZ]
 exact wpAny_pure h
theorem zr9 (xs : Array Value) (a n : Nat) : ((List.range n).filterMap fun (k : Nat) => xs[((a : Int) + (k : Int) * 1).toNat]?).toArray = ((xs.toList.drop a).take n).toArray := by
 have e : (fun (k : Nat) => xs[((a : Int) + (k : Int) * 1).toNat]?) = fun k => xs[a + k]? := by
  funext k
  have : ((a : Int) + (k : Int) * 1).toNat = a + k := by kd_mem
  rw [this]
 exists e
 have key : ∀ n a, (List.range n).filterMap (fun k => xs[a + k]?) = (xs.toList.drop a).take n := by
  intro n
  induction n with
  | zero => intro a; simp
  | succ n ih =>
   intro a
   (exists List.range_succ_eq_map; exists List.filterMap_cons; exists List.filterMap_map)
   (exists ((by funext k; simp only [Function.comp, Nat.succ_eq_add_one]; congr 1; kd_mem : ((fun k => xs[a + k]?) ∘ Nat.succ) = fun k => xs[(a + 1) + k]?)); exists ih (a + 1))
   by_cases h : a < xs.size
   ·have h1 : xs[a + 0]? = some xs[a] := by simp [h]
    exists h1
    have h2 : xs.toList.drop a = xs[a] :: xs.toList.drop (a + 1) := by
     exists (List.drop_eq_getElem_cons (by simpa using h)); trivial
    rw [h2, List.take_succ_cons]
   ·have h1 : xs[a + 0]? = none := by simp; kd_mem
    exists h1
    have h2 : xs.toList.drop a = [] := List.drop_eq_nil_iff.mpr (by simp; kd_mem)
    have h3 : xs.toList.drop (a + 1) = [] := List.drop_eq_nil_iff.mpr (by simp; kd_mem)
    (exists h2; exists h3); simp
 rw [key]
theorem zfr {lo hi : Option Nat} (ht : IsT s.heap t items n) (hs : s.heap.IsSliceOf sl vl vu .none) (pl : zgd vl lo) (pu : zgd vu hi)
  (same : min (zci lo) items.size = 0 → min (zdt items.size hi) items.size = items.size → Q (.ref t) s)
  (new : Q (.ref s.heap.objs.size) { s with heap := s.heap.push { cls := .type "tuple", data := .seq ((items.toList.drop (min (zci lo) items.size)).take (min (zdt items.size hi) items.size - min (zci lo) items.size)).toArray } })
  (hsz : items.size ≤ sizeLine) : wpAny (model prog w) A (getItem (.ref t) (.ref sl)) Q E s := by
 have htt : IsTup s.heap t items := ⟨_, ht, rfl, _, rfl⟩
 have hdrop : sizeOk (.seq ((items.toList.drop (min (zci lo) items.size)).take (min (zdt items.size hi) items.size - min (zci lo) items.size)).toArray) := by
  show ((items.toList.drop (min (zci lo) items.size)).take (min (zdt items.size hi) items.size - min (zci lo) items.size)).toArray.size ≤ sizeLine
  rw [List.size_toArray, List.length_take, List.length_drop, Array.length_toList]
  omega
 obtain ⟨os, hos, hcs, hds⟩ := id hs
 have hTs : s.TypeIs (.ref sl) "slice" := ⟨os, hos, hcs⟩
 unfold getItem
 try with_reducible refine wpAny_holding ?_
 first | refine wpAny_bind (wpAny_pure ?_) | skip
 refine wpAny_bind (wpAny_sequenceKey htt.typeIs (by rfl) ?_)
 refine wpAny_bind (wpAny_callSpecial?_slot (name := Str.ofString "__getitem__") htt.typeIs slot_tuple_getitem
  (wpAny_call_entry slot_tuple_getitem htt.typeIs entry_tuple_getitem ?_ (args_tuple_getitem _ _)))
 show wpAny _ _ (Builtin.Tuple.tupleItemsOf (.ref t) >>= _) _ _ s
 refine wpAny_bind (tupleItemsOf_ htt ?_)
 refine wpAny_bind (wpAny_typeOf hTs ?_)
 exists (if_pos (by decide))
 refine wpAny_bind (znH hs pl pu ?_)
 show wpAny _ _ (if (((min (zci lo) items.size : Nat) : Int) == 0 && (1 : Int) == 1 && (min (zdt items.size hi) items.size - min (zci lo) items.size == items.size)) = true then _ else _) _ _ s
 split
 ·rename_i hc
  simp only [Bool.and_eq_true, beq_iff_eq] at hc
  have h1 : min (zdt items.size hi) items.size = items.size := by kd_mem
  show wpAny _ _ (Builtin.Tuple.tupleIsExact (.ref t) >>= _) _ _ s
  unfold Builtin.Tuple.tupleIsExact
  refine wpAny_bind (wpAny_bind (wpAny_typeOf htt.typeIs (wpAny_pure ?_)))
  exists (if_pos (by decide))
  exact wpAny_bind (wpAny_rule (wpAny_pure ⟨_, rfl, wpAny_pure (same (by kd_mem : min (zci lo) items.size = 0) h1)⟩))
 ·rw [zr9]
  first
   | exact wpAny_bind (m := Builtin.Tuple.tupleExact _) (wpAny_newObj_type (wpAny_pure ⟨_, rfl, wpAny_pure new⟩) hdrop)
   | exact wpAny_bind (m := Builtin.Tuple.tupleExact _) (wpAny_newObj_type (wpAny_bind (wpAny_pure (wpAny_pure ⟨_, rfl, wpAny_pure new⟩))) hdrop)
   | exact wpAny_bind (wpAny_bind (m := Builtin.Tuple.tupleExact _) (wpAny_newObj_type (wpAny_pure (wpAny_pure ⟨_, rfl, wpAny_pure new⟩)) hdrop))
   | exact wpAny_bind (wpAny_bind (m := Builtin.Tuple.tupleExact _) (wpAny_newObj_type (wpAny_pure ⟨_, rfl, wpAny_pure new⟩) hdrop))
end
section
variable {d : Nat} {env : Env} {vars : zaf} {mu : Mu}
def zjw (a : AV) (Q : Option Nat → Prop) : Prop := ∃ n : Nat, a = .int n ∧ Q (some n)
theorem znk {Q : Option Nat → Prop} (h : Q (some n)) : zjw (.int n) Q := ⟨n, rfl, h⟩
theorem znl (h : Q (some 1)) : zjw (.int 1) Q := ⟨1, rfl, h⟩
def zgZ (o : AV) (Q : List AV → Prop) : Prop := ∃ xs, zaF (o = .tup xs) (xs.length ≤ sizeLine) (Q xs)
theorem zrj (hz : xs.length ≤ sizeLine) (h : Q xs) : zgZ (.tup xs) Q := ⟨xs, rfl, hz, h⟩
def PW (w : World) (H : Heap) (d : Nat) (env : Env) (x : Option Expr) (vars : zaf) (mu : Mu) (Q : Option Nat → Mu → Prop) : Prop := match x with
 | none => Q none mu
 | some e => EW w H d env (eval e env) vars mu fun a m => zjw a fun n => Q n m
theorem zp8 (h : Q none mu) : PW w H d env none vars mu Q := h
theorem PW.run (h : PW w H d env x vars mu Q) (hA : zbz A d) (g : GS w H Y β mu s) (vo : zai w env vars Y β s.heap) (k : ∀ v s' β' n mu', GS w H Y β' mu' s' → zap β s β' s' → zai w env vars Y β' s'.heap → zgd v n → Q n mu' → P v s') : wpAny (model pw w) A (evalPart x env) P NoE s := by
 cases x with
 | none => exact wpAny_pure (k _ s β none mu g (.refl _ _) vo rfl h)
 | some e => exact EW.run h hA g vo fun v s1 β1 a mu1 g1 t1 vo1 r ⟨n, ea, q⟩ => by subst ea; exact k v s1 β1 (some n) mu1 g1 t1 vo1 r q
theorem ziB {h : Heap} {Y : zau} {β : zaq} : ∀ {xs : List AV} {vs : List Value} (n : Nat), zan w h Y β xs vs → zan w h Y β (xs.take n) (vs.take n)
 | _, _, 0, _ => by rfl
 | [], _, _ + 1, e => by subst e; rfl
 | _ :: _, _, n + 1, ⟨v, t, e, p, l⟩ => by subst e; exact ⟨v, _, rfl, p, ziB n l⟩
theorem ziA {h : Heap} {Y : zau} {β : zaq} : ∀ {xs : List AV} {vs : List Value} (n : Nat), zan w h Y β xs vs → zan w h Y β (xs.drop n) (vs.drop n)
 | _, _, 0, r => r
 | [], _, _ + 1, e => by subst e; rfl
 | _ :: _, _, n + 1, ⟨v, t, e, p, l⟩ => by subst e; exact ziA n l
theorem zlG (xs : List α) (lo hi n : Nat) (hn : xs.length = n) : (xs.drop (min lo n)).take (min hi n - min lo n) = (xs.take hi).drop lo := by
 refine rwR List.drop_take ?_
 subst hn
 apply List.ext_getElem?
 intro i
 simp only [List.getElem?_drop, List.getElem?_take]
 by_cases h1 : lo ≤ xs.length
 ·exists Nat.min_eq_left h1
  by_cases h2 : hi ≤ xs.length
  ·rw [Nat.min_eq_left h2]
  ·rw [Nat.min_eq_right (by kd_mem)]
   by_cases h3 : lo + i < xs.length
   ·rw [if_pos h3, if_pos (by kd_mem)]
   ·rw [if_neg h3]
    have : xs[lo + i]? = none := by simp; exact Nat.le_of_not_lt ‹_›
    exists this; simp
 ·exists (Nat.min_eq_right (by kd_mem : xs.length ≤ lo))
  have e2 : xs[lo + i]? = none := by simp; kd_mem
  (exists ((by simp : xs[xs.length + i]? = none)); exists e2); simp
theorem znZ {value : Expr} {lo hi : Option Expr} {p pos : Pos} {Q : QA}
  (h : EW w H d env (eval value env) vars mu fun o mu1 => PW w H d env lo vars mu1 fun a mu2 => PW w H d env hi vars mu2 fun b mu3 => zgZ o fun xs => Q (.tup (zdx xs a b)) mu3) :
  EW w H d env (eval (.Subscript value (.Slice lo hi none p) pos) env) vars mu Q := fun A Y β s hA g vo =>
 Subscript_ (h.run hA g vo fun v1 s1 β1 o mu1 g1 t1 vo1 r1 q1 => wpAny_Slice (q1.run hA g1 vo1 fun vl s2 β2 a mu2 g2 t2 vo2 pl q2 => q2.run hA g2 vo2 fun vu s3 β3 b mu3 g3 t3 vo3 pu hq9' => by
  obtain ⟨xs, eo, hz, q⟩ := hq9'
  skip
  refine wpAny_pure ?_
  subst eo
  obtain ⟨l, vs, n, rfl, ht, av, rl⟩ := (t2.trans t3).rep r1
  have hs : vs.size = xs.length := by refine rwR (zah rl) ?_; simp
  generalize hsl : ({ cls := .type "slice", data := .fields #[vl, vu, .none] } : Obj) = osl
  have g4 := g3.push osl
  have t4 : zap β3 s3 β3 { s3 with heap := s3.heap.push osl } := .push osl
  have ht4 : IsT (s3.heap.push osl) l vs n := ht.push _
  have r4 := t4.repL rl
  have hse : zdx xs a b = (xs.drop (min (zci a) vs.size)).take (min (zdt vs.size b) vs.size - min (zci a) vs.size) := by
   rw [hs]; unfold zdx; exact (zlG xs (zci a) (zdt xs.length b) xs.length rfl).symm
  refine zmA (T := "tuple") ⟨_, ht4, rfl⟩ F.slot_tuple_getitem.lookup ?_
  refine zfr (s := { s3 with heap := s3.heap.push osl }) ht4 (by refine rwR hsl ?_; exact Heap.IsSliceOf.new _ _ _ _) pl pu (fun h0 h1 => ?_) ?_ (by kd_mem)
  ·refine ⟨β3, .tup xs, mu3, g4, ((t1.trans t2).trans t3).trans t4, ⟨l, vs, n, rfl, ht4, (t4.stays Y).avoid _ _ ht av, r4⟩, ?_⟩
   have : zdx xs a b = xs := by
    rw [hse, h0, h1, List.drop_zero]
    exact List.take_of_length_le ((Nat.le_of_eq (Eq.symm ‹_›)))
   refine rwR this ?_; exact q
  ·refine ⟨β3, .tup (zdx xs a b), mu3, (g4.push { cls := .type "tuple", data := .seq ((vs.toList.drop (min (zci a) vs.size)).take (min (zdt vs.size b) vs.size - min (zci a) vs.size)).toArray }), (((t1.trans t2).trans t3).trans t4).trans (.push _), ⟨_, _, 0, rfl, IsT.new _ _, g4.newAvoid, ?_⟩, q⟩
   exists hse
   have := (zap.push (β := β3) (s := { s3 with heap := s3.heap.push osl }) { cls := .type "tuple", data := .seq ((vs.toList.drop (min (zci a) vs.size)).take (min (zdt vs.size b) vs.size - min (zci a) vs.size)).toArray }).repL (ziB (min (zdt vs.size b) vs.size - min (zci a) vs.size) (ziA (min (zci a) vs.size) r4))
   simpa using this))
end
end
section

structure zdq (H : Heap) (C : Addr) (K : Frag) : Prop where
 X : K.In H
 ga : findIn K (.ref C) "__getattribute__" = some (some (.builtin "object.__getattribute__"))
 gt : findIn K (.ref C) "__getattr__" = some none
 sa : findIn K (.ref C) "__setattr__" = some (some (.builtin "object.__setattr__"))
 dict : hasDictIn K C = true
 plain : plainOver K C = true
 makes : makesIn K C = true
structure zbv (K : Frag) (C : Addr) (name : Str) : Prop where
 no : findIn K (.ref C) name = some none
structure zc7 (K : Frag) (C : Addr) (name : Str) (f : Addr) : Prop where
 at_ : findIn K (.ref C) name = some (some (.ref f))
 fn : typeIn K (.ref f) = some (.type "function")
 get : specialIn K (.ref f) "__get__" = some (some (.builtin "function.__get__"))
 tk : takesIn K (.ref f) = some false
 cp : copiedNames.contains name = false
noncomputable def zoa (c : Addr) : Option zb4 → Option (Addr × List Str × List AV)
 | some (.ns ks vs) => some (c, ks, vs)
 | _ => none
noncomputable def zob (mu : Mu) : Option zb4 → Option (Addr × List Str × List AV)
 | some (.inst c kd) => zoa c (mu.lookup kd)
 | _ => none
noncomputable def zcs (mu : Mu) : AV → Option (Addr × List Str × List AV)
 | .obj c ks vs => some (c, ks, vs)
 | .loc k => zob mu (mu.lookup k)
 | _ => none
theorem zm4 {ks vs} (h : zoa c o = some (c', ks, vs)) : c = c' ∧ o = some (.ns ks vs) := by
 cases o with
 | none => contradiction
 | some m => cases m with
  | ns ys zs => cases h; exact ⟨rfl, rfl⟩
  | _ => contradiction
theorem zm5 {ks vs} (h : zob mu o = some (c, ks, vs)) : ∃ kd, o = some (.inst c kd) ∧ mu.lookup kd = some (.ns ks vs) := by
 cases o with
 | none => contradiction
 | some m => cases m with
  | inst c' kd => obtain ⟨e, q⟩ := zm4 h; subst e; exact ⟨kd, rfl, q⟩
  | _ => contradiction
noncomputable def AV.handed : AV → Bool
 | .raw u => handedIn u
 | _ => true
theorem zgF.get {x : Str} : ∀ {ks : List Str} {vs : List Value} {es : List DictEntry}, zgF ks vs es → getL x es = some ((ks.zip vs).lookup x)
 | _, _, _, .nil => rfl
 | _, _, _, .cons (x := y) (t := t) (v := v) (hs := hs) (ks := ks) (vs := vs) (es := es) r => by
  have ih := zgF.get (x := x) r
  unfold getL at ih ⊢
  (exists List.zip_cons_cons; exists List.lookup_cons; exists List.find?_cons)
  have e : (DictEntry.mk hs (.str y t) v).key.isStr x = (x == y) := by
   show (y == x) = (x == y)
   by_cases h : x = y
   ·subst h; rfl
   ·rw [beq_false_of_ne h, beq_false_of_ne (Ne.symm h)]
  exists e
  cases hb : x == y with
  | true => rfl
  | false =>
   dsimp only
   refine rwR ih ?_
   have e2 : (DictEntry.mk hs (.str y t) v).refKey = false := rfl
   rw [List.any_cons, e2, Bool.false_or]
section
variable {d : Nat} {env : Env} {vars : zaf} {mu : Mu}
theorem zgN {Y : zau} {β : zaq} {s : Shared} (g : GS w H Y β mu s) {a : AV} {c : Addr} {ks : List Str} {vs : List AV} {v : Value} (h : zcs mu a = some (c, ks, vs)) (r : Rep w s.heap Y β a v) :
  Ex3 fun x dx us => zbI (v = .ref x) (s.heap.get? x = some (instObj c dx)) (ziO s.heap dx ks us) (zan w s.heap Y β vs us) := by
 cases a with
 | obj c' ks' vs' =>
  cases h
  obtain ⟨x, dx, us, e, h1, h2, V, V, h3⟩ := r
  exact ⟨x, dx, us, e, h1, h2, h3⟩
 | loc k =>
  obtain ⟨kd, hm, hm2⟩ := zm5 h
  obtain ⟨x, eb, e⟩ := r
  obtain ⟨dx, ed, h1⟩ := g.store.rep _ _ _ hm eb
  obtain ⟨us, h2, h3⟩ := g.store.rep _ _ _ hm2 ed
  exact ⟨x, dx, us, e, h1, h2, h3⟩
 | _ => contradiction
theorem zgO {s : Shared} (h1 : s.heap.get? x = some (instObj c dx)) (h2 : ziO s.heap dx ks us) : Ex2 fun es n => InstAt s.heap x (instObj c dx) c (some (dictOf es n)) ∧ zgF ks us es := by obtain ⟨es, n, h, V, e⟩ := h2; exact ⟨es, n, ⟨h1, rfl, rfl, h⟩, e⟩
theorem zhD (r : Rep w h Y β x v) (hx : x.handed = true) : handedIn v = true := by
 cases x with
 | none => subst r; rfl
 | bool => subst r; rfl
 | int => obtain ⟨V, r⟩ := r; subst r; rfl
 | str => obtain ⟨V, r⟩ := r; subst r; rfl
 | raw => subst r; exact hx
 | tup => obtain ⟨V, V, V, r, V⟩ := r; subst r; rfl
 | lst => obtain ⟨V, V, V, r, V⟩ := r; subst r; rfl
 | fset => obtain ⟨V, V, r, V⟩ := r; subst r; rfl
 | mset => obtain ⟨V, V, r, V⟩ := r; subst r; rfl
 | dcti => obtain ⟨V, V, r, V⟩ := r; subst r; rfl
 | dctp => obtain ⟨V, V, r, V⟩ := r; subst r; rfl
 | obj => obtain ⟨V, V, V, r, V⟩ := r; subst r; rfl
 | meth => obtain ⟨V, V, r, V⟩ := r; subst r; rfl
 | loc => obtain ⟨V, V, r⟩ := r; subst r; rfl
 | rng => obtain ⟨V, V, V, V, r, V⟩ := r; subst r; rfl
 | «at» => cases r.1; rfl
theorem zek {h : Heap} {Y : zau} {β : zaq} {x : Str} {av : AV} : ∀ {ks : List Str} {vs : List AV} {us : List Value}, zan w h Y β vs us → (ks.zip vs).lookup x = some av → ∃ u, (ks.zip us).lookup x = some u ∧ Rep w h Y β av u
 | [], _, _, _, e => by contradiction
 | _ :: _, [], _, _, e => by contradiction
 | k :: ks, a :: as, _, ⟨v, t, e1, p, l⟩, e => by
  subst e1
  rw [List.zip_cons_cons, List.lookup_cons] at e ⊢
  cases hb : x == k with
  | true => rw [hb] at e; obtain rfl := Option.some.inj e; exact ⟨v, rfl, p⟩
  | false => rw [hb] at e; exact zek l e
theorem zpm
  (h : EW w H d env (eval value env) vars mu fun a mu1 => Ex5 fun c ks vs x K => znA (zcs mu1 a = some (c, ks, vs)) (zdq H c K) (zbv K c attr) ((ks.zip vs).lookup attr = some x) (x.handed = true) (Q x mu1))
  (he : autoParam (eval (.Attribute value attr pos) env = (do
   let o ← eval value env
   standAt pos.atName
   let r ← holding [o] (getAttr o attr true)
   letTemporaryGo value o r
   pure r)) aW) : EW w H d env (eval (.Attribute value attr pos) env) vars mu Q := fun A Y β s hA g vo => by
 refine Attribute_any_ (h.run hA g vo fun va s1 β1 a mu1 g1 t1 vo1 ra hq9' => ?_) he
 kcf_m
 obtain ⟨c, ks, vs, x, K, hi, hc, ha, hx, hh, q⟩ := hq9'
 kcj_m
 obtain ⟨p, dx, us, rfl, h1, h2, h3⟩ := zgN g1 hi ra
 obtain ⟨es, n, I, en⟩ := zgO h1 h2
 obtain ⟨u, hu, ru⟩ := zek h3 hx
 refine get_value (hc.X.keeps g1.base) I hc.ga (findObj_own (attr := none) hc.dict ha.no rfl ?_) (zhD ru hh) ⟨β1, x, mu1, g1.toks _, t1.trans .toks, ru, q⟩
 rw [lookIn_dict, en.get, hu]
theorem ze4 {α β : Type} {x : Str} : ∀ (ks : List Str) (us : List α) (vs : List β), us.length = vs.length → ((ks.zip us).lookup x).isSome = ((ks.zip vs).lookup x).isSome
 | [], _, _, _ => rfl
 | _ :: _, [], [], _ => rfl
 | _ :: _, [], _ :: _, h => by contradiction
 | _ :: _, _ :: _, [], h => by contradiction
 | k :: ks, u :: us, v :: vs, h => by
  rw [List.zip_cons_cons, List.zip_cons_cons, List.lookup_cons, List.lookup_cons]
  cases x == k with
  | true => rfl
  | false => exact ze4 ks us vs (by simpa using h)
theorem zmU {o : Expr} {name : Str} {apos pos : Pos} {args : List Expr} {Q : QA}
  (h : EW w H d env (eval o env) vars mu fun a mu1 => Ex8 fun c ks vs K f D q d' => zhW (zcs mu1 a = some (c, ks, vs)) (zdq H c K) (zc7 K c name f) ((ks.zip vs).lookup name = none) (zaE H f D q) (d' ≤ d) (
   LW w H d env (spliced (backTo pos (starEach args env))) vars mu1 fun as mu2 => zar w H d' (.ref f) (a :: as) mu2 Q))
  (hp : autoParam ((backTo pos (starEach args env)).any (fun V => V.1) = false) aW)
  (he : autoParam (∀ pl : Sem Bool, eval (.Call (.Attribute o name apos) args [] pos) env = (do
   let ov ← eval o env
   standAt apos.atName
   let (f, first) ← holding [ov] (getMethod ov name (do return (← importBound o env).getD true))
   callWith pos f first (backTo pos (starEach args env)) (backToKw pos (keywordEach [] env)))) aW) :
  EW w H d env (eval (.Call (.Attribute o name apos) args [] pos) env) vars mu Q := fun A Y β s hA g vo => by
 refine methodCall_KW (h.run hA g vo fun va s1 β1 a mu1 g1 t1 vo1 ra hq9' => ?_) (he (pure true))
 obtain ⟨c, ks, vs, K, f, D, q', d', hi, hc, hm, hx, hf, hd, q⟩ := hq9'
 obtain ⟨p, dx, us, rfl, h1, h2, h3⟩ := zgN g1 hi ra
 obtain ⟨es, n, I, en⟩ := zgO h1 h2
 have hnone : (ks.zip us).lookup name = none := by
  have := ze4 (x := name) ks us vs (zah h3)
  rw [hx] at this
  cases e : (ks.zip us).lookup name with
  | none => rfl
  | some u => rw [e] at this; exact Bool.noConfusion this
 refine method_fn (hc.X.keeps g1.base) I hc.ga hc.gt hm.at_ hm.fn (by show (lookIn name (dictOf es n)).map _ = _; rw [lookIn_dict, en.get, hnone]; rfl) ?_
 refine zcY hp (q.run hA g1 vo1 fun vs2 s2 β2 as mu2 g2 t2 vo2 ra2 q2 => ?_)
 obtain ⟨of, pm, cd, doc, ho, hd2, hcd⟩ := hf.ex
 refine ⟨⟨.frame, .inl rfl, ?_⟩, wpAny_call (codeAny_mono (q2 A Y β2 s2 _ (hA.mono hd) g2 ⟨.ref p, vs2, rfl, t2.rep ra, ra2⟩) fun r s' ⟨β', av, v, mu', e, g', t', r', q⟩ => by subst e; exact ⟨β', av, mu', g', (t1.trans t2).trans t', r', q⟩)⟩
 delta keeperOf
 refine (Looks.ld (part := none) (g2.base _ _ ho)).andThen ?_
 exists hd2
 exact .now
end
end
section
section
variable {d : Nat} {env : Env} {vars : zaf} {mu : Mu}
theorem zjB {α β : Type} {o : Option α} {f : α → Option β} {a : α} {b : β} (h : o = some a) (k : f a = some b) : o.bind f = some b := h ▸ k
theorem zpM {ks : List Str} {vs : List AV} {us : List Value} (hl : us.length = vs.length) (hx : (ks.zip vs).lookup name = none) : (ks.zip us).lookup name = none := by
 have := ze4 (x := name) ks us vs hl
 rw [hx] at this
 cases e : (ks.zip us).lookup name with
 | none => rfl
 | some u => rw [e] at this; exact Bool.noConfusion this
theorem zfi
  (h : EW w H d env (eval value env) vars mu fun a mu1 => Ex5 fun c ks vs K f => ze5 (zcs mu1 a = some (c, ks, vs)) (zdq H c K) (zc7 K c attr f) ((ks.zip vs).lookup attr = none) (Q (.meth (.ref f) a) mu1))
  (he : autoParam (eval (.Attribute value attr pos) env = (do
   let o ← eval value env
   standAt pos.atName
   let r ← holding [o] (getAttr o attr true)
   letTemporaryGo value o r
   pure r)) aW) : EW w H d env (eval (.Attribute value attr pos) env) vars mu Q := fun A Y β s hA g vo => by
 refine Attribute_any_ (h.run hA g vo fun va s1 β1 a mu1 g1 t1 vo1 ra ⟨c, ks, vs, K, f, hi, hc, hm, hx, q⟩ => ?_) he
 have ra0 := ra
 obtain ⟨p, dx, us, rfl, h1, h2, h3⟩ := zgN g1 hi ra
 obtain ⟨es, n, I, en⟩ := zgO h1 h2
 have hnone := zpM (zah h3) hx
 have hf : findObj K c (some (dictOf es n)) attr = some (.bind (.builtin "function.__get__") (.ref f)) := by
  kcf_m
  obtain ⟨cd, hcd, hd⟩ := any_some hc.dict
  kcj_m
  exact zjB hcd (zjB hm.at_ (zjB hm.get (zjB hm.tk (zjB (a := none) ((if_pos hd).trans (en.get.trans (congrArg some hnone))) (if_neg fun qz => Bool.false_ne_true (hm.cp.symm.trans (Bool.and_eq_true_iff.mp qz).1))))))
 refine get_bind (hc.X.keeps g1.base) I hc.ga hf hc.gt (wpAny_call (fn_get (s := { s1 with toks := s1.toks + 1 }) (hc.X.keeps g1.base) hm.fn (handed_on rfl ?_)))
 have g2 := (g1.toks (s1.toks + 1)).push (methodObj (.ref f) (.ref p))
 exact ⟨β1, .meth (.ref f) a, mu1, g2, (t1.trans .toks).trans (.push _), ⟨_, _, rfl, Heap.get?_push_size _ rfl, (g1.toks (s1.toks + 1)).newAvoid, (zap.trans (zap.toks (s := s1) (n := s1.toks + 1)) (.push (methodObj (.ref f) (.ref p)))).rep ra0⟩, q⟩
theorem zgp {D q} (F : zaE H f D q) (h : zar w H d' (.ref f) (self :: as) mu Q) (le : d' ≤ d) : zaP w H d (.meth (.ref f) self) as mu Q := fun A Y β s vf vs hA g rf ra => by
 obtain ⟨p, u, rfl, hp, V, ru⟩ := rf
 obtain ⟨o, pm, cd, doc, ho, hd, hc⟩ := F.ex
 refine ⟨⟨.boundFrame, .inr (.inr rfl), ?_⟩, wpAny_call (method_call hp (codeAny_mono (h A Y β s (u :: vs) (hA.mono le) g ⟨u, vs, rfl, ru, ra⟩) fun r s' ⟨β', av, v, mu', e, g', t', r', q⟩ => by subst e; exact ⟨β', av, mu', g', t', r', q⟩))⟩
 refine (Looks.ld (part := none) hp).andThen ((Looks.ld (part := none) (g.base _ _ ho)).andThen ?_)
 exists hd; exact .now
end
end
section

inductive zds : List Str → List AV → Str → AV → List Str → List AV → Prop
 | nil {x a} : zds [] [] x a [x] [a]
 | here {x a v ks vs} : zds (x :: ks) (v :: vs) x a (x :: ks) (a :: vs)
 | there {k x a v ks vs ks' vs'} : (k == x) = false → zds ks vs x a ks' vs' → zds (k :: ks) (v :: vs) x a (k :: ks') (v :: vs')
section
variable {d : Nat} {env : Env} {vars : zaf} {mu : Mu}
theorem zds.ents {h : Heap} {Y : zau} {β : zaq} {x : Str} {a : AV} {v : Value} {hs : Int} {t : Tok} (rv : Rep w h Y β a v) {ks : List Str} {vs : List AV} {ks' : List Str} {vs' : List AV} (p : zds ks vs x a ks' vs') :
  ∀ {us : List Value} {es : List DictEntry}, zgF ks us es → zan w h Y β vs us → ∃ us', zaF (zgF ks' us' (putL x hs (.str x t) v es)) (zan w h Y β vs' us') ((putL x hs (.str x t) v es).length ≤ es.length + 1) := by
 induction p with
 | nil => intro us es e r; cases e; exact ⟨[v], .cons .nil, ⟨v, [], rfl, rv, rfl⟩, Nat.le_refl _⟩
 | @here x a v' ks vs =>
  intro us es e r
  cases e with
  | @cons _ t' v' hs' _ _ es r' =>
   obtain ⟨V, V, e, V, l⟩ := r
   cases e
   have q : putL x hs (.str x t) v (⟨hs', .str x t', v'⟩ :: es) = ⟨hs', .str x t', v⟩ :: es := if_pos (show ((Value.str x t').isStr x) = true by simp [Value.isStr])
   exact ⟨v :: _, q ▸ .cons r', ⟨v, _, rfl, rv, l⟩, q ▸ Nat.le_succ _⟩
 | @there k x a v0 ks vs ks' vs' hk _ ih =>
  intro us es e r
  cases e with
  | @cons _ t' v' hs' _ _ es r' =>
   obtain ⟨V, V, e, p, l⟩ := r
   cases e
   obtain ⟨us', e1, e2, e3⟩ := ih rv r' l
   have q : putL x hs (.str x t) v (⟨hs', .str k t', v'⟩ :: es) = ⟨hs', .str k t', v'⟩ :: putL x hs (.str x t) v es := if_neg (show ¬ ((Value.str k t').isStr x = true) by simpa [Value.isStr] using hk)
   exact ⟨v' :: us', q ▸ .cons e1, ⟨v', us', rfl, p, e2⟩, q ▸ Nat.succ_le_succ e3⟩
theorem zgF.length (e : zgF ks us es) : es.length = ks.length := by
 induction e with
 | nil => rfl
 | cons _ ih => exact congrArg Nat.succ ih
theorem zoT {A : Around} {s : Shared} {E : QV} {K : Frag} {x c dx : Addr} {name : Str} {v : Value} {es : List DictEntry} {n : Nat} {Q : Unit → Shared → Prop} (X : K.In s.heap) (hc : zdq H c K) (ha : zbv K c name) (h1 : s.heap.get? x = some (instObj c dx)) (h2 : s.heap.get? dx = some (dictOf es n))
  (hl : (getL name es).isSome = true) (hz : ∀ t, (putL name (PyData.keyHash w.params name) (.str name t) v es).length ≤ 1000)
  (h : ∀ h' t n', h'.get? dx = some (dictOf (putL name (PyData.keyHash w.params name) (.str name t) v es) n') → (∀ b o, b ≠ dx → s.heap.get? b = some o → h'.get? b = some o) → Q () { s with heap := h', toks := s.toks + 2 }) :
  wpAny (model pw w) A (setAttr (.ref x) name v) Q E s := by
 obtain ⟨hp, gs, dr, tk, os⟩ := s
 dsimp only at X h1 h2 h
 have I : InstAt hp x (instObj c dx) c (some (dictOf es n)) := ⟨h1, rfl, rfl, h2⟩
 have ht : takerIn K c name = some none := by unfold takerIn; exists ha.no; rfl
 refine set_plain X I hc.sa ?_
 refine osa_open X I hc.plain ht fun b => ?_
 obtain ⟨cd, hcd, hd'⟩ := any_some hc.dict
 refine wpAny_bind (wpAny_pure (wpAny_bind (wpAny_bind (wpAny_loadPart h1 (wpAny_bind ((looks_clsIn X hcd).here ?_))))))
 exists hd'
 refine wpAny_pure (a := some dx) (wpAny_bind (wpAny_pure (wpAny_bind ?_)))
 unfold nsSet
 refine wpAny_bind (wpAny_bind (wpAny_askSetting (wpAny_pure (wpAny_bind (wpAny_mkText (wpAny_bind (wpAny_loadPart h2 ?_)))))))
 dsimp only
 have cc : (!es.toArray.any (·.key.isStr name) && es.toArray.any (·.refKey)) = false := by
  (refine rwR Array.any_toList ?_; refine rwR Array.any_toList ?_)
  unfold getL at hl
  split at hl
  ·rename_i en he
   have : (es.any fun x => x.key.isStr name) = true := List.any_eq_true.mpr ⟨en, List.mem_of_find?_eq_some he, List.find?_some (p := fun x : DictEntry => x.key.isStr name) he⟩
   simp only [List.toList_toArray]
   exists this; rfl
  ·split at hl
   ·as_aux_lemma =>
    contradiction
   ·rename_i z
    simp only [List.toList_toArray]
    rw [Bool.not_eq_true] at z; rw [z, Bool.and_false]
 rw [aRefKeyMayBeTheName_at, cc]
 refine wpAny_updatePart h2 ?_
 have hup : (hp.update dx (Obj.putName name (PyData.keyHash w.params name) (.str name (tk + 1)) v)).get? dx = some (dictOf (putL name (PyData.keyHash w.params name) (.str name (tk + 1)) v es) (putN name es n)) := by
  rw [Heap.get?_update_self _ h2 (by rw [putName_dict]; rfl), putName_dict]
 refine wpAny_bind (wpAny_lookBehind hup (by exact pastItsLine_dict (by (exists List.size_toArray; exists sizeLine_eq); have := hz (tk + 1); kd_mem)) ?_)
 exact wpAny_pure (h _ _ _ hup fun b o hb e => (Heap.get?_update_other _ _ (Ne.symm hb)).trans e)
theorem zgC (h : Q () s) : wpAny (model pw w) A (release vs ks) Q E s := by
 exact wpAny_release h
theorem zbh {o : Expr} {attr : Str} {pos : Pos} {av : AV} {Q : QU}
  (h : EW w H d env (eval o env) vars mu fun a mu1 => Ex8 fun k c kd ks vs K ks' vs' => zqH (a = .loc k) (mu1.lookup k = some (.inst c kd)) (mu1.lookup kd = some (.ns ks vs)) (zdq H c K) (zbv K c attr) (ks.length ≤ 800) (zds ks vs attr av ks' vs') (zcM mu1 kd (.ns ks' vs') (Q vars))) :
  UW w H d env (fun v => assign (.Attribute o attr pos) env v) av vars mu Q := fun A Y β s v hA g vo r => by
 skip
 refine wpAny_bind (wpAny_holding (h.run hA g vo fun va s1 β1 a mu1 g1 t1 vo1 ra hq9' => ?_))
 kcf_m
 obtain ⟨k, c, kd, ks, vs, K, ks', vs', ea, hm, hm2, hc, ha, hz, hn, mu2, hp, q⟩ := hq9'
 kcj_m
 subst ea
 obtain ⟨x, eb, rfl⟩ := ra
 obtain ⟨dx, ed, h1⟩ := g1.store.rep _ _ _ hm eb
 kcf_m
 obtain ⟨us, ⟨es, n, h2, hel, en⟩, h3⟩ := g1.store.rep _ _ _ hm2 ed
 kcj_m
 have rv := t1.rep r
 have hel2 : es.length = ks.length := en.length
 refine wpAny_bind (wpAny_standAt (wpAny_bind (wpAny_holding (zoT (hc.X.keeps g1.base) hc ha h1 h2 (by exists en.get; rfl) (fun t => ?_) fun h' t n' hd hk => ?_))))
 ·obtain ⟨V, V, V, e3⟩ := hn.ents rv (hs := PyData.keyHash w.params attr) (t := t) en h3
  kd_mem
 ·obtain ⟨us', e1, e2, e3⟩ := hn.ents rv (hs := PyData.keyHash w.params attr) (t := t) en h3
  obtain ⟨g2, t2⟩ := g1.mutate (s' := { s1 with heap := h', toks := s1.toks + 2 }) hp ed hk ⟨us', ⟨_, n', hd, by kd_mem, e1⟩, zan.stays (⟨fun b o e av => hk b o (fun q => av.2 kd (q ▸ ed)) e, fun V V V av => av, fun V V e => e⟩ : zaB s1.heap Y β1 h' Y β1) e2⟩ ⟨_, hd⟩ rfl rfl
  exact zgC ⟨β1, vars, mu2, g2, vo1.step g1.store t2, (t1.trans t2).st env, (t1.trans t2).stays Y, q⟩
end
end
section
section
variable {d : Nat} {env : Env} {vars : zaf} {mu : Mu}
theorem zo0 {test body orelse pos} {Q : QF} (Inv : Nat → zaf → Mu → Prop) (n0 : Nat) (init : Inv n0 vars mu)
  (turn : ∀ n v m, Inv n v m → TW w H d env (isTrue test env (eval test env)) v m fun b m1 => IfK b (SW w H d env (execs body env) v m1 (ze6 (fun v' m' => ∃ n', n' < n ∧ Inv n' v' m') Q)) (SW w H d env (execs orelse env) v m1 Q)) :
  SW w H d env (exec (.While test body orelse pos) env) vars mu Q := fun A Y β s hA g vo => by
 refine wpAny_While (codeAny_whileLoop (fun n si => Ex3 fun βi v m => zbI (Inv n v m) (GS w H Y βi m si) (zai w env v Y βi si.heap) (zaD env β s βi si)) (fun n si hq2' => ?_) n0 ⟨β, vars, mu, init, g, vo, .refl _ _ _⟩)
 obtain ⟨βi, v, m, iv, gi, vi, ti⟩ := hq2'
 refine wpAny_mono ((turn n v m iv) A Y βi si hA gi vi) (fun b s1 hq2' => ?_) fun _ _ z => z.elim
 obtain ⟨β1, m1, g1, t1, q1⟩ := hq2'
 have tt := ti.trans (t1.st env)
 cases b with
 | false =>
  skip
  have q1 : SW w H d env (execs orelse env) v m1 Q := q1
  exact wpAny_mono (q1.run hA g1 (vi.step gi.store t1) fun f s3 β3 af v3 m3 g3 vo3 t3 r3 q3 => (⟨β3, af, v3, m3, g3, vo3, tt.trans t3, r3, q3⟩ : zd8 w H env Y β s Q f s3)) (fun _ _ z => z) fun _ _ z => z.elim
 | true =>
  skip
  have q1 : SW w H d env (execs body env) v m1 (ze6 (fun v' m' => ∃ n', n' < n ∧ Inv n' v' m') Q) := q1
  refine wpAny_mono (q1.run hA g1 (vi.step gi.store t1) (P := fun f s3 => match f with
      | .next | .cont => ∃ m, m < n ∧ Ex3 fun βi v m' => zbI (Inv m v m') (GS w H Y βi m' s3) (zai w env v Y βi s3.heap) (zaD env β s βi s3)
      | .brk => (zd8 w H env Y β s Q .next s3)
      | .ret v => (zd8 w H env Y β s Q (.ret v) s3))
      fun f s3 β3 af v3 m3 g3 vo3 t3 r3 q3 => ?_) (fun _ _ z => z) fun _ _ z => z.elim
  have back : ∀ {v2 v4}, v3 = v2 ++ v4 → (∃ n', n' < n ∧ Inv n' v2 m3) → ∃ m, m < n ∧ Ex3 fun βi v m' => zbI (Inv m v m') (GS w H Y βi m' s3) (zai w env v Y βi s3.heap) (zaD env β s βi s3) :=
   fun {v2 v4} e ⟨n', hn, iv⟩ => ⟨n', hn, β3, v2, m3, iv, g3, vo3.prefix e, tt.trans t3⟩
  cases af with
  | next => cases r3; obtain ⟨v2, v4, e, iv⟩ := q3; exact back e iv
  | cont => cases r3; obtain ⟨v2, v4, e, iv⟩ := q3; exact back e iv
  | brk => subst r3; exact ⟨β3, .next, v3, m3, g3, vo3, tt.trans t3, rfl, q3⟩
  | ret a =>
   have r4 := r3
   obtain ⟨u, rfl, ru⟩ := r3
   exact ⟨β3, .ret a, v3, m3, g3, vo3, tt.trans t3, r4, q3⟩
theorem zkG {h : Heap} {Y : zau} {β : zaq} {y : AV} {u : Value} (ry : Rep w h Y β y u) : ∀ {xs : List AV} {vs : List Value} (k : Nat), zan w h Y β xs vs → zan w h Y β (xs.set k y) (vs.set k u)
 | [], _, _, e => by subst e; rfl
 | _ :: _, _, 0, ⟨v, t, e, p, l⟩ => by subst e; exact ⟨u, t, rfl, ry, l⟩
 | _ :: _, _, k + 1, ⟨v, t, e, p, l⟩ => by subst e; exact ⟨v, _, rfl, p, zkG ry k l⟩
def zlT (w : World) (H : Heap) (d : Nat) (o i x : AV) (mu : Mu) (Q : Mu → Prop) : Prop :=
 ∀ A Y β s vo vi vx, zbz A d → GS w H Y β mu s → Rep w s.heap Y β o vo → Rep w s.heap Y β i vi → Rep w s.heap Y β x vx →
  wpAny (model pw w) A (setItem vo vi vx) (fun V s' => zrM w H Y β s Q s') NoE s
theorem zdy {o i : Expr} {pos : Pos} {av : AV} {Q : QU}
  (h : EW w H d env (eval o env) vars mu fun a mu1 => EW w H d env (eval i env) vars mu1 fun b mu2 => zlT w H d a b av mu2 (Q vars)) :
  UW w H d env (fun v => assign (.Subscript o i pos) env v) av vars mu Q := fun A Y β s v hA g vo r => by
 show wpAny _ _ (assign (.Subscript o i pos) env v) _ _ _
 skip
 refine wpAny_bind (wpAny_holding (h.run hA g vo fun va s1 β1 a mu1 g1 t1 vo1 ra q1 => wpAny_bind (wpAny_holding (q1.run hA g1 vo1 fun vb s2 β2 b mu2 g2 t2 vo2 rb q2 => ?_))))
 refine wpAny_bind (wpAny_standAt (wpAny_bind (wpAny_holding (wpAny_mono (q2 A Y β2 s2 va vb v hA g2 (t2.rep ra) rb ((t1.trans t2).rep r)) (fun V s3 hq2' => ?_) fun V V z => z))))
 obtain ⟨β3, mu3, g3, t3, q⟩ := hq2'
 exact zgC ⟨β3, vars, mu3, g3, vo2.step g2.store t3, ((t1.trans t2).trans t3).st env, ((t1.trans t2).trans t3).stays Y, q⟩
theorem zhE {k : Int} (hl : IsL s.heap l items n) (h0 : 0 ≤ k) (hfit : k < 2 ^ 63) (hn : k < items.size)
  (hQ : ∀ h' n', IsL h' l (items.setIfInBounds k.toNat v) n' → (∀ b o, b ≠ l → s.heap.get? b = some o → h'.get? b = some o) → Q () { s with heap := h' }) : wpAny (model pw w) A (setItem (.ref l) (.int k t) v) Q E s := by
 have hT : s.TypeIs (.ref l) "list" := ⟨_, hl, rfl⟩
 delta setItem
 try with_reducible refine wpAny_holding ?_
 first | refine wpAny_bind (wpAny_pure ?_) | skip
 refine wpAny_bind (wpAny_sequenceKey hT (by rfl) ?_)
 refine wpAny_bind (wpAny_callSpecial?_slot (name := Str.ofString "__setitem__") hT slot_list_setitem
  (wpAny_call_entry slot_list_setitem hT entry_list_setitem ?_ (args_list_setitem _ _ _)))
 show wpAny _ _ (Builtin.List.listSubscript? (.int k t) >>= _) _ _ s
 refine wpAny_bind (wpAny_listSubscript_int (fitsIndex_of h0 hfit) ?_)
 clear hfit
 obtain ⟨j, rfl⟩ := Int.eq_ofNat_of_zero_le h0
 have hj : j < items.size := by kd_mem
 have hx' : items[j]? = some items[j] := Array.getElem?_eq_getElem hj
 refine wpAny_bind (wpAny_bind (wpAny_seqItemAt hl rfl (wpAny_pure ?_)))
 exists hx'
 obtain ⟨n', hl'⟩ := zdT hl (·.setIfInBounds j v)
 refine wpAny_bind (wpAny_setSeqItemAt hl rfl ?_)
 first
  | exact wpAny_bind (wpAny_pure (wpAny_pure ⟨.none, rfl, wpAny_pure (hQ _ n' hl' fun b o hb e => (Heap.get?_update_other _ _ (Ne.symm hb)).trans e)⟩))
  | exact wpAny_pure ⟨.none, rfl, wpAny_pure (hQ _ n' hl' fun b o hb e => (Heap.get?_update_other _ _ (Ne.symm hb)).trans e)⟩
theorem zjl (hm : mu.lookup k = some (.list xs)) (hi : i < xs.length) (hz : xs.length < 2 ^ 60) (h : zcM mu k (.list (xs.set i x)) Q) : zlT w H d (.loc k) (.int i) x mu Q := fun A Y β s vo vi vx hA g hq9' hq10' rx => by
 obtain ⟨l, eb, e⟩ := hq9'
 obtain ⟨t, ei⟩ := hq10'
 subst e ei
 obtain ⟨vs, n, hl, rl⟩ := g.store.rep _ _ _ hm eb
 obtain ⟨mu', hp, q⟩ := h
 have hs : vs.size = xs.length := by rw [← zah rl]; simp
 have hb : (i : Int) < 2 ^ 63 := by
  have e1 : (2 : Nat) ^ 60 = 1152921504606846976 := by decide
  have e2 : (2 : Int) ^ 63 = 9223372036854775808 := by decide
  kd_mem
 refine zhE hl (by kd_mem) hb (by kd_mem) fun h' n' hl' kk => ?_
 have S : zaB s.heap Y β h' Y β := ⟨fun b o e av => kk b o (fun q => av.2 k (q ▸ eb)) e, fun V V V av => av, fun V V e => e⟩
 obtain ⟨g3, t3⟩ := g.mutate (s' := { s with heap := h' }) hp eb kk ⟨_, n', hl', by
  have := zkG (Rep.stays S rx) i (zan.stays S rl)
  simpa using this⟩ ⟨_, hl'⟩ rfl rfl
 exact ⟨β, mu', g3, t3, q⟩
theorem zqm (h : Q vars mu) : UWs w H d env [] [] vars mu Q := h
theorem zo7 (h : UW w H d env (fun v => assign t env v) a vars mu fun v m => UWs w H d env ts as v m Q) : UWs w H d env (t :: ts) (a :: as) vars mu Q := h
end
end
section

theorem zmw {t : Str} {a : AV} : ∀ {vs : zaf}, vs.all (fun p => !(p.1 == t)) = true → Put vs t a (vs ++ [(t, a)])
 | [], _ => .nil
 | (k, v) :: r, h => by
  rw [List.all_cons, Bool.and_eq_true] at h
  exact .there (by simpa using h.1) (zmw h.2)
def Elt (w : World) (H : Heap) (d : Nat) (cenv : Env) (ifs : List Expr) (elt : Expr) (vars : zaf) (mu : Mu) (b : Bool) (y : AV) : Prop :=
 TT w H d cenv ifs vars mu fun b' m' => zaF (b' = b) (m' = mu) ((b = true → EW w H d cenv (eval elt cenv) vars mu fun y' m => y' = y ∧ m = mu))
section
variable {d : Nat} {env : Env} {vars : zaf} {mu : Mu}
theorem zpl (h : EW w H d env (eval x env) vars mu fun a mu1 => Truth w H d a mu1 fun b mu2 => IfB b (EW w H d env (eval y env) vars mu2 Q) (Q a mu2)) : EW w H d env (eval (.BoolOp .And [x, y] pos) env) vars mu Q :=
 zmT (show EW w H d env (boolOp pos .And [eval x env, eval y env]) vars mu Q from zqT (h.mono fun a mu1 q A Y β s va hA g r => wpAny_mono (q A Y β s va hA g r) (by rintro b s2 ⟨β2, mu2, g2, t2, q2⟩; exact ⟨β2, mu2, g2, t2, q2⟩) fun V V z => z))
theorem zfe (hb : b = true) (h : EW w H d cenv (eval elt cenv) vars mu fun y' m => y' = y ∧ m = mu) : Elt w H d cenv [] elt vars mu b y := ⟨hb.symm, rfl, fun V => h⟩
theorem zcq (h : TW w H d cenv (isTrue c cenv (eval c cenv)) vars mu fun b' m' => zaF (b' = b) (m' = mu) ((b = true → EW w H d cenv (eval elt cenv) vars mu fun y' m => y' = y ∧ m = mu))) : Elt w H d cenv [c] elt vars mu b y := h
theorem IW.mono (h : IW w H R tgt d env iter vars mu Q) (k : ∀ items m, Q items m → Q' items m) : IW w H R tgt d env iter vars mu Q' := fun A Y β s hA g vo =>
 wpAny_mono (h A Y β s hA g vo) (fun xv s1 h1 => wpAny_mono h1 (fun it s2 x => x.rec fun β' items mu' Z St a b c d e q => ⟨β', items, mu', Z, St, a, b, c, d, e, k _ _ q⟩) fun V V x => x) fun V V x => x
inductive zdr (w : World) (H : Heap) (d : Nat) (env : Env) {α : Type} (elt : Expr) (ifs : List Expr) (scope : Scope) (cl : List (Str × Addr)) (cv : AV → zaf) (f g : α → AV) (p : α → Bool) (K : QL) (rem acc : List AV) (m : Mu) : Prop
 | mk (l1 l2 : List α) (hr : rem = l2.map f) (ha : acc = (l1.filter p).map g) (he : ∀ C, ∀ x ∈ l1 ++ l2, Elt w H d (compEnvC scope cl C env) ifs elt (cv (f x)) m (p x) (g x)) (hq : K (((l1 ++ l2).filter p).map g) m)
section
variable {α : Type} {elt iter : Expr} {t : Str} {tp : Pos} {ifs : List Expr} {scope : Scope} {cl : List (Str × Addr)} {cvars : zaf} {cv : AV → zaf} {f g : α → AV} {p : α → Bool} {K : QL}
theorem zkg (h : IW w H (Rep w) (.Name t tp) d env iter vars mu fun items mu1 => ∃ l : List α, zbI (items = l.map f) (l.length ≤ sizeLine) ((∀ C, ∀ x ∈ l, Elt w H d (compEnvC scope cl C env) ifs elt (cv (f x)) mu1 (p x) (g x))) (K ((l.filter p).map g) mu1)) :
  IW w H (Rep w) (.Name t tp) d env iter vars mu fun items mu1 => items.length ≤ sizeLine ∧ zdr w H d env elt ifs scope cl cv f g p K items [] mu1 := h.mono fun items m q => by
 obtain ⟨l, hl, hz, he, hq⟩ := q
 exact ⟨by rw [hl, List.length_map]; exact hz, [], l, hl, rfl, he, hq⟩
theorem zkf (i : zdr w H d env elt ifs scope cl cv f g p K [] acc m) : K acc m := by
 obtain ⟨l1, l2, hr, ha, V, hq⟩ := i
 cases l2 with
 | nil => rw [ha]; simpa using hq
 | cons _ _ => contradiction
theorem zkh {l1 l2 : List α} {a : α} {rest acc acc' : List AV} {m : Mu} (hr : rest = l2.map f) (ha : acc' = ((l1 ++ [a]).filter p).map g) (he : ∀ C, ∀ x ∈ l1 ++ a :: l2, Elt w H d (compEnvC scope cl C env) ifs elt (cv (f x)) m (p x) (g x)) (hq : K (((l1 ++ a :: l2).filter p).map g) m) :
  zdr w H d env elt ifs scope cl cv f g p K rest acc' m := by
 rw [(by simp : (l1 ++ a :: l2) = (l1 ++ [a]) ++ l2)] at he hq
 exact ⟨_, _, hr, ha, he, hq⟩
theorem zki (ht : scope.names.lookup t = some .local) (hnew : cvars.all (fun p => !(p.1 == t)) = true) (hcv : ∀ a, cv a = cvars ++ [(t, a)]) (C : Addr) (x : AV) (rest acc : List AV) (m : Mu) (i : zdr w H d env elt ifs scope cl cv f g p K (x :: rest) acc m) :
  UR w H (Rep w) d (compEnvC scope cl C env) (fun u => assign (.Name t tp) (compEnvC scope cl C env) u) x cvars m fun v1 m1 => (∃ v3, v1 = cvars ++ v3) ∧
   TT w H d (compEnvC scope cl C env) ifs v1 m1 fun b m2 => IfB b (EW w H d (compEnvC scope cl C env) (eval elt (compEnvC scope cl C env)) v1 m2 fun y m3 => zdr w H d env elt ifs scope cl cv f g p K rest (acc ++ [y]) m3) (zdr w H d env elt ifs scope cl cv f g p K rest acc m2) := by
 obtain ⟨l1, l2, hr, ha, he, hq⟩ := i
 cases l2 with
 | nil => contradiction
 | cons a l2 =>
  obtain ⟨h1, h2⟩ := List.cons.inj hr
  refine za8 (zjr (.inl (lookup_relabel_local ht)) ⟨_, zmw hnew, ⟨_, rfl⟩, ?_⟩)
  rw [← hcv, h1]
  have hE := he C a (List.mem_append_right _ List.mem_cons_self)
  have ok : ∀ y, p a = true → y = g a → zdr w H d env elt ifs scope cl cv f g p K rest (acc ++ [y]) m := fun y hb e => zkh (acc := acc) h2 (by (exists ha; exists e); simp [List.filter_append, hb]) he hq
  have no : p a = false → zdr w H d env elt ifs scope cl cv f g p K rest acc m := fun hb => zkh (acc := acc) h2 (by rw [ha]; simp [List.filter_append, hb]) he hq
  clear he hq ha h1 h2 hr hnew hcv ht
  skip
  cases ifs with
  | nil =>
   obtain ⟨hb, V, hy⟩ := hE
   exact (hy hb.symm).mono fun y m3 e => e.2 ▸ ok y hb.symm e.1
  | cons c r =>
   cases r with
   | nil =>
    refine TW.mono hE fun b m2 e => ?_
    obtain ⟨e1, e2, hy⟩ := e
    subst e1 e2
    exact ifb (fun hb => (hy hb).mono fun y m3 e => e.2 ▸ ok y hb e.1) no
   | cons _ _ => exact hE.elim
end
theorem zpr {α : Type} {elt iter : Expr} {t : Str} {tp : Pos} {ifs : List Expr} {scope : Scope} {pos : Pos} (cl : List (Str × Addr)) (cvars : zaf) (cv : AV → zaf) (f g : α → AV) (p : α → Bool) {Q : QL}
  (h : IW w H (Rep w) (.Name t tp) d env iter vars mu fun items mu1 => ∃ l : List α, zbI (items = l.map f) (l.length ≤ sizeLine) (
   (∀ C, ∀ x ∈ l, Elt w H d (compEnvC scope cl C env) ifs elt (cv (f x)) mu1 (p x) (g x))) (Q ((l.filter p).map g) mu1))
  (hclos : closureFor scope env = pure cl) (hcl : ∀ x c, cl.lookup x = some c → env.cells.lookup x = some c) (hcap : zfX scope.names env cl cvars) (hsub : ∀ p ∈ cvars, p ∈ vars) (hnd : (cvars.map (fun V => V.1)).Nodup)
  (hcell : ∀ y ∈ scope.names, y.2 ≠ .cell) (hnames : ∀ y ∈ scope.names, y.2 = .local → scope.names.lookup y.1 = some .local) (ht : scope.names.lookup t = some .local) (hnew : cvars.all (fun p => !(p.1 == t)) = true)
  (hcv : autoParam (∀ a, cv a = cvars ++ [(t, a)]) aI) (hkind : autoParam (scope.kind = .function) aW) (hs : autoParam (∀ x, foldedSetIterable iter env x = pure x) aW) :
  EWL w H d env (eval (.ListComp elt [⟨.Name t tp, iter, ifs, 0⟩] scope pos) env) vars mu Q :=
 zjR (Rep w) cl cvars (zdr w H d env elt ifs scope cl cv f g p Q) (zkg h) (zki ht hnew hcv) (fun V V i => zkf i) hclos hcl hcap hsub hnd hcell hnames hkind hs
end
end
section
section
variable {d : Nat} {env : Env} {vars : zaf} {mu : Mu}
structure zlP (w : World) (H : Heap) (d : Nat) (f : Value) (as : List AV) (xs : List AV) : Prop where
 at_ : ∀ mu av mu', zeI xs mu av mu' → zar w H d f as mu fun r m => r = av ∧ m = mu'
theorem zar.frameB (h : zar w H d f as [] fun r m => r = .loc 0 ∧ m = [(0, .list xs)]) (hc : AV.locsL zaw as) (hx : AV.locsL zaw xs) : zlP w H d f as xs := ⟨by
 intro mu av mu' c A Y β s vs hA g r
 let Y' : zau := fun a => Y a ∨ ∃ k, β k = some a
 let β0 : zaq := fun V => none
 have C : Cuts Y β zaw Y' β0 := by
  refine ⟨fun k a e => (nomatch e), fun a n => ⟨fun y => ?_, fun k e => (nomatch e)⟩⟩
  rcases y with y | ⟨k, e⟩
  ·exact n.1 y
  ·exact n.2 k e
 have g0 : GS w H Y' β0 [] s := ⟨g.base, fun k a e => (nomatch e), fun a y => y.elim (g.yBase a) fun ⟨k, e⟩ => g.bBase k a e, fun a y => y.elim (g.yIn a) fun ⟨k, e⟩ => g.store.here k a e,
  ⟨fun V => rfl, fun V V V e => (nomatch e), fun V V V e => (nomatch e), fun V V e => (nomatch e), fun V V e => (nomatch e)⟩⟩
 refine codeAny_mono (h A Y' β0 s vs hA g0 (zan.cuts C hc r)) fun r s' ⟨β1, av1, v, mu1, e, g1, t1, rv, q, hm⟩ => ?_
 subst hm q
 kcf_m
 obtain ⟨D, eD, rfl⟩ := rv
 kcj_m
 have hD : s.heap.get? D = none := by
  rcases t1.fresh 0 D eD with q | q
  ·contradiction
  ·exact q
 have keep : ∀ b o, s.heap.get? b = some o → s'.heap.get? b = some o := fun b o e => t1.keep b o e fun k q => (nomatch q)
 obtain ⟨us, n, hl, rl⟩ := g1.store.rep 0 _ D rfl eD
 have hZ : ∀ b ∈ [D], s.heap.get? b = none := fun b hb => by exists List.mem_singleton.mp hb; exact hD
 have g2 : GS w H (zaz Y [D]) β mu s' := g.addI hZ (fun b hb => by exists List.mem_singleton.mp hb; exact ⟨_, hl⟩) keep
 have C2 : Cuts Y' β1 zaw (zaz Y [D]) β := by
  refine ⟨fun k a e => (nomatch e), fun a nn => ⟨fun y => ?_, fun k e => nn.1 (.inr ⟨k, e⟩)⟩⟩
  rcases y with y | y
  ·exact nn.1 (.inl y)
  ·exact nn.2 0 (by exists List.mem_singleton.mp y; exact eD)
 have hY : ¬ Y D := fun y => by obtain ⟨o, e⟩ := g.yIn D y; replace e := (hD) ▸ e; contradiction
 obtain ⟨β'', g3, t3, r3, V⟩ := c.take hY hD hl g2 (.grow keep t1.gens t1.os) (zan.cuts C2 hx rl)
 exact ⟨β'', av, .ref D, mu', e, g3, t3, r3, rfl, rfl⟩⟩
theorem zlP.call (h : zlP w H d' (.ref a) as xs) (F : zaE H a D q) (le : d' ≤ d) (c : zeI xs mu av mu') (k : Q av mu') : zaP w H d (.raw (.ref a)) as mu Q :=
 zaU F ((h.at_ mu av mu' c).mono (Nat.le_refl _) fun r m ⟨hr, hm⟩ => hr ▸ hm ▸ k) le
theorem zim (hm : mu'.lookup k = some (.list xs)) (hx : AV.locsL (fun j => j == k) xs) (hR : R (.loc k) [(k, .list xs)]) : zcS [] R (.ret (.loc k)) mu' := by
 refine ⟨.loc k, [(k, .list xs)], fun j => j == k, .same (show (k == k) = true from beq_self_eq_true k), by simp, fun j => ?_, fun j m hj hjm => ?_, hR⟩
 ·by_cases h : j = k
  ·subst h; simp [hm]
  ·have h' : (j == k) = false := by simpa using h
   simp [List.lookup_cons, h']
 ·have : j = k := by simpa using hj
  subst this
  replace hjm := (hm) ▸ hjm; obtain rfl := Option.some.inj hjm; exact hx
theorem zdn {i : Nat} (hx : xs[i]? = some x) (hz : xs.length < 2 ^ 60) (h : Q x mu) : zb3 w H d (.lst xs) (.int i) mu Q := zgU ((Int.natCast_nonneg _)) (by simpa using hx) hz h
theorem zgE {i : Nat} (hm : mu.lookup k = some (.list xs)) (hx : xs[i]? = some x) (hz : xs.length < 2 ^ 60) (h : Q x mu) : zb3 w H d (.loc k) (.int i) mu Q := zd2 hm ((Int.natCast_nonneg _)) (by simpa using hx) hz h
theorem get_map {l : List α} {i : Nat} (h : l[i]? = some x) : (l.map f)[i]? = some (f x) := by (exists List.getElem?_map; exists h); rfl
theorem zeo {l : List α} {i : Nat} (hx : l[i]? = some x) (hz : l.length < 2 ^ 60) (h : Q (f x) mu) : zb3 w H d (.lst (l.map f)) (.int i) mu Q := zdn (get_map hx) (by simpa using hz) h
end
end
section

noncomputable def zic : List Str → List AV → zaf → (zaf → Prop) → Prop
 | [], [], v, Q => Q v
 | x :: xs, a :: as, v, Q => zgY v x a fun v' => zic xs as v' Q
 | _, _, _, _ => False
section
variable {d : Nat} {env : Env} {vars : zaf} {mu : Mu}
theorem zdK (h : Q vars) : zic [] [] vars Q := h
theorem za7 (h : zgY vars x a fun v' => zic xs as v' Q) : zic (x :: xs) (a :: as) vars Q := h
theorem zkz {A : Around} {Y : zau} {β : zaq} {P : Unit → Shared → Prop} {Q : zaf → Prop} : ∀ {xs : List Str} {as : List AV} {vars : zaf} {s : Shared} {vs : List Value}, zic xs as vars Q → (∀ x ∈ xs, zbC env x) → GS w H Y β mu s → zai w env vars Y β s.heap → zan w s.heap Y β as vs →
  (∀ s' vars', GS w H Y β mu s' → zai w env vars' Y β s'.heap → zaD env β s β s' → Q vars' → P () s') → wpAny (model pw w) A (assignInOrder (xs.map fun n => bindName env n) vs) P NoE s
 | [], [], _, _, _, q, _, g, vo, r, k => by cases r; exact wpAny_pure (k _ _ g vo (.refl _ _ _) q)
 | x :: xs, a :: as, _, _, _, q, hb, g, vo, ⟨v, r, e, p, l⟩, k => by
  subst e
  obtain ⟨v1, hp, q1⟩ := q
  exact wpAny_bind (wpAny_holding (wpAny_bindName (zfN g vo p (hb x List.mem_cons_self) hp fun s1 g1 vo1 t1 S1 =>
   zkz q1 (fun y hy => hb y (List.mem_cons_of_mem _ hy)) g1 vo1 (zan.stays S1 l) fun s2 v2 g2 vo2 t2 q2 => k s2 v2 g2 vo2 (t1.trans t2) q2)))
 | [], _ :: _, _, _, _, q, _, _, _, _, _ => q.elim
 | _ :: _, [], _, _, _, q, _, _, _, _, _ => q.elim
theorem zkF {h : Heap} {Y : zau} {β : zaq} : ∀ {xs : List AV} {vs : List Value}, zan w h Y β xs vs → zan w h Y β xs.reverse vs.reverse
 | [], _, e => by subst e; rfl
 | x :: xs, _, ⟨v, r, e, p, l⟩ => by
  subst e
  (exists List.reverse_cons; exists List.reverse_cons)
  exact zc5 p (zkF l)
theorem zfP {t value pos} (names : List Str) {Q : QF}
  (h : EW w H d env (eval value env) vars mu fun a mu1 => ∃ as, zaF (a = .tup as) (as.length = names.length) (zic names.reverse as.reverse vars fun v => Q .next v mu1))
  (hb : ∀ x ∈ names, zbC env x) (hw : swappedStores [t] value env = pure (some names)) (hs : autoParam (swapsWithSole [t] value pos.line env = pure false) aW) :
  SW w H d env (exec (.Assign [t] value pos) env) vars mu Q := fun A Y β s hA g vo => by
 skip
 refine wpAny_bind (wpAny_standAt ?_)
 exists hs
 refine wpAny_bind (wpAny_pure ?_)
 skip
 refine wpAny_bind (h.run hA g vo fun va s1 β1 a mu1 g1 t1 vo1 ra hq9' => ?_)
 kcf_m
 obtain ⟨as, ea, hl, q⟩ := hq9'
 kcj_m
 subst ea
 obtain ⟨T, vs, n, rfl, ht, av, rl⟩ := ra
 exists hw
 refine wpAny_bind (wpAny_pure ?_)
 show wpAny _ _ (do rule "assign.swapped-stores"; let items ← unpackItems (.ref T) names.length none; assignInOrder (names.reverse.map fun n => bindName env n) items.reverse; pure Flow.next) _ _ _
 have hvs : names.length = vs.size := by (refine rwR hl ?_; refine rwR (zah rl) ?_); rfl
 exists hvs
 refine wpAny_bind (wpAny_rule (wpAny_bind (unpackItems_tuple hA.handled ⟨_, ht, rfl, _, rfl⟩ fun h' hx => wpAny_bind ?_)))
 have kk := zgP hx
 have t2 : zap β1 s1 β1 { s1 with heap := h' } := .grow (s' := { s1 with heap := h' }) kk rfl rfl
 exact zkz q (fun x hx => hb x (List.mem_reverse.mp hx)) (g1.grow (s' := { s1 with heap := h' }) kk) (vo1.step g1.store t2) (zkF (t2.repL rl)) fun s2 v2 g2 vo2 t3 q2 =>
  wpAny_pure ⟨β1, .next, v2, mu1, g2, vo2, ((t1.trans t2).st env).trans t3, rfl, q2⟩
theorem zcc {d : PyData} (h1 : d.canLay0 = true) (h2 : d.depth ≤ 64) : zcf d := by simp [zcf, fine, h1, h2]
theorem zng (ha : PyData.strOk a = true) (hb : PyData.strOk b = true) (q : Q (.bool (decide (a = b))) mu) : Op2 w H d (compareOp .Eq) (.str a) (.str b) mu Q :=
 zgA (da := .str a) (db := .str b) (c := decide (a = b)) rfl rfl (zcc (by assumption) (by simp [PyData.depth])) (zcc (by trivial) (by simp [PyData.depth])) (by show (a == b) = _; by_cases h : a = b <;> rfl) q
theorem znj (ha : PyData.strOk a = true) (hb : PyData.strOk b = true) (q : Q (.bool (!decide (a = b))) mu) : Op2 w H d (compareOp .NotEq) (.str a) (.str b) mu Q :=
 zeh (da := .str a) (db := .str b) (c := !decide (a = b)) rfl rfl (zcc (by assumption) (by simp [PyData.depth])) (zcc (by trivial) (by simp [PyData.depth])) (by show (!(a == b)) = _; by_cases h : a = b <;> rfl) q
end
end
section

theorem zc4 {α : Type} [DecidableEq α] : ∀ (l l' : List α), l.Nodup → (∀ a ∈ l, a ∈ l') → l.length ≤ l'.length
 | [], _, _, _ => Nat.zero_le _
 | a :: l, l', hn, hs => by
  have hn := List.nodup_cons.mp hn
  have := zc4 l (l'.erase a) hn.2 fun b hb => (List.mem_erase_of_ne (by rintro rfl; exact hn.1 hb)).mpr (hs b (List.mem_cons_of_mem _ hb))
  rw [List.length_erase_of_mem (hs a List.mem_cons_self : a ∈ l')] at this
  have : 0 < l'.length := List.length_pos_of_mem (hs a List.mem_cons_self : a ∈ l')
  simp only [List.length_cons]; kd_mem
structure zdh (l : List Nat) (j r : Nat) : Prop where
 le : r ≤ l.length
 lo : ∀ i x, i < r → l[i]? = some x → x < j
 hi : ∀ i x, r ≤ i → l[i]? = some x → j ≤ x
theorem zq5 {lo hi : Nat} (h : lo < hi) : lo ≤ (lo + hi) / 2 ∧ (lo + hi) / 2 < hi := by kd_mem
theorem bg1 {lo hi m fuel : Nat} (h : hi - lo ≤ fuel + 1) (a : lo ≤ m) : hi - (m + 1) ≤ fuel := by omega
theorem bg2 {lo hi m fuel : Nat} (h : hi - lo ≤ fuel + 1) (b : m < hi) : m - lo ≤ fuel := by omega
theorem znJ (xs : Array Nat) (j : Nat) (hr : xs.toList.Pairwise (· < ·)) (fuel : Nat) : ∀ lo hi, lo ≤ hi → hi ≤ xs.size → hi - lo ≤ fuel →
  (∀ i x, i < lo → xs.toList[i]? = some x → x < j) → (∀ i x, hi ≤ i → xs.toList[i]? = some x → j ≤ x) → zdh xs.toList j (SetTable.below.go xs j fuel lo hi) := by
 have mono : ∀ {a b x y : Nat}, a < b → xs.toList[a]? = some x → xs.toList[b]? = some y → x < y := by
  intro a b x y hab ha hb
  obtain ⟨ha', ea⟩ := List.getElem?_eq_some_iff.mp ha
  obtain ⟨hb', eb⟩ := List.getElem?_eq_some_iff.mp hb
  exact ea ▸ eb ▸ List.pairwise_iff_getElem.mp hr a b ha' hb' hab
 have stop : ∀ lo hi, lo ≤ hi → hi ≤ lo → hi ≤ xs.size → (∀ i x, i < lo → xs.toList[i]? = some x → x < j) → (∀ i x, hi ≤ i → xs.toList[i]? = some x → j ≤ x) → zdh xs.toList j lo :=
  fun lo hi h1 h2 h3 h4 h5 => ⟨Nat.le_trans h1 h3, h4, fun i x h => h5 i x (Nat.le_trans h2 h)⟩
 induction fuel with
 | zero => exact fun lo hi h1 h2 h3 h4 h5 => stop lo hi h1 (Nat.sub_eq_zero_iff_le.mp (Nat.le_zero.mp h3)) h2 h4 h5
 | succ fuel ih =>
  intro lo hi h1 h2 h3 h4 h5
  show zdh _ _ (if lo < hi then (if xs.getD ((lo + hi) / 2) j < j then SetTable.below.go xs j fuel ((lo + hi) / 2 + 1) hi else SetTable.below.go xs j fuel lo ((lo + hi) / 2)) else lo)
  by_cases hl : lo < hi
  ·rw [if_pos hl]
   obtain ⟨m1, m2⟩ := zq5 hl
   generalize (lo + hi) / 2 = m at m1 m2
   have hm := Nat.lt_of_lt_of_le m2 h2
   have hg : xs.toList[m]? = some (xs.getD m j) := by simp [hm]
   by_cases hx : xs.getD m j < j
   ·rw [if_pos hx]
    refine ih (m + 1) hi m2 h2 (bg1 h3 m1) (fun i x hi' e => ?_) h5
    rcases Nat.lt_or_eq_of_le (Nat.lt_succ_iff.mp hi') with q | q
    ·exact Nat.lt_trans (mono q e hg) hx
    ·rw [q, hg] at e; exact Option.some.inj e ▸ hx
   ·rw [if_neg hx]
    refine ih lo m m1 (Nat.le_of_lt hm) (bg2 h3 m2) h4 (fun i x hi' e => ?_)
    rcases Nat.lt_or_eq_of_le hi' with q | q
    ·exact Nat.le_trans (Nat.not_lt.mp hx) (Nat.le_of_lt (mono q hg e))
    ·rw [← q, hg] at e; exact Option.some.inj e ▸ Nat.not_lt.mp hx
  ·rw [if_neg hl]
   exact stop lo hi h1 (Nat.not_lt.mp hl) h2 h4 h5
theorem zfb (hr : xs.toList.Pairwise (· < ·)) (j : Nat) : zdh xs.toList j (SetTable.below xs j) :=
 znJ xs j hr _ 0 _ (Nat.zero_le _) (Nat.le_refl _) (Nat.sub_le _ _) (fun i x h => absurd h (Nat.not_lt_zero _)) fun i x h e => absurd ((List.getElem?_eq_some_iff.mp e).1) (Nat.not_lt.mpr h)
theorem zdh.not_mem (hr : l.Pairwise (· < ·)) (b : zdh l j r) (h : l[r]? ≠ some j) : j ∉ l := by
 intro hm
 obtain ⟨i, hi, e⟩ := List.mem_iff_getElem.mp hm
 have e' : l[i]? = some j := by simp [hi, e]
 rcases Nat.lt_trichotomy i r with h1 | h1 | h1
 ·exact Nat.lt_irrefl _ (b.lo i j h1 e')
 ·exact h (h1 ▸ e')
 ·have hrl : r < l.length := by exact Nat.lt_trans ‹_› ‹_›
  have h2 := b.hi r l[r] (Nat.le_refl _) (by simp [hrl])
  have h3 := List.pairwise_iff_getElem.mp hr r i hrl hi h1
  rw [e] at h3; kd_mem
theorem zdh.insert (hr : l.Pairwise (· < ·)) (b : zdh l j r) (h : j ∉ l) : (l.take r ++ j :: l.drop r).Pairwise (· < ·) := by
 have hlo : ∀ a ∈ l.take r, a < j := by
  intro a ha
  obtain ⟨i, hi, e⟩ := List.mem_iff_getElem.mp ha
  have : i < r ∧ i < l.length := by simp at hi; kd_mem
  rw [List.getElem_take] at e
  exact b.lo i a this.1 (by simp [this.2, e])
 have hhi : ∀ a ∈ l.drop r, j < a := by
  intro a ha
  obtain ⟨i, hi, e⟩ := List.mem_iff_getElem.mp ha
  have hi : r + i < l.length := by simp at hi; omega
  replace e := (List.getElem_drop) ▸ e
  have h1 := b.hi (r + i) a ((Nat.le_add_right _ _)) (by simp [hi, e])
  have h2 : a ∈ l := e ▸ List.getElem_mem hi
  have : j ≠ a := fun q => h (q ▸ h2)
  kd_mem
 refine List.pairwise_append.mpr ⟨hr.sublist (List.take_sublist _ _), List.pairwise_cons.mpr ⟨hhi, hr.sublist (List.drop_sublist _ _)⟩, fun a ha c hc => ?_⟩
 rcases List.mem_cons.mp hc with e | hc
 ·exact e ▸ hlo a ha
 ·exact Nat.lt_trans (hlo a ha) (hhi c hc)
noncomputable def lcg (m : Nat) : Nat → Nat → Nat
 | i, 0 => i
 | i, k + 1 => lcg m ((i * 5 + 1) % m) k
theorem zgR (m : Nat) : ∀ a i b, lcg m (lcg m i a) b = lcg m i (a + b)
 | 0, i, b => by rw [Nat.zero_add]; rfl
 | a + 1, i, b => by exists (show a + 1 + b = (a + b) + 1 by exact Nat.add_right_comm _ _ _); exact zgR m a _ b
theorem zpy : ∀ m ∈ zeg, lcg (m + 1) 0 (m + 1) = 0 ∧ ∀ e ∈ List.range (m + 1), ∃ u ∈ List.range (m + 1), lcg (m + 1) 0 u = e := by decide +kernel
theorem zpz (m : Nat) (h : lcg m 0 m = 0) : ∀ u, lcg m 0 (m + u) = lcg m 0 u := fun u => by rw [← zgR, h]
theorem zis (hm : mask ∈ zeg) (hi : i < mask + 1) (he : e < mask + 1) : ∃ k, k < mask + 1 ∧ lcg (mask + 1) i k = e := by
 obtain ⟨h0, hall⟩ := zpy mask hm
 obtain ⟨s, hs, rfl⟩ := hall i (List.mem_range.mpr hi)
 obtain ⟨u, hu, rfl⟩ := hall e (List.mem_range.mpr he)
 have hs := List.mem_range.mp hs
 have hu := List.mem_range.mp hu
 by_cases h : s ≤ u
 ·exact ⟨u - s, by kd_mem, by rw [zgR]; congr 1; kd_mem⟩
 ·refine ⟨u + (mask + 1) - s, by kd_mem, ?_⟩
  rw [zgR]; rw [show s + (u + (mask + 1) - s) = (mask + 1) + u by kd_mem, zpz _ h0]
noncomputable def zka (mask : Nat) : Nat → Nat → Nat → Nat
 | i, _, 0 => i
 | i, p, k + 1 => zka mask (SetTable.leap mask i p).1 (SetTable.leap mask i p).2 k
theorem zf5 (mask : Nat) : ∀ k i p, p < 32 → zka mask i p k = lcg (mask + 1) i k
 | 0, _, _, _ => rfl
 | k + 1, i, p, hp => by
  have h0 : p / 32 = 0 := by kd_mem
  unfold zka lcg SetTable.leap
  dsimp only
  exists h0
  exact zf5 mask k _ 0 (by decide)
def znD (t : SetTable) (r : Option SetTable.Met) : Prop := Ex2 fun j dm => zaF (r = some (.empty j dm)) (t.slot j = .empty) (∀ d, dm = some d → t.slot d = .dummy)
theorem zeB (mask i : Nat) : SetTable.runEnd mask i - i ≤ 9 := by unfold SetTable.runEnd; split <;> kd_mem
theorem gf1 (h : 10 * k + m + 2 ≤ f + 1) (e : n = m) (q : n > 0) : 10 * k + (n - 1) + 2 ≤ f := by kd_mem
theorem gf2 (h : 10 * (k + 1) + m + 2 ≤ f + 1) (q : n ≤ 9) : 10 * k + n + 2 ≤ f := by kd_mem
theorem zle (t : SetTable) (a : Nat → Int) (h : Int) (f : Nat) (p : SetTable.Probe) : SetTable.probe.go t a h (f + 1) p = (match t.slot p.j with
 | .empty => some (.empty p.j p.dummy)
 | .dummy => SetTable.probe.go t a h f (t.advance { p with dummy := some p.j })
 | .live i => if a i == h then some (.candidate p.j i (t.advance p)) else SetTable.probe.go t a h f (t.advance p)) := rfl
theorem zn7 (t : SetTable) (h : Int) (fuel : Nat) : ∀ k (p : SetTable.Probe), p.more ≤ 9 → 10 * k + p.more + 2 ≤ fuel → (∀ d, p.dummy = some d → t.slot d = .dummy) → t.slot (zka t.mask p.i p.perturb (k + 1)) = .empty →
  znD t (SetTable.probe.go t (fun V => h + 1) h fuel p) := by
 induction fuel with
 | zero => intro k p V hf; exact absurd hf (Nat.not_succ_le_zero _)
 | succ f ih =>
  intro k p hm hf hd he
  have nx : ∀ q : SetTable.Probe, q.more = p.more → q.i = p.i → q.perturb = p.perturb → (∀ d, q.dummy = some d → t.slot d = .dummy) → znD t (SetTable.probe.go t (fun V => h + 1) h f (t.advance q)) := by
   intro q h1 h2 h3 h4
   rw [← h2, ← h3] at he
   by_cases hq : q.more > 0
   ·have e : t.advance q = { q with j := q.j + 1, more := q.more - 1 } := if_pos hq
    exists e
    exact ih k _ (Nat.le_trans (Nat.sub_le _ _) (h1 ▸ hm)) (gf1 hf h1 hq) h4 he
   ·have e : t.advance q = { q with j := (SetTable.leap t.mask q.i q.perturb).1, more := SetTable.runEnd t.mask (SetTable.leap t.mask q.i q.perturb).1 - (SetTable.leap t.mask q.i q.perturb).1, i := (SetTable.leap t.mask q.i q.perturb).1, perturb := (SetTable.leap t.mask q.i q.perturb).2 } := if_neg hq
    exists e
    cases k with
    | zero =>
     cases f with
     | zero => exact absurd (Nat.le_trans (Nat.le_add_left 2 _) hf) (by decide)
     | succ f =>
      exists zle ..
      exists (show t.slot (SetTable.leap t.mask q.i q.perturb).1 = .empty from he)
      exact ⟨_, _, rfl, he, h4⟩
    | succ k => exact ih k _ (zeB _ _) (gf2 hf (zeB _ _)) h4 he
  exists zle ..
  cases hs : t.slot p.j with
  | empty => exact ⟨_, _, rfl, hs, hd⟩
  | dummy => exact nx _ rfl rfl rfl fun d e => Option.some.inj e ▸ hs
  | live i =>
   dsimp only
   exists ((beq_false_of_ne (Ne.symm (Int.ne_of_lt (Int.lt_succ h))) : ((h + 1 == h) : Bool) = false))
   exact nx _ rfl rfl rfl hd
theorem zdd (t : SetTable) (j : Nat) : zaF ((t.slot j = .empty → t.place[SetTable.below t.place j]? ≠ some j ∧ SetTable.has t.dummies j = false)) ((t.slot j = .dummy → t.place[SetTable.below t.place j]? ≠ some j ∧ SetTable.has t.dummies j = true)) (
  (t.slot j ≠ .empty → j ∈ t.place.toList ++ t.dummies.toList)) := by
 have has_mem : ∀ xs : Array Nat, SetTable.has xs j = true → j ∈ xs.toList := by
  intro xs h
  unfold SetTable.has at h
  have h := beq_iff_eq.mp h
  exact Array.mem_toList_iff.mpr (Array.mem_of_getElem? h)
 unfold SetTable.slot
 dsimp only
 split
 ·rename_i h
  exact ⟨fun e => (nomatch e), fun e => (nomatch e), fun _ => List.mem_append_left _ (Array.mem_toList_iff.mpr (Array.mem_of_getElem? (beq_iff_eq.mp h)))⟩
 ·rename_i h
  split
  ·rename_i h2; exact ⟨fun e => (nomatch e), fun _ => ⟨(fun e => h (beq_iff_eq.mpr e)), h2⟩, fun _ => List.mem_append_right _ (has_mem _ h2)⟩
  ·rename_i h2; exact ⟨fun _ => ⟨(fun e => h (beq_iff_eq.mpr e)), by simpa using h2⟩, fun e => (nomatch e), fun e => absurd rfl e⟩
theorem zef : ∀ m ∈ zeg, 7 ≤ m ∧ m < 1000 := by decide +kernel
theorem TOk.some_empty (T : TOk t) : ∃ e, e < t.mask + 1 ∧ t.slot e = .empty := by
 apply Classical.byContradiction
 intro hn
 have h : ∀ e ∈ List.range (t.mask + 1), e ∈ t.place.toList ++ t.dummies.toList := fun e he => (zdd t e).3 fun q => hn ⟨e, List.mem_range.mp he, q⟩
 have := zc4 _ _ List.nodup_range h
 have hl := T.load
 unfold SetTable.fill at hl
 simp at this
 kd_mem
theorem TOk.free (T : TOk t) (h0 : 0 ≤ h) (h1 : h < 32) : Ex2 fun j wd => zaF (t.freeSlot h = some (j, wd)) (t.place[SetTable.below t.place j]? ≠ some j) (SetTable.has t.dummies j = wd) := by
 kcf_m
 obtain ⟨e, he, hs⟩ := T.some_empty
 kcj_m
 have hb : SetTable.bits h = h.toNat := by
  unfold SetTable.bits
  rw [Int.emod_eq_of_lt h0 (by have : (2 : Int) ^ 64 = 18446744073709551616 := rfl; kd_mem)]
 have hm := zef _ T.mask
 have hi : (t.probeStart h).i < t.mask + 1 := Nat.mod_lt _ ((Nat.succ_pos _))
 kcf_m
 obtain ⟨k, hk, ek⟩ := zis T.mask hi he
 kcj_m
 have hf : znD t (t.probe (fun V => h + 1) h (t.probeStart h)) := by
  unfold SetTable.probe SetTable.turns
  cases k with
  | zero =>
   have e0 : (t.probeStart h).j = e := ek
   obtain ⟨f, ef⟩ : ∃ f, 10 * (t.mask + 15) = f + 1 := ⟨10 * (t.mask + 15) - 1, (rfl)⟩
   exists ef
   exists zle ..
   (exists e0; exists hs)
   exact ⟨_, _, rfl, hs, fun d e => (nomatch e)⟩
  | succ k =>
   refine zn7 t h _ k _ (zeB _ _) ?_ (fun d e => (nomatch e)) (by (exists (zf5 _ _ _ _ (by show SetTable.bits h < 32; refine rwL hb ?_; kd_mem : (t.probeStart h).perturb < 32)); exists ek); exact hs)
   have : (t.probeStart h).more ≤ 9 := zeB _ _
   kd_mem
 obtain ⟨j, dm, hr, h2, h3⟩ := hf
 unfold SetTable.freeSlot
 exists hr
 cases dm with
 | none => exact ⟨j, false, rfl, ((zdd t j).1 h2).1, ((zdd t j).1 h2).2⟩
 | some d => exact ⟨d, true, rfl, ((zdd t d).2 (h3 d rfl)).1, ((zdd t d).2 (h3 d rfl)).2⟩
theorem zc : (SetTable.insertAt xs p x).size = xs.size + 1 := by
 have := (SetTable.insertAt_perm xs p x).length_eq
 simpa using this
theorem zfI (h : p < xs.size) : (SetTable.eraseAt xs p).size + 1 = xs.size := by
 unfold SetTable.eraseAt; simp; kd_mem
theorem TOk.new {t : SetTable} (T : TOk t) {es : Array (Int × Value)} (hz : t.place.size = es.size) {h : Int} {x : Value} (h0 : 0 ≤ h) (h1 : h < 32) :
  Ex3 fun es1 t1 wd => zhW (layNew t es h x = (es1, t1, wd, false)) (t1.mask = t.mask) (t1.place.toList.Pairwise (· < ·)) (t1.plain = true) (t1.led = t.led) (t1.fill = t.fill + (if wd then 0 else 1)) (t1.place.size = es1.size) := by
 kcf_m
 obtain ⟨j, wd, hf, hp, hd⟩ := T.free h0 h1
 kcj_m
 have hm := zef _ T.mask
 have hl := T.load
 have hb := zfb T.rising j
 have hnm : j ∉ t.place.toList := hb.not_mem T.rising (by simpa using hp)
 have hw : ∀ w, SetTable.has t.dummies j = w → (t.put j).1.fill = t.fill + (if w then 0 else 1) := by
  intro w hw
  unfold SetTable.put SetTable.fill
  dsimp only
  (exists zc; exists hw)
  cases w with
  | false => simp; exact Nat.add_right_comm _ _ _
  | true =>
   have : SetTable.below t.dummies j < t.dummies.size := by
    unfold SetTable.has at hw
    exact (Array.getElem?_eq_some_iff.mp (beq_iff_eq.mp hw)).1
   have := zfI this
   simp; kd_mem
 have hfill := hw wd hd
 have hsz : (t.put j).1.place.size = t.place.size + 1 := zc
 have hfit : (t.put j).1.fits (es.size + 1) = true := by
  unfold SetTable.fits
  (exists hsz; exists hz; exists hfill)
  have : (t.put j).1.mask = t.mask := rfl
  exists this
  simp
  split <;> kd_mem
 delta layNew
 exists hf
 dsimp only
 exists zc
 refine ⟨SetTable.insertAt es (t.put j).2 (h, x), (t.put j).1, wd, by (exists ((by unfold SetTable.orStandIn; rw [if_pos hfit] : (t.put j).1.orStandIn (es.size + 1) = (t.put j).1)); exists hfit); rfl, rfl, ?_, T.plain, rfl, hfill, by rw [zc, hsz, hz]⟩
 show (SetTable.insertAt t.place (SetTable.below t.place j) j).toList.Pairwise (· < ·)
 rw [SetTable.toList_insertAt]
 exact hb.insert T.rising hnm
end
section

noncomputable abbrev zlS := Array (Option Nat)
theorem zmc {mask : Nat} {owner : zlS} : ∀ (k fuel i p : Nat), k < fuel → owner.getD (zka mask i p k) (some 0) = none →
  ∃ j, SetTable.layClean.free mask owner fuel i p = some j ∧ owner.getD j (some 0) = none
 | k, 0, i, p, h, _ => absurd h (Nat.not_lt_zero _)
 | k, fuel + 1, i, p, h, he => by
  show ∃ j, (match (List.range (SetTable.runEnd mask i + 1 - i)).find? fun k => (owner.getD (i + k) (some 0)).isNone with | some k => some (i + k) | none => SetTable.layClean.free mask owner fuel (SetTable.leap mask i p).1 (SetTable.leap mask i p).2) = some j ∧ _
  cases hf : (List.range (SetTable.runEnd mask i + 1 - i)).find? fun k => (owner.getD (i + k) (some 0)).isNone with
  | some k' =>
   have := List.find?_some hf
   exact ⟨i + k', rfl, by simpa using this⟩
  | none =>
   have hr : 0 < SetTable.runEnd mask i + 1 - i := by as_aux_lemma => unfold SetTable.runEnd; split <;> kd_mem
   cases k with
   | zero =>
    have := List.find?_eq_none.mp hf 0 (List.mem_range.mpr hr)
    have e : owner.getD i (some 0) = none := he
    simp only [Nat.add_zero, e] at this
    contradiction
   | succ k => exact zmc k fuel _ _ ((Nat.le_of_lt_succ ‹_›)) he
structure zjv (mask : Nat) (o : zlS) (k : Nat) : Prop where
 size : o.size = mask + 1
 perm : (o.toList.filterMap id).Perm (List.range k)
theorem zh2 {l : List (Option Nat)} : ∀ {j : Nat}, l[j]? = some none → ((l.set j (some k)).filterMap id).Perm (k :: l.filterMap id) := by
 induction l with
 | nil => intro j h; contradiction
 | cons a l ih =>
  intro j h
  cases j with
  | zero => replace h := Option.some.inj h; subst h; rfl
  | succ j =>
   simp at h
   skip
   cases a with
   | none => exact ih h
   | some b =>
    skip
    exact ((ih h).cons b).trans (.swap k b _)
theorem zkb : ∀ l : List (Option Nat), (∀ x ∈ l, x ≠ none) → (l.filterMap id).length = l.length
 | [], _ => rfl
 | none :: l, h => absurd rfl (h none List.mem_cons_self)
 | some a :: l, h => by
  simp only [List.filterMap_cons, id, List.length_cons]
  rw [zkb l fun x hx => h x (List.mem_cons_of_mem _ hx)]
theorem zjv.free (O : zjv mask o k) (hk : k ≤ mask) : ∃ e, e < mask + 1 ∧ o.getD e (some 0) = none := by
 apply Classical.byContradiction
 intro hn
 have h : ∀ x ∈ o.toList, x ≠ none := by
  intro x hx e
  subst e
  obtain ⟨i, hi, e⟩ := List.mem_iff_getElem.mp hx
  have hi' : i < o.size := by simpa using hi
  refine hn ⟨i, by refine rwR O.size ?_; exact hi', ?_⟩
  simp [hi'] at e ⊢; exact e
 have h1 := zkb _ h
 have h2 := O.perm.length_eq
 have h3 := O.size
 simp at h1 h2
 kd_mem
theorem zks {mask : Nat} (hm : mask ∈ zeg) : ∀ (l : List Int) (o : zlS) (k : Nat), zjv mask o k → k + l.length ≤ mask → (∀ h ∈ l, 0 ≤ h ∧ h < 32) →
  ∃ o', l.foldl (fun (acc : Option (zlS × Nat)) (h : Int) => do
   let (owner, k) ← acc
   let j ← SetTable.layClean.free mask owner (SetTable.turns mask) (SetTable.bits h % (mask + 1)) (SetTable.bits h)
   pure (owner.setIfInBounds j (some k), k + 1)) (some (o, k)) = some (o', k + l.length) ∧ zjv mask o' (k + l.length)
 | [], o, k, O, _, _ => ⟨o, rfl, O⟩
 | h :: l, o, k, O, hl, hh => by
  simp only [List.length_cons] at hl
  obtain ⟨e, he, hf⟩ := O.free ((Nat.le_trans (Nat.le_add_right _ _) ‹_›))
  obtain ⟨h0, h1⟩ := hh h List.mem_cons_self
  have hb : SetTable.bits h = h.toNat := by
   unfold SetTable.bits
   rw [Int.emod_eq_of_lt h0 (by have : (2 : Int) ^ 64 = 18446744073709551616 := rfl; kd_mem)]
  have hmp := zef _ hm
  obtain ⟨t, ht, et⟩ := zis hm (Nat.mod_lt _ ((Nat.succ_pos _)) : SetTable.bits h % (mask + 1) < mask + 1) he
  obtain ⟨j, ej, hj⟩ := zmc (mask := mask) (owner := o) t (SetTable.turns mask) (SetTable.bits h % (mask + 1)) (SetTable.bits h) (by unfold SetTable.turns; kd_mem) (by (exists (zf5 _ _ _ _ (by refine rwL hb ?_; kd_mem)); exists et); exact hf)
  have hjs : j < o.size := by
   apply Classical.byContradiction
   intro q
   simp [q] at hj
  have hjg : o.toList[j]? = some none := by simp [hjs] at hj ⊢; exact hj
  have O' : zjv mask (o.setIfInBounds j (some k)) (k + 1) := by
   refine ⟨by simp [O.size], ?_⟩
   (exists Array.toList_setIfInBounds; exists List.range_succ)
   exact (zh2 hjg).trans ((O.perm.cons k).trans (List.perm_append_singleton k _).symm)
  obtain ⟨o', e', O2⟩ := zks hm l _ (k + 1) O' (by kd_mem) fun x hx => hh x (List.mem_cons_of_mem _ hx)
  exists List.foldl_cons
  refine ⟨o', ?_, by (exists List.length_cons; exists (show k + (l.length + 1) = k + 1 + l.length by kd_mem)); exact O2⟩
  (exists List.length_cons; exists (show k + (l.length + 1) = k + 1 + l.length by kd_mem); refine rwR e' ?_)
  congr 1
  show (do let j ← SetTable.layClean.free mask o (SetTable.turns mask) (SetTable.bits h % (mask + 1)) (SetTable.bits h); pure (o.setIfInBounds j (some k), k + 1)) = _
  exists ej; rfl
theorem zhk {β : Type} (g : Nat → Option β) : ∀ l : List Nat, ((l.filterMap fun j => (g j).map (j, ·)).map (fun V => V.1)).Sublist l
 | [] => .slnil
 | a :: l => by
  exists List.filterMap_cons
  cases g a with
  | none => exact (zhk g l).cons a
  | some b => exact (zhk g l).cons_cons a
theorem zhl {β : Type} (g : Nat → Option β) : ∀ l : List Nat, (l.filterMap fun j => (g j).map (j, ·)).map (fun V => V.2) = (l.map g).filterMap id
 | [] => rfl
 | a :: l => by
  (exists List.map_cons; exists List.filterMap_cons)
  cases g a with
  | none => exact zhl g l
  | some b => exact congrArg _ (zhl g l)
theorem zhp (a : Array α) (d : α) : (List.range a.size).map (fun j => a.getD j d) = a.toList := by
 apply List.ext_getElem
 ·simp
 ·intro i h1 h2
  have : i < a.size := by simpa using h2
  simp [this]
theorem zjj (n : Nat) : (List.range n).Pairwise (· < ·) := List.pairwise_lt_range
theorem zmi {mask : Nat} (hm : mask ∈ zeg) {hashes : Array Int} (hn : hashes.size ≤ mask) (hh : ∀ h ∈ hashes.toList, 0 ≤ h ∧ h < 32) (finger moves : Nat) (led plain : Bool) :
  Ex2 fun t order => zqH (SetTable.laid mask finger moves led plain hashes = some (t, order)) (t.mask = mask) (t.place.toList.Pairwise (· < ·)) (t.dummies = #[]) (t.led = led) (t.plain = plain) (t.place.size = hashes.size) (order.toList.Perm (List.range hashes.size)) := by
 obtain ⟨o, e, O⟩ := zks hm hashes.toList (Array.replicate (mask + 1) none) 0 ⟨by simp, by
  have : ∀ n, ((List.replicate n (none : Option Nat)).filterMap id) = [] := by
   intro n; induction n with
   | zero => rfl
   | succ n ih => exact ih
  rw [Array.toList_replicate, this]; exact .nil⟩ (by simpa using hn) hh
 have hl : hashes.toList.length = hashes.size := by simp
 rw [Nat.zero_add, hl] at e O
 have hc : SetTable.layClean mask hashes = some o := by
  unfold SetTable.layClean
  rw [← Array.foldl_toList, e]; rfl
 unfold SetTable.laid
 exists hc
 have hs : ((List.range (mask + 1)).filterMap fun j => (o.getD j none).map (j, ·)).map (fun V => V.2) = o.toList.filterMap id := by
  rw [zhl (fun j => o.getD j none), ← O.size, zhp]
 have hp := O.perm
 rw [← hs] at hp
 refine ⟨_, _, rfl, rfl, ?_, rfl, rfl, rfl, ?_, (hp)⟩
 ·simpa using (zjj (mask + 1)).sublist (zhk (fun j => o.getD j none) (List.range (mask + 1)))
 ·have := hp.length_eq
  simpa using this
theorem zdW {es : Array (Int × Value)} {order : Array Nat} (h : order.toList.Perm (List.range es.size)) : (order.filterMap (es[·]?)).toList.Perm es.toList := by
 rw [Array.toList_filterMap]
 exact (h.filterMap _).trans (by rw [filterMap_getElem?_range])
theorem zj6 : ∀ n ∈ List.range 20, SetTable.sizeAbove (SetTable.grown n) - 1 ∈ zeg ∧ 5 * n < 3 * (SetTable.sizeAbove (SetTable.grown n) - 1) := by decide +kernel
theorem zq : ∀ n ∈ List.range 40, SetTable.sizeAbove (n * 2) - 1 ∈ zeg ∧ 5 * n < 3 * (SetTable.sizeAbove (n * 2) - 1) := by decide +kernel
structure Hs (es : Array (Int × Value)) : Prop where
 all : ∀ e ∈ es.toList, 0 ≤ e.1 ∧ e.1 < 32
theorem Hs.hashes (h : Hs es) : ∀ x ∈ (es.map (fun V => V.1)).toList, 0 ≤ x ∧ x < 32 := by
 intro x hx
 replace hx := (Array.toList_map) ▸ hx
 obtain ⟨e, he, rfl⟩ := List.mem_map.mp hx
 exact h.all e he
theorem ziz {t : SetTable} {es : Array (Int × Value)} (hes : Hs es) {wanted : Nat} (h1 : SetTable.sizeAbove wanted - 1 ∈ zeg) (h2 : 5 * es.size < 3 * (SetTable.sizeAbove wanted - 1)) (hpl : t.plain = true) :
  Ex2 fun t' order => zhW (t.relaid (es.map (fun V => V.1)) wanted = some (t', order)) (TOk t') (t'.led = t.led) (t'.place.size = es.size) (t'.fill = es.size) (order.toList.Perm (List.range es.size)) (t'.mask = SetTable.sizeAbove wanted - 1) := by
 obtain ⟨t', order, e, hm, hr, hd, hl, hp, hs, ho⟩ := zmi h1 (hashes := es.map (fun V => V.1)) (by simp; kd_mem) hes.hashes t.finger (t.movedTo (SetTable.sizeAbove wanted - 1)) t.led t.plain
 simp only [Array.size_map] at hs ho
 exact ⟨t', order, e, ⟨by rw [hm]; exact h1, by (exists ((by unfold SetTable.fill; (refine rwL hd ?_; refine rwL hs ?_); rfl : t'.fill = es.size)); exists hm); exact h2, hr, hp.trans hpl⟩, hl, hs, (by unfold SetTable.fill; (exists hd; exists hs); rfl : t'.fill = es.size), ho, hm⟩
theorem TOk.fits (T : TOk t) (h : t.place.size = n) : t.fits n = true := by
 have := T.load
 unfold SetTable.fits
 simp [h]; kd_mem
theorem zkC {t : SetTable} {es : Array (Int × Value)} (hes : Hs es) (hn : es.size < 20) (hpl : t.plain = true) :
  Ex2 fun es' t' => ze5 (relayAll t es (SetTable.grown es.size) = (es', t', false)) (TOk t') (t'.led = t.led) (t'.place.size = es.size) (es'.toList.Perm es.toList) := by
 obtain ⟨g1, g2⟩ := zj6 _ (List.mem_range.mpr hn)
 obtain ⟨t', order, e, T, hl, hs, hf, ho, V⟩ := ziz (t := t) hes g1 g2 hpl
 have hz : (order.filterMap (es[·]?)).size = es.size := by
  have := (zdW ho).length_eq; rw [Array.length_toList, Array.length_toList] at this; exact this
 refine ⟨order.filterMap (es[·]?), t', ?_, T, hl, hs, (zdW ho)⟩
 unfold relayAll
 exists e
 dsimp only
 have hc : coversAll order es.size = true := by unfold coversAll; exact List.isPerm_iff.mpr ho
 (exists hc; exists hz; exists T.fits hs); rfl
end
section

theorem zn8 : ∀ n ∈ List.range 16, hashInt (Int.ofNat n) = Int.ofNat n := by decide +kernel
theorem zda (h0 : 0 ≤ i) (h1 : i < 16) : hashInt i = i := by
 obtain ⟨n, rfl⟩ := Int.eq_ofNat_of_zero_le h0
 exact zn8 n (List.mem_range.mpr (by kd_mem))
theorem ziG {l : List Int} (hn : l.Nodup) (h : ∀ x ∈ l, 0 ≤ x ∧ x < 16) : l.length ≤ 16 := by
 have := zc4 l ((List.range 16).map Int.ofNat) hn fun a ha => by
  obtain ⟨h0, h1⟩ := h a ha
  obtain ⟨n, rfl⟩ := Int.eq_ofNat_of_zero_le h0
  exact List.mem_map.mpr ⟨n, List.mem_range.mpr (by kd_mem), rfl⟩
 exact this
theorem zad.make {w : World} (ok : TOk t) (size : t.place.size = es.size) (all : ∀ e ∈ es.toList, Ex2 fun i tk => zaF (e = (i, .int i tk)) (0 ≤ i) (i < 16))
  (mem : ∀ i, S i = true ↔ ∃ e ∈ es.toList, ∃ tk, e.2 = .int i tk) (nodup : (es.toList.map (fun V => V.1)).Nodup) (led : t.led = !w.params.followText "set-order") : zad w es t S :=
 ⟨ok, size, by
  have := ziG nodup fun x hx => by
   obtain ⟨e, he, rfl⟩ := List.mem_map.mp hx
   obtain ⟨i, tk, rfl, h, h'⟩ := all e he
   exact ⟨h, h'⟩
  simpa using this, all, mem, nodup, led⟩
section
variable {es : Array (Int × Value)} {t : SetTable} {S : Int → Bool}
theorem zad.fits (D : zad w es t S) : t.fits es.size = true := D.ok.fits D.size
theorem zad.elems (D : zad w es t S) : ElemsOf (intKind pw w) es.toList := by
 intro e he
 obtain ⟨i, tk, rfl, h0, h1⟩ := D.allInts e he
 exact ⟨⟨i, intKind_is _ _ _ _, (zda h0 h1).symm⟩, rfl⟩
theorem zad.bound (D : zad w es t S) : es.size < scanBound := by have := D.small; unfold scanBound; kd_mem
theorem zad.hs (D : zad w es t S) : Hs es := ⟨fun e he => by obtain ⟨i, tk, rfl, h0, h1⟩ := D.allInts e he; exact ⟨h0, by show i < 32; kd_mem⟩⟩
theorem zad.range (D : zad w es t S) (h : S i = true) : 0 ≤ i ∧ i < 16 := by
 obtain ⟨e, he, tk, e2⟩ := (D.mem i).mp h
 obtain ⟨j, tj, rfl, h0, h1⟩ := D.allInts e he
 injection e2 with e2; subst e2; exact ⟨h0, h1⟩
theorem zad.is (D : zad w es t S) (i : Int) : S i = true ↔ ∃ e ∈ es.toList, (intKind pw w).is i e.2 = true := by
 rw [D.mem]
 constructor
 ·rintro ⟨e, he, tk, q⟩; exact ⟨e, he, by exists q; exact intKind_is _ _ _ _⟩
 ·rintro ⟨e, he, q⟩
  kcf_m
  obtain ⟨j, tj, rfl, h0, h1⟩ := D.allInts e he
  kcj_m
  obtain ⟨tk, q⟩ := Value.isInt_shape (k := i) (v := Value.int j tj) q
  exact ⟨_, he, tk, q⟩
theorem zad.fst (D : zad w es t S) (i : Int) : S i = true ↔ i ∈ es.toList.map (fun V => V.1) := by
 rw [D.mem, List.mem_map]
 constructor
 ·rintro ⟨e, he, tk, q⟩
  obtain ⟨j, tj, rfl, h0, h1⟩ := D.allInts e he
  injection q with q; subst q; exact ⟨_, he, rfl⟩
 ·rintro ⟨e, he, rfl⟩
  kcf_m
  obtain ⟨j, tj, rfl, h0, h1⟩ := D.allInts e he
  kcj_m
  exact ⟨_, he, tj, rfl⟩
theorem zad.perm (D : zad w es t S) (p : es'.toList.Perm es.toList) (ok : TOk t') (size : t'.place.size = es'.size) (led : t'.led = t.led) : zad w es' t' S :=
 .make ok size (fun e he => D.allInts e (p.mem_iff.mp he)) (fun i => (D.mem i).trans ⟨fun ⟨e, he, q⟩ => ⟨e, p.mem_iff.mpr he, q⟩, fun ⟨e, he, q⟩ => ⟨e, p.mem_iff.mp he, q⟩⟩)
  ((p.map _).nodup_iff.mpr D.nodup) (led.trans D.led)
end
inductive zav (w : World) (h : Heap) (a : Addr) (T : String) (S : Int → Bool) : Prop
 | mk (o : Obj) (ho : h.get? a = some o) (es : Array (Int × Value)) (ep : Nat) (t : SetTable) (e : o = { cls := .type T, dict := Option.none, data := .set es ep t, slots := #[] }) (D : zad w es t S)
theorem zav.of (ho : h.get? a = some o) (f : zgL w o T S) : zav w h a T S := by
 obtain ⟨es, ep, t, e, D⟩ := f; exact ⟨o, ho, es, ep, t, e, D⟩
theorem zav.obj (x : zav w h a T S) : ∃ o, h.get? a = some o ∧ zgL w o T S := by
 obtain ⟨o, ho, es, ep, t, e, D⟩ := x; exact ⟨o, ho, es, ep, t, e, D⟩
theorem zav.congr (x : zav w h a T S) (e : ∀ i, S' i = S i) : zav w h a T S' := by
 have : S' = S := funext e
 rw [this]; exact x
theorem zav.move (x : zav w h a T S) (e : ∀ o, h.get? a = some o → h'.get? a = some o) : zav w h' a T S := by
 obtain ⟨o, ho, es, ep, t, q, D⟩ := x; exact ⟨o, e o ho, es, ep, t, q, D⟩
section
variable {A : Around} {E : QV} {s : Shared} {a : Addr} {T : String} {S : Int → Bool}
theorem find_none (D : zad w es t S) (hr : List.findIdx? (fun e => (intKind pw w).is i e.2) es.toList = none) : S i = false := by
 cases hk : S i with
 | false => rfl
 | true => obtain ⟨e, he, hp⟩ := (D.is i).mp hk; have := List.findIdx?_eq_none_iff.mp hr e he; replace this := (hp) ▸ this; exact Bool.noConfusion this
theorem find_some (D : zad w es t S) (hr : List.findIdx? (fun e => (intKind pw w).is i e.2) es.toList = some j) : S i = true := by
 obtain ⟨hj, hpj, V⟩ := List.findIdx?_eq_some_iff_getElem.mp hr
 exact (D.is i).mpr ⟨es.toList[j], List.getElem_mem hj, hpj⟩
theorem ziR {i : Int} {tk : Tok} {Q : Bool → Shared → Prop} (h : zav w s.heap a T S) (h0 : 0 ≤ i) (h1 : i < 16)
  (k : ∀ h', Heap.SameBut a s.heap h' → zav w h' a T (fun j => S j || decide (j = i)) → Q (!S i) { s with heap := h' }) :
  wpAny (model pw w) A (setAddHashed a (.int i tk) i) Q E s := by
 kcf_m
 obtain ⟨o, ho, es, ep, t, rfl, D⟩ := h
 kcj_m
 have hf := D.fits
 have hel := D.elems
 have hh : (intKind pw w).hash i = i := zda h0 h1
 skip
 refine wpAny_holding (wpAny_bind (wpAny_setState_of ho rfl hf ?_))
 dsimp only
 exists byScan_of rfl D.bound hel
 skip
 skip
 refine wpAny_bind ?_
 refine wpAny_bind (wpAny_rule ?_)
 have hscan := fun Q' => wpAny_setScan_of (E := E) (A := A) (knd := intKind pw w) (k := i) (x := .int i tk) (adding := true) (Q := Q') (intKind_is _ _ _ _) ho rfl hf hel
 replace hscan := (hh) ▸ hscan
 refine wpAny_bind (hscan _ ?_)
 cases hr : List.findIdx? (fun e => (intKind pw w).is i e.2) es.toList with
 | some j =>
  have hSk := find_some D hr
  refine wpAny_pure (wpAny_pure ?_)
  have := k s.heap (Heap.SameBut.refl a s.heap) (zav.congr ⟨_, ho, es, ep, t, rfl, D⟩ fun j => by
   by_cases hj : j = i
   ·cases hj; simp [hSk]
   ·simp [hj])
  rw [hSk] at this; exact this
 | none =>
  kcf_m
  obtain ⟨es1, t1, wd, e, hm1, hr1, hp1, hl1, hf1, hs1⟩ := D.ok.new D.size (es := es) (h := i) (x := .int i tk) h0 (by kd_mem)
  kcj_m
  have hperm := layNew_perm t es i (.int i tk)
  rw [e, Array.toList_push] at hperm
  exists e
  dsimp only at hperm ⊢
  have hz1 : es1.size = es.size + 1 := by
   have := hperm.length_eq
   simpa using this
  have hsm := D.small
  refine wpAny_bind (wpAny_pure ?_)
  exists hp1
  skip
  skip
  refine wpAny_bind (wpAny_pure ?_)
  simp only [show plainKind (Value.int i tk) = true from rfl, ↓reduceIte]
  refine wpAny_bind (wpAny_storeSet_of ho rfl ?_ (by exists sizeLine_eq; kd_mem))
  have fin : ∀ (es' : Array (Int × Value)) (t' : SetTable) (ep' : Nat) (h' : Heap), es'.toList.Perm es1.toList → TOk t' → t'.place.size = es'.size → t'.led = t.led → h'.get? a = some { cls := .type T, dict := none, data := .set es' ep' t', slots := #[] } → zav w h' a T (fun j => S j || decide (j = i)) := by as_aux_lemma =>
   intro es' t' ep' h' p ok sz led hg
   have p := p.trans hperm
   refine ⟨_, hg, es', ep', t', rfl, .make ok sz (fun e he => ?_) (fun j => ?_) ?_ (led.trans D.led)⟩
   ·rcases List.mem_append.mp (p.mem_iff.mp he) with he | he
    ·exact D.allInts e he
    ·exists List.mem_singleton.mp he; exact ⟨i, tk, rfl, h0, h1⟩
   ·rw [Bool.or_eq_true]; rw [D.mem j, decide_eq_true_eq]
    constructor
    ·rintro (⟨e, he, q⟩ | rfl)
     ·exact ⟨e, p.mem_iff.mpr (List.mem_append_left _ he), q⟩
     ·exact ⟨(j, .int j tk), p.mem_iff.mpr (List.mem_append_right _ (List.mem_singleton.mpr rfl)), tk, rfl⟩
    ·intro hq0'
     kcf_m
     obtain ⟨e, he, tj, q⟩ := hq0'
     kcj_m
     rcases List.mem_append.mp (p.mem_iff.mp he) with he | he
     ·exact .inl ⟨e, he, tj, q⟩
     ·as_aux_lemma =>
      as_aux_lemma =>
      replace q := (List.mem_singleton.mp he) ▸ q; injection q with q; subst q; exact .inr rfl
   ·refine (p.map _).nodup_iff.mpr ?_
    rw [List.map_append]; rw [List.nodup_append]
    refine ⟨D.nodup, by simp, fun x hx y hy => ?_⟩
    replace hy := List.mem_singleton.mp hy
    rintro rfl
    subst hy
    have := (D.fst x).mpr hx
    replace this := ((find_none D hr)) ▸ this; contradiction
  have hload := D.ok.load
  have hmask := zef _ D.ok.mask
  have hg1 : (s.heap.update a (Obj.putSet es1 t1)).get? a = some { cls := .type T, dict := none, data := .set es1 (ep + 1) t1, slots := #[] } := by
   have := Heap.get?_update_self (Obj.putSet es1 t1) ho (by rfl)
   rw [putSet_of es1 t1 rfl] at this; exact this
  have hsb1 := Heap.SameBut.update s.heap a (Obj.putSet es1 t1)
  split
  ·have hes : Hs es1 := ⟨fun e he => by
    rcases List.mem_append.mp (hperm.mem_iff.mp he) with he | he
    ·exact D.hs.all e he
    ·exists List.mem_singleton.mp he; exact ⟨h0, by show i < 32; kd_mem⟩⟩
   kcf_m
   obtain ⟨es2, t2, e2, T2, hl2, hs2, p2⟩ := zkC (t := t1) hes (by kd_mem) hp1
   kcj_m
   exists e2
   have hz2 : es2.size = es1.size := by
    have := p2.length_eq; simpa using this
   refine wpAny_bind (wpAny_pure (wpAny_bind (wpAny_storeSet_of (es' := es2) (t' := t2) hg1 rfl ?_ (by exists sizeLine_eq; kd_mem))))
   have hg2 : ((s.heap.update a (Obj.putSet es1 t1)).update a (Obj.putSet es2 t2)).get? a = some { cls := .type T, dict := none, data := .set es2 (ep + 1 + 1) t2, slots := #[] } := by
    have := Heap.get?_update_self (Obj.putSet es2 t2) hg1 (by rfl)
    rw [putSet_of es2 t2 rfl] at this; exact this
   have q := k _ (hsb1.trans (Heap.SameBut.update _ a (Obj.putSet es2 t2))) (fin es2 t2 _ _ p2 T2 (by rw [hs2, hz2]) (hl2.trans hl1) hg2)
   rw [(find_none D hr)] at q
   exact wpAny_pure (wpAny_pure q)
  ·rename_i hn
   have T1 : TOk t1 := by
    refine ⟨by exists hm1; exact D.ok.mask, ?_, hr1, hp1⟩
    cases wd with
    | true => (exists hf1; exists hm1); exact hload
    | false =>
     unfold SetTable.tooFull at hn
     simp at hn
     kd_mem
   have q := k _ hsb1 (fin es1 t1 _ _ .rfl T1 hs1 hl1 hg1)
   rw [(find_none D hr)] at q
   exact wpAny_pure (wpAny_pure q)
end
end
section

section
variable {A : Around} {E : QV} {s : Shared} {a : Addr} {T : String} {S : Int → Bool}
theorem zav.typeIs (h : zav w s.heap a T S) : s.TypeIs (.ref a) T := by obtain ⟨o, ho, es, ep, t, e, V⟩ := h; exact ⟨o, ho, by rw [e]⟩
theorem zav.ex (x : zav w h a T S) : ∃ o, h.get? a = some o := by
 obtain ⟨o, ho, V⟩ := x; exact ⟨o, ho⟩
noncomputable abbrev za0 (T : String) (es : Array (Int × Value)) (ep : Nat) (t : SetTable) : Obj := { cls := .type T, dict := none, data := .set es ep t, slots := #[] }
theorem zm (ho : s.heap.get? a = some (za0 T es ep t)) (D : zad w es t S) (h0 : 0 ≤ i) (h1 : i < 16)
  (k : Q (es.toList.findIdx? (fun e => (intKind pw w).is i e.2)) s) : wpAny (model pw w) A (setFind a (.int i tk) i) Q E s := by
 have hf := D.fits
 have hel := D.elems
 have hh : (intKind pw w).hash i = i := zda h0 h1
 skip
 refine wpAny_bind (wpAny_setState_of ho rfl hf ?_)
 dsimp only
 exists byScan_of rfl D.bound hel
 skip
 refine wpAny_bind (wpAny_rule ?_)
 have hscan := fun Q' => wpAny_setScan_of (E := E) (A := A) (knd := intKind pw w) (k := i) (x := .int i tk) (adding := false) (Q := Q') (intKind_is _ _ _ _) ho rfl hf hel
 rw [hh] at hscan
 refine wpAny_bind (hscan _ ?_)
 cases hr : List.findIdx? (fun e => (intKind pw w).is i e.2) es.toList with
 | none => rw [hr] at k; exact wpAny_pure k
 | some j => rw [hr] at k; dsimp only; rw [Nat.zero_add]; exact wpAny_pure k
theorem zhe (h : zav w s.heap a T S) (h0 : 0 ≤ i) (h1 : i < 16)
  (k : ∀ r : Option Nat, r.isSome = S i → Q r s) : wpAny (model pw w) A (setFind a (.int i tk) i) Q E s := by
 kcf_m
 obtain ⟨o, ho, es, ep, t, rfl, D⟩ := h
 kcj_m
 refine zm ho D h0 h1 (k _ ?_)
 cases hr : List.findIdx? (fun e => (intKind pw w).is i e.2) es.toList with
 | none => exists find_none D hr; rfl
 | some j => exists find_some D hr; rfl
theorem TOk.drop (T : TOk t) (hj : j < t.place.size) : zaF (TOk (t.drop j)) ((t.drop j).led = t.led) ((t.drop j).place.size + 1 = t.place.size) := by
 have he : t.drop j = { t with place := SetTable.eraseAt t.place j, dummies := SetTable.insertAt t.dummies (SetTable.below t.dummies t.place[j]) t.place[j] } := by
  unfold SetTable.drop; rw [(by simp [hj] : t.place[j]? = some t.place[j])]
 have hz := zfI hj
 exists he
 refine ⟨⟨T.mask, ?_, ?_, T.plain⟩, rfl, hz⟩
 ·have := T.load
  unfold SetTable.fill at this ⊢
  dsimp only
  rw [zc]; kd_mem
 ·dsimp only
  refine T.rising.sublist ?_
  unfold SetTable.eraseAt
  (exists Array.toList_append; exists Array.toList_extract; exists Array.toList_extract)
  skip
  have : t.place.toList = t.place.toList.take j ++ t.place.toList.drop j := (List.take_append_drop _ _).symm
  conv => rhs; rw [this]
  refine List.Sublist.append (List.Sublist.refl _) ?_
  refine (List.take_sublist _ _).trans ?_
  refine rwR List.drop_drop ?_
  exact List.drop_sublist _ _
theorem zk8 (xs : Array α) (j : Nat) (hj : j < xs.size) : Ex3 fun pre post x => zbI (xs.toList = pre ++ x :: post) (pre.length = j) ((SetTable.eraseAt xs j).toList = pre ++ post) (xs[j]? = some x) := by
 refine ⟨xs.toList.take j, xs.toList.drop (j + 1), xs[j], ?_, by simp; kd_mem, ?_, by simp [hj]⟩
 ·have : xs[j] = xs.toList[j]'(by simpa using hj) := by simp
  rw [this, ← List.drop_eq_getElem_cons (by simpa using hj), List.take_append_drop]
 ·unfold SetTable.eraseAt
  (exists Array.toList_append; exists Array.toList_extract; exists Array.toList_extract)
  skip
  congr 1
  exact List.take_of_length_le (by simp)
theorem zfH {h : Heap} (ho : h.get? a = some (za0 T es ep t)) : (h.update a (Obj.putSet es' t')).get? a = some (za0 T es' (ep + 1) t') := by
 have := Heap.get?_update_self (Obj.putSet es' t') ho (by rfl)
 rw [putSet_of es' t' rfl] at this; exact this
theorem zjH {i : Int} {tk : Tok} {Q : Bool → Shared → Prop} (h : zav w s.heap a T S) (h0 : 0 ≤ i) (h1 : i < 16)
  (k : ∀ h', Heap.SameBut a s.heap h' → zav w h' a T (fun j => S j && !decide (j = i)) → Q (S i) { s with heap := h' }) :
  wpAny (model pw w) A (setDiscardHashed a (.int i tk) i) Q E s := by
 kcf_m
 obtain ⟨o, ho, es, ep, t, rfl, D⟩ := h
 kcj_m
 skip
 refine wpAny_bind (zm ho D h0 h1 ?_)
 cases hr : List.findIdx? (fun e => (intKind pw w).is i e.2) es.toList with
 | none =>
  have hSk := find_none D hr
  have := k s.heap (Heap.SameBut.refl a s.heap) (zav.congr ⟨_, ho, es, ep, t, rfl, D⟩ fun j => by
   by_cases hj : j = i
   ·cases hj; simp [hSk]
   ·simp [hj])
  rw [hSk] at this
  exact wpAny_pure this
 | some j =>
  obtain ⟨hj, hpj, V⟩ := List.findIdx?_eq_some_iff_getElem.mp hr
  have hj' : j < es.size := by simpa using hj
  refine wpAny_bind (wpAny_setState_of ho rfl D.fits ?_)
  obtain ⟨pre, post, x, e1, e2, e3, e4⟩ := zk8 es j hj'
  have hx : es.toList[j] = x := by
   have : es[j]? = some es.toList[j] := by simp [hj']
   rw [e4] at this; exact (Option.some.inj this).symm
  rw [hx] at hpj
  have hsm := D.small
  refine wpAny_bind (wpAny_storeSet_of ho rfl ?_ (by
   have h3 := congrArg List.length e3
   have h4 := congrArg List.length e1
   simp at h3 h4
   exists sizeLine_eq; kd_mem))
  obtain ⟨T', hl, hs⟩ := D.ok.drop (j := j) (by exists D.size; exact hj')
  kcf_m
  obtain ⟨i', tk', rfl, hi0, hi1⟩ := D.allInts x (by rw [e1]; simp : x ∈ es.toList)
  kcj_m
  have hii : i' = i := (intKind pw w).inj (.int i' tk') i' i (intKind_is _ _ _ _) hpj
  subst hii
  have hnd := D.nodup
  rw [e1, List.map_append, List.map_cons, List.nodup_append] at hnd
  kcf_m
  obtain ⟨n1, n2, n3⟩ := hnd
  kcj_m
  rw [List.nodup_cons] at n2
  refine wpAny_bind (wpAny_point (wpAny_pure ?_))
  have q := k _ (Heap.SameBut.update s.heap a (Obj.putSet (SetTable.eraseAt es j) (t.drop j))) ⟨_, zfH ho, _, _, _, rfl, .make T' ?_ (fun e he => ?_) (fun y => ?_) ?_ (hl.trans D.led)⟩
  ·rw [(find_some D hr)] at q; exact q
  ·have h3 := congrArg List.length e3
   have h4 := congrArg List.length e1
   have := D.size
   simp at h3 h4; kd_mem
  ·rw [e3] at he
   refine D.allInts e ?_
   exists e1
   rcases List.mem_append.mp he with he | he
   ·exact List.mem_append_left _ he
   ·exact List.mem_append_right _ (List.mem_cons_of_mem _ he)
  ·rw [Bool.and_eq_true, D.mem y, e3, Bool.not_eq_true', decide_eq_false_iff_not]
   constructor
   ·rintro ⟨⟨e, he, q, hq⟩, hne⟩
    refine ⟨e, ?_, q, hq⟩
    rw [e1] at he
    rcases List.mem_append.mp he with he | he
    ·exact List.mem_append_left _ he
    ·rcases List.mem_cons.mp he with he | he
     ·subst he; injection hq with hq; subst hq; exact absurd rfl hne
     ·exact List.mem_append_right _ he
   ·intro hq0'
    kcf_m
    obtain ⟨e, he, q, hq⟩ := hq0'
    kcj_m
    have hmem : e ∈ es.toList := by
     rw [e1]
     rcases List.mem_append.mp he with he | he
     ·exact List.mem_append_left _ he
     ·exact List.mem_append_right _ (List.mem_cons_of_mem _ he)
    refine ⟨⟨e, hmem, q, hq⟩, ?_⟩
    rintro rfl
    obtain ⟨y', ty, rfl, V⟩ := D.allInts e hmem
    cases hq
    rcases List.mem_append.mp he with he | he
    ·exact n3 _ (List.mem_map.mpr ⟨_, he, rfl⟩) _ List.mem_cons_self rfl
    ·exact n2.1 (List.mem_map.mpr ⟨_, he, rfl⟩)
  ·(exists e3; exists List.map_append)
   exact List.nodup_append.mpr ⟨n1, n2.2, fun x hx y hy => n3 x hx y (List.mem_cons_of_mem _ hy)⟩
theorem zkD {es : Array (Int × Value)} {ep : Nat} {t : SetTable} {wanted : Nat} {Q : Unit → Shared → Prop} (ho : s.heap.get? a = some (za0 T es ep t)) (D : zad w es t S)
  (h1 : SetTable.sizeAbove wanted - 1 ∈ zeg) (h2 : 5 * es.size < 3 * (SetTable.sizeAbove wanted - 1))
  (k : ∀ es' t', es'.size = es.size → t'.mask = SetTable.sizeAbove wanted - 1 → t'.fill = es.size → zad w es' t' S → Q () { s with heap := s.heap.update a (Obj.putSet es' t') }) :
  wpAny (model pw w) A (setRelay a wanted) Q E s := by
 unfold setRelay
 refine wpAny_bind (wpAny_setState_of ho rfl D.fits ?_)
 dsimp only
 have hm := zef _ h1
 exists (if_neg (by refine rwL sizeLine_eq ?_; kd_mem))
 kcf_m
 obtain ⟨t', order, e, T', hl, hs, hf, hp, hmask⟩ := ziz (t := t) D.hs h1 h2 D.ok.plain
 kcj_m
 have hperm := zdW hp
 have hz : (order.filterMap (es[·]?)).size = es.size := by
  have := hperm.length_eq; rw [Array.length_toList, Array.length_toList] at this; exact this
 exists e
 refine wpAny_bind ?_
 show wpAny _ _ (do
  let es' := order.filterMap (es[·]?)
  if es'.size != es.size then unsupported "internal:set-table-lost-an-element"
  pure (es', t')) _ _ _
 dsimp only
 rw [if_neg (by rw [hz]; simp)]
 refine wpAny_bind (wpAny_pure (wpAny_pure ?_))
 dsimp only
 refine wpAny_storeSet_of ho rfl (k _ _ hz hmask hf (D.perm hperm T' (by rw [hs, hz]) hl)) ?_
 have := D.small
 (exists hz; exists sizeLine_eq); kd_mem
theorem zo1 (h : zav w s.heap a T S) (k : ∀ h', Heap.SameBut a s.heap h' → zav w h' a T S → Q () { s with heap := h' }) : wpAny (model pw w) A (setTidy a) Q E s := by
 obtain ⟨o, ho, es, ep, t, rfl, D⟩ := h
 unfold setTidy
 refine wpAny_bind (wpAny_setState_of ho rfl D.fits ?_)
 dsimp only
 have hsm := D.small
 split
 ·obtain ⟨g1, g2⟩ := zj6 es.size (List.mem_range.mpr (by kd_mem))
  refine zkD ho D g1 g2 fun es' t' V V V D' => ?_
  exact k _ (Heap.SameBut.update s.heap a _) ⟨_, zfH ho, _, _, _, rfl, D'⟩
 ·exact wpAny_pure (k s.heap (Heap.SameBut.refl _ _) ⟨_, ho, _, _, _, rfl, D⟩)
end
end
section

theorem zha {α : Type} : ∀ {l : List α} {i : Nat} {x : α}, l[i]? = some x → (x :: l.eraseIdx i).Perm l
 | [], _, _, h => by contradiction
 | a :: l, 0, x, h => by replace h := Option.some.inj h; subst h; exact .refl _
 | a :: l, i + 1, x, h => by
  exists List.eraseIdx_cons_succ
  exact (List.Perm.swap a x _).trans ((zha (by simpa using h)).cons a)
theorem zmu {α : Type} (next : Nat → Nat) : ∀ (fuel k : Nat) (left : List α) (out : Array α), left.length ≤ fuel → (pickOrder.go next fuel k left out).toList.Perm (out.toList ++ left)
 | 0, k, left, out, h => by
  obtain rfl : left = [] := List.length_eq_zero_iff.mp (Nat.le_zero.mp h)
  exact List.Perm.of_eq (List.append_nil _).symm
 | fuel + 1, k, left, out, h => by
  show (match left[next k % left.length]? with | some x => pickOrder.go next fuel (k + 1) (left.eraseIdx (next k % left.length)) (out.push x) | none => out).toList.Perm _
  cases hx : left[next k % left.length]? with
  | none =>
   have : left = [] := by
    rcases Nat.eq_zero_or_pos left.length with q | q
    ·exact List.length_eq_zero_iff.mp q
    ·have := Nat.mod_lt (next k) q
     rw [List.getElem?_eq_none_iff] at hx; kd_mem
   subst this; simp
  | some x =>
   refine (zmu next fuel (k + 1) (left.eraseIdx (next k % left.length)) (out.push x) (by (exists List.length_eraseIdx; exists if_pos ((List.getElem?_eq_some_iff.mp hx).1)); kd_mem)).trans ?_
   rw [Array.toList_push, List.append_assoc]
   exact List.Perm.append_left _ (zha hx)
theorem zix (next : Nat → Nat) (xs : Array α) : (pickOrder next xs).toList.Perm xs.toList := by
 have := zmu next xs.size 0 xs.toList #[] (by simp)
 unfold pickOrder
 simpa using this
section
variable {A : Around} {E : QV} {s : Shared} {a : Addr} {T : String} {S : Int → Bool}
theorem zqo (ho : s.heap.get? a = some (za0 T es ep t)) (D : zad w es t S)
  (k : ∀ arr : Array (Int × Value), arr.toList.Perm es.toList → Q arr s) : wpAny (model pw w) A (setWalk a) Q E s := by
 skip
 refine wpAny_bind (wpAny_setState_of ho rfl D.fits ?_)
 refine wpAny_bind (wpAny_bind (wpAny_askSetting (wpAny_pure ?_)))
 split
 ·exact wpAny_bind (wpAny_askSetting (wpAny_pure (k _ (zix _ _))))
 ·rename_i hb
  have hb : w.params.followText "set-order" = false := Bool.eq_false_iff.mpr hb
  have hled : t.led = true := by (exists D.led; exists hb); rfl
  split
  ·rename_i h
   have h : (!t.plain && decide (es.size > 1)) = true := h
   replace h := (D.ok.plain) ▸ h; exact Bool.noConfusion h
  ·refine wpAny_bind ?_
   show wpAny _ _ (do
    if (!t.led && decide (es.size > 1)) = true then unsupported "set:maker-not-led"
    pure PUnit.unit) _ _ _
   exists hled
   exact wpAny_pure (wpAny_pure (k _ (.refl _)))
theorem zgk (ho : s.heap.get? a = some (za0 T es ep t)) (D : zad w es t S)
  (k : ∀ arr : Array (Int × Value), arr.toList.Perm es.toList → Q arr s) : wpAny (model pw w) A (setWalkUnseen a others filled) Q E s := by
 skip
 refine wpAny_bind (wpAny_setState_of ho rfl D.fits ?_)
 refine wpAny_bind (wpAny_bind (wpAny_askSetting (wpAny_pure ?_)))
 have : (w.params.followText "set-order" || t.led && t.plain || decide (es.size ≤ 1)) = true := by
  (exists D.led; exists D.ok.plain)
  cases w.params.followText "set-order" <;> rfl
 refine wpAny_ite_true (decide_eq_true this) ?_
 exact zqo ho D k
theorem zp9 (ho : s.heap.get? a = some (za0 T es ep t)) (D : zad w es t S) (hm : more ≤ 16)
  (k : ∀ h' es' ep' t', Heap.SameBut a s.heap h' → h'.get? a = some (za0 T es' ep' t') → zad w es' t' S → 5 * (t'.fill + more) < 3 * t'.mask → Q () { s with heap := h' }) : wpAny (model pw w) A (setRoomFor a more) Q E s := by
 unfold setRoomFor
 refine wpAny_bind (wpAny_setState_of ho rfl D.fits ?_)
 dsimp only
 have hs := D.small
 unfold SetTable.roomFor
 split
 ·rename_i wanted he
  split at he
  ·obtain rfl := Option.some.inj he
   have hz := D.size
   obtain ⟨g1, g2⟩ := zq (es.size + more) (List.mem_range.mpr (by kd_mem))
   exists hz
   refine zkD ho D g1 (by kd_mem) fun es' t' h1 h2 h3 D' => ?_
   exact k _ _ _ _ (Heap.SameBut.update s.heap a _) (zfH ho) D' (by (exists h2; exists h3); exact g2)
  ·contradiction
 ·rename_i he
  split at he
  ·exact (he _ rfl).elim
  ·rename_i hf
   exact wpAny_pure (k s.heap _ _ _ (Heap.SameBut.refl _ _) ho D (by kd_mem))
def anyE (l : List (Int × Value)) (j : Int) : Prop := ∃ e ∈ l, ∃ tk, e.2 = .int j tk
def zd7 (l : List (Int × Value)) : Prop := ∀ e ∈ l, Ex2 fun i tk => zaF (e = (i, .int i tk)) (0 ≤ i) (i < 16)
theorem zcy : anyE ((i, .int i tk) :: l) j ↔ j = i ∨ anyE l j := by
 constructor
 ·rintro ⟨e, he, t, q⟩
  rcases List.mem_cons.mp he with he | he
  ·subst he; injection q with q; subst q; exact .inl rfl
  ·exact .inr ⟨e, he, t, q⟩
 ·rintro (rfl | ⟨e, he, t, q⟩)
  ·exact ⟨_, List.mem_cons_self, tk, rfl⟩
  ·exact ⟨e, List.mem_cons_of_mem _ he, t, q⟩
theorem zad.anyE (D : zad w es t S) (p : arr.Perm es.toList) (j : Int) : Mine.anyE arr j ↔ S j = true :=
 ⟨fun ⟨e, he, q⟩ => (D.mem j).mpr ⟨e, p.mem_iff.mp he, q⟩, fun h => let ⟨e, he, q⟩ := (D.mem j).mp h; ⟨e, p.mem_iff.mpr he, q⟩⟩
theorem zad.intEs (D : zad w es t S) (p : arr.Perm es.toList) : zd7 arr := fun e he => D.allInts e (p.mem_iff.mp he)
theorem zav.eq_of (x : zav w h a T S) (e : ∀ j, S j = true ↔ S' j = true) : zav w h a T S' :=
 x.congr fun j => by have := e j; cases h1 : S j <;> cases h2 : S' j <;> simp_all
theorem ziu (h : zav w s.heap a T S) (h2 : zav w s.heap b U O) (hne : a ≠ b)
  (heach : ∀ h' (Q' : Unit → Shared → Prop), h'.get? b = s.heap.get? b → Q' () { s with heap := h' } → wpAny (model pw w) A each Q' E { s with heap := h' })
  (k : ∀ h', Heap.SameBut a s.heap h' → zav w h' a T (fun j => S j || O j) → Q () { s with heap := h' }) : wpAny (model pw w) A (setMerge a b each) Q E s := by
 obtain ⟨o, ho, es, ep, t, rfl, D⟩ := h
 kcf_m
 obtain ⟨o2, ho2, eo, epo, to, rfl, DO⟩ := h2
 kcj_m
 unfold setMerge
 exists (if_neg (by simpa using hne))
 refine wpAny_bind (wpAny_setState_of ho2 rfl DO.fits ?_)
 dsimp only
 by_cases hem : eo.isEmpty = true
 ·rw [if_pos hem]
  refine wpAny_pure (k s.heap (Heap.SameBut.refl _ _) (zav.eq_of ⟨_, ho, es, ep, t, rfl, D⟩ fun j => ?_))
  have : O j = false := by
   rw [Bool.eq_false_iff]; intro hj
   obtain ⟨e, he, _⟩ := (DO.mem j).mp hj
   have : eo = #[] := by simpa using hem
   rw [this] at he; simp at he
  simp [this]
 rw [if_neg hem]
 refine wpAny_bind (zp9 ho D DO.small fun h1 es1 ep1 t1 sb1 hg1 D1 hroom => ?_)
 refine wpAny_bind (wpAny_setState_of hg1 rfl D1.fits ?_)
 have ho2' : h1.get? b = some (za0 U eo epo to) := (sb1.2 b (Ne.symm hne)).trans ho2
 have hsmO := DO.small
 have hledeq : (t1.led && to.led) = !w.params.followText "set-order" := by rw [D1.led, DO.led, Bool.and_self]
 cases hr : t1.road to with
 | slotForSlot =>
  dsimp only
  unfold SetTable.road at hr
  split at hr
  ·contradiction
  rename_i hfill
  have hfill : t1.fill = 0 := by simpa using hfill
  split at hr
  ·rename_i hmd
   refine wpAny_storeSet_of hg1 rfl (k _ (sb1.trans (Heap.SameBut.update h1 a _)) (zav.eq_of (S := O) ⟨_, zfH hg1, _, _, _, rfl, .make ⟨DO.ok.mask, DO.ok.load, DO.ok.rising, by show (t1.plain && to.plain) = true; (exists D1.ok.plain; exists DO.ok.plain); rfl⟩ DO.size DO.allInts DO.mem DO.nodup hledeq⟩ fun j => ?_)) (by rw [sizeLine_eq]; kd_mem)
   have : S j = false := by
    rw [Bool.eq_false_iff]; intro hj
    obtain ⟨e, he, _⟩ := (D1.mem j).mp hj
    have hz := D1.size
    unfold SetTable.fill at hfill
    have : es1.size = 0 := by kd_mem
    have : es1 = #[] := Array.eq_empty_of_size_eq_zero this
    rw [this] at he; simp at he
   simp [this]
  ·contradiction
 | clean =>
  dsimp only
  unfold SetTable.road at hr
  split at hr
  ·contradiction
  rename_i hfill
  have hfill : t1.fill = 0 := by simpa using hfill
  obtain ⟨t', order, e, hm', hri, hd, hl, hp, hs, hperm⟩ := zmi D1.ok.mask (hashes := eo.map (fun V => V.1)) (by simp; kd_mem) DO.hs.hashes t1.finger t1.moves (t1.led && to.led) (t1.plain && to.plain)
  simp only [Array.size_map] at hs hperm
  have hpe := zdW hperm
  have hz : (order.filterMap (eo[·]?)).size = eo.size := by
   have := hpe.length_eq; rw [Array.length_toList, Array.length_toList] at this; exact this
  exists e
  refine wpAny_bind ?_
  show wpAny _ _ (do
   let es' := order.filterMap (eo[·]?)
   if es'.size != eo.size then unsupported "internal:set-table-lost-an-element"
   pure (es', t')) _ _ _
  dsimp only
  rw [if_neg (by rw [hz]; simp)]
  refine wpAny_bind (wpAny_pure (wpAny_pure ?_))
  dsimp only
  have T' : TOk t' := ⟨by rw [hm']; exact D1.ok.mask, by
   have : t'.fill = eo.size := by unfold SetTable.fill; (exists hd; exists hs); rfl
   (exists this; exists hm'); kd_mem, hri, by (exists hp; exists D1.ok.plain; exists DO.ok.plain); rfl⟩
  refine wpAny_storeSet_of hg1 rfl (k _ (sb1.trans (Heap.SameBut.update h1 a _)) (zav.eq_of (S := O) ⟨_, zfH hg1, _, _, _, rfl, DO.perm hpe T' (by rw [hs, hz]) (by rw [hl, D1.led, DO.led, Bool.and_self])⟩ fun j => ?_)) (by rw [sizeLine_eq]; kd_mem)
  have : S j = false := by
   rw [Bool.eq_false_iff]; intro hj
   obtain ⟨e, he, _⟩ := (D1.mem j).mp hj
   have hz := D1.size
   unfold SetTable.fill at hfill
   have : es1.size = 0 := by kd_mem
   have : es1 = #[] := Array.eq_empty_of_size_eq_zero this
   rw [this] at he; simp at he
  simp [this]
 | oneByOne =>
  dsimp only
  refine wpAny_bind (zgk ho2' DO fun arr hp => ?_)
  refine wpAny_bind (wpAny_forIn_array' _ (fun rest _ s' => zd7 rest ∧ Ex2 fun h' S' => zbI (s' = { s with heap := h' }) (Heap.SameBut a s.heap h') (zav w h' a T S') (∀ j, (S' j = true ∨ anyE rest j) ↔ (S j || O j) = true)) _ ?_ ?_ arr _ ⟨DO.intEs hp, h1, S, rfl, sb1, ⟨_, hg1, _, _, _, rfl, D1⟩, fun j => by rw [DO.anyE hp, Bool.or_eq_true]⟩)
  ·rintro ⟨h, x⟩ rest _ s' ⟨hi, h', S', rfl, sb', hS', hj⟩
   obtain ⟨i, tk, e, hi0, hi1⟩ := hi _ List.mem_cons_self
   cases e
   refine wpAny_bind (wpAny_holding (ziR hS' hi0 hi1 fun h3 sb3 hS3 => ?_))
   refine wpAny_bind (heach h3 _ ((sb3.2 b (Ne.symm hne)).trans (sb'.2 b (Ne.symm hne)) : h3.get? b = s.heap.get? b) ?_)
   refine wpAny_bind (wpAny_setState_of (s := { s with heap := h3 }) (((sb3.2 b (Ne.symm hne)).trans (sb'.2 b (Ne.symm hne)) : h3.get? b = s.heap.get? b).trans ho2) rfl DO.fits ?_)
   simp only [bne_self_eq_false, Bool.false_eq_true, ↓reduceIte]
   refine wpAny_pure ⟨fun e he => hi e (List.mem_cons_of_mem _ he), h3, _, rfl, sb'.trans sb3, hS3, fun j => ?_⟩
   rw [← hj j, zcy, Bool.or_eq_true, decide_eq_true_eq]
   constructor
   ·rintro ((h | h) | h)
    ·exact .inl h
    ·exact .inr (.inl h)
    ·exact .inr (.inr h)
   ·rintro (h | h | h)
    ·exact .inl (.inl h)
    ·exact .inl (.inr h)
    ·exact .inr h
  ·rintro _ s' ⟨_, h', S', rfl, sb', hS', hj⟩
   refine wpAny_pure (k h' sb' (hS'.eq_of fun j => ?_))
   rw [← hj j]
   exact ⟨.inl, fun h => h.elim id fun ⟨e, he, _⟩ => by simp at he⟩
end
end
section

theorem zhM : isSubtype (.type "frozenset") (.type "set") = pure false := by kernel_rfl
theorem zbf : isSubtype (.type "frozenset") (.type "frozenset") = pure true := by kernel_rfl
theorem zdJ : Manifest.owners.lookup (String.ofList ['t', 'e', 's', 'n', 'e', 'z', 'o', 'r', 'f'].reverse) = some Manifest.sig_frozenset := by kpf_c
theorem zhG : Slot "frozenset" (dunder "or") "frozenset.__or__" :=
 .of (owner := "frozenset") (n := "__or__") (by kernel_rfl) (by decide +kernel) (by decide +kernel) (by decide +kernel)
  (by first | exact .inl (by decide +kernel) | exact .inr (by decide +kernel)) zbf
theorem zj5 : fillsNumberSlot (.type "frozenset") "or" = pure true :=
 fillsNumberSlot_of (id := "frozenset.__or__") (r := some (.builtin "frozenset.__ror__")) (by kernel_rfl) (by decide +kernel) (by kernel_rfl)
theorem zkY (a b : Value) : argsOk "frozenset.__or__" ⟨[a, b], []⟩ := by
 unfold argsOk; rw [signature?_of (id := "frozenset.__or__") (n := ['_', '_', 'r', 'o', '_', '_']) (o := ['t', 'e', 's', 'n', 'e', 'z', 'o', 'r', 'f']) (by kpf_c) zdJ]; kernel_rfl
theorem zgD : Slot "frozenset" (dunder "sub") "frozenset.__sub__" :=
 .of (owner := "frozenset") (n := "__sub__") (by kernel_rfl) (by decide +kernel) (by decide +kernel) (by decide +kernel)
  (by first | exact .inl (by decide +kernel) | exact .inr (by decide +kernel)) zbf
theorem zi5 : fillsNumberSlot (.type "frozenset") "sub" = pure true :=
 fillsNumberSlot_of (id := "frozenset.__sub__") (r := some (.builtin "frozenset.__rsub__")) (by kernel_rfl) (by decide +kernel) (by kernel_rfl)
theorem zjA (a b : Value) : argsOk "frozenset.__sub__" ⟨[a, b], []⟩ := by
 unfold argsOk; rw [signature?_of (id := "frozenset.__sub__") (n := ['_', '_', 'b', 'u', 's', '_', '_']) (o := ['t', 'e', 's', 'n', 'e', 'z', 'o', 'r', 'f']) (by kpf_c) zdJ]; kernel_rfl
theorem zhF : Slot "frozenset" (cmpInfo .NotEq).2.1 "frozenset.__ne__" :=
 .of (owner := "frozenset") (n := "__ne__") (by kernel_rfl) (by decide +kernel) (by decide +kernel) (by decide +kernel)
  (by first | exact .inl (by decide +kernel) | exact .inr (by decide +kernel)) zbf
theorem zkX (a b : Value) : argsOk "frozenset.__ne__" ⟨[a, b], []⟩ := by
 unfold argsOk; rw [signature?_of (id := "frozenset.__ne__") (n := ['_', '_', 'e', 'n', '_', '_']) (o := ['t', 'e', 's', 'n', 'e', 'z', 'o', 'r', 'f']) (by kpf_c) zdJ]; kernel_rfl
theorem zcF : Slot "frozenset" "__contains__" "frozenset.__contains__" :=
 .of (owner := "frozenset") (n := "__contains__") (by kernel_rfl) (by decide +kernel) (by decide +kernel) (by decide +kernel)
  (by first | exact .inl (by decide +kernel) | exact .inr (by decide +kernel)) zbf
theorem zfS (a b : Value) : argsOk "frozenset.__contains__" ⟨[a, b], []⟩ := by
 unfold argsOk; rw [signature?_of (id := "frozenset.__contains__") (n := ['_', '_', 's', 'n', 'i', 'a', 't', 'n', 'o', 'c', '_', '_']) (o := ['t', 'e', 's', 'n', 'e', 'z', 'o', 'r', 'f']) (by kpf_c) zdJ]; kernel_rfl
theorem zjM : entryFor table "frozenset.__or__" = some Builtin.«frozenset.__or__» := entryFor_of_tree (by kpf_c)
theorem zi0 : entryFor table "frozenset.__sub__" = some Builtin.«frozenset.__sub__» := entryFor_of_tree (by kpf_c)
theorem zjL : entryFor table "frozenset.__ne__" = some Builtin.«frozenset.__ne__» := entryFor_of_tree (by kpf_c)
theorem zff : entryFor table "frozenset.__contains__" = some Builtin.«frozenset.__contains__» := entryFor_of_tree (by kpf_c)
noncomputable def card (S : Int → Bool) : Nat := ((List.range 16).filter fun n => S (Int.ofNat n)).length
theorem zad.card (D : zad w es t S) : es.size = Mine.card S := by
 have h1 : ∀ x ∈ es.toList.map (fun V => V.1), x ∈ ((List.range 16).filter fun n => S (Int.ofNat n)).map Int.ofNat := by
  intro x hx
  have hS := (D.fst x).mpr hx
  obtain ⟨h0, h1⟩ := D.range hS
  obtain ⟨n, rfl⟩ := Int.eq_ofNat_of_zero_le h0
  exact List.mem_map.mpr ⟨n, List.mem_filter.mpr ⟨List.mem_range.mpr (by kd_mem), hS⟩, rfl⟩
 have h2 : ∀ x ∈ ((List.range 16).filter fun n => S (Int.ofNat n)).map Int.ofNat, x ∈ es.toList.map (fun V => V.1) := by
  intro x hx
  obtain ⟨n, hn, rfl⟩ := List.mem_map.mp hx
  exact (D.fst _).mp (List.mem_filter.mp hn).2
 have h3 : (((List.range 16).filter fun n => S (Int.ofNat n)).map Int.ofNat).Nodup := by
  have : ((List.range 16).filter fun n => S (Int.ofNat n)).Nodup := List.nodup_range.sublist List.filter_sublist
  unfold List.Nodup at this ⊢
  rw [List.pairwise_map]
  exact this.imp fun h e => h (Int.ofNat.inj e)
 have l1 := zc4 _ _ D.nodup h1
 have l2 := zc4 _ _ h3 h2
 simp only [List.length_map] at l1 l2
 skip
 simp at l1 l2 ⊢; exact Nat.le_antisymm ‹_› ‹_›
noncomputable def zaI (w : World) (T : String) : Obj := za0 T #[] 0 (.fresh 0 0 (!w.params.followText "set-order"))
theorem zhg (w : World) (b : Bool) (hb : b = !w.params.followText "set-order") : zad w #[] (.fresh 0 0 b) (fun V => false) :=
 .make ⟨by show 7 ∈ zeg; decide, by show 5 * 0 < 3 * 7; decide, List.Pairwise.nil, rfl⟩ rfl (by simp) (by simp) (by simp) (by exists hb; rfl)
section
variable {A : Around} {E : QV} {s : Shared} {a : Addr} {T : String} {S : Int → Bool}
theorem zeb (h : Heap) (T : String) : zav w (h.push (zaI w T)) h.objs.size T (fun V => false) := ⟨_, Heap.get?_push_size _ rfl, _, _, _, rfl, zhg w _ rfl⟩
theorem zfz (k : Q (.ref s.heap.objs.size) { s with heap := s.heap.push (zaI w T) }) : wpAny (model pw w) A (newSet (.type T)) Q E s := by
 skip
 refine wpAny_bind (wpAny_bind (wpAny_askSetting (wpAny_pure ?_)))
 skip
 exact wpAny_bind (wpAny_alloc (wpAny_pure k))
structure zby (w : World) (s : Shared) (h' : Heap) (T : String) (S : Int → Bool) : Prop where
 at_ : zav w h' s.heap.objs.size T S
 grows : ∀ b o, s.heap.get? b = some o → h'.get? b = some o
theorem zlY (h : s.TypeIs (.ref a) "frozenset") (k : Q (.type "frozenset") s) : wpAny (model pw w) A (Builtin.Frozenset.baseOf a) Q E s := by
 unfold Builtin.Frozenset.baseOf
 exact wpAny_bind (wpAny_isInstance h zhM (wpAny_pure k))
theorem ze (h : s.TypeIs v "frozenset") (k : Q true s) : wpAny (model pw w) A (Builtin.Frozenset.isAnySet v) Q E s := by
 unfold Builtin.Frozenset.isAnySet
 exact wpAny_bind (wpAny_isInstance h zhM (wpAny_isInstance h zbf k))
theorem znm {h h' : Heap} (sb : Heap.SameBut h.objs.size (h.push o) h') : ∀ b x, h.get? b = some x → h'.get? b = some x := fun b x e =>
 (sb.2 b (Nat.ne_of_lt (Heap.lt_size e))).trans (Heap.get?_push_of_some _ e)
theorem zl0 (h : zav w s.heap a "frozenset" S) (k : ∀ h', zby w s h' "frozenset" S → Q (.ref s.heap.objs.size) { s with heap := h' }) : wpAny (model pw w) A (Builtin.Frozenset.copyOf a) Q E s := by
 unfold Builtin.Frozenset.copyOf
 refine wpAny_bind (zlY h.typeIs (wpAny_bind (zfz ?_)))
 refine wpAny_bind ?_
 skip
 refine wpAny_pure (wpAny_bind ?_)
 obtain ⟨o, ho⟩ := h.ex
 refine ziu (zeb _ _) (h.move fun o e => Heap.get?_push_of_some _ e) (Ne.symm (Nat.ne_of_lt (Heap.lt_size ho))) (fun h' Q' V q => wpAny_pure q) fun h' sb hs => ?_
 exact wpAny_pure (k h' ⟨hs.eq_of fun j => by rfl, znm sb⟩)
theorem zdD (ho : s.heap.get? a = some (za0 T es ep t)) (D : zad w es t S) (k : Q ep s) : wpAny (model pw w) A (setEpoch a) Q E s := wpAny_setEpoch_of ho rfl D.fits k
theorem zcx {id : String} (ho : s.heap.get? a = some (za0 T es ep t)) (D : zad w es t S) (k : Q () s) : wpAny (model pw w) A (Builtin.Frozenset.unchanged id a ep) Q E s := by
 unfold Builtin.Frozenset.unchanged
 refine wpAny_bind (zdD ho D ?_)
 simp only [bne_self_eq_false, Bool.false_eq_true, ↓reduceIte]
 exact wpAny_pure k
theorem zc0 (ho : s.heap.get? a = some (za0 T es ep t)) (D : zad w es t S) (k : Q es.size s) : wpAny (model pw w) A (Builtin.Frozenset.sizeOf a) Q E s := by
 skip
 exact wpAny_bind (wpAny_bind (wpAny_setState_of ho rfl D.fits (wpAny_pure (wpAny_pure k))))
theorem zlO {id : String} {b : Addr} {O : Int → Bool} {h' : Heap} {Q : QV} (h : zav w s.heap a "frozenset" S) (h2 : zav w s.heap b "frozenset" O) (M : zby w s h' "frozenset" S)
  (k : ∀ h', zby w s h' "frozenset" (fun j => S j || O j) → Q (.ref s.heap.objs.size) { s with heap := h' }) :
  wpAny (model pw w) A (if (Value.ref b != .ref a) = true then do
    let x ← Builtin.Frozenset.addrOf (.ref s.heap.objs.size)
    let r ← holding [.ref s.heap.objs.size] (Builtin.Frozenset.updateFrom id x (.ref b))
    pure (.ref s.heap.objs.size)
   else pure (.ref s.heap.objs.size)) Q E { s with heap := h' } := by
 have h2' : zav w h' b "frozenset" O := h2.move (M.grows b)
 kcf_m
 obtain ⟨o2, ho2, eo, epo, to, rfl, DO⟩ := h2'
 kcj_m
 by_cases hab : b = a
 ·subst hab
  have : ¬ ((Value.ref b != .ref b) = true) := by simp
  exists if_neg this
  have e : ∀ j, S j = O j := fun j => by
   obtain ⟨o1, ho1, e1, p1, t1, rfl, D1⟩ := h
   obtain ⟨o2, ho3, e2, p2, t2, e2', D2⟩ := h2
   replace ho3 := (ho1) ▸ ho3; obtain rfl := Option.some.inj ho3; cases e2'
   have h1 := (D1.mem j).trans (D2.mem j).symm
   cases hs : S j <;> cases hS : O j <;> simp_all
  exact wpAny_pure (k h' ⟨M.at_.congr fun j => by simp [e j], M.grows⟩)
 ·exists (if_pos (by simpa using hab))
  unfold Builtin.Frozenset.addrOf
  refine wpAny_bind (wpAny_pure ?_)
  refine wpAny_bind (wpAny_holding ?_)
  unfold Builtin.Frozenset.updateFrom
  refine wpAny_bind (ze (s := { s with heap := h' }) ⟨_, ho2, rfl⟩ ?_)
  skip
  skip
  refine wpAny_bind (wpAny_pure ?_)
  unfold Builtin.Frozenset.merge
  refine wpAny_bind (zdD (s := { s with heap := h' }) ho2 DO ?_)
  obtain ⟨V, hob, V⟩ := h2
  refine ziu (s := { s with heap := h' }) M.at_ ⟨_, ho2, _, _, _, rfl, DO⟩ (Ne.symm (Nat.ne_of_lt (Heap.lt_size hob))) (fun h3 Q' e q => ?_) fun h3 sb hs => wpAny_pure (k h3 ⟨hs, fun c o e => ?_⟩)
  ·exact zcx (s := { s with heap := h3 }) (e.trans ho2) DO q
  ·exact (sb.2 c (Nat.ne_of_lt (Heap.lt_size e))).trans (M.grows c o e)
theorem zjG {id : String} (h : zav w s.heap a "frozenset" S) (h2 : zav w s.heap b "frozenset" O) (hne : a ≠ b) (hc : ¬ card O / 8 > card S)
  (k : ∀ h', Heap.SameBut a s.heap h' → zav w h' a "frozenset" (fun j => S j && !O j) → Q () { s with heap := h' }) : wpAny (model pw w) A (Builtin.Frozenset.differenceUpdate id a (.ref b)) Q E s := by
 kcf_m
 obtain ⟨o, ho, es, ep, t, rfl, D⟩ := h
 kcj_m
 kcf_m
 obtain ⟨o2, ho2, eo, epo, to, rfl, DO⟩ := h2
 kcj_m
 unfold Builtin.Frozenset.differenceUpdate
 exists (if_neg (by simpa using Ne.symm hne))
 refine wpAny_bind (ze ⟨_, ho2, rfl⟩ ?_)
 skip
 skip
 refine wpAny_bind (wpAny_pure ?_)
 refine wpAny_bind (zc0 ho2 DO (wpAny_bind (zc0 ho D ?_)))
 exists (if_neg (by (refine rwL D.card ?_; refine rwL DO.card ?_); exact hc))
 refine wpAny_bind (zdD ho2 DO ?_)
 refine wpAny_bind (wpAny_holding ?_)
 refine wpAny_bind (zgk ho2 DO fun arr hp => ?_)
 refine wpAny_bind (wpAny_forIn_array' _ (fun rest V s' => zd7 rest ∧ Ex2 fun h' S' => zbI (s' = { s with heap := h' }) (Heap.SameBut a s.heap h') (zav w h' a "frozenset" S') (∀ j, (S' j = true ∧ ¬ anyE rest j) ↔ (S j && !O j) = true)) _ ?_ ?_ arr _ ⟨DO.intEs hp, s.heap, S, rfl, .refl _ _, ⟨_, ho, _, _, _, rfl, D⟩, fun j => by rw [DO.anyE hp, Bool.and_eq_true, Bool.not_eq_true', Bool.not_eq_true]⟩)
 ·rintro ⟨h, x⟩ rest V s' ⟨hi, h', S', rfl, sb', hS', hj⟩
  obtain ⟨i, tk, e, hi0, hi1⟩ := hi _ List.mem_cons_self
  cases e
  refine wpAny_bind (wpAny_holding (zjH hS' hi0 hi1 fun h3 sb3 hS3 => ?_))
  have hb3 : h3.get? b = s.heap.get? b := (sb3.2 b (Ne.symm hne)).trans (sb'.2 b (Ne.symm hne))
  refine wpAny_bind (zcx (s := { s with heap := h3 }) (hb3.trans ho2) DO ?_)
  refine wpAny_pure ⟨fun e he => hi e (List.mem_cons_of_mem _ he), h3, _, rfl, sb'.trans sb3, hS3, fun j => ?_⟩
  rw [← hj j, zcy, Bool.and_eq_true, Bool.not_eq_true', decide_eq_false_iff_not, not_or, and_assoc]
 ·rintro V s' ⟨V, h', S', rfl, sb', hS', hj⟩
  refine wpAny_pure ?_
  refine zo1 hS' fun h3 sb3 hS3 => k h3 (sb'.trans sb3) (hS3.eq_of fun j => ?_)
  rw [← hj j]
  exact ⟨fun h => ⟨h, fun ⟨e, he, V⟩ => by simp at he⟩, fun h => h.1⟩
theorem zg6 {id : String} {b : Addr} {O : Int → Bool} {Q : QV} (h : zav w s.heap a "frozenset" S) (h2 : zav w s.heap b "frozenset" O) (k : ∀ h', zby w s h' "frozenset" (fun j => S j && !O j) → Q (.ref s.heap.objs.size) { s with heap := h' }) :
  wpAny (model pw w) A (Builtin.Frozenset.difference id a (.ref b)) Q E s := by
 kcf_m
 kcf_m
 obtain ⟨o, ho, es, ep, t, rfl, D⟩ := h
 kcj_m
 kcj_m
 kcf_m
 obtain ⟨o2, ho2, eo, epo, to, rfl, DO⟩ := h2
 kcj_m
 have hA : zav w s.heap a "frozenset" S := ⟨_, ho, _, _, _, rfl, D⟩
 have hB : zav w s.heap b "frozenset" O := ⟨_, ho2, _, _, _, rfl, DO⟩
 skip
 refine wpAny_bind (ze ⟨_, ho2, rfl⟩ ?_)
 simp only [Bool.not_true, Bool.false_eq_true, ↓reduceIte, Bool.false_and]
 refine wpAny_bind ?_
 exists (show Builtin.Frozenset.addrOf (.ref b) = pure b from rfl)
 refine wpAny_pure ?_
 refine wpAny_bind (zc0 ho2 DO (wpAny_bind (zc0 ho D ?_)))
 split
 ·rename_i hlt
  refine wpAny_bind (wpAny_rule ?_)
  refine wpAny_bind (zl0 hA fun h' M => ?_)
  have hlt : es.size / 4 > eo.size := (hlt)
  exists (show Builtin.Frozenset.addrOf (.ref s.heap.objs.size) = pure s.heap.objs.size from rfl)
  refine wpAny_bind (wpAny_pure ?_)
  refine wpAny_bind (wpAny_holding ?_)
  refine zjG (s := { s with heap := h' }) M.at_ (hB.move (M.grows b)) (Ne.symm (Nat.ne_of_lt (Heap.lt_size ho2))) (by (refine rwR D.card ?_; refine rwR DO.card ?_); kd_mem) fun h3 sb hs => wpAny_pure (k h3 ⟨hs, fun c o e => ?_⟩)
  exact (sb.2 c (Nat.ne_of_lt (Heap.lt_size e))).trans (M.grows c o e)
 ·refine wpAny_bind (zlY ⟨_, ho, rfl⟩ (wpAny_bind (zfz ?_)))
  exists (show Builtin.Frozenset.addrOf (.ref s.heap.objs.size) = pure s.heap.objs.size from rfl)
  refine wpAny_bind (wpAny_pure ?_)
  have gr : ∀ c o, s.heap.get? c = some o → (s.heap.push (zaI w "frozenset")).get? c = some o := fun c o e => Heap.get?_push_of_some _ e
  refine wpAny_bind (zdD (s := { s with heap := s.heap.push (zaI w "frozenset") }) (gr _ _ ho) D ?_)
  refine wpAny_bind (wpAny_holding ?_)
  refine wpAny_bind (zgk (s := { s with heap := s.heap.push (zaI w "frozenset") }) (gr _ _ ho) D fun arr hp => ?_)
  refine wpAny_bind (wpAny_forIn_array' _ (fun rest _ s' => zd7 rest ∧ Ex2 fun h' S' => zbI (s' = { s with heap := h' }) ((∀ c o, s.heap.get? c = some o → h'.get? c = some o)) (zav w h' s.heap.objs.size "frozenset" S') (∀ j, (S' j = true ∨ (anyE rest j ∧ O j = false)) ↔ (S j && !O j) = true)) _ ?_ ?_ arr _ ⟨D.intEs hp, _, _, rfl, gr, zeb _ _, fun j => by rw [D.anyE hp, Bool.and_eq_true, Bool.not_eq_true']; simp⟩)
  ·rintro ⟨i, x⟩ rest _ s' ⟨hi, h', S', rfl, gr', hS', hj⟩
   obtain ⟨_, tk, e, hi0, hi1⟩ := hi _ List.mem_cons_self
   cases e
   refine wpAny_bind (wpAny_holding (wpAny_bind (zhe (s := { s with heap := h' }) (hB.move (gr' b)) hi0 hi1 fun r hr => ?_)))
   refine wpAny_bind (wpAny_pure ?_)
   exists hr
   have hi' : zd7 rest := fun e he => hi e (List.mem_cons_of_mem _ he)
   cases hO : O i with
   | true =>
    refine wpAny_pure ?_
    refine wpAny_bind (zcx (s := { s with heap := h' }) (gr' _ _ ho) D ?_)
    refine wpAny_pure ⟨hi', h', S', rfl, gr', hS', fun j => ?_⟩
    rw [← hj j, zcy]
    constructor
    ·rintro (h | h)
     ·exact .inl h
     ·exact .inr ⟨.inr h.1, h.2⟩
    ·rintro (h | ⟨h | h, h'⟩)
     ·exact .inl h
     ·subst h; rw [hO] at h'; exact Bool.noConfusion h'
     ·exact .inr ⟨h, h'⟩
   | false =>
    refine wpAny_bind (ziR (s := { s with heap := h' }) hS' hi0 hi1 fun h3 sb3 hS3 => wpAny_pure ?_)
    refine wpAny_bind (zcx (s := { s with heap := h3 }) ((fun c o e => (sb3.2 c (Nat.ne_of_lt (Heap.lt_size e))).trans (gr' c o e) : ∀ c o, s.heap.get? c = some o → h3.get? c = some o) _ _ ho) D ?_)
    refine wpAny_pure ⟨hi', h3, _, rfl, (fun c o e => (sb3.2 c (Nat.ne_of_lt (Heap.lt_size e))).trans (gr' c o e) : ∀ c o, s.heap.get? c = some o → h3.get? c = some o), hS3, fun j => ?_⟩
    rw [← hj j, zcy, Bool.or_eq_true, decide_eq_true_eq]
    constructor
    ·rintro ((h | h) | h)
     ·exact .inl h
     ·exact .inr ⟨.inl h, h ▸ hO⟩
     ·exact .inr ⟨.inr h.1, h.2⟩
    ·rintro (h | ⟨h | h, h'⟩)
     ·exact .inl (.inl h)
     ·exact .inl (.inr h)
     ·exact .inr ⟨h, h'⟩
  ·rintro _ s' ⟨_, h', S', rfl, gr', hS', hj⟩
   refine wpAny_pure (wpAny_pure (k h' ⟨hS'.eq_of fun j => ?_, gr'⟩))
   rw [← hj j]
   exact ⟨.inl, fun h => h.elim (fun x => x) fun ⟨⟨e, he, _⟩, _⟩ => by simp at he⟩
end
end
section

theorem zpd (f : Int → Nat) (z : Nat) (x y : Int) : (z ^^^ f x) ^^^ f y = (z ^^^ f y) ^^^ f x := by
 rw [Nat.xor_assoc, Nat.xor_assoc, Nat.xor_comm (f x)]
theorem zm1 (p : l.Perm l') : Builtin.Frozenset.hashOf l = Builtin.Frozenset.hashOf l' := by
 have h : ∀ (f : Int → Nat) b, l.foldl (fun acc x => acc ^^^ f x) b = l'.foldl (fun acc x => acc ^^^ f x) b := fun f b =>
  p.foldl_eq' (fun x V y V z => zpd f z x y) b
 unfold Builtin.Frozenset.hashOf
 dsimp only
 rw [h (fun x => ((x % ((2 ^ 64 : Nat) : Int)).toNat ^^^ 89869747 ^^^ (x % ((2 ^ 64 : Nat) : Int)).toNat * 2 ^ 16 % 2 ^ 64) * 3644798167 % 2 ^ 64), p.length_eq]
theorem zhv {l l' : List Int} (h : l.Nodup) (h' : l'.Nodup) (m : ∀ x, x ∈ l ↔ x ∈ l') : l.Perm l' := by
 induction l generalizing l' with
 | nil =>
  cases l' with
  | nil => exact .refl _
  | cons a r => exact absurd ((m a).mpr List.mem_cons_self) (by simp)
 | cons a l ih =>
  have ha : a ∈ l' := (m a).mp List.mem_cons_self
  rw [List.nodup_cons] at h
  refine (List.Perm.cons a (ih h.2 (h'.erase a) fun x => ?_)).trans (List.perm_cons_erase ha).symm
  rw [h'.mem_erase_iff, ← m x, List.mem_cons]
  constructor
  ·intro hx; exact ⟨fun e => h.1 (e ▸ hx), .inr hx⟩
  ·rintro ⟨hne, rfl | hx⟩
   ·exact absurd rfl hne
   ·exact hx
section
variable {A : Around} {E : QV} {s : Shared} {a : Addr} {T : String} {S : Int → Bool}
theorem zad.same_perm (D : zad w es t S) (D' : zad w es' t' S) : (es.toList.map (fun V => V.1)).Perm (es'.toList.map (fun V => V.1)) :=
 zhv D.nodup D'.nodup fun x => (D.fst x).symm.trans (D'.fst x)
theorem zcB (ho : s.heap.get? a = some (za0 T es ep t)) (D : zad w es t S) (k : Q es s) : wpAny (model pw w) A (setEntries a) Q E s := by
 unfold setEntries
 exact wpAny_bind (wpAny_setState_of ho rfl D.fits (wpAny_pure k))
theorem zh9 (ho : s.heap.get? a = some (za0 T es ep t)) (D : zad w es t S)
  (ho2 : s.heap.get? b = some (za0 T eo epo to)) (DO : zad w eo to O) (k : Q es.toList s) : wpAny (model pw w) A (Builtin.Frozenset.walkUnseen a b) Q E s := by
 unfold Builtin.Frozenset.walkUnseen
 refine wpAny_bind (zcB ho D (wpAny_bind (zcB ho2 DO ?_)))
 have hi : zd7 (es.toList ++ eo.toList) := fun e he => (List.mem_append.mp he).elim (D.allInts e) (DO.allInts e)
 refine wpAny_bind (wpAny_forIn_list _ (fun rest b s' => zaF (zd7 rest) (b.1 = none) (s' = s)) _ ?_ ?_ _ _ ⟨hi, rfl, rfl⟩)
 ·rintro ⟨i, x⟩ rest b s' ⟨hi, hb, rfl⟩
  obtain ⟨V, tk, e, V, V⟩ := hi _ List.mem_cons_self
  cases e
  skip
  refine wpAny_bind (wpAny_pure ?_)
  exact wpAny_pure ⟨fun e he => hi e (List.mem_cons_of_mem _ he), rfl, rfl⟩
 ·rintro ⟨b1, b2⟩ s' ⟨V, hb, rfl⟩
  simp only at hb
  subst hb
  exact wpAny_pure k
theorem zlJ {id : String} {b : Addr} {O : Int → Bool} {Q : Bool → Shared → Prop} (h : zav w s.heap a T S) (h2 : zav w s.heap b T O) (hc : card S ≤ card O) (k : ∀ r : Bool, (r = true ↔ ∀ j, S j = true → O j = true) → Q r s) :
  wpAny (model pw w) A (Builtin.Frozenset.subsetOf id a b) Q E s := by
 kcf_m
 obtain ⟨o, ho, es, ep, t, rfl, D⟩ := h
 kcj_m
 kcf_m
 obtain ⟨o2, ho2, eo, epo, to, rfl, DO⟩ := h2
 kcj_m
 skip
 refine wpAny_bind (zc0 ho D (wpAny_bind (zc0 ho2 DO ?_)))
 exists (if_neg (by (refine rwL D.card ?_; refine rwL DO.card ?_); exact Nat.not_lt.mpr ‹_›))
 refine wpAny_bind (zdD ho D ?_)
 refine wpAny_bind (zh9 ho D ho2 DO ?_)
 refine wpAny_bind (wpAny_forIn_list _ (fun rest b s' => zbI (zd7 rest) (b.1 = none) (s' = s) (((∀ j, anyE rest j → O j = true) ↔ ∀ j, S j = true → O j = true))) _ ?_ ?_ _ _ ⟨D.intEs (.refl _), rfl, rfl, by simp only [D.anyE (.refl _)]⟩)
 ·rintro ⟨i, x⟩ rest b s' ⟨hi, hb, rfl, hj⟩
  kcf_m
  obtain ⟨V, tk, e, hi0, hi1⟩ := hi _ List.mem_cons_self
  kcj_m
  cases e
  refine wpAny_bind (wpAny_holding (zhe ⟨_, ho2, _, _, _, rfl, DO⟩ hi0 hi1 fun r hr => ?_))
  have hi' : zd7 rest := fun e he => hi e (List.mem_cons_of_mem _ he)
  cases r with
  | none =>
   refine wpAny_pure (wpAny_pure ?_)
   exact k false ⟨fun h => (nomatch h), fun h => by
    have := hj.mpr h i (zcy.mpr (.inl rfl))
    rw [(by refine rwR hr ?_; rfl : O i = false)] at this; exact this⟩
  | some r =>
   have hO : O i = true := by refine rwR hr ?_; rfl
   refine wpAny_bind (zcx ho D ?_)
   refine wpAny_pure ⟨hi', rfl, rfl, Iff.trans ⟨fun h j hj => (zcy.mp hj).elim (fun e => e ▸ hO) (h j), fun h j hj => h j (zcy.mpr (.inr hj))⟩ hj⟩
 ·rintro ⟨b1, b2⟩ s' ⟨V, hb, rfl, hj⟩
  simp only at hb
  subst hb
  exact wpAny_pure (k true ⟨fun V => hj.mp fun j ⟨e, he, V⟩ => by simp at he, fun V => rfl⟩)
theorem zq6 {b : Addr} {O : Int → Bool} {Q : Fin → Shared → Prop} (h : zav w s.heap a "frozenset" S) (h2 : zav w s.heap b "frozenset" O) (k : ∀ r : Bool, (r = true ↔ ¬ ∀ j, S j = O j) → Q (.done (.ret (.bool r))) s) :
  wpAny (model pw w) A (Builtin.«frozenset.__ne__» ⟨[.ref a, .ref b], []⟩) Q E s := by
 have hT1 := h.typeIs
 have hT2 := h2.typeIs
 have hA := h
 have hB := h2
 obtain ⟨o, ho, es, ep, t, rfl, D⟩ := h
 obtain ⟨o2, ho2, eo, epo, to, rfl, DO⟩ := h2
 have quiet : ∀ (l : Array (Int × Value)) (f : Int × Value → PUnit → Sem (ForInStep PUnit)) (Q' : PUnit → Shared → Prop), zd7 l.toList → (∀ i tk, f (i, .int i tk) ⟨⟩ = (do let b ← pure true; if (!b) = true then (do let x ← f (i, .int i tk) ⟨⟩; pure x) else pure (.yield ⟨⟩))) → Q' ⟨⟩ s → wpAny (model pw w) A (forIn l ⟨⟩ f) Q' E s := by
  intro l f Q' hi hf hQ
  refine wpAny_forIn_array' _ (fun rest _ s' => zd7 rest ∧ s' = s) _ ?_ ?_ l _ ⟨hi, rfl⟩
  ·rintro ⟨i, x⟩ rest b s' ⟨hi, rfl⟩
   obtain ⟨_, tk, e, _, _⟩ := hi _ List.mem_cons_self
   cases e
   rw [hf]
   exact wpAny_bind (wpAny_pure (wpAny_pure ⟨fun e he => hi e (List.mem_cons_of_mem _ he), rfl⟩))
  ·rintro b s' ⟨_, rfl⟩; exact hQ
 have eqv : es.size = eo.size → ((∀ j, S j = true → O j = true) ↔ ∀ j, S j = O j) := by
  intro hz
  refine ⟨fun h j => ?_, fun h j hj => (h j) ▸ hj⟩
  cases hS : S j with
  | true => rw [h j hS]
  | false =>
   cases hO : O j with
   | false => rfl
   | true =>
    exfalso
    have hn : (j :: es.toList.map (fun V => V.1)).Nodup := List.nodup_cons.mpr ⟨fun hm => (by rw [(D.fst j).mpr hm] at hS; cases hS), D.nodup⟩
    have := zc4 _ (eo.toList.map (fun V => V.1)) hn fun x hx => by
     rcases List.mem_cons.mp hx with e | hx
     ·subst e; exact (DO.fst x).mp hO
     ·exact (DO.fst x).mp (h x ((D.fst x).mpr hx))
    simp at this; kd_mem
 wp_walk using (ze hT2), (zc0 ho D), (zc0 ho2 DO)
 split
 ·rename_i hne
  have hne : es.size ≠ eo.size := by simpa using hne
  refine wpAny_pure (wpAny_pure (k true ⟨fun _ h => hne ?_, fun _ => rfl⟩))
  have : S = O := funext h
  subst this
  rw [D.card, DO.card]
 ·rename_i heq
  have heq : es.size = eo.size := by simpa using heq
  refine wpAny_bind ?_
  refine wpAny_bind (wpAny_isInstance hT1 zbf ?_)
  simp only
  refine wpAny_isInstance hT2 zbf ?_
  simp only [↓reduceIte]
  refine wpAny_bind (zcB ho D (wpAny_bind (zcB ho2 DO ?_)))
  split
  ·rename_i hh
   refine wpAny_bind (quiet _ _ _ (D.intEs (.refl _)) (fun i tk => rfl) ?_)
   refine wpAny_bind (quiet _ _ _ (DO.intEs (.refl _)) (fun i tk => rfl) ?_)
   refine wpAny_bind (wpAny_rule (wpAny_pure (wpAny_pure (k true ⟨fun _ h => ?_, fun _ => rfl⟩))))
   have : S = O := funext h
   subst this
   rw [zm1 (D.same_perm DO)] at hh
   simp at hh
  ·refine zlJ hA hB (by rw [← D.card, ← DO.card]; omega) fun r hr => wpAny_pure (k (!r) ?_)
   rw [← eqv heq, ← hr]; cases r <;> trivial
end
end
section

section
variable {A : Around} {E : QV} {s : Shared} {a : Addr} {T : String} {S : Int → Bool}
theorem zjD {i : Int} {tk : Tok} {Q : Bool → Shared → Prop} (h : zav w s.heap a "frozenset" S) (h0 : 0 ≤ i) (h1 : i < 16) (k : Q (S i) { s with toks := s.toks + 1 }) :
  wpAny (model pw w) A (contains (.ref a) (.int i tk)) Q E s := by
 have hT := h.typeIs
 unfold contains
 try with_reducible refine wpAny_holding ?_
 refine wpAny_bind (wpAny_specialOf hT zcF.lookup ?_)
 show wpAny _ _ (if (some (Value.builtin "frozenset.__contains__") == some Value.none) = true then _ else _) _ E s
 rw [if_neg (by rw [beq_builtin_none]; exact Bool.false_ne_true)]
 refine wpAny_bind (wpAny_callSpecialUnlessNone?_slot (name := Str.ofString "__contains__") hT zcF
  (wpAny_call_entry zcF hT zff ?_ (zfS _ _)))
 unfold Builtin.«frozenset.__contains__» Builtin.Frozenset.oneOther
 simp only [List.isEmpty_nil, bind_assoc]
 delta Builtin.Frozenset.addrOf
 refine wpAny_bind (wpAny_pure ?_)
 try dsimp only
 refine wpAny_bind (wpAny_pure ?_)
 try dsimp only
 refine wpAny_bind (wpAny_tryCatch ?_)
 refine wpAny_holding ?_
 refine wpAny_bind ((intKind pw w).pyHash (k := i) (intKind_is _ _ _ _) ?_)
 rw [show (intKind pw w).hash i = i from zda h0 h1]
 refine wpAny_bind (zhe (s := { s with toks := s.toks + 1 }) h h0 h1 fun r hr => ?_)
 refine wpAny_pure ?_
 show wpAny _ _ (ret (Value.bool r.isSome)) _ _ _
 rw [hr]
 exact wpAny_pure ⟨_, rfl, wpAny_truthy_bool k⟩
theorem zpX {b : Addr} {O : Int → Bool} {Q : QV} (h : zav w s.heap a "frozenset" S) (h2 : zav w s.heap b "frozenset" O) (k : ∀ h', zby w s h' "frozenset" (fun j => S j || O j) → Q (.ref s.heap.objs.size) { s with heap := h' }) :
  wpAny (model pw w) A (binaryOp .BitOr (.ref a) (.ref b)) Q E s := by
 have hT := h.typeIs
 have hT2 := h2.typeIs
 refine wpAny_binaryOp_same hT hT2 zj5 zhG (wpAny_call_entry zhG hT zjM ?_ (zkY _ _))
 iterate 2 wp_step
 simp only [Bool.false_eq_true, ↓reduceIte]
 wp_walk using (ze hT), (ze hT2), (zl0 h)
 rintro h' M
 refine zlO h h2 M fun h3 M3 => ?_
 exact wpAny_pure ⟨_, rfl, nofun, k h3 M3⟩
theorem zoU {b : Addr} {O : Int → Bool} {Q : QV} (h : zav w s.heap a "frozenset" S) (h2 : zav w s.heap b "frozenset" O) (k : ∀ h', zby w s h' "frozenset" (fun j => S j && !O j) → Q (.ref s.heap.objs.size) { s with heap := h' }) :
  wpAny (model pw w) A (binaryOp .Sub (.ref a) (.ref b)) Q E s := by
 have hT := h.typeIs
 have hT2 := h2.typeIs
 refine wpAny_binaryOp_same hT hT2 zi5 zgD (wpAny_call_entry zgD hT zi0 ?_ (zjA _ _))
 iterate 2 wp_step
 simp only [Bool.false_eq_true, ↓reduceIte]
 wp_walk using (ze hT), (ze hT2), (zg6 h h2)
 rintro h' M
 wp_walk
 exact ⟨_, rfl, nofun, k h' M⟩
theorem zpL {b : Addr} {O : Int → Bool} {Q : QV} (h : zav w s.heap a "frozenset" S) (h2 : zav w s.heap b "frozenset" O) (hu : A.units < cLine) (k : ∀ r : Bool, (r = true ↔ ¬ ∀ j, S j = O j) → Q (.bool r) s) :
  wpAny (model pw w) A (compareOp .NotEq (.ref a) (.ref b)) Q E s := by
 have hT := h.typeIs
 show wpAny _ _ (richCompare .NotEq (.ref a) (.ref b)) _ _ _
 exact wpAny_richCompare_same_room hT h2.typeIs zhF (wpAny_call_entry zhF hT zjL (zq6 h h2 fun r hr => ⟨_, rfl, nofun, k r hr⟩) (zkX _ _)) hu
end
section
variable {d : Nat} {env : Env} {vars : zaf} {mu : Mu}
theorem zby.out {Y : zau} {β : zaq} {s : Shared} {h' : Heap} {S : Int → Bool} {n : Nat} (M : zby w s h' "frozenset" S) (g : GS w H Y β mu s) :
  zaF (GS w H Y β mu { s with heap := h', toks := n }) (zap β s β { s with heap := h', toks := n }) (Rep w h' Y β (.fset S) (.ref s.heap.objs.size)) := by
 kcf_m
 obtain ⟨o, ho, q⟩ := M.at_.obj
 kcj_m
 exact ⟨g.grow (s' := { s with heap := h', toks := n }) M.grows, .grow (s' := { s with heap := h', toks := n }) M.grows rfl rfl, _, o, rfl, ho, q, g.newAvoid⟩
theorem zr7 (q : Q (.fset (fun j => S j || O j)) mu) : Op2 w H d (binaryOp .BitOr) (.fset S) (.fset O) mu Q := fun A Y β s va vb hA g ⟨a, o, e, ho, D, av⟩ ⟨b, o2, e2, ho2, D2, av2⟩ => by
 subst e e2
 exact zpX (.of ho D) (.of ho2 D2) fun h' M => ⟨β, _, mu, (M.out (n := s.toks) g).1, (M.out (n := s.toks) g).2, (M.out (n := s.toks) g).3, q⟩
theorem zpQ (q : Q (.fset (fun j => S j && !O j)) mu) : Op2 w H d (binaryOp .Sub) (.fset S) (.fset O) mu Q := fun A Y β s va vb hA g ⟨a, o, e, ho, D, av⟩ ⟨b, o2, e2, ho2, D2, av2⟩ => by
 subst e e2
 exact zoU (.of ho D) (.of ho2 D2) fun h' M => ⟨β, _, mu, (M.out (n := s.toks) g).1, (M.out (n := s.toks) g).2, (M.out (n := s.toks) g).3, q⟩
theorem zoD (q : ∀ r : Bool, (r = true ↔ ¬ ∀ j, S j = O j) → Q (.bool r) mu) : Op2 w H d (compareOp .NotEq) (.fset S) (.fset O) mu Q := fun A Y β s va vb hA g ⟨a, o, e, ho, D, av⟩ ⟨b, o2, e2, ho2, D2, av2⟩ => by
 subst e e2
 exact zpL (.of ho D) (.of ho2 D2) (by have := hA.units; show _ < 9900; kd_mem) fun r hr => ⟨β, .bool r, mu, g, .refl _ _, rfl, q r hr⟩
theorem zoC (h0 : 0 ≤ i) (h1 : i < 16) (q : Q (.bool (S i)) mu) : Op2 w H d (compareOp .In) (.int i) (.fset S) mu Q := fun A Y β s va vb hA g ⟨t, e⟩ ⟨b, o2, e2, ho2, D2, av2⟩ => by
 subst e e2
 show wpAny _ _ (do return Value.bool (← contains (.ref b) (.int i t))) _ _ _
 exact wpAny_bind (zjD (.of ho2 D2) h0 h1 (wpAny_pure ⟨β, .bool _, mu, g.toks _, .toks, rfl, q⟩))
end
end
section

theorem zox : mroOf (.type "frozenset") = pure [.type "frozenset", .type "object"] := by kernel_rfl
theorem zh3 : typeLookup (.type "frozenset") "__new__" = pure (some (.builtin "frozenset.__new__")) := by kernel_rfl
theorem zdZ : Slot "frozenset" "__init__" "object.__init__" :=
 .of (owner := "object") (n := "__init__") (by kernel_rfl) (by decide +kernel) (by decide +kernel) (by decide +kernel)
  (by first | exact .inl (by decide +kernel) | exact .inr (by decide +kernel)) (by kernel_rfl)
theorem zet : TypeCalled "frozenset" "frozenset.__new__" "object.__init__" :=
 ⟨by decide +kernel, by decide +kernel, ⟨_, _, zox⟩, madeBy_type zox zh3 (by decide +kernel), by decide +kernel, zbf, zdZ⟩
theorem zh6 : checkTypeCall "frozenset" ⟨[], []⟩ = pure () := by kpf_c
theorem zjc : checkBuiltinCall "frozenset.__new__" ⟨[.type "frozenset"], []⟩ = pure () := by kpf_c
theorem zh7 (a : Value) : checkTypeCall "frozenset" ⟨[a], []⟩ = pure () := by kpf_c
theorem zjd (a : Value) : checkBuiltinCall "frozenset.__new__" ⟨[.type "frozenset", a], []⟩ = pure () := by kpf_c
theorem zfg : entryFor table "frozenset.__new__" = some Builtin.«frozenset.__new__» := entryFor_of_tree (by kpf_c)
theorem zfG : plainId "frozenset.__new__" = true := by decide +kernel
theorem zjN : (Value.type "list" == Value.type "frozenset") = false := by decide
section
variable {A : Around} {E : QV} {s : Shared} {T : String}
theorem zkS {R : Result → Shared → Prop} {I : Addr} {fp wr : List Addr} {G : Array GenState → Array GenState → Prop} {n : Nat} {P : Nat → Value → Prop} {St : Nat → Shared → Prop}
  (W : WalksS pw w A.in1 I fp wr G n P St) (D : Addr) (hDf : D ∉ fp) (val : Nat → Int) (hval : ∀ i v, P i v → ∃ t, zaF (v = .int (val i) t) (0 ≤ val i) (val i < 16)) :
  ∀ (k i : Nat) (s : Shared) (S : Int → Bool), n - i = k → i ≤ n → St i s → zav w s.heap D T S →
   (∀ s' S', Moved (D :: wr) G s s' → zav w s'.heap D T S' → (∀ j, S' j = true ↔ S j = true ∨ ∃ i', zaF (i ≤ i') (i' < n) (val i' = j)) → R (.ok (.ret .none)) s') →
   codeAny (model pw w) A (.builtin "set.update.loop" ⟨[.ref D, .ref I], []⟩) R s := by
 have hDw : D ∉ wr := fun h => hDf (W.sub _ h)
 intro k
 induction k with
 | zero =>
  intro i s S hk hi hst hS hR
  have hin : i = n := by kd_mem
  subst hin
  refine codeAny_builtin F.entry_set_update_loop ?_
  skip
  show wpAny _ A.in1 (pyNext (.ref I) >>= _) _ _ s
  refine wpAny_bind (W.done s _ _ hst fun s' hm => ?_)
  show wpAny _ A.in1 (ret Value.none) _ _ s'
  refine wpAny_pure (hR s' S (hm.mono (fun b hb => List.mem_cons_of_mem _ hb : ∀ b ∈ wr, b ∈ D :: wr)) (hS.move fun o ho => hm.heap D _ hDw ho) fun j => ⟨.inl, fun h => h.elim id fun ⟨i', h1, h2, V⟩ => by kd_mem⟩)
 | succ k ih =>
  intro i s S hk hi hst hS hR
  have hlt : i < n := by kd_mem
  refine codeAny_builtin F.entry_set_update_loop ?_
  skip
  show wpAny _ A.in1 (pyNext (.ref I) >>= _) _ _ s
  refine wpAny_bind (W.item i s _ _ hlt hst fun v s' hP hst' hm => ?_)
  obtain ⟨t, rfl, v0, v1⟩ := hval i v hP
  have hS' : zav w s'.heap D T S := hS.move fun o ho => hm.heap D _ hDw ho
  show wpAny _ A.in1 (holding [Value.int (val i) t] (setAdd D (.int (val i) t)) >>= _) _ _ s'
  refine wpAny_bind (wpAny_holding ?_)
  unfold setAdd
  refine wpAny_holding ?_
  refine wpAny_bind ((intKind pw w).pyHash (k := val i) (intKind_is _ _ _ _) ?_)
  rw [show (intKind pw w).hash (val i) = val i from zda v0 v1]
  refine ziR (s := { s' with toks := s'.toks + 1 }) hS' v0 v1 fun h' hsb hS2 => ?_
  refine wpAny_pure ⟨plainId_quiet F.plain_set_update_loop _, ih (i + 1) _ _ (by kd_mem) hlt (W.frame _ s' _ _ hst' (Nat.le_succ _) fun b hb o e => ?_) hS2 fun s'' S'' hm'' hS'' hj => ?_⟩
  ·rw [hsb.2 b (fun h : b = D => hDf (by refine rwR h ?_; exact hb))]; exact e
  ·refine hR s'' S'' (Moved.trans W.gtrans ((hm.mono (fun b hb => List.mem_cons_of_mem _ hb : ∀ b ∈ wr, b ∈ D :: wr)).then_heap (Nat.le_succ _) fun b o hb e => ?_) hm'') hS'' fun j => ?_
   ·rw [hsb.2 b (fun h : b = D => hb (by rw [h]; exact List.mem_cons_self))]; exact e
   ·rw [hj j, Bool.or_eq_true, decide_eq_true_eq]
    constructor
    ·rintro ((h | h) | ⟨i', h1, h2, h3⟩)
     ·exact .inl h
     ·exact .inr ⟨i, Nat.le_refl _, hlt, h.symm⟩
     ·exact .inr ⟨i', (Nat.le_of_lt ‹_›), h2, h3⟩
    ·rintro (h | ⟨i', h1, h2, h3⟩)
     ·exact .inl (.inl h)
     ·by_cases q : i' = i
      ·cases q; exact .inl (.inr h3.symm)
      ·exact .inr ⟨i', by kd_mem, h2, h3⟩
def ziM (vs : List Value) (ns : List Int) : Prop := vs.length = ns.length ∧ ∀ i v, vs[i]? = some v → ∃ t, v = Value.int (ns.getD i 0) t
noncomputable def zbR (ns : List Int) : Int → Bool := fun j => decide (j ∈ ns)
theorem mem_getD {ns : List Int} : (∃ i, zaF (0 ≤ i) (i < ns.length) (ns.getD i 0 = j)) ↔ j ∈ ns := by
 constructor
 ·rintro ⟨i, V, h, rfl⟩
  (exists List.getD_eq_getElem?_getD; exists List.getElem?_eq_getElem h); exact List.getElem_mem h
 ·intro h
  obtain ⟨i, hi, rfl⟩ := List.mem_iff_getElem.mp h
  exact ⟨i, Nat.zero_le _, hi, by (exists List.getD_eq_getElem?_getD; exists List.getElem?_eq_getElem hi); rfl⟩
theorem ziq {D l : Addr} {items : Array Value} {ns : List Int} {id : String} {Q : Unit → Shared → Prop} (hh : A.handled = none) (hD : zav w s.heap D T (fun V => false)) (hl : s.heap.IsList l items) (hne : D ≠ l) (hi : ziM items.toList ns) (hs : ∀ n ∈ ns, 0 ≤ n ∧ n < 16)
  (k : ∀ h' tk, zav w h' D T (zbR ns) → (∀ b o, b ≠ D → s.heap.get? b = some o → h'.get? b = some o) → Q () { s with heap := h', toks := tk }) :
  wpAny (model pw w) A (Builtin.Frozenset.updateFrom id D (.ref l)) Q E s := by
 kcf_m
 obtain ⟨ol, hol, hcl, nl, hdl⟩ := hl
 kcj_m
 have hT : s.TypeIs (.ref l) "list" := ⟨ol, hol, hcl⟩
 have hl : s.heap.IsList l items := ⟨ol, hol, hcl, nl, hdl⟩
 skip
 refine wpAny_bind ?_
 skip
 refine wpAny_bind (wpAny_isInstance hT F.sub_list_set (wpAny_isInstance hT F.sub_list_frozenset ?_))
 skip
 refine wpAny_bind (wpAny_typeOf hT ?_)
 skip
 refine wpAny_bind (wpAny_pyIter_list hl ?_)
 refine wpAny_bind (wpAny_runValue ?_)
 obtain ⟨V, hDx⟩ := hD.ex
 have hh3 : A.in1.handled = none := hh
 have hneI : l ≠ s.heap.objs.size := Nat.ne_of_lt (Heap.lt_size hol : l < s.heap.objs.size)
 have hDf : D ∉ [s.heap.objs.size, l] := by
  simp only [List.mem_cons, List.not_mem_nil, or_false, not_or]; exact ⟨Nat.ne_of_lt (Heap.lt_size hDx), hne⟩
 have hsz : items.size = ns.length := by have := hi.1; simpa using this
 refine zkS (T := T) (Walks.list hh3 _ l hneI items).toS D hDf (fun i => if i < items.size then ns.getD i 0 else 0) (fun i v hv => ?_) (items.size - 0) 0 { s with heap := s.heap.push { cls := .type "list_iterator", data := .fields #[.ref l, .int 0 0] } } (fun V => false) ((rfl)) (Nat.zero_le _) ⟨⟨_, Heap.get?_push_size _ rfl, rfl, rfl⟩, (hl.push _)⟩ (hD.move (h' := s.heap.push { cls := .type "list_iterator", data := .fields #[.ref l, .int 0 0] }) fun o e => Heap.get?_push_of_some _ e) ?_
 ·have hlt : i < items.size := (Array.getElem?_eq_some_iff.mp hv).1
  obtain ⟨t, rfl⟩ := hi.2 i v (by exists Array.getElem?_toList; exact hv)
  exists if_pos hlt
  have : ns.getD i 0 ∈ ns := mem_getD.mp ⟨i, Nat.zero_le _, by kd_mem, rfl⟩
  exact ⟨t, rfl, (hs _ this).1, (hs _ this).2⟩
 ·intro s' S' hm hS' hj
  obtain ⟨h', g', d', tk', os'⟩ := s'
  have eg : g' = s.gens := hm.gens
  have ed : d' = s.drawn := hm.drawn
  have eo : os' = s.os := hm.os
  subst eg; subst ed; subst eo
  refine wpAny_pure (k h' tk' (hS'.eq_of fun j => ?_) fun b o hb e => ?_)
  ·rw [hj j, show (zbR ns j = true ↔ j ∈ ns) from decide_eq_true_iff, ← mem_getD (ns := ns)]
   constructor
   ·rintro (h | ⟨i, h1, h2, h3⟩)
    ·contradiction
    ·rw [if_pos h2] at h3; exact ⟨i, h1, by kd_mem, h3⟩
   ·intro hq0'
    kcf_m
    obtain ⟨i, h1, h2, h3⟩ := hq0'
    kcj_m
    exact .inr ⟨i, h1, by kd_mem, by exists (if_pos (by kd_mem)); exact h3⟩
  ·refine hm.heap b o ?_ (Heap.get?_push_of_some _ e)
   simp only [List.mem_cons, List.not_mem_nil, or_false, not_or]
   exact ⟨hb, Nat.ne_of_lt (Heap.lt_size e)⟩
theorem zj7 {self : Value} {rest : List Value} {Q : QV} (hT : s.TypeIs self "frozenset") (h : Q self s) :
  wpAny (model pw w) A.in1 (Builtin.«object.__init__» ⟨self :: rest, []⟩)
    (fun fin s' => match fin with | .done f => wants (fun r s₂ => r = .none ∧ Q self s₂) E (.ok f) s' | .again c' => c'.quiet = true ∧ codeAny (model pw w) A c' (wants (fun r s₂ => r = .none ∧ Q self s₂) E) s')
    (fun e s' => wants (fun r s₂ => r = .none ∧ Q self s₂) E (.error e) s') s :=
 object_init_meets zet.init.lookup zet.made (by rfl) pw w A _ s ⟨hT, rfl, h⟩
theorem zmQ {Q : QV} (k : zby w s (s.heap.push (zaI w "frozenset")) "frozenset" (fun V => false) → Q (.ref s.heap.objs.size) { s with heap := s.heap.push (zaI w "frozenset") }) :
  wpAny (model pw w) A (call (.type "frozenset") []) Q E s := by
 have hsub := zbf
 refine callType_codes zet zh6 F.entry_object_init (Q₁ := fun v s' => v = .ref s.heap.objs.size ∧ s' = { s with heap := s.heap.push (zaI w "frozenset") }) (codeAny_call_builtin zfG zfg (wpAny_of_eq zjc ?_)) ?_
 ·unfold Builtin.«frozenset.__new__» Builtin.Frozenset.newClass
  have hl := zdZ.lookup
  wp_walk using (zfz)
  exact ⟨rfl, rfl⟩
 ·intro obj s1 hq2'
  obtain ⟨rfl, rfl⟩ := hq2'
  have hS := zeb s.heap "frozenset"
  exact ⟨hS.typeIs, F.args_object_init_1 _, zj7 hS.typeIs (k ⟨hS, fun V V e => Heap.get?_push_of_some _ e⟩)⟩
theorem zmR {l : Addr} {items : Array Value} {ns : List Int} {Q : QV} (hh : A.handled = none) (hl : s.heap.IsList l items) (hi : ziM items.toList ns) (hs : ∀ n ∈ ns, 0 ≤ n ∧ n < 16)
  (k : ∀ h' tk, zby w s h' "frozenset" (zbR ns) → Q (.ref s.heap.objs.size) { s with heap := h', toks := tk }) :
  wpAny (model pw w) A (call (.type "frozenset") [.ref l]) Q E s := by
 have hsub := zbf
 obtain ⟨ol, hol, hcl, nl, hdl⟩ := hl
 have hT : s.TypeIs (.ref l) "list" := ⟨ol, hol, hcl⟩
 have hl : s.heap.IsList l items := ⟨ol, hol, hcl, nl, hdl⟩
 refine callType_codes zet (zh7 _) F.entry_object_init (Q₁ := fun v s' => v = .ref s.heap.objs.size ∧ Ex2 fun h' tk => s' = { s with heap := h', toks := tk } ∧ zby w s h' "frozenset" (zbR ns)) (codeAny_call_builtin zfG zfg (wpAny_of_eq (zjd _) ?_)) ?_
 ·unfold Builtin.«frozenset.__new__» Builtin.Frozenset.newClass
  have hl2 := zdZ.lookup
  have hle := zjN
  have fl : ∀ (A' : Around) (E' : QV) (Q' : Unit → Shared → Prop), A'.handled = none → (∀ h' tk, zby w s h' "frozenset" (zbR ns) → Q' () { s with heap := h', toks := tk }) →
    wpAny (model pw w) A' (Builtin.Frozenset.updateFrom "frozenset.__new__" s.heap.objs.size (.ref l)) Q' E' { s with heap := s.heap.push (zaI w "frozenset") } := fun A' E' Q' hh' k' =>
   ziq (s := { s with heap := s.heap.push (zaI w "frozenset") }) hh' (zeb _ _) (hl.push _) (Ne.symm (Nat.ne_of_lt (Heap.lt_size hol))) hi hs fun h' tk hS hk => k' h' tk ⟨hS, fun b o e => hk b o (Nat.ne_of_lt (Heap.lt_size e)) (Heap.get?_push_of_some _ e)⟩
  wp_walk using (zfz), (fl _ _ _)
  ·exact hh
  ·intro h' tk M
   wp_walk
   exact ⟨rfl, h', tk, rfl, M⟩
 ·rintro obj s1 ⟨rfl, h', tk, rfl, M⟩
  have hT' : Shared.TypeIs { s with heap := h', toks := tk } (.ref s.heap.objs.size) "frozenset" := zav.typeIs (s := { s with heap := h', toks := tk }) M.at_
  exact ⟨hT', F.args_object_init_2 _ _, zj7 hT' (k h' tk M)⟩
end
end
section

theorem zfJ : Slot "frozenset" "__iter__" "frozenset.__iter__" :=
 .of (owner := "frozenset") (n := "__iter__") (by kernel_rfl) (by decide +kernel) (by decide +kernel) (by decide +kernel)
  (by first | exact .inl (by decide +kernel) | exact .inr (by decide +kernel)) zbf
theorem ze7 (a : Value) : argsOk "frozenset.__iter__" ⟨[a], []⟩ := by
 unfold argsOk; rw [signature?_of (id := "frozenset.__iter__") (n := ['_', '_', 'r', 'e', 't', 'i', '_', '_']) (o := ['t', 'e', 's', 'n', 'e', 'z', 'o', 'r', 'f']) (by kpf_c) zdJ]; kernel_rfl
theorem zeK : entryFor table "frozenset.__iter__" = some Builtin.«frozenset.__iter__» := entryFor_of_tree (by kpf_c)
theorem zg9 : entryFor table "set.__iter__" = some Builtin.«frozenset.__iter__» :=
 entryFor_alias (id' := "frozenset.__iter__") (by kpf_c) rfl (by decide +kernel) (by kpf_c)
theorem zkt : Manifest.owners.lookup (String.ofList ['r', 'o', 't', 'a', 'r', 'e', 't', 'i', '_', 't', 'e', 's'].reverse) = some Manifest.sig_set_iterator := by kpf_c
theorem zb0 : Slot "set_iterator" "__next__" "set_iterator.__next__" :=
 .of (owner := "set_iterator") (n := "__next__") (by kernel_rfl) (by decide +kernel) (by decide +kernel) (by decide +kernel)
  (by first | exact .inl (by decide +kernel) | exact .inr (by decide +kernel)) (by kernel_rfl)
theorem ze8 (a : Value) : argsOk "set_iterator.__next__" ⟨[a], []⟩ := by
 unfold argsOk; rw [signature?_of (id := "set_iterator.__next__") (n := ['_', '_', 't', 'x', 'e', 'n', '_', '_']) (o := ['r', 'o', 't', 'a', 'r', 'e', 't', 'i', '_', 't', 'e', 's']) (by kpf_c) zkt]; kernel_rfl
theorem zfK : Slot "set_iterator" "__iter__" "set_iterator.__iter__" :=
 .of (owner := "set_iterator") (n := "__iter__") (by kernel_rfl) (by decide +kernel) (by decide +kernel) (by decide +kernel)
  (by first | exact .inl (by decide +kernel) | exact .inr (by decide +kernel)) (by kernel_rfl)
theorem ziT (a : Value) : argsOk "set_iterator.__iter__" ⟨[a], []⟩ := by
 unfold argsOk; rw [signature?_of (id := "set_iterator.__iter__") (n := ['_', '_', 'r', 'e', 't', 'i', '_', '_']) (o := ['r', 'o', 't', 'a', 'r', 'e', 't', 'i', '_', 't', 'e', 's']) (by kpf_c) zkt]; kernel_rfl
theorem zhY : entryFor table "set_iterator.__iter__" = some Builtin.«dict_keyiterator.__iter__» :=
 entryFor_alias (id' := "dict_keyiterator.__iter__") (by kpf_c) (by first | rfl | decide +kernel) (by decide +kernel) (by kpf_c)
theorem zeL : entryFor table "set_iterator.__next__" = some Builtin.«set_iterator.__next__» := entryFor_of_tree (by kpf_c)
noncomputable def ord (w : World) (a : Addr) (ep : Nat) (es : Array (Int × Value)) : Array (Int × Value) := if w.params.followText "set-order" then pickOrder (w.params.setOrder a ep) es else es
theorem zfC (a : Addr) (ep : Nat) (es : Array (Int × Value)) : (ord w a ep es).toList.Perm es.toList := by
 unfold ord; split
 ·exact zix _ _
 ·exact .refl _
theorem zfD (a : Addr) (ep : Nat) (es : Array (Int × Value)) : (ord w a ep es).size = es.size := by
 have := (zfC a ep es).length_eq; simpa using this
noncomputable def slotAt (w : World) (t : SetTable) (i : Nat) : Nat := if w.params.followText "set-order" then 0 else match i with
 | 0 => 0
 | i + 1 => t.place.getD i 0 + 1
theorem zkZ {t : SetTable} (hr : t.place.toList.Pairwise (· < ·)) : ∀ {i : Nat}, i ≤ t.place.size → SetTable.below t.place (match i with | 0 => 0 | i + 1 => t.place.getD i 0 + 1) = i := by
 intro i hi
 cases i with
 | zero =>
  cases h : SetTable.below t.place 0 with
  | zero => rfl
  | succ r =>
   have hlt : 0 < t.place.toList.length := by have := (zfb hr 0).le; rw [h] at this; exact Nat.le_trans (Nat.le_add_left _ _) ‹_›
   have := (zfb hr 0).lo 0 t.place.toList[0] (by exists h; exact Nat.succ_pos _) (by simp)
   kd_mem
 | succ i =>
  have b := zfb hr (t.place.getD i 0 + 1)
  dsimp only
  have hi' : i < t.place.toList.length := by simp; kd_mem
  have hi2 : i < t.place.size := hi
  have e : t.place.getD i 0 = t.place.toList[i] := by simp [hi2]
  have h1 : i < SetTable.below t.place (t.place.getD i 0 + 1) := by
   apply Nat.lt_of_not_le
   intro hle
   have := b.hi i t.place.toList[i] hle (by simp)
   kd_mem
  have h2 : SetTable.below t.place (t.place.getD i 0 + 1) ≤ i + 1 := by
   apply Nat.le_of_not_lt
   intro hlt
   have hl : i + 1 < t.place.toList.length := by have := b.le; exact Nat.lt_of_lt_of_le ‹_› ‹_›
   have h3 := b.lo (i + 1) t.place.toList[i + 1] hlt (by simp)
   have h4 := List.pairwise_iff_getElem.mp hr i (i + 1) hi' hl ((Nat.le_refl _))
   kd_mem
  exact Nat.le_antisymm ‹_› ‹_›
section
variable {A : Around} {E : QV} {s : Shared} {a : Addr} {T : String} {S : Int → Bool}
theorem zpb (ho : s.heap.get? a = some (za0 T es ep t)) (D : zad w es t S)
  (k : Q (ord w a ep es) s) : wpAny (model pw w) A (setWalk a) Q E s := by
 unfold setWalk setsByText
 refine wpAny_bind (wpAny_setState_of ho rfl D.fits ?_)
 refine wpAny_bind (wpAny_bind (wpAny_askSetting (wpAny_pure ?_)))
 unfold ord at k
 split
 ·rename_i h
  have h : w.params.followText "set-order" = true := h
  rw [if_pos h] at k
  exact wpAny_bind (wpAny_askSetting (wpAny_pure k))
 ·rename_i hb
  have hb : w.params.followText "set-order" = false := Bool.eq_false_iff.mpr hb
  have hled : t.led = true := by (exists D.led; exists hb); rfl
  rw [if_neg (by exists hb; simp)] at k
  split
  ·rename_i h
   have h : (!t.plain && decide (es.size > 1)) = true := h
   replace h := (D.ok.plain) ▸ h; exact Bool.noConfusion h
  ·refine wpAny_bind ?_
   show wpAny _ _ (do
    if (!t.led && decide (es.size > 1)) = true then unsupported "set:maker-not-led"
    pure PUnit.unit) _ _ _
   exists hled
   exact wpAny_pure (wpAny_pure k)
theorem zmn (ho : s.heap.get? a = some (za0 T es ep t)) (D : zad w es t S) (hi : i ≤ es.size)
  (k : Q ((ord w a ep es)[i]?.map fun e => (e.2, slotAt w t (i + 1))) s) : wpAny (model pw w) A (setNext a (slotAt w t i) i ep) Q E s := by
 skip
 refine wpAny_bind (wpAny_setState_of ho rfl D.fits ?_)
 refine wpAny_bind (wpAny_bind (wpAny_askSetting (wpAny_pure ?_)))
 split
 ·rename_i h
  have h : w.params.followText "set-order" = true := h
  exists (if_neg (by simp))
  refine wpAny_bind (zpb ho D (wpAny_pure ?_))
  rw [(fun i => by unfold slotAt; rw [if_pos h] : ∀ i, slotAt w t i = 0)] at k ⊢
  exact k
 ·rename_i hb
  split
  ·rename_i h
   have h : (!t.plain && decide (es.size > 1)) = true := h
   replace h := (D.ok.plain) ▸ h; exact Bool.noConfusion h
  ·refine wpAny_bind ?_
   show wpAny _ _ (do
    if (!t.led && !es.isEmpty) = true then unsupported "set:maker-not-led"
    pure PUnit.unit) _ _ _
   exists ((by (refine rwL D.led ?_; refine rwL ((Bool.eq_false_iff.mpr hb : w.params.followText "set-order" = false)) ?_); rfl : t.led = true))
   refine wpAny_pure (wpAny_pure ?_)
   have hb' : ¬ (w.params.followText "set-order" = true) := by rw [(Bool.eq_false_iff.mpr hb : w.params.followText "set-order" = false)]; simp
   have e : SetTable.below t.place (slotAt w t i) = i := by
    unfold slotAt; exists if_neg hb'
    exact zkZ D.ok.rising (by rw [D.size]; exact hi)
   have e2 : slotAt w t (i + 1) = t.place.getD i 0 + 1 := by unfold slotAt; rw [if_neg hb']
   have e3 : ord w a ep es = es := by unfold ord; rw [if_neg hb']
   exists e
   rw [e2, e3] at k
   have hz := D.size
   cases he : es[i]? with
   | none => rw [he] at k; exact k
   | some x =>
    have hlt : i < t.place.size := by exists hz; exact (Array.getElem?_eq_some_iff.mp he).1
    rw [he] at k
    have hp : t.place[i]? = some (t.place.getD i 0) := by simp [hlt]
    exists hp
    exact k
theorem znO (ho : s.heap.get? a = some (za0 T es ep t)) (D : zad w es t S) (k : Q false s) : wpAny (model pw w) A (setDrawn a) Q E s := by
 skip
 refine wpAny_bind (wpAny_setState_of ho rfl D.fits ?_)
 refine wpAny_bind (wpAny_bind (wpAny_askSetting (wpAny_pure (wpAny_pure ?_))))
 show Q (!(w.params.followText "set-order") && (!t.plain && decide (es.size > 1))) s
 exists D.ok.plain
 simpa using k
def zbG (h : Heap) (it a : Addr) (slot i n ep : Nat) : Prop := h.get? it = some { cls := .type "set_iterator", data := .fields #[.int slot 0, .int i 0, .ref a, .int n 0, .int ep 0] }
theorem zhA {es : Array (Int × Value)} {ep : Nat} {t : SetTable} {id : String} {Q : QV} (sl : Slot T "__iter__" id) (en : entryFor table id = some Builtin.«frozenset.__iter__») (ar : ∀ a : Value, argsOk id ⟨[a], []⟩)
  (ho : s.heap.get? a = some (za0 T es ep t)) (D : zad w es t S)
  (hQ : Q (.ref s.heap.objs.size) { s with heap := s.heap.push { cls := .type "set_iterator", data := .fields #[.int (slotAt w t 0) 0, .int (0 : Nat) 0, .ref a, .int es.size 0, .int ep 0] } }) :
  wpAny (model pw w) A (pyIter (.ref a)) Q E s := by
 have hT : s.TypeIs (.ref a) T := ⟨_, ho, rfl⟩
 have hQ0 : Q (.ref s.heap.objs.size) { s with heap := s.heap.push { cls := .type "set_iterator", data := .fields #[rawInt 0, rawInt 0, .ref a, rawInt es.size, rawInt ep] } } := by
  have : slotAt w t 0 = 0 := by unfold slotAt; split <;> rfl
  rw [this] at hQ; exact hQ
 refine wpAny_pyIter_slot hT sl (wpAny_call_entry sl hT en ?_ (ar _))
 wp_walk using (zc0 ho D), (znO ho D), (zdD ho D)
 exact ⟨_, rfl, "set_iterator", _, ⟨_, Heap.get?_push_size _ rfl, rfl⟩, zb0.lookup, hQ0⟩
theorem zbG.typeIs (h : zbG s.heap it a slot i n ep) : s.TypeIs (.ref it) "set_iterator" := ⟨_, h, rfl⟩
theorem zh4 (hit : zbG s.heap it a (slotAt w t i) i es.size ep)
  (ho : s.heap.get? a = some (za0 T es ep t)) (D : zad w es t S) (hx : (ord w a ep es)[i]? = some e)
  (hQ : ∀ h', zbG h' it a (slotAt w t (i + 1)) (i + 1) es.size ep → Heap.SameBut it s.heap h' → Q (some e.2) { s with heap := h' }) : wpAny (model pw w) A (pyNext (.ref it)) Q E s := by
 have hlt : i < es.size := by rw [← zfD a ep es]; exact (Array.getElem?_eq_some_iff.mp hx).1
 have hT := hit.typeIs
 have nx : ∀ (A' : Around) (E' : QV) (Q' : Option (Value × Nat) → Shared → Prop), Q' (some (e.2, slotAt w t (i + 1))) s → wpAny (model pw w) A' (setNext a ((slotAt w t i : Nat) : Int).toNat ((i : Nat) : Int).toNat ((ep : Nat) : Int).toNat) Q' E' s := fun A' E' Q' k => by
  simp only [Int.toNat_natCast]
  exact zmn ho D (Nat.le_of_lt hlt) (by rw [hx]; exact k)
 skip
 refine wpAny_bind (wpAny_attempt (wpAny_callSpecial?_slot (name := Str.ofString "__next__") hT zb0
  (wpAny_call_entry zb0 hT zeL ?_ (ze8 _))))
 have hit0 := hit
 delta zbG at hit
 wp_walk using (wpAny_fieldsOf hit rfl), (zcB ho D), (nx _ _ _)
 refine ⟨_, rfl, wpAny_pure (hQ _ ?_ ?_)⟩
 ·have h1 : (s.heap.update it (Obj.mapFields fun x => x.setIfInBounds 0 (rawInt (slotAt w t (i + 1))))).get? it = some { cls := .type "set_iterator", data := .fields #[.int (slotAt w t (i + 1)) 0, .int i 0, .ref a, .int es.size 0, .int ep 0] } :=
   Heap.get?_update_self (Obj.mapFields fun x => x.setIfInBounds 0 (rawInt (slotAt w t (i + 1)))) hit rfl
  exact Heap.get?_update_self (Obj.mapFields fun x => x.setIfInBounds 1 (rawInt ((i : Int) + 1))) h1 rfl
 ·exact (Heap.SameBut.update ..).trans (Heap.SameBut.update ..)
theorem zje (hh : A.handled = none) (hit : zbG s.heap it a (slotAt w t es.size) es.size es.size ep)
  (ho : s.heap.get? a = some (za0 T es ep t)) (D : zad w es t S)
  (hQ : ∀ h', Heap.ExtBut it s.heap h' → Q none { s with heap := h' }) : wpAny (model pw w) A (pyNext (.ref it)) Q E s := by
 have hT := hit.typeIs
 have nx : ∀ (A' : Around) (E' : QV) (Q' : Option (Value × Nat) → Shared → Prop), Q' none s → wpAny (model pw w) A' (setNext a ((slotAt w t es.size : Nat) : Int).toNat ((es.size : Nat) : Int).toNat ((ep : Nat) : Int).toNat) Q' E' s := fun A' E' Q' k => by
  skip
  exact zmn ho D (Nat.le_refl _) (by rw [Array.getElem?_eq_none (by rw [zfD]; exact Nat.le_refl _)]; exact k)
 delta pyNext
 refine wpAny_bind (wpAny_attempt (wpAny_callSpecial?_slot (name := Str.ofString "__next__") hT zb0
  (wpAny_call_entry zb0 hT zeL ?_ (ze8 _))))
 have hit0 := hit
 delta zbG at hit
 have hh1 : A.in1.handled = none := hh
 wp_walk using (wpAny_fieldsOf hit rfl), (zcB ho D), (nx _ _ _)
 skip
 refine wpAny_bind (wpAny_handled ?_)
 exists (show A.in1.handled = none from hh)
 refine wpAny_bind (wpAny_pure (wpAny_throw ?_))
 refine wpAny_bind (wpAny_isInstance (T := "StopIteration") (b := true) ⟨_, Heap.get?_push_size _ rfl, rfl⟩ isSubtype_stop ?_)
 exact wpAny_pure (hQ _ (((Heap.SameBut.update ..).extBut.push _).push _))
theorem zhB (hit : zbG s.heap it a slot i n ep) (h : Q (.ref it) s) : wpAny (model pw w) A (pyIter (.ref it)) Q E s := by
 refine wpAny_pyIter_slot hit.typeIs zfK (wpAny_call_entry zfK hit.typeIs zhY ?_ (ziT _))
 exact wpAny_pure ⟨_, rfl, "set_iterator", _, hit.typeIs, zb0.lookup, h⟩
theorem ziE (hh : A.handled = none) (I a : Addr) (hne : a ≠ I) {es : Array (Int × Value)} {ep : Nat} {t : SetTable} (D : zad w es t S) :
  Walks pw w A I [I, a] [I] es.size (fun i v => ((ord w a ep es)[i]?).map (fun V => V.2) = some v) (fun i h => zbG h I a (slotAt w t i) i es.size ep ∧ h.get? a = some (za0 T es ep t)) where
 sub := fun b hb => by replace hb := List.mem_singleton.mp hb; simp [hb]
 frame := fun V V V st hk => ⟨hk I (by simp) _ st.1, hk a (by simp) _ st.2⟩
 item := fun i s Q E hi st hQ => by
  have hlt : i < (ord w a ep es).size := by rw [zfD]; exact hi
  refine zh4 st.1 st.2 D (e := (ord w a ep es)[i]) (by simp [hlt]) fun h' hit' hs' => ?_
  exact hQ _ h' s.toks (by simp [hlt]) ⟨hit', (hs'.2 a hne).trans st.2⟩ fun b o hb e => hs'.extBut b o (fun h => hb (by simp [h])) e
 done := fun s Q E st hQ => zje hh st.1 st.2 D fun h' he' => hQ h' s.toks fun b o hb e => he' b o (fun h => hb (by simp [h])) e
 self := fun V V V V st hQ => zhB st.1 hQ
end
section
variable {d : Nat} {env : Env} {vars : zaf} {mu : Mu}
theorem zkr (D : zad w es t S) (a : Addr) : ∃ l : List Int, zbI (l.Nodup) ((∀ i, i ∈ l ↔ S i = true)) (l.length = es.size) (∀ i v, ((ord w a ep es)[i]?).map (fun V => V.2) = some v → ∃ tk, v = Value.int (l.getD i 0) tk) := by
 refine ⟨(ord w a ep es).toList.map (fun V => V.1), ((zfC a ep es).map _).nodup_iff.mpr D.nodup, fun i => ?_, by simp [zfD], fun i v hv => ?_⟩
 ·rw [D.fst]; exact ((zfC a ep es).map _).mem_iff
 ·obtain ⟨e, he, rfl⟩ := Option.map_eq_some_iff.mp hv
  obtain ⟨j, tk, rfl, V⟩ := D.allInts e ((zfC a ep es).mem_iff.mp (Array.mem_toList_iff.mpr (Array.mem_of_getElem? he)))
  refine ⟨tk, ?_⟩
  have : ((ord w a ep es).toList.map (fun V => V.1))[i]? = some j := by (exists List.getElem?_map; exists Array.getElem?_toList; exists he); rfl
  (exists List.getD_eq_getElem?_getD; exists this); rfl
theorem zod {T id : String} {tgt : Expr} {A : Around} {Y : zau} {β : zaq} {s : Shared} {a : Addr} {S : Int → Bool} (sl : Slot T "__iter__" id) (en : entryFor table id = some Builtin.«frozenset.__iter__») (ar : ∀ a : Value, argsOk id ⟨[a], []⟩)
  (hA : zbz A d) (g : GS w H Y β mu s) (h : zav w s.heap a T S) (av : zaL Y β a) :
  wpAny (model pw w) A (pyIter (.ref a)) (fun it s2 => ∃ l : List Int, ze5 (l.Nodup) ((∀ i, i ∈ l ↔ S i = true)) (l.length ≤ 16) (zlU w H A (Rep w) tgt Y β s it (l.map .int) mu s2) (zap β s β s2)) NoE s := by
 kcf_m
 obtain ⟨o, t0, es, ep, t, rfl, D⟩ := h
 kcj_m
 have hI := zak s.heap
 obtain ⟨l, l1, l2, l3, l4⟩ := zkr (ep := ep) D a
 refine zhA sl en ar t0 D ?_
 have k : ∀ b o, s.heap.get? b = some o → (s.heap.push { cls := .type "set_iterator", data := .fields #[.int (slotAt w t 0) 0, .int (0 : Nat) 0, .ref a, .int es.size 0, .int ep 0] }).get? b = some o := fun b o e => Heap.get?_push_of_some _ e
 have hnew : (s.heap.push { cls := .type "set_iterator", data := .fields #[.int (slotAt w t 0) 0, .int (0 : Nat) 0, .ref a, .int es.size 0, .int ep 0] }).get? s.heap.objs.size = some _ := Heap.get?_push_size _ rfl
 have hZ : ∀ b ∈ [s.heap.objs.size], s.heap.get? b = none := fun b hb => by exists List.mem_singleton.mp hb; exact hI
 have S' := zca (Y := Y) (β := β) hZ k
 have W : Itr w A s.heap.objs.size [s.heap.objs.size, a] (l.map AV.int).length _ _ := ⟨(show es.size = (l.map AV.int).length by rw [List.length_map, l3]) ▸ ziE (T := T) (ep := ep) hA.handled s.heap.objs.size a (Nat.ne_of_lt (Heap.lt_size t0) : a ≠ s.heap.objs.size) D, by
  intro i h st
  exact ⟨_, _, _, st.1, rfl, rfl, by decide +kernel⟩⟩
 refine ⟨l, l1, l2, by rw [l3]; exact D.small, ⟨[s.heap.objs.size], _, W.src, ⟨⟨by rw [show (l.map AV.int).length = es.size by rw [List.length_map, l3]]; exact hnew, k a _ t0⟩, fun b hb => ?_, fun i u x hu hx => ?_⟩, hZ, g.addI hZ (fun b hb => by rw [List.mem_singleton.mp hb]; exact ⟨_, hnew⟩) k⟩, .grow k rfl rfl⟩
 ·rcases List.mem_cons.mp hb with q | hb
  ·exact .inl q
  ·rw [List.mem_singleton.mp hb]; exact .inr ⟨S'.avoid a _ t0 av, _, k _ _ t0⟩
 ·obtain ⟨tk, rfl⟩ := l4 i u hu
  rw [List.getElem?_map] at hx
  obtain ⟨j, hj, rfl⟩ := Option.map_eq_some_iff.mp hx
  exact ⟨tk, by (exists List.getD_eq_getElem?_getD; exists hj); rfl⟩
theorem zmg (h : EW w H d env (eval iter env) vars mu fun a mu1 => ∃ S, a = .fset S ∧ ∀ l : List Int, l.Nodup → (∀ i, i ∈ l ↔ S i = true) → l.length ≤ 16 → Q (l.map .int) mu1) : IW w H (Rep w) tgt d env iter vars mu Q := fun A Y β s hA g vo =>
 h.run hA g vo fun v s1 β1 a mu1 g1 t1 vo1 r hq9' => by
  obtain ⟨S, e, q⟩ := hq9'
  subst e
  obtain ⟨b, o, rfl, ho, D, av⟩ := r
  exact wpAny_mono (zod zfJ zeK ze7 hA g1 (.of ho D) av) (fun it s2 ⟨l, l1, l2, l3, ⟨Z, St, W, st, hI, g2⟩, t2⟩ =>
   ⟨β1, _, mu1, Z, St, W, st, fun b hb => zaN t1 (hI b hb), g2, t1.trans t2, q l l1 l2 l3⟩) fun V V x => x
end
end
section

theorem zkK : Slot "frozenset" "__len__" "frozenset.__len__" :=
 .of (owner := "frozenset") (n := "__len__") (by kernel_rfl) (by decide +kernel) (by decide +kernel) (by decide +kernel)
  (by first | exact .inl (by decide +kernel) | exact .inr (by decide +kernel)) zbf
theorem zjz (a : Value) : argsOk "frozenset.__len__" ⟨[a], []⟩ := by
 unfold argsOk; rw [signature?_of (id := "frozenset.__len__") (n := ['_', '_', 'n', 'e', 'l', '_', '_']) (o := ['t', 'e', 's', 'n', 'e', 'z', 'o', 'r', 'f']) (by kpf_c) zdJ]; kernel_rfl
theorem ziZ : entryFor table "frozenset.__len__" = some Builtin.«frozenset.__len__» := entryFor_of_tree (by kpf_c)
structure zid (T idi idl : String) : Prop where
 iter : Slot T "__iter__" idi
 iterE : entryFor table idi = some Builtin.«frozenset.__iter__»
 iterA : ∀ a : Value, argsOk idi ⟨[a], []⟩
 len : Slot T "__len__" idl
 lenE : entryFor table idl = some Builtin.«frozenset.__len__»
 lenA : ∀ a : Value, argsOk idl ⟨[a], []⟩
 split : splitId idl = some (T, "__len__")
 sub : isSubtype (.type T) (.type T) = pure true
 noList : (Value.type T == Value.type "list") = false
 noTup : (Value.type T == Value.type "tuple") = false
theorem zsn : zid "frozenset" "frozenset.__iter__" "frozenset.__len__" := ⟨zfJ, zeK, ze7, zkK, ziZ, zjz, by decide +kernel, zbf, by decide, by decide⟩
theorem ty_set : zid "set" "set.__iter__" "set.__len__" := ⟨F.slot_set_iter, zg9, F.args_set_iter_1, F.slot_set_len, entry_set_len, F.args_set_len_1, by decide +kernel, sub_set_self, by rfl, by rfl⟩
theorem intsAre_of : ∀ {vs : List Value} {ns : List Int}, vs.length = ns.length → (∀ i v, vs[i]? = some v → ∃ t, v = Value.int (ns.getD i 0) t) → IntsAre vs ns
 | [], [], _, _ => .nil
 | v :: vs, n :: ns, hl, h => by
  obtain ⟨t, e⟩ := h 0 v rfl
  have e : v = .int n t := e
  subst e
  exact .cons n t (intsAre_of (by simpa using hl) fun i u hu => h (i + 1) u ((hu)))
 | [], _ :: _, hl, _ => by contradiction
 | _ :: _, [], hl, _ => by contradiction
section
variable {A : Around} {E : QV} {s : Shared} {a : Addr} {T idi idl : String} {S : Int → Bool}
theorem zn9 (ty : zid T idi idl) (hid : idl = "frozenset.__len__" ∨ idl = "set.__len__") (ho : s.heap.get? a = some (za0 T es ep t)) (D : zad w es t S)
  (h : Q false s) : wpAny (model pw w) A (Builtin.List.listLengthHint (.ref a)) Q E s := by
 have hT : s.TypeIs (.ref a) T := ⟨_, ho, rfl⟩
 skip
 refine wpAny_bind (wpAny_specialOf hT ty.len.lookup ?_)
 dsimp only
 exists ty.split
 refine wpAny_bind (wpAny_isInstance hT ty.sub ?_)
 exists (if_neg (fun qz => Bool.false_ne_true qz))
 refine wpAny_ite_true (by rcases hid with rfl | rfl <;> decide +kernel) ?_
 refine wpAny_bind (wpAny_typeOf hT ?_)
 exact wpAny_pure h
theorem zjC (hh : A.handled = none) (ty : zid T idi idl) (hid : (T = "frozenset" ∧ idl = "frozenset.__len__") ∨ (T = "set" ∧ idl = "set.__len__")) (ho : s.heap.get? a = some (za0 T es ep t)) (D : zad w es t S)
  (h : ∀ (vs : List Value) (ns : List Int) h' tk, IntsAre vs ns → ns.Nodup → (∀ i, i ∈ ns ↔ S i = true) → (∀ b o, s.heap.get? b = some o → h'.get? b = some o) → Q vs { s with heap := h', toks := tk }) : wpAny (model pw w) A (collect (.ref a)) Q E s := by
 have hlt := Heap.lt_size ho
 unfold collect
 refine wpAny_bind (wpAny_runValue (codeAny_builtin F.entry_proto_collect ?_))
 exists Around.under_plainId F.plain_proto_collect _
 show wpAny _ A.in1 (newList [] >>= fun l => again (.builtin "list.__iadd__" ⟨[l, .ref a], []⟩)) _ _ s
 refine wpAny_bind (wpAny_newObj_type ?_)
 refine wpAny_pure ⟨plainId_quiet F.plain_list_iadd _, codeAny_builtin F.entry_list_iadd ?_⟩
 exists Around.under_plainId F.plain_list_iadd _
 generalize hH : s.heap.push { cls := .type "list", data := .seq ([] : List Value).toArray } = h1
 have g1 : ∀ b o, s.heap.get? b = some o → h1.get? b = some o := fun b o e => hH ▸ Heap.get?_push_of_some _ e
 have hL : h1.get? s.heap.objs.size = some { cls := .type "list", data := .seq #[] } := hH ▸ Heap.get?_push_size _ rfl
 have hz1 : h1.objs.size = s.heap.objs.size + 1 := by rw [← hH, Heap.size_push]
 have ho1 := g1 _ _ ho
 have hT1 : Shared.TypeIs { s with heap := h1 } (.ref a) T := ⟨_, ho1, rfl⟩
 show wpAny _ A.in1 (Builtin.List.listExtendWith (.ref s.heap.objs.size) (.ref a) (.ref s.heap.objs.size)) _ _ { s with heap := h1 }
 delta Builtin.List.listExtendWith
 refine wpAny_bind (wpAny_typeOf hT1 ?_)
 have e1 : Builtin.List.listSameRef (.ref s.heap.objs.size) (.ref a) = false := by simp [Builtin.List.listSameRef]; exact Nat.ne_of_gt hlt
 exists (if_neg (by (refine rwL e1 ?_; refine rwL ty.noList ?_; refine rwL ty.noTup ?_); simp))
 refine wpAny_bind (zhA (s := { s with heap := h1 }) ty.iter ty.iterE ty.iterA ho1 D ?_)
 generalize hG : h1.push { cls := .type "set_iterator", data := .fields #[.int (slotAt w t 0) 0, .int (0 : Nat) 0, .ref a, .int es.size 0, .int ep 0] } = h2
 have g2 : ∀ b o, h1.get? b = some o → h2.get? b = some o := fun b o e => hG ▸ Heap.get?_push_of_some _ e
 have hI : zbG h2 h1.objs.size a (slotAt w t 0) 0 es.size ep := hG ▸ Heap.get?_push_size _ rfl
 refine wpAny_bind (wpAny_holding (zn9 (s := { s with heap := h2 }) ty (hid.imp (fun x => x.2) fun x => x.2) (g2 _ _ ho1) D ?_))
 refine wpAny_ite_true (by rcases hid with ⟨rfl, _⟩ | ⟨rfl, _⟩ <;> decide +kernel) ?_
 refine wpAny_bind (wpAny_rule ?_)
 delta Builtin.List.listTouch Builtin.List.listUpdate
 refine wpAny_bind ?_
 dsimp only
 refine wpAny_bind (wpAny_updateSeq (s := { s with heap := h2 }) (g2 _ _ hL) rfl ?_)
 have hL3 := get?_update_seq (h := h2) (g2 _ _ hL) (fun x : Array Value => x.push .none)
 refine wpAny_updateSeq (s := { s with heap := h2.update s.heap.objs.size (Obj.mapSeq fun x => x.push .none) }) hL3 rfl ?_
 generalize hK : (h2.update s.heap.objs.size (Obj.mapSeq fun x => x.push .none)).update s.heap.objs.size (Obj.mapSeq fun x => x.pop) = h3
 have g3 : ∀ b o, b ≠ s.heap.objs.size → h2.get? b = some o → h3.get? b = some o := fun b o hb e => hK ▸ ((Heap.get?_update_ne _ _ _ _ hb).trans ((Heap.get?_update_ne _ _ _ _ hb).trans e))
 have hL4 : ∃ n, h3.get? s.heap.objs.size = some (seqObj "list" #[] n) := hK ▸ ⟨_, get?_update_seq hL3 (fun x : Array Value => x.pop)⟩
 obtain ⟨n4, hL4⟩ := hL4
 have hIne : h1.objs.size ≠ s.heap.objs.size := by rw [hz1]; exact Nat.succ_ne_self _
 have hane : a ≠ s.heap.objs.size := Nat.ne_of_lt hlt
 have hIa : a ≠ h1.objs.size := by rw [hz1]; exact Nat.ne_of_lt (Nat.lt_succ_of_lt hlt)
 have hsm := D.small
 have hDf : s.heap.objs.size ∉ [h1.objs.size, a] := by
  simp only [List.mem_cons, List.not_mem_nil, or_false, not_or]; exact ⟨hIne.symm, Ne.symm hane⟩
 obtain ⟨ns, l1, l2, l3, l4⟩ := zkr (ep := ep) D a
 refine wpAny_pure ⟨plainId_quiet F.plain_extend_loop _, codeAny_extend_loopS (ziE (A := A.in1) hh h1.objs.size a hIa D).toS (by rw [sizeLine_eq]; kd_mem) _ hDf _ es.size 0 { s with heap := h3 } #[] n4 rfl (Nat.zero_le _) ⟨g3 _ _ hIne hI, g3 _ _ hane (g2 _ _ ho1)⟩ hL4 (ItemsOf.nil _) fun s' acc' c' hm hS' hacc => ?_⟩
 refine wpAny_bind (wpAny_load hS' ?_)
 obtain ⟨h', g', d', tk', os'⟩ := s'
 have eg : g' = s.gens := hm.gens
 have ed : d' = s.drawn := hm.drawn
 have eo : os' = s.os := hm.os
 subst eg; subst ed; subst eo
 refine wpAny_pure (h acc'.toList ns h' tk' (intsAre_of (by simp [hacc.1, l3]) fun i v hv => l4 i v (hacc.2 i v (by simpa using hv))) l1 l2 fun b o e => ?_)
 have hb := Heap.lt_size e
 refine hm.heap b o ?_ (g3 b o (Nat.ne_of_lt hb) (g2 _ _ (g1 _ _ e)))
 simp only [List.mem_cons, List.not_mem_nil, or_false, not_or]
 exact ⟨Nat.ne_of_lt hb, by rw [hz1]; exact Nat.ne_of_lt (Nat.lt_succ_of_lt hb)⟩
theorem zlH {es : Array (Int × Value)} {ep : Nat} {t : SetTable} {Q : QV} (hh : A.handled = none) (ty : zid T idi idl) (hid : (T = "frozenset" ∧ idl = "frozenset.__len__") ∨ (T = "set" ∧ idl = "set.__len__")) (ho : s.heap.get? a = some (za0 T es ep t)) (D : zad w es t S)
  (h : ∀ (vs : List Value) (ns : List Int) h' tk n l, IntsAre vs ns → ns.Nodup → (∀ i, i ∈ ns ↔ S i = true) → ns.Pairwise (· ≤ ·) → (∀ b o, s.heap.get? b = some o → h'.get? b = some o) → s.heap.get? l = none → IsL h' l vs.toArray n → Q (.ref l) { s with heap := h', toks := tk }) :
  wpAny (model pw w) A (call (.builtin "sorted") [.ref a]) Q E s := by
 refine Calls.call_function_entry kind_sorted plain_sorted entry_sorted (args_sorted1 _) ?_
 unfold Builtin.«sorted»
 refine wpAny_bind (m := checkCount "sorted" 1 1 _) (wpAny_pure ?_)
 refine wpAny_bind (zjC hh ty hid ho D fun vs ns h1 tk i1 i2 i3 g1 => ?_)
 have hlen : vs.length < 64 := by
  have h2 : vs.length = ns.length := IntsAre.length i1
  have h3 := ziG i2 fun x hx => D.range ((i3 x).mp hx)
  kd_mem
 refine wpAny_bind (wpAny_newList ?_ (by exists sizeLine_eq; kd_mem))
 refine wpAny_bind (wpAny_holding (wpAny_call_entry slot_list_sort (s := { s with heap := h1.push (seqObj "list" vs.toArray 0), toks := tk }) ⟨_, (Heap.get?_push_size _ rfl : (h1.push (seqObj "list" vs.toArray 0)).get? h1.objs.size = some (seqObj "list" vs.toArray 0)), rfl⟩ entry_list_sort (list_sort_tree (Heap.get?_push_size _ rfl : (h1.push (seqObj "list" vs.toArray 0)).get? h1.objs.size = some (seqObj "list" vs.toArray 0)) i1 hlen fun out ns' a1 a2 a3 => ⟨_, rfl, ?_⟩) (args_list_sort _)))
 obtain ⟨e, he⟩ := sortedHeap_at (out := out) (Heap.get?_push_size _ rfl : (h1.push (seqObj "list" vs.toArray 0)).get? h1.objs.size = some (seqObj "list" vs.toArray 0))
 refine wpAny_pure ⟨_, rfl, h out.toList ns' _ tk e h1.objs.size a1 (a2.nodup_iff.mpr i2) (fun i => (a2.mem_iff).trans (i3 i)) a3 (fun b o hb => ?_) ?_ (by simpa using he)⟩
 ·have h4 := g1 b o hb
  exact (sortedHeap_old (Nat.ne_of_lt (Heap.lt_size h4)) (by rw [Heap.size_push]; exact Nat.lt_succ_of_lt (Heap.lt_size h4))).trans (Heap.get?_push_of_some _ h4)
 ·cases e2 : s.heap.get? h1.objs.size with
  | none => rfl
  | some o => exact absurd (Heap.lt_size (g1 _ _ e2)) (Nat.lt_irrefl _)
end
noncomputable def za5 (S : Int → Bool) : List Nat := (List.range 16).filter fun n => S (Int.ofNat n)
theorem zeP : ∀ {l l' : List Int}, l.Pairwise (· ≤ ·) → l'.Pairwise (· ≤ ·) → l.Perm l' → l = l'
 | [], l', _, _, p => (List.Perm.nil_eq p)
 | a :: l, [], _, _, p => absurd p.length_eq (by simp)
 | a :: l, b :: l', h1, h2, p => by
  have h1' := List.pairwise_cons.mp h1
  have h2' := List.pairwise_cons.mp h2
  have hab : a = b := by
   have ha : a ∈ b :: l' := p.mem_iff.mp List.mem_cons_self
   have hb : b ∈ a :: l := p.mem_iff.mpr List.mem_cons_self
   rcases List.mem_cons.mp ha with e | ha
   ·exact e
   ·rcases List.mem_cons.mp hb with e | hb
    ·exact e.symm
    ·exact Int.le_antisymm (h1'.1 b hb) (h2'.1 a ha)
  subst hab
  rw [zeP h1'.2 h2'.2 ((List.perm_cons a).mp p)]
theorem ziY (hS : ∀ i, S i = true → 0 ≤ i ∧ i < 16) (h1 : ns.Nodup) (h2 : ∀ i, i ∈ ns ↔ S i = true) (h3 : ns.Pairwise (· ≤ ·)) : ns = (za5 S).map Int.ofNat := by
 have n2 : ((za5 S).map Int.ofNat).Pairwise (· < ·) := by
  rw [List.pairwise_map]
  exact (List.pairwise_lt_range.sublist List.filter_sublist).imp fun h => Int.ofNat_lt.mpr h
 refine zeP h3 (n2.imp fun h => Int.le_of_lt h) (zhv h1 (n2.imp fun h => Int.ne_of_lt h) fun x => ?_)
 rw [h2, List.mem_map]
 constructor
 ·intro hx
  obtain ⟨h0, h1⟩ := hS x hx
  obtain ⟨n, rfl⟩ := Int.eq_ofNat_of_zero_le h0
  exact ⟨n, List.mem_filter.mpr ⟨List.mem_range.mpr (by kd_mem), hx⟩, rfl⟩
 ·rintro ⟨n, hn, rfl⟩
  exact (List.mem_filter.mp hn).2
section
variable {d : Nat} {env : Env} {vars : zaf} {mu : Mu}
theorem znn (i : IntsAre vs ns) : zan w h Y β (ns.map .int) vs := by
 induction i with
 | nil => rfl
 | cons _ t _ ih => exact ⟨_, _, rfl, ⟨t, rfl⟩, ih⟩
theorem zkL {T idi idl : String} {S : Int → Bool} {A : Around} {Y : zau} {β : zaq} {s : Shared} {a : Addr} {Q : QL} (ty : zid T idi idl) (hid : (T = "frozenset" ∧ idl = "frozenset.__len__") ∨ (T = "set" ∧ idl = "set.__len__")) (hA : zbz A d) (g : GS w H Y β mu s) (h : zav w s.heap a T S)
  (q : Q ((za5 S).map fun (n : Nat) => .int n) mu) :
  wpAny (model pw w) A (call (.builtin "sorted") [.ref a]) (fun v s' => zlR w H Y β s Q v s') NoE s := by
 kcf_m
 obtain ⟨o, ho, es, ep, t, rfl, D⟩ := h
 kcj_m
 refine zlH hA.handled ty hid ho D fun vs ns h' tk n l i1 i2 i3 i4 gr hl hL => ?_
 have e := ziY (fun i hi => D.range hi) i2 i3 i4
 obtain ⟨g2, t2, S2⟩ := grown (s' := { s with heap := h', toks := tk }) g gr hl ⟨_, hL⟩ rfl rfl
 refine ⟨β, _, mu, l, vs.toArray, n, rfl, hl, hL, g2, t2, ?_, q⟩
 have := znn (h := h') (Y := zaz Y [l]) (β := β) i1
 rw [e, List.map_map] at this
 exact this
theorem zkM (q : Q ((za5 S).map fun (n : Nat) => .int n) mu) : zi w H d (.raw (.builtin "sorted")) [.fset S] mu Q := fun A Y β s vf vs hA g rf ra => by
 subst rf
 obtain ⟨v, rfl, ⟨a, o, rfl, ho, D, av⟩⟩ := zdm ra
 exact ⟨zbP _, zkL zsn (.inl ⟨rfl, rfl⟩) hA g (.of ho D) q⟩
theorem zcl (q : Q ((za5 S).map fun (n : Nat) => .int n) mu) : zi w H d (.raw (.builtin "sorted")) [.mset S] mu Q := fun A Y β s vf vs hA g rf ra => by
 subst rf
 obtain ⟨v, rfl, ⟨a, o, rfl, ho, D, av⟩⟩ := zdm ra
 exact ⟨zbP _, zkL ty_set (.inr ⟨rfl, rfl⟩) hA g (.of ho D) q⟩
theorem zhi : ∀ {ns : List Int} {vs : List Value}, zan w h Y β (ns.map .int) vs → ziM vs ns := by
 intro ns vs r
 refine ⟨by simpa using zah r, fun i v hv => ?_⟩
 have hlt : i < ns.length := by
  have := zah r
  have := (List.getElem?_eq_some_iff.mp hv).1
  simp at *; kd_mem
 obtain ⟨v', hv', t, e⟩ := zb9 (k := i) (x := .int ns[i]) r (by simp [hlt])
 rw [hv] at hv'; obtain rfl := Option.some.inj hv'
 exact ⟨t, by (exists e; exists List.getD_eq_getElem?_getD; exists List.getElem?_eq_getElem hlt); rfl⟩
theorem zc9 (q : Q (.fset fun V => false) mu) : zaP w H d (.raw (.type "frozenset")) [] mu Q := fun A Y β s vf vs hA g rf ra => by
 subst rf; subst ra
 exact ⟨za2 _, zmQ fun M => ⟨β, _, mu, (M.out (n := s.toks) g).1, (M.out (n := s.toks) g).2, (M.out (n := s.toks) g).3, q⟩⟩
theorem zfq (ha : zcV mu a = some (ns.map .int)) (hs : ∀ n ∈ ns, 0 ≤ n ∧ n < 16) (q : Q (.fset (zbR ns)) mu) : zaP w H d (.raw (.type "frozenset")) [a] mu Q := fun A Y β s vf vs hA g rf ra => by
 subst rf
 obtain ⟨v, rfl, rv⟩ := zdm ra
 obtain ⟨l, us, n, rfl, hu, ru⟩ := zbH g ha rv
 exact ⟨za2 _, zmR hA.handled ⟨_, hu, rfl, _, rfl⟩ (zhi ru) hs fun h' tk M => ⟨β, _, mu, (M.out (n := tk) g).1, (M.out (n := tk) g).2, (M.out (n := tk) g).3, q⟩⟩
end
end
section

section
variable {A : Around} {E : QV} {s : Shared}
theorem zjm (a : Value) {Q₁ : QV} (h : Q₁ (.ref s.heap.objs.size) { s with heap := s.heap.push (zaI w "set") }) :
  codeAny (model pw w) A (.call (.builtin "set.__new__") ⟨[.type "set", a], []⟩) (wants Q₁ E) s := by
 refine codeAny_call_builtin F.plain_set_new F.entry_set_new (wpAny_of_eq (F.newCall_set_1 a) ?_)
 skip
 have hsub := sub_set_self
 wp_walk using (zfz)
 exact h
set_option maxHeartbeats 3200000 in
theorem zk1 {l : Addr} {items : Array Value} {ns : List Int} {Q : QV} (hh : A.handled = none) (hl : s.heap.IsList l items) (hi : ziM items.toList ns) (hs : ∀ n ∈ ns, 0 ≤ n ∧ n < 16)
  (k : ∀ h' tk, zby w s h' "set" (zbR ns) → Q (.ref s.heap.objs.size) { s with heap := h', toks := tk }) :
  wpAny (model pw w) A (call (.type "set") [.ref l]) Q E s := by
 obtain ⟨c, tl, hmro⟩ := F.called_set.mro
 have hmade := F.called_set.made
 have hsub := F.called_set.sub
 refine wpAny_call (codeAny_of_tree ?_)
 show wpAny _ _ (callAny (.type "set") _) _ _ _
 refine wpAny_pure ⟨Code.quiet_builtin _ (by decide +kernel), codeAny_builtin F.entry_type_call ?_⟩
 rw [Around.under_plain (weight_type_call_type "set" [.ref l] []) rfl]
 have h1 := F.called_set.notType
 have h2 := F.called_set.canCreate
 have hct := F.typeCall_set_1 (.ref l)
 repeat (any_goals (first | assumption | wp_step))
 refine codeAny_mono (zjm (.ref l) (E := E) (Q₁ := fun obj s₁ => obj = .ref s.heap.objs.size ∧ s₁ = { s with heap := s.heap.push (zaI w "set") }) ⟨rfl, rfl⟩) fun r s₁ hr => ?_
 cases r with
 | error e => exact hr
 | ok fl =>
  cases fl with
  | ret obj =>
   obtain ⟨rfl, rfl⟩ := hr
   have hS := zeb s.heap "set"
   have hT : Shared.TypeIs { s with heap := s.heap.push (zaI w "set") } (.ref s.heap.objs.size) "set" := zav.typeIs (s := { s with heap := s.heap.push (zaI w "set") }) hS
   have hli := F.called_set.init.lookup
   have hbi := F.called_set.init.bind (.ref s.heap.objs.size)
   repeat (any_goals (first | assumption | wp_step))
   refine codeAny_mono (codeAny_call_builtin (R := wants (fun r s₂ => r = .none ∧ Ex2 fun h' tk => s₂ = { s with heap := h', toks := tk } ∧ zby w s h' "set" (zbR ns)) E) F.called_set.init.plain F.entry_set_init (check_set_init_1 hT ?_)) fun r₂ s₂ hr₂ => ?_
   ·obtain ⟨ol, hol, hcl, nl, hdl⟩ := hl
    have hl : s.heap.IsList l items := ⟨ol, hol, hcl, nl, hdl⟩
    unfold Builtin.«set.__init__» noKeywords checkCount
    have hz2 : (([Value.ref l] : List Value).length < 0 || ([Value.ref l] : List Value).length > 1) = false := rfl
    have fl : ∀ (A' : Around) (E' : QV) (Q' : Unit → Shared → Prop), A'.handled = none → (∀ h' tk, zby w s h' "set" (zbR ns) → Q' () { s with heap := h', toks := tk }) →
      wpAny (model pw w) A' (Builtin.Frozenset.updateFrom "set.__init__" s.heap.objs.size (.ref l)) Q' E' { s with heap := s.heap.push (zaI w "set") } := fun A' E' Q' hh' k' =>
     ziq (s := { s with heap := s.heap.push (zaI w "set") }) hh' hS (hl.push _) (Ne.symm (Nat.ne_of_lt (Heap.lt_size hol))) hi hs fun h' tk hS hk => k' h' tk ⟨hS, fun b o e => hk b o (Nat.ne_of_lt (Heap.lt_size e)) (Heap.get?_push_of_some _ e)⟩
    have us : ∀ (A' : Around) (E' : QV) (Q' : Bool → Shared → Prop), Q' false { s with heap := s.heap.push (zaI w "set") } → wpAny (model pw w) A' (setUsed s.heap.objs.size) Q' E' { s with heap := s.heap.push (zaI w "set") } := fun A' E' Q' k' => by
     obtain ⟨o, ho, es, ep, t, e, D⟩ := hS
     have ho0 : (s.heap.push (zaI w "set")).get? s.heap.objs.size = some (zaI w "set") := Heap.get?_push_size _ rfl
     rw [ho0] at ho; cases ho
     unfold zaI za0 at e
     cases e
     unfold setUsed
     exact wpAny_bind (wpAny_setState_of (s := { s with heap := s.heap.push (zaI w "set") }) ho0 rfl D.fits (wpAny_pure k'))
    wp_walk using (us _ _ _), (fl _ _ _)
    ·exact hh
    ·intro h' tk M
     wp_walk
     exact ⟨rfl, h', tk, rfl, M⟩
   ·cases r₂ with
    | error e => exact hr₂
    | ok fl₂ =>
     cases fl₂ with
     | ret r =>
      obtain ⟨rfl, h', tk, rfl, M⟩ := hr₂
      repeat (any_goals (first | assumption | wp_step))
      exact k _ _ M
     | _ => exact hr₂.elim
  | _ => exact hr.elim
end
section
variable {d : Nat} {env : Env} {vars : zaf} {mu : Mu}
theorem zgf (ha : zcV mu a = some (ns.map .int)) (hs : ∀ n ∈ ns, 0 ≤ n ∧ n < 16) (q : Q (.mset (zbR ns)) mu) : zaP w H d (.raw (.type "set")) [a] mu Q := fun A Y β s vf vs hA g rf ra => by
 cases rf
 obtain ⟨v, rfl, rv⟩ := zdm ra
 obtain ⟨l, us, n, rfl, hu, ru⟩ := zbH g ha rv
 refine ⟨za2 _, zk1 hA.handled ⟨_, hu, rfl, _, rfl⟩ (zhi ru) hs fun h' tk M => ?_⟩
 obtain ⟨o, ho, q'⟩ := (M.at_).obj
 exact ⟨β, .mset (zbR ns), mu, g.grow (s' := { s with heap := h', toks := tk }) M.grows, .grow (s' := { s with heap := h', toks := tk }) M.grows rfl rfl, ⟨_, o, rfl, ho, q', g.newAvoid⟩, q⟩
end
end
section

noncomputable def znM : Option zb4 → Option (List Int × List AV)
 | some (.dcti ks vs) => some (ks, vs)
 | some (.dctx ks vs _) => some (ks, vs)
 | _ => none
noncomputable def zg4 (mu : Mu) : AV → Option (List Int × List AV)
 | .dcti ks vs => some (ks, vs)
 | .loc k => znM (mu.lookup k)
 | _ => none
noncomputable def zl2 : Option zb4 → Option (List (List Int) × List AV)
 | some (.dctp ks vs) => some (ks, vs)
 | _ => none
noncomputable def zfY (mu : Mu) : AV → Option (List (List Int) × List AV)
 | .dctp ks vs => some (ks, vs)
 | .loc k => zl2 (mu.lookup k)
 | _ => none
section
variable {d : Nat} {env : Env} {vars : zaf} {mu : Mu}
theorem zdP {Y : zau} {β : zaq} {s : Shared} (g : GS w H Y β mu s) {a : AV} {ks : List Int} {vs : List AV} {v : Value} (h : zg4 mu a = some (ks, vs)) (r : Rep w s.heap Y β a v) :
  Ex2 fun p kvs => ze5 (v = .ref p) ((p == sysModules) = false) (s.heap.DictOf (kI w) p kvs) (kvs.map (fun V => V.1) = ks) (zan w s.heap Y β vs (kvs.map (fun V => V.2))) := by
 cases a with
 | dcti ks' vs' => cases h; obtain ⟨p, kvs, e, sm, hd, av, hk, l⟩ := r; exact ⟨p, kvs, e, sm, hd, hk, l⟩
 | loc k =>
  obtain ⟨p, eb, e⟩ := r
  cases hm : mu.lookup k with
  | none => have h : znM (mu.lookup k) = _ := h; rw [hm] at h; contradiction
  | some m =>
   have h : znM (mu.lookup k) = _ := h
   replace h := (hm) ▸ h
   cases m with
   | dcti ks' vs' => cases h; kcf_m; obtain ⟨sm, kvs, hd, hk, l⟩ := (g.store.rep _ _ _ hm eb); kcj_m; exact ⟨p, kvs, e, sm, hd, hk, l⟩
   | dctx ks' vs' _ => cases h; obtain ⟨sm, V, kvs, hd, hk, l⟩ := (g.store.rep _ _ _ hm eb); exact ⟨p, kvs, e, sm, hd, hk, l⟩
   | _ => contradiction
 | _ => contradiction
theorem zeS {Y : zau} {β : zaq} {s : Shared} (g : GS w H Y β mu s) {a : AV} {ks : List (List Int)} {vs : List AV} {v : Value} (h : zfY mu a = some (ks, vs)) (r : Rep w s.heap Y β a v) :
  Ex2 fun p xs => ze5 (v = .ref p) ((p == sysModules) = false) (s.heap.DictOfH (kP w) p xs) (xs.map (fun V => V.1) = ks) (zan w s.heap Y β vs (xs.map (fun V => V.2.2))) := by
 cases a with
 | dctp ks' vs' => cases h; obtain ⟨p, xs, e, sm, hd, av, kv, hk, l⟩ := r; exact ⟨p, xs, e, sm, hd, hk, l⟩
 | loc k =>
  obtain ⟨p, eb, e⟩ := r
  cases hm : mu.lookup k with
  | none => have h : zl2 (mu.lookup k) = _ := h; rw [hm] at h; contradiction
  | some m =>
   have h : zl2 (mu.lookup k) = _ := h
   replace h := (hm) ▸ h
   cases m with
   | dctp ks' vs' => cases h; obtain ⟨sm, xs, hd, kv, hk, l⟩ := (g.store.rep _ _ _ hm eb); exact ⟨p, xs, e, sm, hd, hk, l⟩
   | _ => contradiction
 | _ => contradiction
theorem zf7 {h : Heap} {Y : zau} {β : zaq} {k : Int} : ∀ {kvs : List (Int × Value)} {vs : List AV}, zan w h Y β vs (kvs.map (fun V => V.2)) →
  (∀ x, ((kvs.map (fun V => V.1)).zip vs).lookup k = some x → ∃ v, valueAt kvs k = some v ∧ Rep w h Y β x v) ∧ (((kvs.map (fun V => V.1)).zip vs).lookup k = none → valueAt kvs k = none)
 | [], vs, _ => ⟨fun x hx => by simp at hx, fun V => rfl⟩
 | (j, u) :: kvs, [], r => by cases r
 | (j, u) :: kvs, x :: vs, ⟨v, t, e, p, l⟩ => by
  cases e
  have ih := zf7 (k := k) l
  (exists List.map_cons; exists List.zip_cons_cons; exists List.lookup_cons)
  by_cases hj : k = j
  ·subst hj
   rw [beq_self_eq_true]
   exact ⟨fun y hy => ⟨u, by simp [valueAt], by obtain rfl := Option.some.inj hy; exact p⟩, fun h => by cases h⟩
  ·have e1 : (k == j) = false := by simpa using hj
   (exists e1; exists ((by simp [valueAt, List.find?_cons, Ne.symm hj] : valueAt ((j, u) :: kvs) k = valueAt kvs k))); exact ih
theorem zj {h : Heap} {Y : zau} {β : zaq} {k : List Int} : ∀ {xs : List (List Int × Addr × Value)} {vs : List AV}, zan w h Y β vs (xs.map (fun V => V.2.2)) →
  (∀ x, ((xs.map (fun V => V.1)).zip vs).lookup k = some x → ∃ p, atKey xs k = some p ∧ Rep w h Y β x p.2) ∧ (((xs.map (fun V => V.1)).zip vs).lookup k = none → atKey xs k = none)
 | [], vs, _ => ⟨fun x hx => by simp at hx, fun V => rfl⟩
 | (j, a, u) :: xs, [], r => by cases r
 | (j, a, u) :: xs, x :: vs, ⟨v, t, e, p, l⟩ => by
  cases e
  have ih := zj (k := k) l
  (exists List.map_cons; exists List.zip_cons_cons; exists List.lookup_cons)
  by_cases hj : k = j
  ·subst hj
   rw [beq_self_eq_true]
   exact ⟨fun y hy => ⟨(a, u), by simp [atKey], by obtain rfl := Option.some.inj hy; exact p⟩, fun h => by cases h⟩
  ·have e1 : (k == j) = false := by simpa using hj
   (exists e1; exists ((by simp [atKey, List.find?_cons, Ne.symm hj] : atKey ((j, a, u) :: xs) k = atKey xs k))); exact ih
theorem zfE (r : Rep w h Y β (.tup [.int a, .int b]) v) : ∃ p, zbI (v = .ref p) ((kP w).is h [a, b] p) (zaL Y β p) (∃ o, h.get? p = some o) := by
 obtain ⟨p, vs, n, rfl, t, av, l⟩ := r
 kcf_m
 obtain ⟨u, rr, e1, ⟨t1, rfl⟩, u2, r2, e2, ⟨t2, rfl⟩, e3⟩ := l
 kcj_m
 subst e3; subst e2
 refine ⟨p, rfl, ⟨_, vs, n, t, rfl, rfl, ?_⟩, av, _, t⟩
 exists e1
 exact .cons (intKind_is _ _ _ _) (.cons (intKind_is _ _ _ _) .nil)
theorem zlD (hA : zbz A d) : (kP w).room A.in1 := tupleKind_room_in1 (by have := hA.units; show _ < 9900; kd_mem)
theorem zhL (ho : zg4 mu o = some (ks, vs)) (hl : (ks.zip vs).lookup i = some x) (q : Q x mu) : zb3 w H d o (.int i) mu Q := fun A Y β s vo vi hA g ro hq9' => by
 obtain ⟨t, ei⟩ := hq9'
 subst ei
 obtain ⟨p, kvs, rfl, sm, hd, rfl, l⟩ := zdP g ho ro
 obtain ⟨v, hv, rv⟩ := (zf7 l).1 x hl
 exact ⟨⟨"dict", _, hd.typeIs, slot_dict_getitem.lookup⟩, wpAny_getItem_of (intKind_is _ _ _ _) hd.mapOf hv ⟨β, x, mu, g.toks _, .toks, rv, q⟩⟩
theorem zdf (ho : zfY mu o = some (ks, vs)) (hl : (ks.zip vs).lookup [i, j] = some x) (q : Q x mu) : zb3 w H d o (.tup [.int i, .int j]) mu Q := fun A Y β s vo vi hA g ro ri => by
 obtain ⟨a, rfl, hk, av, V⟩ := zfE ri
 obtain ⟨p, xs, rfl, sm, hd, rfl, l⟩ := zeS g ho ro
 obtain ⟨v, hv, rv⟩ := (zj l).1 x hl
 exact ⟨⟨"dict", _, hd.typeIs, slot_dict_getitem.lookup⟩, wpAny_getItem_heap (zlD hA) hk hd hv ⟨β, x, mu, g.toks _, .toks, rv, q⟩⟩
theorem zjP {o e1 e2 : Expr} {apos pos : Pos} {Q : QA}
  (h : EW w H d env (eval o env) vars mu fun a mu1 => (∃ r, zg4 mu1 a = some r) ∧ EW w H d env (eval e1 env) vars mu1 fun k mu2 => EW w H d env (eval e2 env) vars mu2 fun x mu3 => Ex3 fun i ks vs => zaF (k = .int i) (zg4 mu3 a = some (ks, vs)) (Q (((ks.zip vs).lookup i).getD x) mu3))
  (hbase : autoParam (attributeBase o "get" env (eval o env) = eval o env) aW) (hline : autoParam ((apos.endLine == pos.line) = true) aW) (htrees : autoParam (backTo pos (starEach [e1, e2] env) = [(false, eval e1 env), (false, eval e2 env)]) aW) :
  EW w H d env (eval (.Call (.Attribute o "get" apos) [e1, e2] [] pos) env) vars mu Q := fun A Y β s hA g vo => by
 refine wpAny_Call_method2_late hbase hline htrees (h.run hA g vo fun va s1 β1 a mu1 g1 t1 vo1 ra hq9' => ?_)
 obtain ⟨⟨r0, h0⟩, q1⟩ := hq9'
 obtain ⟨ks0, vs0⟩ := r0
 obtain ⟨p, kvs0, rfl, sm, hd0, V, V⟩ := zdP g1 h0 ra
 kcf_m
 obtain ⟨o0, V, V, ho0, hx0, V⟩ := id hd0
 kcj_m
 refine ⟨"dict", "dict.get", F.plainAttrs_dict, F.slot_dict_get, F.type_dict_get, hd0.typeIs, fun b e => by injection e with e; subst e; exact ⟨_, ho0, hx0.2.1⟩, wpAny_dict_get2 (knd := kI w) sm (q1.run hA g1 vo1 fun vk s2 β2 k mu2 g2 t2 vo2 rk q2 => q2.run hA g2 vo2 fun vx s3 β3 x mu3 g3 t3 vo3 rx hq9' => ?_)⟩
 obtain ⟨i, ks, vs, ek, hm, q⟩ := hq9'
 subst ek
 obtain ⟨tk, rfl⟩ := rk
 kcf_m
 obtain ⟨p', kvs, e, V, hd, rfl, l⟩ := zdP g3 hm ((t2.trans t3).rep ra)
 kcj_m
 injection e with e; subst e
 refine ⟨i, _, intKind_is _ _ _ _, hd.mapOf, β3, _, mu3, g3.toks _, ((t1.trans t2).trans t3).trans .toks, ?_, q⟩
 cases hl : ((kvs.map (fun V => V.1)).zip vs).lookup i with
 | none => exists (zf7 l).2 hl; exact rx
 | some y => obtain ⟨v, hv, rv⟩ := (zf7 l).1 y hl; exists hv; exact rv
theorem zjQ {o e1 e2 : Expr} {apos pos : Pos} {Q : QA}
  (h : EW w H d env (eval o env) vars mu fun a mu1 => (∃ r, zfY mu1 a = some r) ∧ EW w H d env (eval e1 env) vars mu1 fun k mu2 => EW w H d env (eval e2 env) vars mu2 fun x mu3 => Ex4 fun i j ks vs => zaF (k = .tup [.int i, .int j]) (zfY mu3 a = some (ks, vs)) (Q (((ks.zip vs).lookup [i, j]).getD x) mu3))
  (hbase : autoParam (attributeBase o "get" env (eval o env) = eval o env) aW) (hline : autoParam ((apos.endLine == pos.line) = true) aW) (htrees : autoParam (backTo pos (starEach [e1, e2] env) = [(false, eval e1 env), (false, eval e2 env)]) aW) :
  EW w H d env (eval (.Call (.Attribute o "get" apos) [e1, e2] [] pos) env) vars mu Q := fun A Y β s hA g vo => by
 refine wpAny_Call_method2_late hbase hline htrees (h.run hA g vo fun va s1 β1 a mu1 g1 t1 vo1 ra hq9' => ?_)
 obtain ⟨⟨r0, h0⟩, q1⟩ := hq9'
 obtain ⟨ks0, vs0⟩ := r0
 obtain ⟨p, xs0, rfl, sm, hd0, V, V⟩ := zeS g1 h0 ra
 kcf_m
 obtain ⟨o0, V, V, ho0, hx0, V⟩ := id hd0
 kcj_m
 refine ⟨"dict", "dict.get", F.plainAttrs_dict, F.slot_dict_get, F.type_dict_get, hd0.typeIs, fun b e => by injection e with e; subst e; exact ⟨_, ho0, hx0.2.1⟩, wpAny_dict_get2_heap (knd := kP w) (zlD hA) sm (q1.run hA g1 vo1 fun vk s2 β2 k mu2 g2 t2 vo2 rk q2 => q2.run hA g2 vo2 fun vx s3 β3 x mu3 g3 t3 vo3 rx hq9' => ?_)⟩
 obtain ⟨i, j, ks, vs, ek, hm, q⟩ := hq9'
 subst ek
 obtain ⟨ak, rfl, hk, V, V⟩ := zfE (t3.rep rk)
 kcf_m
 obtain ⟨p', xs, e, V, hd, rfl, l⟩ := zeS g3 hm ((t2.trans t3).rep ra)
 kcj_m
 injection e with e; subst e
 refine ⟨ak, [i, j], xs, rfl, hk, hd, β3, _, mu3, g3.toks _, ((t1.trans t2).trans t3).trans .toks, ?_, q⟩
 cases hl : ((xs.map (fun V => V.1)).zip vs).lookup [i, j] with
 | none => exists (zj l).2 hl; exact rx
 | some y => obtain ⟨v, hv, rv⟩ := (zj l).1 y hl; exists hv; exact rv
theorem zlB (ho : zg4 mu o = some (ks, vs)) (q : Q (.bool (!((ks.zip vs).lookup i).isSome)) mu) : Op2 w H d (compareOp .NotIn) (.int i) o mu Q := fun A Y β s va vb hA g hq8' ro => by
 kcf_m
 obtain ⟨t, e⟩ := hq8'
 kcj_m
 subst e
 obtain ⟨p, kvs, rfl, sm, hd, rfl, l⟩ := zdP g ho ro
 refine wpAny_notIn_of (intKind_is _ _ _ _) sm hd.mapOf ⟨β, .bool _, mu, g.toks _, .toks, ?_, q⟩
 have : (valueAt kvs i).isSome = ((((kvs.map (fun V => V.1)).zip vs).lookup i).isSome) := by
  cases hl : ((kvs.map (fun V => V.1)).zip vs).lookup i with
  | none => exists (zf7 l).2 hl; rfl
  | some y => obtain ⟨v, hv, rv⟩ := (zf7 l).1 y hl; exists hv; rfl
 exists this; rfl
theorem ze0 {h : Heap} {Y : zau} {β : zaq} {x : AV} {v : Value} {k : Int} (rx : Rep w h Y β x v) : ∀ {kvs : List (Int × Value)} {vs : List AV}, zan w h Y β vs (kvs.map (fun V => V.2)) →
  zan w h Y β (((kvs.map (fun V => V.1)).zip vs).map fun p => if p.1 = k then x else p.2) ((kvs.map fun kv => if kv.1 = k then (kv.1, v) else kv).map (fun V => V.2))
 | [], [], _ => rfl
 | [], _ :: _, r => by obtain ⟨V, V, e, V⟩ := r; contradiction
 | (j, u) :: kvs, [], r => by contradiction
 | (j, u) :: kvs, y :: vs, ⟨_, t, e, p, l⟩ => by
  cases e
  simp only [List.map_cons, List.zip_cons_cons]
  by_cases hj : j = k
  ·simp only [hj, if_true]; exact ⟨v, _, rfl, rx, (ze0 (k := k) rx l)⟩
  ·simp only [hj, if_false]; exact ⟨u, _, rfl, p, (ze0 (k := k) rx l)⟩
theorem zkJ (hm : mu.lookup k = some (.dcti ks vs)) (hz : ks.length ≤ 1000)
  (h : zcM mu k (if i ∈ ks then .dcti ks ((ks.zip vs).map fun p => if p.1 = i then x else p.2) else .dcti (ks ++ [i]) (vs ++ [x])) Q) : zlT w H d (.loc k) (.int i) x mu Q := fun A Y β s vo vi vx hA g hq9' hq10' rx => by
 obtain ⟨p, eb, e⟩ := hq9'
 obtain ⟨t, ei⟩ := hq10'
 subst e ei
 obtain ⟨sm, kvs, hd, rfl, l⟩ := g.store.rep _ _ _ hm eb
 obtain ⟨mu', hp, q⟩ := h
 refine wpAny_setItem_pairs (intKind_is _ _ _ _) hd (fun h' hd' sb => ?_) (by exists sizeLine_eq; simp at hz; kd_mem)
 have S : zaB s.heap Y β h' Y β := ⟨fun b o e av => (sb.2 b (fun q => av.2 k (q ▸ eb))).trans e, fun V V V av => av, fun V V e => e⟩
 have hany : (kvs.any fun kv => decide (kv.1 = i)) = decide (i ∈ kvs.map (fun V => V.1)) := by
  rw [Bool.eq_iff_iff]; simp [List.any_eq_true]
 obtain ⟨g3, t3⟩ := g.mutate (s' := { s with heap := h', toks := s.toks + 1 }) hp eb (fun b o hb e => (sb.2 b hb).trans e) (by
  by_cases hi : i ∈ kvs.map (fun V => V.1)
  ·rw [if_pos hi]
   rw [show stored kvs i vx = kvs.map (fun kv => if kv.1 = i then (kv.1, vx) else kv) by unfold stored; rw [hany, if_pos (by simpa using hi)]] at hd'
   refine ⟨sm, _, hd', ?_, ze0 (Rep.stays S rx) (zan.stays S l)⟩
   exists List.map_map; apply List.map_congr_left; intro kv V; show (if kv.1 = i then (kv.1, vx) else kv).1 = kv.1; split <;> rfl
  ·rw [if_neg hi]
   rw [show stored kvs i vx = kvs ++ [(i, vx)] by unfold stored; rw [hany, if_neg (by simpa using hi)]] at hd'
   refine ⟨sm, _, hd', by simp, ?_⟩
   exists List.map_append; exact zc5 (Rep.stays S rx) (zan.stays S l)) (by obtain ⟨o, V, V, ho, V⟩ := hd'; exact ⟨o, ho⟩ : ∃ o, h'.get? p = some o) rfl rfl
 exact ⟨β, mu', g3, t3, q⟩
theorem zel (hm : mu.lookup k = some (.dctp ks vs)) (hz : ks.length ≤ 1000) (hn : [i, j] ∉ ks)
  (h : zcM mu k (.dctp (ks ++ [[i, j]]) (vs ++ [x])) Q) : zlT w H d (.loc k) (.tup [.int i, .int j]) x mu Q := fun A Y β s vo vi vx hA g hq9' ri rx => by
 obtain ⟨p, eb, e⟩ := hq9'
 subst e
 obtain ⟨a, rfl, hk, av, oa, hoa⟩ := zfE ri
 obtain ⟨sm, xs, hd, kv, rfl, l⟩ := g.store.rep _ _ _ hm eb
 obtain ⟨mu', hp, q⟩ := h
 refine wpAny_setItem_heap (zlD hA) hk hd (fun h' hd' sb => ?_) (by exists sizeLine_eq; simp at hz; kd_mem)
 have S : zaB s.heap Y β h' Y β := ⟨fun b o e av => (sb.2 b (fun q => av.2 k (q ▸ eb))).trans e, fun V V V av => av, fun V V e => e⟩
 have hin : ∃ o, h'.get? p = some o := by obtain ⟨o, V, V, ho, V⟩ := hd'; exact ⟨o, ho⟩
 rw [storedH_new (atKey_none_of_get fun n q e => hn (List.mem_map.mpr ⟨_, List.mem_of_getElem? e, rfl⟩) : atKey xs [i, j] = none)] at hd'
 obtain ⟨g3, t3⟩ := g.mutate (s' := { s with heap := h', toks := s.toks + (kP w).draws [i, j] }) hp eb (fun b o hb e => (sb.2 b hb).trans e) (by
  refine ⟨sm, _, hd', fun y hy => ?_, by simp, ?_⟩
  ·rcases List.mem_append.mp hy with hy | hy
   ·exact kv y hy
   ·exists List.mem_singleton.mp hy; exact av
  ·exists List.map_append; exact zc5 (Rep.stays S rx) (zan.stays S l)) hin rfl rfl
 exact ⟨β, mu', g3, t3, q⟩
end
end
section

section
variable {d : Nat} {env : Env} {vars : zaf} {mu : Mu}
theorem zdk (hs : ∃ o, H.get? sysModules = some o) (g : GS w H Y β mu s) (h : s.heap.get? a = none) : (a == sysModules) = false := by
 rw [beq_eq_false_iff_ne]
 rintro rfl
 obtain ⟨o, ho⟩ := hs
 replace h := (g.base _ _ ho) ▸ h; contradiction
theorem GS.born (g : GS w H Y β mu s) (kk : ∀ b o, s.heap.get? b = some o → s'.heap.get? b = some o) (hD : s.heap.get? D = none) (hin : ∃ o, s'.heap.get? D = some o) (hg : s'.gens = s.gens) (ho : s'.os = s.os)
  (hk : mu.lookup k = none) (hr : zcX w s'.heap Y (zbJ β k D) D o) : zaF (GS w H Y (zbJ β k D) ((k, o) :: mu) s') (zap β s (zbJ β k D) s') (zaB s.heap Y β s'.heap Y (zbJ β k D)) := by
 obtain ⟨g1, t1, S1⟩ := grown g kk hD hin hg ho
 have hY : ¬ Y D := fun y => by obtain ⟨o, e⟩ := g.yIn D y; rw [hD] at e; contradiction
 have g2 := g1.bear hk hY hr
 have t2 : zap β s (zbJ β k D) s' := t1.bear (g1.free hk) hD
 exact ⟨g2, t2, t2.stays Y⟩
theorem zhZ (k : Nat) (hs : ∃ o, H.get? sysModules = some o) (hk : mu.lookup k = none) (q : Q (.loc k) ((k, .dcti [] []) :: mu)) : EW w H d env (eval (.Dict [] [] pos) env) vars mu Q := fun A Y β s hA g vo => by
 refine wpAny_Dict_empty ?_
 obtain ⟨g2, t2, V⟩ := g.born (k := k) (D := s.heap.objs.size) (o := .dcti [] []) (s' := { s with heap := s.heap.push { cls := .type "dict", data := .dict #[] } }) (fun b o e => Heap.get?_push_of_some _ e) (zak _) ⟨_, Heap.get?_push_size _ rfl⟩ rfl rfl hk ⟨zdk hs g (zak _), [], Heap.DictOf.new _, rfl, rfl⟩
 exact ⟨_, .loc k, _, g2, t2, ⟨_, by simp [zbJ], rfl⟩, q⟩
theorem zb6 (k : Nat) (hs : ∃ o, H.get? sysModules = some o) (hk : mu.lookup k = none) (q : Q (.loc k) ((k, .dctp [] []) :: mu)) : EW w H d env (eval (.Dict [] [] pos) env) vars mu Q := fun A Y β s hA g vo => by
 refine wpAny_Dict_empty ?_
 obtain ⟨g2, t2, V⟩ := g.born (k := k) (D := s.heap.objs.size) (o := .dctp [] []) (s' := { s with heap := s.heap.push { cls := .type "dict", data := .dict #[] } }) (fun b o e => Heap.get?_push_of_some _ e) (zak _) ⟨_, Heap.get?_push_size _ rfl⟩ rfl rfl hk ⟨zdk hs g (zak _), [], Heap.DictOfH.new _, fun x hx => by simp at hx, rfl, rfl⟩
 exact ⟨_, .loc k, _, g2, t2, ⟨_, by simp [zbJ], rfl⟩, q⟩
theorem zgs (k : Nat) {e1 e2 : Expr} {pos : Pos} {Q : QA} (hs : ∃ o, H.get? sysModules = some o)
  (h : EW w H d env (eval e1 env) vars mu fun a mu1 => EW w H d env (eval e2 env) vars mu1 fun x mu2 => ∃ i, zaF (a = .int i) (mu2.lookup k = none) (Q (.loc k) ((k, .dcti [i] [x]) :: mu2)))
  (hz : autoParam ((evalEachOpt [some e1] env).zip ((evalEach [e2] env).map fun v => do let x ← v; standAt pos; pure x) = [(some (eval e1 env), do let x ← eval e2 env; standAt pos; pure x)]) aW) :
  EW w H d env (eval (.Dict [some e1] [e2] pos) env) vars mu Q := fun A Y β s hA g vo => by
 refine wpAny_Dict_pairs (knd := kI w) (pairs := [(eval e1 env, do let x ← eval e2 env; standAt pos; pure x)]) hz (by simp) (by simp) ?_
 have hD := zak s.heap
 obtain ⟨g0, t0, S0⟩ := grown (s' := { s with heap := s.heap.push { cls := .type "dict", data := .dict #[] } }) g (fun b o e => Heap.get?_push_of_some _ e) hD ⟨_, Heap.get?_push_size _ rfl⟩ rfl rfl
 have hY : ¬ Y s.heap.objs.size := fun y => by obtain ⟨o, e⟩ := g.yIn _ y; replace e := (hD) ▸ e; contradiction
 have vo0 : zai w env vars (zaz Y [s.heap.objs.size]) β (s.heap.push { cls := .type "dict", data := .dict #[] }) :=
  vo.stays S0 (fun V y => .inl y) fun b y o e => Heap.get?_push_of_some _ e
 refine evalPairs_cons (h.run hA g0 vo0 fun v1 s1 β1 a mu1 g1 t1 vo1 r1 q1 => wpAny_bind (q1.run hA g1 vo1 fun v2 s2 β2 x mu2 g2 t2 vo2 r2 ⟨i, ea, hk, q⟩ => wpAny_bind (wpAny_standAt (wpAny_pure (evalPairs_nil ?_)))))
 subst ea
 obtain ⟨tk, rfl⟩ := r1
 have hd0 : Heap.DictOf (kI w) (s.heap.push { cls := .type "dict", data := .dict #[] }) s.heap.objs.size [] := Heap.DictOf.new _
 have hd2 : Heap.DictOf (kI w) s2.heap s.heap.objs.size [] := hd0.at fun o e => (t1.trans t2).keep _ o e fun q hq => g0.store.apart q _ hq (.inr (List.mem_singleton.mpr rfl))
 refine ⟨[(i, v2)], ⟨intKind_is _ _ _ _, rfl, trivial⟩, hd2, fun h' hd' sb => ?_⟩
 have hd' : h'.DictOf (kI w) s.heap.objs.size [(i, v2)] := (hd')
 have kb : ∀ b o, b ≠ s.heap.objs.size → s2.heap.get? b = some o → h'.get? b = some o := fun b o hb e => (sb.2 b hb).trans e
 have hin : ∃ o, h'.get? s.heap.objs.size = some o := by obtain ⟨o, V, V, ho, V⟩ := hd'; exact ⟨o, ho⟩
 have g3 : GS w H (zaz Y [s.heap.objs.size]) β2 mu2 { s2 with heap := h', toks := s2.toks + 1 } := g2.moveY (fun b o hb e => kb b o (fun q => hb (q ▸ (.inr (List.mem_singleton.mpr rfl)))) e) fun b y => by
  by_cases q : b = s.heap.objs.size
  ·subst q; exact hin
  ·exact (g2.yIn b y).imp fun o e => kb b o q e
 have hfree := g2.free hk
 have S3 : zaB s2.heap (zaz Y [s.heap.objs.size]) β2 h' (zaz Y [s.heap.objs.size]) β2 := zcI fun b o hb e => kb b o (fun q => hb (q ▸ (.inr (List.mem_singleton.mpr rfl)))) e
 have S4 := S3.trans (zfM (Y := Y) (β := β2) (h := h') (k := k) (D := s.heap.objs.size) hfree)
 have t3 : zap β s β2 { s2 with heap := h', toks := s2.toks + 1 } := by
  have t12 := (t0.trans t1).trans t2
  refine ⟨fun b o e n => kb b o (fun q => by rw [q, hD] at e; contradiction) (t12.keep b o e n), t12.beta, t12.fresh, fun b o e => ?_, t12.gens, t12.os⟩
  obtain ⟨o', e'⟩ := t12.dom b o e
  exact ⟨o', kb b o' (fun q => by rw [q, hD] at e; contradiction) e'⟩
 exact ⟨_, .loc k, _, (g3.bear (k := k) (o := .dcti [i] [x]) hk hY ⟨zdk hs g hD, _, hd', rfl, ⟨v2, [], rfl, Rep.stays S4 r2, rfl⟩⟩), t3.bear hfree hD, ⟨_, by simp [zbJ], rfl⟩, q⟩
theorem zno (hA : zbz A (d + 1)) : zbz (A.under (.builtin "type.__call__" ⟨.ref C :: vs, []⟩)) d := by
 have h1 := hA.depth
 have h2 := hA.units
 refine ⟨hA.handled, ?_, ?_⟩
 ·show A.depth + (Code.builtin "type.__call__" ⟨.ref C :: vs, []⟩).weight + 10 * d ≤ 600
  have : (Code.builtin "type.__call__" ⟨.ref C :: vs, []⟩).weight = 1 := rfl
  kd_mem
 ·show A.units + (Code.builtin "type.__call__" ⟨.ref C :: vs, []⟩).cUnits + 200 * d ≤ 8000
  have : (Code.builtin "type.__call__" ⟨.ref C :: vs, []⟩).cUnits = 1 := rfl
  kd_mem
theorem zht {K : Frag} (kk kd : Nat) (hc : zdq H C K) (hi : findIn K (.ref C) "__init__" = some (some (.ref f))) (hf : typeIn K (.ref f) = some (.type "function"))
  (hkd : mu.lookup kd = none) (hkk : ((kd, zb4.ns [] []) :: mu).lookup kk = none)
  (h : zar w H d (.ref f) (.loc kk :: as) ((kk, .inst C kd) :: (kd, .ns [] []) :: mu) fun r m => r = .none ∧ Q (.loc kk) m) : zaP w H (d + 1) (.raw (.ref C)) as mu Q := fun A Y β s vf vs hA g rf ra => by
 subst rf
 have X := hc.X.keeps g.base
 refine ⟨?_, wpAny_call ?_⟩
 ·kcf_m
  obtain ⟨oc, od, cd, sl, hC, V⟩ := (makes_of (M := model pw w) X hc.makes).obj
  kcj_m
  refine ⟨.machine, .inr (.inl rfl), ?_⟩
  unfold keeperOf
  refine (Looks.ld (part := none) hC).andThen ?_
  exact (makes_of (M := model pw w) X hc.makes).call.andThen .now
 ·obtain ⟨hh, gs, dr, tk, os⟩ := s
  have e1 : hh.get? hh.objs.size = none := zak _
  obtain ⟨g1, t1, S1⟩ := g.born (k := kd) (D := hh.objs.size) (o := .ns [] []) (s' := ⟨hh.push emptyDict, gs, dr, tk, os⟩) (fun b o e => Heap.get?_push_of_some _ e) e1 ⟨_, Heap.get?_push_size _ rfl⟩ rfl rfl hkd ⟨[], ⟨[], 0, Heap.get?_push_size _ rfl, by decide, .nil⟩, rfl⟩
  have e2 : (hh.push emptyDict).get? (hh.objs.size + 1) = none := by have := zak (hh.push emptyDict); rwa [Heap.size_push] at this
  obtain ⟨g2, t2, S2⟩ := g1.born (k := kk) (D := hh.objs.size + 1) (o := .inst C kd) (s' := ⟨(hh.push emptyDict).push (instObj C hh.objs.size), gs, dr, tk, os⟩) (fun b o e => Heap.get?_push_of_some _ e) e2 ⟨_, (by heap_get : ((hh.push emptyDict).push (instObj C hh.objs.size)).get? (hh.objs.size + 1) = some (instObj C hh.objs.size))⟩ rfl rfl hkk ⟨hh.objs.size, by
   have : kd ≠ kk := by rintro rfl; simp at hkk
   simp [zbJ, this], (by heap_get : ((hh.push emptyDict).push (instObj C hh.objs.size)).get? (hh.objs.size + 1) = some (instObj C hh.objs.size))⟩
  refine make_core (makes_of (M := model pw w) X hc.makes) (looks_findIn X hi) (fun self => bind_fn X self hf) (.inl rfl) ?_
  refine codeAny_mono (h _ Y _ _ (.ref (hh.objs.size + 1) :: vs) (zno hA) g2 ⟨_, _, rfl, ⟨_, by simp [zbJ], rfl⟩, zan.stays S2 (zan.stays S1 ra)⟩) fun r s' ⟨β', av, v, mu', e, g', t', r', e4, q⟩ => ?_
  subst e e4
  have r' : v = .none := r'
  subst r'
  refine ⟨rfl, β', .loc kk, mu', g', (t1.trans t2).trans t', ⟨_, t'.beta _ _ (by simp [zbJ]), rfl⟩, q⟩
end
end
section

structure LSrc (w : World) (H : Heap) (A : Around) (I : Addr) (Ok : Mu → Prop) (item : Mu → Nat → Option AV) (St : Nat → Heap → zaq → Prop) : Prop where
 frame : ∀ i h β h' β', St i h β → (∀ o, h.get? I = some o → h'.get? I = some o) → (∀ k a, β k = some a → β' k = some a) → St i h' β'
 cls : ∀ i h β, St i h β → Ex3 fun o c vs => zbI (h.get? I = some o) (o.cls = .type c) (o.data = .fields vs) (zeZ.contains c = false)
 turn : ∀ Y i s β mu x, Y I → GS w H Y β mu s → Ok mu → St i s.heap β → item mu i = some x → wpAny (model pw w) A (pyNext (.ref I)) (fun r s1 => Ex3 fun v h' tk => ze5 (r = some v) (s1 = { s with heap := h', toks := tk }) ((∀ b o, b ≠ I → s.heap.get? b = some o → h'.get? b = some o)) (St (i + 1) h' β) (Rep w h' Y β x v)) NoE s
 done : ∀ Y i s β mu, Y I → GS w H Y β mu s → Ok mu → St i s.heap β → item mu i = none → wpAny (model pw w) A (pyNext (.ref I)) (fun r s1 => r = none ∧ Ex2 fun h' tk => s1 = { s with heap := h', toks := tk } ∧ (∀ b o, b ≠ I → s.heap.get? b = some o → h'.get? b = some o)) NoE s
section
variable {d : Nat} {env : Env} {vars : zaf} {mu : Mu}
def LIW (w : World) (H : Heap) (Ok : Mu → Prop) (item : Mu → Nat → Option AV) (d : Nat) (env : Env) (iter : Expr) (vars : zaf) (mu : Mu) (Q : Mu → Prop) : Prop :=
 ∀ A Y β s, zbz A d → GS w H Y β mu s → zai w env vars Y β s.heap →
  wpAny (model pw w) A (eval iter env) (fun xv s1 => wpAny (model pw w) A (pyIter xv) (fun it s2 => Ex4 fun I β' mu' St => zhW (it = .ref I) (LSrc w H A I Ok item St) (St 0 s2.heap β') (s.heap.get? I = none) (
   GS w H (zaz Y [I]) β' mu' s2) (zap β s β' s2) (Q mu')) NoE s1) NoE s
theorem zkQ {target iter body orelse pos} (Ok : Mu → Prop) (item : Mu → Nat → Option AV) (Inv : Nat → Nat → zaf → Mu → Prop)
  (h : LIW w H Ok item d env iter vars mu fun mu1 => ∃ n, Inv n 0 vars mu1) (ok : ∀ n i v m, Inv n i v m → Ok m)
  (turn : ∀ n i x v m, Inv n i v m → item m i = some x → UW w H d env (fun u => assign target env u) x v m fun v1 m1 => SW w H d env (execs body env) v1 m1 (ze6 (fun v' m' => ∃ n', n' < n ∧ Inv n' (i + 1) v' m') Q))
  (done : ∀ n i v m, Inv n i v m → item m i = none → SW w H d env (execs orelse env) v m Q)
  (hs : autoParam (∀ x, foldedSetIterable iter env x = pure x) aW) : SW w H d env (exec (.For target iter body orelse pos) env) vars mu Q := fun A Y β s hA g vo => by
 refine wpAny_For (wpAny_mono (h A Y β s hA g vo) (fun xv s1 h1 => wpAny_mono h1 (fun it s2 h2 => ?_) fun _ _ x => x.elim) fun _ _ x => x.elim) hs
 obtain ⟨I, β2, mu2, St, rfl, W, st, hI, g2, t2, n0, inv⟩ := h2
 have hIm : ∀ b ∈ [I], s.heap.get? b = none := fun b hb => by exists List.mem_singleton.mp hb; exact hI
 have hZY : ∀ b ∈ [I], ¬ Y b := fun b hb y => by obtain ⟨o, e⟩ := g.yIn b y; replace e := (hIm b hb) ▸ e; contradiction
 have hL : env.locals ∉ [I] := fun q => hZY _ q vo.eok.locY
 have hC : ∀ x c, env.cells.lookup x = some c → c ∉ [I] := fun x c e q => hZY _ q (vo.eok.cellY x c e).1
 have hLI : env.locals ≠ I := fun q => hL (List.mem_singleton.mpr q)
 have hCI : ∀ x c, env.cells.lookup x = some c → c ≠ I := fun x c e q => hC x c e (List.mem_singleton.mpr q)
 have ne : ∀ b o, s.heap.get? b = some o → b ∉ [I] := fun b o e q => by replace e := (hIm b q) ▸ e; contradiction
 have hYI : (zaz Y [I]) I := .inr (List.mem_singleton.mpr rfl)
 have vo2 : zai w env vars (zaz Y [I]) β2 s2.heap := vo.stays (⟨(t2.stays Y).keep, fun b o e a => ⟨fun y => y.elim a.1 (ne b o e), ((t2.stays Y).avoid b o e a).2⟩, t2.beta⟩) (fun _ y => .inl y) fun b y o e => t2.keep b o e fun k q => g.store.apart k b q y
 refine codeAny_forLoop_any (fun n si => Ex4 fun βi v m i => ze5 (Inv n i v m) (GS w H (zaz Y [I]) βi m si) (zai w env v (zaz Y [I]) βi si.heap) (zaD env β s βi si) (St i si.heap βi))
  (fun n si ⟨βi, v, m, i, iv, gi, vi, ti, sti⟩ => ?_) n0 ⟨β2, vars, mu2, 0, inv, g2, vo2, t2.st env, st⟩
 cases hx : item m i with
 | none =>
  refine wpAny_mono (W.done (zaz Y [I]) i si βi m hYI gi (ok _ _ _ _ iv) sti hx) (fun r se hq2' => ?_) fun _ _ z => z.elim
  kcf_m
  obtain ⟨hr, h', tk, hse, k0⟩ := hq2'
  kcj_m
  cases hr
  have k' : ∀ b o, b ∉ [I] → si.heap.get? b = some o → se.heap.get? b = some o := fun b o hb e => by exists hse; exact k0 b o (fun q => hb (List.mem_singleton.mpr q)) e
  have te : zaD env β s βi se := ti.touch hIm k' (by rw [hse]) (by rw [hse])
  have ve : zai w env v Y βi se.heap := vi.leave vo.eok hZY k'
  exact wpAny_mono (SW.run (done n i v m iv hx) hA (gi.leave hZY k') ve fun f s3 β3 af v3 m3 g3 vo3 t3 r3 q3 => (⟨β3, af, v3, m3, g3, vo3, te.trans t3, r3, q3⟩ : zd8 w H env Y β s Q f s3)) (fun _ _ z => z) fun _ _ z => z.elim
 | some x =>
  refine wpAny_mono (W.turn (zaz Y [I]) i si βi m x hYI gi (ok _ _ _ _ iv) sti hx) (fun r sj hq2' => ?_) fun _ _ z => z.elim
  kcf_m
  obtain ⟨u, h', tk, hr, hsj, k0, stj, rj⟩ := hq2'
  kcj_m
  subst hr
  have k' : ∀ b o, b ∉ [I] → si.heap.get? b = some o → sj.heap.get? b = some o := fun b o hb e => by exists hsj; exact k0 b o (fun q => hb (List.mem_singleton.mpr q)) e
  kcf_m
  obtain ⟨oI, cI, vI, hoI, hcI, hdI, hnI⟩ := W.cls _ _ _ stj
  kcj_m
  have hoI' : sj.heap.get? I = some oI := by exists hsj; exact hoI
  refine zcR hoI' hcI hdI hnI ?_
  have stj : St (i + 1) sj.heap βi := by exists hsj; exact stj
  have rj : Rep w sj.heap (zaz Y [I]) βi x u := by exists hsj; exact rj
  have gj : GS w H (zaz Y [I]) βi m sj := gi.moveY (fun b o hb => k' b o fun q => hb (.inr q)) fun a y => by
   by_cases q : a = I
   ·exists q; exact ⟨_, hoI'⟩
   ·exact (gi.yIn a y).imp fun o e => k' a o (fun z => q (List.mem_singleton.mp z)) e
  have vj := vi.touch (fun b hb => .inr hb) hL hC k'
  refine wpAny_mono (turn n i x v m iv hx A (zaz Y [I]) βi sj u hA gj vj rj) (fun _ sk ⟨βk, v1, m1, gk, vk, tk', Sk, q1⟩ => wpAny_mono (SW.run q1 hA gk vk (P := fun f s3 => match f with
      | .next | .cont => ∃ m, m < n ∧ (Ex4 fun βi v m' i => ze5 (Inv m i v m') (GS w H (zaz Y [I]) βi m' s3) (zai w env v (zaz Y [I]) βi s3.heap) (zaD env β s βi s3) (St i s3.heap βi))
      | .brk => (zd8 w H env Y β s Q .next s3)
      | .ret v => (zd8 w H env Y β s Q (.ret v) s3))
      fun f s3 β3 af v3 m3 g3 vo3 t3 r3 q3 => ?_) (fun _ _ z => z) fun _ _ z => z.elim) fun _ _ z => z.elim
  have tot : zaD env β s β3 s3 := ((ti.touch hIm k' (by rw [hsj]) (by rw [hsj])).trans tk').trans t3
  have keepI : ∀ o, sj.heap.get? I = some o → s3.heap.get? I = some o := fun o e =>
   t3.keep I o (tk'.keep I o e (fun k q => gj.store.apart k I q hYI) (Ne.symm hLI) (fun _ x q => hCI x I q rfl)) (fun k q => gk.store.apart k I q hYI) (Ne.symm hLI) (fun _ x q => hCI x I q rfl)
  have st3 : St (i + 1) s3.heap β3 := W.frame (i + 1) _ _ _ _ stj keepI fun k a e => t3.beta k a (tk'.beta k a e)
  have gY : GS w H Y β3 m3 s3 := g3.narrow fun _ y => .inl y
  have vY : zai w env v3 Y β3 s3.heap := vo3.narrow vo.eok fun _ y => .inl y
  have frep : ∀ {x f}, zes w s3.heap (zaz Y [I]) β3 x f → zes w s3.heap Y β3 x f := fun {x f} r => by
   have S : zaB s3.heap (zaz Y [I]) β3 s3.heap Y β3 := zch fun _ _ _ e => e
   cases x with
   | ret a => obtain ⟨u, e, r⟩ := r; exact ⟨u, e, Rep.stays S r⟩
   | next => exact r
   | brk => exact r
   | cont => exact r
  have back : ∀ {v2 v4 n'}, v3 = v2 ++ v4 → n' < n → Inv n' (i + 1) v2 m3 → ∃ m, m < n ∧ (Ex4 fun βi v m' i => ze5 (Inv m i v m') (GS w H (zaz Y [I]) βi m' s3) (zai w env v (zaz Y [I]) βi s3.heap) (zaD env β s βi s3) (St i s3.heap βi)) :=
   fun {v2 v4 n'} e hn iv => ⟨n', hn, β3, v2, m3, i + 1, iv, g3, vo3.prefix e, tot, st3⟩
  cases af with
  | next => cases r3; obtain ⟨v2, v4, e, n', hn, iv⟩ := q3; exact back e hn iv
  | cont => cases r3; obtain ⟨v2, v4, e, n', hn, iv⟩ := q3; exact back e hn iv
  | brk => subst r3; exact ⟨β3, .next, v3, m3, gY, vY, tot, rfl, q3⟩
  | ret a =>
   have r4 := frep r3
   kcf_m
   obtain ⟨u, rfl, ru⟩ := r3
   kcj_m
   exact ⟨β3, .ret a, v3, m3, gY, vY, tot, r4, q3⟩
theorem zoq {iter : Expr} {k : Nat} {Q : Mu → Prop} (h : EW w H d env (eval iter env) vars mu fun a mu1 => zaF (a = .loc k) ((∃ xs, mu1.lookup k = some (.list xs))) (Q mu1)) :
  LIW w H (fun m => ∃ xs, m.lookup k = some (.list xs)) (fun m i => match m.lookup k with | some (.list xs) => xs[i]? | _ => none) d env iter vars mu Q := fun A Y β s hA g vo =>
 h.run hA g vo fun v s1 β1 a mu1 g1 t1 vo1 r hq9' => by
  obtain ⟨e, ⟨xs, hm⟩, q⟩ := hq9'
  subst e
  obtain ⟨p, eb, rfl⟩ := r
  obtain ⟨vs, n, hl, rl⟩ := g1.store.rep _ _ _ hm eb
  have ht : s1.heap.IsList p vs := ⟨_, hl, rfl, _, rfl⟩
  have hI := zak s1.heap
  have kk : ∀ b o, s1.heap.get? b = some o → (s1.heap.push { cls := .type "list_iterator", data := .fields #[.ref p, .int 0 0] }).get? b = some o := fun b o e => Heap.get?_push_of_some _ e
  have hnew : (s1.heap.push { cls := .type "list_iterator", data := .fields #[.ref p, .int 0 0] }).get? s1.heap.objs.size = some _ := Heap.get?_push_size _ rfl
  obtain ⟨g2, t2, S2⟩ := grown (s' := { s1 with heap := s1.heap.push { cls := .type "list_iterator", data := .fields #[.ref p, .int 0 0] } }) g1 kk hI ⟨_, hnew⟩ rfl rfl
  refine wpAny_pyIter_list ht ⟨s1.heap.objs.size, β1, mu1, fun i h β => β k = some p ∧ h.IsListIter s1.heap.objs.size p i, rfl, ⟨fun i h β h' β' st ki kb => ⟨kb _ _ st.1, st.2.at fun o e => ki o e⟩, fun i h β st => ?_, fun Y' i si βi m x hYI gi ⟨ys, hy⟩ st hx => ?_, fun Y' i si βi m hYI gi ⟨ys, hy⟩ st hx => ?_⟩, ⟨eb, ⟨_, hnew, rfl, rfl⟩⟩, zaN t1 hI, g2, t1.trans t2, q⟩
  ·obtain ⟨o, ho, hc, hd⟩ := st.2
   exact ⟨o, _, _, ho, hc, hd, by decide +kernel⟩
  ·obtain ⟨eb', hit⟩ := st
   obtain ⟨us, n', hl', rl'⟩ := gi.store.rep _ _ _ hy eb'
   simp only [hy] at hx
   obtain ⟨u, hu, ru⟩ := zb9 rl' hx
   have hpne : p ≠ s1.heap.objs.size := fun q => gi.store.apart k p eb' (q ▸ hYI)
   refine wpAny_pyNext_list_item hit ⟨_, hl', rfl, _, rfl⟩ (x := u) (by simpa using hu) fun h' hit' hs' => ⟨u, h', si.toks, rfl, rfl, fun b o hb e => hs'.extBut b o hb e, ⟨eb', hit'⟩, ?_⟩
   exact Rep.stays (zcI fun b o hb e => hs'.extBut b o (fun q => hb (q ▸ hYI)) e) ru
  ·obtain ⟨eb', hit⟩ := st
   obtain ⟨us, n', hl', rl'⟩ := gi.store.rep _ _ _ hy eb'
   simp only [hy] at hx
   have hlen := zah rl'
   refine wpAny_pyNext_list_end hA.handled hit ⟨_, hl', rfl, _, rfl⟩ ?_ fun h' he' => ⟨rfl, h', si.toks, rfl, fun b o hb e => he' b o hb e⟩
   rw [List.getElem?_eq_none_iff] at hx
   rw [Array.getElem?_eq_none_iff]
   simp at hlen; kd_mem
theorem SW.ghost (h : ∀ Y β s, GS w H Y β mu s → ∃ mu', GS w H Y β mu' s ∧ SW w H d env t vars mu' Q) : SW w H d env t vars mu Q :=
 fun A Y β s hA g vo => let ⟨mu', g', hh⟩ := h Y β s g; hh A Y β s hA g' vo
theorem GS.swap (g : GS w H Y β mu s) (p : zeQ mu k m mu') (hr : ∀ a, β k = some a → zcX w s.heap Y β a m) : GS w H Y β mu' s := by
 refine ⟨g.base, g.bBase, g.yBase, g.yIn, ⟨fun j => ?_, g.store.inj, fun j o a e e' => ?_, g.store.here, g.store.apart⟩⟩
 ·rw [p.2]
  by_cases hj : j = k
  ·subst hj; rw [if_pos rfl, ← g.store.dom, p.1]; rfl
  ·exists if_neg hj; exact g.store.dom j
 ·rw [p.2] at e
  by_cases hj : j = k
  ·subst hj; rw [if_pos rfl] at e; obtain rfl := Option.some.inj e; exact hr a e'
  ·rw [if_neg hj] at e; exact g.store.rep j o a e e'
theorem zop {iter : Expr} {k : Nat} {ks : List Int} {vs : List AV} {o : Obj} {Q : Mu → Prop} (h : EW w H d env (eval iter env) vars mu fun a mu1 => zaF (a = .loc k) (mu1.lookup k = some (.dctx ks vs o)) (Q mu1)) :
  LIW w H (fun m => m.lookup k = some (.dctx ks vs o)) (fun V i => (ks[i]?).map .int) d env iter vars mu Q := fun A Y β s hA g vo =>
 h.run hA g vo fun v s1 β1 a mu1 g1 t1 vo1 r hq9' => by
  obtain ⟨e, hm, q⟩ := hq9'
  subst e
  obtain ⟨p, eb, rfl⟩ := r
  obtain ⟨sm, ho, kvs, hd, hk, l⟩ := g1.store.rep _ _ _ hm eb
  obtain ⟨ep, hda⟩ := hd.dictAt
  have hI := zak s1.heap
  have kk : ∀ b o', s1.heap.get? b = some o' → (s1.heap.push { cls := .type "dict_keyiterator", data := .fields #[.ref p, .int 0 0, .int kvs.length 0, .int ep 0] }).get? b = some o' := fun b o e => Heap.get?_push_of_some _ e
  have hnew : (s1.heap.push { cls := .type "dict_keyiterator", data := .fields #[.ref p, .int 0 0, .int kvs.length 0, .int ep 0] }).get? s1.heap.objs.size = some _ := Heap.get?_push_size _ rfl
  obtain ⟨g2, t2, S2⟩ := grown (s' := { s1 with heap := s1.heap.push { cls := .type "dict_keyiterator", data := .fields #[.ref p, .int 0 0, .int kvs.length 0, .int ep 0] } }) g1 kk hI ⟨_, hnew⟩ rfl rfl
  have at_ : ∀ {h' : Heap}, h'.get? p = some o → h'.DictAt (kI w) p kvs ep := fun {h'} e => by
   obtain ⟨o', es, ho', r⟩ := hda
   rw [ho] at ho'; obtain rfl := Option.some.inj ho'
   exact ⟨o, es, e, r⟩
  refine wpAny_pyIter_dict sm hda ⟨s1.heap.objs.size, β1, mu1, fun i h β => β k = some p ∧ h.IsKeyIter s1.heap.objs.size p i kvs.length ep, rfl, ⟨fun i h β h' β' st ki kb => ⟨kb _ _ st.1, st.2.at fun o e => ki o e⟩, fun i h β st => ?_, fun Y' i si βi m x hYI gi hy st hx => ?_, fun Y' i si βi m hYI gi hy st hx => ?_⟩, ⟨eb, ⟨_, hnew, rfl, rfl⟩⟩, zaN t1 hI, g2, t1.trans t2, q⟩
  ·obtain ⟨o, ho, hc, hd⟩ := st.2
   exact ⟨o, _, _, ho, hc, hd, by decide +kernel⟩
  ·obtain ⟨eb', hit⟩ := st
   obtain ⟨V, hop, V⟩ := gi.store.rep _ _ _ hy eb'
   obtain ⟨j, hj, rfl⟩ := Option.map_eq_some_iff.mp hx
   rw [← hk, List.getElem?_map] at hj
   obtain ⟨⟨j', u⟩, hju, rfl⟩ := Option.map_eq_some_iff.mp hj
   refine wpAny_pyNext_dict_item hit (at_ hop) hju fun key h' hkey hit' hs' => ?_
   obtain ⟨tk, rfl⟩ := Value.isInt_shape (k := j') (v := key) hkey
   exact ⟨_, h', si.toks, rfl, rfl, fun b o hb e => hs'.extBut b o hb e, ⟨eb', hit'⟩, tk, rfl⟩
  ·obtain ⟨eb', hit⟩ := st
   obtain ⟨V, hop, V⟩ := gi.store.rep _ _ _ hy eb'
   rw [← hk, List.getElem?_map, Option.map_eq_none_iff, Option.map_eq_none_iff] at hx
   exact wpAny_pyNext_dict_end hA.handled hit (at_ hop) hx fun h' he' => ⟨rfl, h', si.toks, rfl, fun b o hb e => he' b o hb e⟩
end
end
section

mutual
inductive Fr (mu : Mu) : AV → AV → Prop
 | same {x} : x.locs zaw → Fr mu x x
 | dctp {k ks xs ys} : mu.lookup k = some (.dctp ks xs) → FrL mu xs ys → Fr mu (.loc k) (.dctp ks ys)
 | dcti {k ks xs ys} : mu.lookup k = some (.dcti ks xs) → FrL mu xs ys → Fr mu (.loc k) (.dcti ks ys)
 | dctx {k ks xs ys o} : mu.lookup k = some (.dctx ks xs o) → FrL mu xs ys → Fr mu (.loc k) (.dcti ks ys)
 | inst {k kd c ks xs ys} : mu.lookup k = some (.inst c kd) → mu.lookup kd = some (.ns ks xs) → FrL mu xs ys → Fr mu (.loc k) (.obj c ks ys)
 | meth {f x y} : Fr mu x y → Fr mu (.meth f x) (.meth f y)
inductive FrL (mu : Mu) : List AV → List AV → Prop
 | nil : FrL mu [] []
 | cons {x y xs ys} : Fr mu x y → FrL mu xs ys → FrL mu (x :: xs) (y :: ys)
end
theorem FrL.same {mu : Mu} : ∀ {xs : List AV}, AV.locsL zaw xs → FrL mu xs xs
 | [], _ => .nil
 | _ :: _, ⟨a, b⟩ => .cons (.same a) (FrL.same b)
mutual
noncomputable def AV.tame : AV → Bool
 | .none | .bool _ | .int _ | .str _ | .raw _ | .fset _ | .mset _ | .rng _ _ _ => true
 | .tup xs | .lst xs => AV.tameL xs
 | _ => false
noncomputable def AV.tameL : List AV → Bool
 | [] => true
 | x :: r => AV.tame x && AV.tameL r
end
section
variable {d : Nat} {mu : Mu}
noncomputable def hid (Y : zau) (β : zaq) (mu : Mu) : zau := fun a => Y a ∨ Ex2 fun k xs => β k = some a ∧ mu.lookup k = some (.list xs)
noncomputable abbrev noB : zaq := fun V => none
theorem zfT (h : zaL Y β a) : zaL (hid Y β mu) noB a :=
 ⟨fun y => y.elim h.1 fun ⟨k, V, e, V0⟩ => h.2 k e, fun k e => nomatch e⟩
theorem zdB (S : zd4 w h Y β mu) (e : β k = some a) (hm : mu.lookup k = some m) (hl : ∀ xs, m ≠ .list xs) : zaL (hid Y β mu) noB a := by
 refine ⟨fun y => ?_, fun k e => nomatch e⟩
 rcases y with y | ⟨k', xs, e', hm'⟩
 ·exact S.apart k a e y
 ·have := S.inj _ _ _ e e'
  subst this
  rw [hm] at hm'; obtain rfl := Option.some.inj hm'; exact hl _ rfl
theorem Cuts.hid : Cuts Y β zaw (hid Y β mu) noB := ⟨fun k a e => (nomatch e), fun a n => zfT n⟩
theorem FrL.rep (S : zd4 w h Y β mu) (f : FrL mu xs ys) : ∀ {vs}, zan w h Y β xs vs → zan w h (hid Y β mu) noB ys vs := by
 refine FrL.rec (motive_1 := fun x y V => ∀ {v}, Rep w h Y β x v → Rep w h (hid Y β mu) noB y v) (motive_2 := fun xs ys V => ∀ {vs}, zan w h Y β xs vs → zan w h (hid Y β mu) noB ys vs) ?_ ?_ ?_ ?_ ?_ ?_ ?_ ?_ f
 case refine_1 => exact fun d V r => Rep.cuts Cuts.hid d r
 case refine_2 => intro k ks xs ys hm f ih v r; obtain ⟨a, e, q⟩ := r; obtain ⟨sm, xs, t, kv, k, r⟩ := S.rep _ _ _ hm e; exact ⟨a, xs, q, sm, t, zdB S e hm (fun V => nofun), fun x hx => zfT (kv x hx), k, ih r⟩
 case refine_3 => intro k ks xs ys hm f ih v r; obtain ⟨a, e, q⟩ := r; obtain ⟨sm, xs, t, k, r⟩ := S.rep _ _ _ hm e; exact ⟨a, xs, q, sm, t, zdB S e hm (fun V => nofun), k, ih r⟩
 case refine_4 => intro k ks xs ys o hm f ih v r; kcf_m; obtain ⟨a, e, q⟩ := r; kcj_m; obtain ⟨sm, V, xs, t, k, r⟩ := S.rep _ _ _ hm e; exact ⟨a, xs, q, sm, t, zdB S e hm (fun V => nofun), k, ih r⟩
 case refine_5 =>
  intro k kd c ks xs ys hm hm' f ih v r
  obtain ⟨a, e, q⟩ := r
  obtain ⟨b, eb, t⟩ := S.rep _ _ _ hm e
  obtain ⟨us, n, r⟩ := S.rep _ _ _ hm' eb
  exact ⟨a, b, us, q, t, n, zdB S e hm (fun V => nofun), zdB S eb hm' (fun V => nofun), ih r⟩
 case refine_6 => intro f x y V ih v r; obtain ⟨a, u, e, t, av, r⟩ := r; exact ⟨a, u, e, t, zfT av, ih r⟩
 case refine_7 => exact fun r => r
 case refine_8 => intro x y xs ys f fs ih ihs vs r; obtain ⟨v, r, e, p, l⟩ := r; exact ⟨v, r, e, ih p, ihs l⟩
def Odd (o : Obj) : Prop := (Ex2 fun C dx => o = instObj C dx) ∨ Ex2 fun es n => o.data = .dict es n
theorem zq8 (r : zcX w h Y β a m) (hl : ∀ xs, m ≠ .list xs) : ∃ o, h.get? a = some o ∧ Odd o := by
 cases m with
 | list xs => exact absurd rfl (hl xs)
 | dcti ks vs => obtain ⟨V, kvs, ⟨o, es, ep, ho, V, hd, V⟩, V⟩ := r; exact ⟨o, ho, .inr ⟨es, ep, hd⟩⟩
 | dctp ks vs => obtain ⟨V, kvs, ⟨o, es, ep, ho, V, hd, V⟩, V⟩ := r; exact ⟨o, ho, .inr ⟨es, ep, hd⟩⟩
 | dctx ks vs o' => obtain ⟨V, V, kvs, ⟨o, es, ep, ho, V, hd, V⟩, V⟩ := r; exact ⟨o, ho, .inr ⟨es, ep, hd⟩⟩
 | inst c kd => obtain ⟨d, V, ho⟩ := r; exact ⟨_, ho, .inl ⟨c, d, rfl⟩⟩
 | ns ks vs => obtain ⟨us, ⟨es, n, ho, V⟩, V⟩ := r; exact ⟨_, ho, .inr ⟨_, _, rfl⟩⟩
theorem zgy : ¬ Odd { cls := .type c, data := .seq xs n } := by
 rintro (⟨C, dx, e⟩ | ⟨es, n, e⟩) <;> cases e
theorem zgz : ¬ Odd { cls := .type T, data := .set es ep t } := by
 rintro (⟨C, dx, e⟩ | ⟨es, n, e⟩) <;> cases e
theorem zhw : ¬ Odd { cls := .type T, data := .fields vs } := by
 rintro (⟨C, dx, e⟩ | ⟨es, n, e⟩) <;> cases e
structure Back (w : World) (Y : zau) (β : zaq) (mu : Mu) (h : Heap) : Prop where
 away : ∀ a o, h.get? a = some o → ¬ Odd o → zaL (hid Y β mu) noB a → zaL Y β a
theorem zlX {s s' : Shared} (S : zd4 w s.heap Y β mu) (k : ∀ b o, s.heap.get? b = some o → s'.heap.get? b = some o) : Back w Y β mu s'.heap := ⟨fun a o ho hn av => by
 refine ⟨fun y => av.1 (.inl y), fun j e => ?_⟩
 obtain ⟨m, hm⟩ : ∃ m, mu.lookup j = some m := Option.isSome_iff_exists.mp (by rw [S.dom, e]; rfl)
 by_cases hl : ∃ xs, m = .list xs
 ·obtain ⟨xs, rfl⟩ := hl
  exact av.1 (.inr ⟨j, xs, e, hm⟩)
 ·obtain ⟨o', ho', odd⟩ := zq8 (S.rep _ _ _ hm e) fun xs q => hl ⟨xs, q⟩
  replace ho := (k _ _ ho') ▸ ho; obtain rfl := Option.some.inj ho; exact hn odd⟩
theorem zan.back (B : ∀ a o, h.get? a = some o → ¬ Odd o → zaL Y' β' a → zaL Y β a) : ∀ {vs : List Value}, AV.tameL xs = true → zan w h Y' β' xs vs → zan w h Y β xs vs := by
 refine AV.rec_1 (motive_1 := fun x => ∀ {v : Value}, x.tame = true → Rep w h Y' β' x v → Rep w h Y β x v) (motive_2 := fun xs => ∀ {vs : List Value}, AV.tameL xs = true → zan w h Y' β' xs vs → zan w h Y β xs vs)
  ?_ ?_ ?_ ?_ ?_ ?_ ?_ ?_ ?_ ?_ ?_ ?_ ?_ ?_ ?_ ?_ ?_ ?_ xs
 case refine_1 => exact fun {v} _ r => r
 case refine_2 => exact fun _ {v} _ r => r
 case refine_3 => exact fun _ {v} _ r => r
 case refine_4 => exact fun _ {v} _ r => r
 case refine_5 => exact fun _ {v} _ r => r
 case refine_6 => intro xs ih v d r; obtain ⟨a, vs, n, e, t, av, l⟩ := r; exact ⟨a, vs, n, e, t, B _ _ t zgy av, ih d l⟩
 case refine_7 => intro xs ih v d r; obtain ⟨a, vs, n, e, t, av, l⟩ := r; exact ⟨a, vs, n, e, t, B _ _ t zgy av, ih d l⟩
 case refine_8 => intro S v d r; obtain ⟨a, o, e, t, f, av⟩ := r; exact ⟨a, o, e, t, f, by obtain ⟨es, ep, tt, rfl, _⟩ := f; exact B _ _ t zgz av⟩
 case refine_9 => intro S v d r; obtain ⟨a, o, e, t, f, av⟩ := r; exact ⟨a, o, e, t, f, by obtain ⟨es, ep, tt, rfl, _⟩ := f; exact B _ _ t zgz av⟩
 case refine_15 => intro _ _ _ v d r; obtain ⟨p, t, u, x, e, r, av⟩ := r; exact ⟨p, t, u, x, e, r, B _ _ r zhw av⟩
 case refine_17 => exact fun {v} _ r => r
 case refine_18 => intro y ys ih ihs vs d r; obtain ⟨u, vs, e, p, l⟩ := r; have d := Bool.and_eq_true_iff.mp d; exact ⟨u, vs, e, ih d.1 p, ihs d.2 l⟩
 all_goals intros; rename_i d _; exact Bool.noConfusion d
theorem Rep.back (B : ∀ a o, h.get? a = some o → ¬ Odd o → zaL Y' β' a → zaL Y β a) (d : x.tame = true) (r : Rep w h Y' β' x v) : Rep w h Y β x v := by
 obtain ⟨u, V, e, p, V⟩ := zan.back B (xs := [x]) (vs := [v]) (by show (x.tame && true) = true; exists d; rfl) ⟨v, [], rfl, r, rfl⟩
 injection e with e; subst e; exact p
structure zeJ (w : World) (H : Heap) (d : Nat) (f : Value) (as : List AV) (R : AV → Prop) : Prop where
 at_ : ∀ mu as', FrL mu as' as → zar w H d f as' mu fun r m => R r ∧ m = mu
theorem GS.hide (g : GS w H Y β mu s) : GS w H (hid Y β mu) noB [] s :=
 ⟨g.base, fun k a e => (nomatch e), fun a y => y.elim (g.yBase a) fun ⟨k, V, e, V0⟩ => g.bBase k a e, fun a y => y.elim (g.yIn a) fun ⟨k, V, e, V0⟩ => g.store.here k a e,
  ⟨fun V => rfl, fun V V V e => (nomatch e), fun V V V e => (nomatch e), fun V V e => (nomatch e), fun V V e => (nomatch e)⟩⟩
theorem zar.frameQ (h : zar w H d f as [] fun r m => R r ∧ m = []) (ht : ∀ r, R r → r.tame = true) : zeJ w H d f as R := ⟨by
 intro mu as' fr A Y β s vs hA g r
 refine codeAny_mono (h A (hid Y β mu) noB s vs hA g.hide (FrL.rep g.store fr r)) fun r s' ⟨β1, av, v, mu1, e, g1, t1, rv, q, hm⟩ => ?_
 subst hm
 have hb : β1 = noB := by
  funext k
  have := g1.store.dom k
  cases e : β1 k with
  | none => rfl
  | some a => rw [e] at this; exact Bool.noConfusion this
 subst hb
 have keep : ∀ b o, s.heap.get? b = some o → s'.heap.get? b = some o := fun b o e => t1.keep b o e fun k q => (nomatch q)
 exact ⟨β, av, v, mu, e, g.grow keep, .grow keep t1.gens t1.os, Rep.back (zlX g.store keep).away (ht _ q) rv, q, rfl⟩⟩
theorem zeJ.call (h : zeJ w H d' (.ref a) as R) (F : zaE H a D q) (le : d' ≤ d) (fr : FrL mu as' as) (k : ∀ r, R r → Q r mu) : zaP w H d (.raw (.ref a)) as' mu Q :=
 zaU F ((h.at_ mu as' fr).mono (Nat.le_refl _) fun r m ⟨hr, hm⟩ => hm ▸ k r hr) le
theorem zeJ.meth (h : zeJ w H d' (.ref a) as R) (fr : FrL mu as' as) (k : ∀ r, R r → Q r mu) : zar w H d' (.ref a) as' mu Q :=
 (h.at_ mu as' fr).mono (Nat.le_refl _) fun r m ⟨hr, hm⟩ => hm ▸ k r hr
theorem zal.q (h : zal w H d f as R) (ht : ∀ r, R r → r.tame = true) : zeJ w H d f as R := (h.at_ []).frameQ ht
inductive zpf : zb4 → List AV → Prop
 | list {xs} : zpf (.list xs) xs
 | dctp {ks xs} : zpf (.dctp ks xs) xs
 | dcti {ks xs} : zpf (.dcti ks xs) xs
structure zju (w : World) (H : Heap) (d : Nat) (f : Value) (as : List AV) (R : zb4 → Prop) : Prop where
 at_ : ∀ mu as' k, FrL mu as' as → mu.lookup k = none → zar w H d f as' mu fun r m => r = .loc k ∧ ∃ o, R o ∧ m = (k, o) :: mu
theorem zar.frameN (h : zar w H d f as [] fun r m => r = .loc 0 ∧ ∃ o, R o ∧ m = [(0, o)]) (ht : ∀ o, R o → ∃ xs, zaF (zpf o xs) (AV.tameL xs = true) (AV.locsL zaw xs)) : zju w H d f as R := ⟨by
 intro mu as' k fr hk A Y β s vs hA g r
 refine codeAny_mono (h A (hid Y β mu) noB s vs hA g.hide (FrL.rep g.store fr r)) fun r s' ⟨β1, av, v, mu1, e, g1, t1, rv, ea, o, hR, hm⟩ => ?_
 subst hm ea
 kcf_m
 obtain ⟨D, eD, ev⟩ := rv
 kcj_m
 have keep : ∀ b o, s.heap.get? b = some o → s'.heap.get? b = some o := fun b o e => t1.keep b o e fun k q => (nomatch q)
 have hD : s.heap.get? D = none := (t1.fresh 0 D eD).elim (fun q => nomatch q) id
 obtain ⟨oD, hoD⟩ := g1.store.here 0 D eD
 have hY : ¬ Y D := fun y => by obtain ⟨o, e⟩ := g.yIn D y; replace e := (hD) ▸ e; contradiction
 have hβ : ∀ j, β j ≠ some D := fun j q => by obtain ⟨o, e⟩ := g.store.here j D q; replace e := (hD) ▸ e; contradiction
 have hfree := g.free hk
 have B := zlX g.store keep
 have hb1 : ∀ j a, β1 j = some a → a = D := fun j a q => by
  have := g1.store.dom j
  replace this := (q) ▸ this
  have : j = 0 := by
   apply Classical.byContradiction; intro hj
   rw [List.lookup_cons, show (j == 0) = false by simpa using hj] at this
   contradiction
  subst this
  rw [eD] at q; exact (Option.some.inj q).symm
 have back2 : ∀ a x, s'.heap.get? a = some x → ¬ Odd x → zaL (hid Y β mu) β1 a → zaL Y (zbJ β k D) a := fun a x hx hn av => by
  obtain ⟨h1, h2⟩ := B.away a x hx hn ⟨av.1, fun V q => nomatch q⟩
  refine ⟨h1, fun j q => ?_⟩
  unfold zbJ at q
  split at q
  ·as_aux_lemma =>
   obtain rfl := Option.some.inj q; exact (fun a av q => av.2 0 (q ▸ eD) : ∀ a, zaL (hid Y β mu) β1 a → a ≠ D) _ av rfl
  ·exact h2 j q
 obtain ⟨xs, on, tame, nl⟩ := ht o hR
 have hrep := g1.store.rep 0 o D (by rfl) eD
 have key : zcX w s'.heap Y (zbJ β k D) D o := by as_aux_lemma =>
  cases on with
  | list => obtain ⟨vs, n, l, r⟩ := hrep; exact ⟨vs, n, l, zan.back back2 tame r⟩
  | dctp =>
   obtain ⟨sm, xs, hd, kv, e, r⟩ := hrep
   refine ⟨sm, xs, hd, fun x hx => ?_, e, zan.back back2 tame r⟩
   kcf_m
   obtain ⟨o2, es, ep, ho2, V, V, V, r4, V⟩ := hd
   kcj_m
   kcf_m
   obtain ⟨o', items, n, ho', hc', hd', V⟩ := r4 x hx
   kcj_m
   refine back2 _ _ ho' ?_ (kv x hx)
   rintro (⟨C, dx, q⟩ | ⟨es, n, q⟩)
   ·rw [q] at hd'; contradiction
   ·rw [q] at hd'; contradiction
  | dcti => obtain ⟨sm, xs, hd, e, r⟩ := hrep; exact ⟨sm, xs, hd, e, zan.back back2 tame r⟩
 obtain ⟨g2, t2, V⟩ := g.born (k := k) (D := D) (o := o) (s' := s') keep hD ⟨oD, hoD⟩ t1.gens t1.os hk key
 exact ⟨_, .loc k, v, _, e, g2, t2, ⟨D, by simp [zbJ], ev⟩, rfl, o, hR, rfl⟩⟩
theorem zju.call (k : Nat) (h : zju w H d' (.ref a) as R) (F : zaE H a D q) (le : d' ≤ d) (fr : FrL mu as' as) (hk : mu.lookup k = none) (kk : ∀ o, R o → Q (.loc k) ((k, o) :: mu)) : zaP w H d (.raw (.ref a)) as' mu Q :=
 zaU F ((h.at_ mu as' k fr hk).mono (Nat.le_refl _) fun r m ⟨hr, o, ho, hm⟩ => hr ▸ hm ▸ kk o ho) le
theorem zjS (hm : mu'.lookup k = some o) (hx : o.locs (fun j => j == k)) (hR : R (.loc k) [(k, o)]) : zcS [] R (.ret (.loc k)) mu' := by
 refine ⟨.loc k, [(k, o)], fun j => j == k, .same (by show (k == k) = true; simp), by simp, fun j => ?_, fun j m hj hm' => ?_, hR⟩
 ·by_cases hj : j = k
  ·subst hj; simp [hm]
  ·have : (j == k) = false := by simpa using hj
   (exists List.lookup_cons; exists this); simp [hj]
 ·have : j = k := by simpa using hj
  subst this
  rw [hm] at hm'; obtain rfl := Option.some.inj hm'; exact hx
end
end
section
theorem zi9 : typeLookup (.type "list") "keys" = pure none := by kernel_rfl
section
variable {A : Around} {E : QV} {s : Shared}
theorem zq7 (hx : IsL s.heap a xs k) (hA : A.handled = none)
  (h : ∀ h' tk, (∀ b o, s.heap.get? b = some o → h'.get? b = some o) → Q none { s with heap := h', toks := tk }) : wpAny (model pw w) A (getAttr? (.ref a) "keys") Q E s := by
 obtain ⟨hp, g, d, tk, os⟩ := s
 skip
 have hT : ∀ tk', (⟨hp, g, d, tk', os⟩ : Shared).TypeIs (.ref a) "list" := fun V => ⟨_, hx, rfl⟩
 have f1 := sub_AttributeError
 have f3 := F.slot_list_getattribute.lookup
 have f4 := F.slot_list_getattribute.bind (.ref a)
 have f5 := am_list_getattr_none
 skip
 repeat (any_goals (first | assumption | exact hT _ | ((with_reducible show wpAny _ _ (call (Value.builtin "list.__getattribute__") _ _) _ _ _); refine call_meets F.slot_list_getattribute (hT _) am_entry_list_getattribute (F.args_list_getattribute_2 _ _) (meets_getattribute_miss_list a xs k #[] "keys" _ zi9 (by decide +kernel)) ⟨hx, hA, fun h' tk' e hx' => ?_⟩) | wp_step))
 obtain ⟨t', u', he⟩ := hx'.there
 unfold getattributeRaised
 repeat (any_goals (first | assumption | wp_step))
 exact h _ _ hx'.keeps
end
noncomputable abbrev zlC (p : Int × Int × AV) : AV := .tup [.tup [.int p.1, .int p.2.1], p.2.2]
theorem zik : entryFor table "dict.update.loop" = some Builtin.«dict.update.loop» := entryFor_of_tree (by kpf_c)
theorem ziy : plainId "dict.update.loop" = true := by decide +kernel
section
variable {A : Around} {E : QV} {s : Shared}
theorem zeT {h h' : Heap} (x : h.DictOfH (kP w) D xs) (k : ∀ o, h.get? D = some o → h'.get? D = some o) (kk : ∀ y ∈ xs, ∀ o, h.get? y.2.1 = some o → h'.get? y.2.1 = some o) : h'.DictOfH (kP w) D xs := by
 kcf_m
 obtain ⟨o, es, ep, ho, r1, r2, r3, r4, r5⟩ := x
 kcj_m
 refine ⟨o, es, ep, k o ho, r1, r2, r3, fun y hy => ?_, r5⟩
 obtain ⟨o', items, n, ho', q⟩ := r4 y hy
 exact ⟨o', items, n, kk y hy _ ho', q⟩
theorem zfQ {R : Result → Shared → Prop} {I D l : Addr} {items : Array Value} {Y : zau} {β : zaq} (hh : A.handled = none) (hu : A.units + 10 < cLine) (hne : l ≠ I) (hDI : D ≠ I) (hDl : D ≠ l) (hYD : Y D) (hYI : Y I) :
  ∀ (rem : List (Int × Int × AV)) (i : Nat) (c : Int) (s : Shared) (xs : List (List Int × Addr × Value)) (vs : List Value), items.toList.drop i = vs → i + vs.length = items.size → zan w s.heap Y β (rem.map zlC) vs →
   s.heap.IsListIter I l i → s.heap.IsList l items → s.heap.DictOfH (kP w) D xs → (∀ x ∈ xs, zaL Y β x.2.1) → xs.length + rem.length ≤ 1000 → (xs.map (fun V => V.1) ++ rem.map fun p => [p.1, p.2.1]).Nodup →
   (∀ h' tk ys, (∀ b o, b ≠ D → b ≠ I → s.heap.get? b = some o → h'.get? b = some o) → h'.DictOfH (kP w) D (xs ++ ys) → ys.map (fun V => V.1) = rem.map (fun p => [p.1, p.2.1]) → (∀ y ∈ ys, zaL Y β y.2.1) → zan w h' Y β (rem.map fun p => p.2.2) (ys.map (fun V => V.2.2)) → R (.ok (.ret .none)) { s with heap := h', toks := tk }) →
   codeAny (model pw w) A (.builtin "dict.update.loop" ⟨[.ref D, .ref I, .int c 0, .none], []⟩) R s
 | [], i, c, s, xs, vs, hd, hlen, r, hit, hl, hD, hav, hz, hn, hR => by
  subst r
  refine codeAny_builtin zik ?_
  skip
  show wpAny _ A.in1 (pyNext (.ref I) >>= _) _ _ s
  have hend : items[i]? = none := by
   rw [Array.getElem?_eq_none_iff]; simp at hlen; exact Nat.le_of_eq (Eq.symm ‹_›)
  refine wpAny_bind (wpAny_pyNext_list_end (show A.in1.handled = none from hh) hit hl hend fun h' he' => ?_)
  refine wpAny_bind (wpAny_pure ?_)
  refine wpAny_pure (hR h' s.toks [] (fun b o V hb e => (fun b o hb e => he' b o hb e : ∀ b o, b ≠ I → s.heap.get? b = some o → h'.get? b = some o) b o hb e) ?_ rfl (fun y hy => by simp at hy) rfl)
  rw [List.append_nil]
  exact zeT hD (fun o e => (fun b o hb e => he' b o hb e : ∀ b o, b ≠ I → s.heap.get? b = some o → h'.get? b = some o) D o hDI e) fun y hy o e => (fun b o hb e => he' b o hb e : ∀ b o, b ≠ I → s.heap.get? b = some o → h'.get? b = some o) _ o (fun q => (hav y hy).1 (q ▸ hYI)) e
 | p :: rem, i, c, s, xs, vs, hd, hlen, r, hit, hl, hD, hav, hz, hn, hR => by
  obtain ⟨v, vr, e, ⟨T, tv, n, e2, ht, avT, lt⟩, lr⟩ := r
  subst e e2
  have hlt : i < items.size := by simp at hlen; kd_mem
  have hx : items[i]? = some (.ref T) := by
   have := congrArg (fun z => z[0]?) hd
   simp at this
   simpa using this
  refine codeAny_builtin zik ?_
  skip
  refine wpAny_bind (wpAny_pyNext_list_item hit hl hx fun h1 hit1 hs1 => ?_)
  have k1 : ∀ b o, b ≠ I → s.heap.get? b = some o → h1.get? b = some o := fun b o hb e => hs1.extBut b o hb e
  have S1 : zaB s.heap Y β h1 Y β := zcI fun b o hb e => k1 b o (fun q => hb (q ▸ hYI)) e
  have hT1 : h1.get? T = some _ := k1 T _ (fun q => avT.1 (q ▸ hYI)) ht
  have hTT : Shared.TypeIs { s with heap := h1 } (.ref T) "tuple" := ⟨_, hT1, rfl⟩
  kcf_m
  obtain ⟨kv, rr, e3, rk, xv, r2, e4, rx, e5⟩ := lt
  kcj_m
  subst e5; subst e4
  kcf_m
  obtain ⟨ka, rfl, hk, avk, V⟩ := zfE (Rep.stays S1 rk)
  kcj_m
  have rx1 := Rep.stays S1 rx
  refine wpAny_bind (wpAny_holding ?_)
  skip
  refine wpAny_bind (wpAny_tryCatch ?_)
  refine wpAny_bind (wpAny_typeOf hTT ?_)
  skip
  refine wpAny_bind (wpAny_seqItems hT1 rfl (wpAny_pure ?_))
  simp only [Option.getD_some, e3]
  have hu2 : (kP w).room A.in1 := tupleKind_room_in1 (by kd_mem)
  have hnone : atKey xs [p.1, p.2.1] = none := atKey_none_of_get fun j q e => by
   have hm : [p.1, p.2.1] ∈ xs.map (fun V => V.1) := List.mem_map.mpr ⟨_, List.mem_of_getElem? e, rfl⟩
   rw [List.map_cons] at hn
   exact (List.nodup_append.mp hn).2.2 _ hm _ List.mem_cons_self rfl
  refine wpAny_holding (wpAny_dictSet_heap (s := { s with heap := h1 }) hu2 hk (zeT hD (fun o e => k1 D o hDI e) fun y hy o e => k1 _ o (fun q => (hav y hy).1 (q ▸ hYI)) e : h1.DictOfH (kP w) D xs) (fun h2 hD2 hs2 => ?_) (by rw [sizeLine_eq]; kd_mem))
  rw [storedH_new hnone] at hD2
  have k2 : ∀ b o, b ≠ D → b ≠ I → s.heap.get? b = some o → h2.get? b = some o := fun b o hb hb2 e => (hs2.2 b hb).trans (k1 b o hb2 e)
  have S2 : zaB s.heap Y β h2 Y β := zcI fun b o hb e => k2 b o (fun q => hb (q ▸ hYD)) (fun q => hb (q ▸ hYI)) e
  have S12 : zaB h1 Y β h2 Y β := zcI fun b o hb e => (hs2.2 b (fun q => hb (q ▸ hYD))).trans e
  have hIs : h2.IsListIter I l (i + 1) := hit1.at fun o e => (hs2.2 I (Ne.symm hDI)).trans e
  have hl2 : h2.IsList l items := hl.at fun o e => k2 l o (Ne.symm hDl) hne e
  refine wpAny_pure ⟨plainId_quiet ziy _, zfQ hh hu hne hDI hDl hYD hYI rem (i + 1) (c + 1) _ (xs ++ [([p.1, p.2.1], ka, xv)]) vr ?_ ?_ (zan.stays S2 lr) hIs hl2 hD2 ?_ ?_ ?_ fun h3 tk ys k3 hD3 hys hyav hyr => ?_⟩
  ·(refine rwR List.drop_drop ?_; exists hd); rfl
  ·simp at hlen ⊢; kd_mem
  ·intro y hy
   rcases List.mem_append.mp hy with hy | hy
   ·exact hav y hy
   ·rw [List.mem_singleton.mp hy]; exact avk
  ·simp at hz ⊢; kd_mem
  ·rw [List.map_append, List.append_assoc]; exact hn
  ·refine hR h3 tk (([p.1, p.2.1], ka, xv) :: ys) (fun b o hb hb2 e => k3 b o hb hb2 (k2 b o hb hb2 e)) (by rw [List.append_assoc] at hD3; exact hD3) (by simp [hys]) (fun y hy => ?_) ?_
   ·rcases List.mem_cons.mp hy with hy | hy
    ·rw [hy]; exact avk
    ·exact hyav y hy
   ·have S3 : zaB h2 Y β h3 Y β := zcI fun b o hb e => k3 b o (fun q => hb (q ▸ hYD)) (fun q => hb (q ▸ hYI)) e
    exact ⟨xv, _, rfl, Rep.stays S3 (Rep.stays S12 rx1), hyr⟩
end
section
variable {d : Nat} {env : Env} {vars : zaf} {mu : Mu}
theorem zk4 {l : List (Int × Int × AV)} (k : Nat) (hs : ∃ o, H.get? sysModules = some o) (ha : zcV mu a = some (l.map zlC)) (hz : l.length ≤ 1000) (hn : (l.map fun p => [p.1, p.2.1]).Nodup) (hk : mu.lookup k = none)
  (q : Q (.loc k) ((k, .dctp (l.map fun p => [p.1, p.2.1]) (l.map fun p => p.2.2)) :: mu)) : zaP w H d (.raw (.type "dict")) [a] mu Q := fun A Y β s vf vs hA g rf ra => by
 subst rf
 obtain ⟨v, rfl, rv⟩ := zdm ra
 obtain ⟨p, us, n, rfl, hu, ru⟩ := zbH g ha rv
 refine ⟨za2 _, ?_⟩
 have e1 := zak s.heap
 refine callType_codes (Q₁ := fun obj s₁ => obj = .ref s.heap.objs.size ∧ s₁ = { s with heap := s.heap.push { cls := .type "dict", data := .dict #[] } }) F.kt_called_dict (F.kt_typeCall_dict_1 _) F.entry_dict_init (kt_code_dict_new _ ⟨rfl, rfl⟩) ?_
 rintro obj s₁ ⟨rfl, rfl⟩
 have hnew : (s.heap.push { cls := .type "dict", data := .dict #[] }).DictOfH (kP w) s.heap.objs.size [] := Heap.DictOfH.new s.heap
 have hu' : IsL (s.heap.push { cls := .type "dict", data := .dict #[] }) p us n := Heap.get?_push_of_some _ hu
 have hpl : p < s.heap.objs.size := Heap.lt_size hu
 refine ⟨hnew.typeIs, F.args_dict_init_2 _ _, ?_⟩
 unfold Builtin.«dict.__init__»
 refine wpAny_bind ?_
 skip
 refine wpAny_bind (wpAny_notOrdered_dict hnew.typeIs ?_)
 refine wpAny_pure ?_
 show wpAny _ _ (Builtin.Dict.updateFrom "dict.__init__" s.heap.objs.size (.ref p) [] .none) _ _ _
 skip
 refine wpAny_bind (wpAny_typeOf (T := "list") ⟨_, hu', rfl⟩ ?_)
 skip
 refine wpAny_bind (zq7 (s := { s with heap := s.heap.push { cls := .type "dict", data := .dict #[] } }) hu' (show A.in1.in1.handled = none from hA.handled) fun h1 tk1 k1 => ?_)
 skip
 refine wpAny_bind (wpAny_rule ?_)
 refine wpAny_bind (wpAny_pyIter_list (s := { s with heap := h1, toks := tk1 }) ⟨_, (k1 _ _ hu' : IsL h1 p us n), rfl, _, rfl⟩ ?_)
 have hI := zak h1
 have hDlt : s.heap.objs.size < h1.objs.size := by obtain ⟨o, V, V, ho, V⟩ := hnew; exact Heap.lt_size (k1 _ _ ho)
 have kk : ∀ b o, h1.get? b = some o → (h1.push { cls := .type "list_iterator", data := .fields #[.ref p, .int 0 0] }).get? b = some o := fun b o e => Heap.get?_push_of_some _ e
 have k01 : ∀ b o, s.heap.get? b = some o → (h1.push { cls := .type "list_iterator", data := .fields #[.ref p, .int 0 0] }).get? b = some o := fun b o e => kk b o (k1 b o (Heap.get?_push_of_some _ e))
 have nD : ∀ b o, s.heap.get? b = some o → b ≠ s.heap.objs.size := fun b o e => Nat.ne_of_lt (Heap.lt_size e)
 have nI : ∀ b o, s.heap.get? b = some o → b ≠ h1.objs.size := fun b o e => Nat.ne_of_lt (Nat.lt_trans (Heap.lt_size e) hDlt)
 have S0 : zaB s.heap Y β (h1.push { cls := .type "list_iterator", data := .fields #[.ref p, .int 0 0] }) (zaz Y [s.heap.objs.size, h1.objs.size]) β :=
  ⟨fun b o e V => k01 b o e, fun b o e av => ⟨fun y => y.elim av.1 fun q => by
   rcases List.mem_cons.mp q with q | q
   ·exact nD b o e q
   ·exact nI b o e (List.mem_singleton.mp q), av.2⟩, fun V V e => e⟩
 have hD1 : (h1.push { cls := .type "list_iterator", data := .fields #[.ref p, .int 0 0] }).DictOfH (kP w) s.heap.objs.size [] :=
  zeT hnew (fun o e => kk _ o (k1 _ o e)) fun y hy => by simp at hy
 have hlen : us.size = l.length := by have := zah ru; simpa using this
 refine wpAny_pure ⟨plainId_quiet ziy _, zfQ (Y := zaz Y [s.heap.objs.size, h1.objs.size]) (β := β) (show A.in1.handled = none from hA.handled) (by have := hA.units; show A.units + 1 + 10 < 9900; kd_mem) (Nat.ne_of_lt (Nat.lt_trans hpl hDlt)) (Nat.ne_of_lt hDlt) (Nat.ne_of_gt hpl) (.inr List.mem_cons_self) (.inr (List.mem_cons_of_mem _ (List.mem_singleton.mpr rfl))) l 0 0 _ [] us.toList rfl (by simp) (zan.stays S0 ru) ⟨_, Heap.get?_push_size _ rfl, rfl, rfl⟩ ⟨_, kk _ _ (k1 _ _ hu' : IsL h1 p us n), rfl, _, rfl⟩ hD1 (fun x hx => by simp at hx) (by simpa using hz) ((hn)) fun h3 tk ys k3 hD3 hys hyav hyr => ?_⟩
 have k03 : ∀ b o, s.heap.get? b = some o → h3.get? b = some o := fun b o e => k3 b o (nD b o e) (nI b o e) (k01 b o e)
 rw [List.nil_append] at hD3
 have hY : ¬ Y s.heap.objs.size := fun y => by obtain ⟨o, e⟩ := g.yIn _ y; replace e := (e1) ▸ e; contradiction
 have hfree := g.free hk
 have S3 : zaB h3 (zaz Y [s.heap.objs.size, h1.objs.size]) β h3 Y (zbJ β k s.heap.objs.size) := ⟨fun V V e V => e, fun b o e av => ⟨fun y => av.1 (.inl y), fun j q => by
   unfold zbJ at q
   split at q
   ·as_aux_lemma =>
    obtain rfl := Option.some.inj q; exact av.1 (.inr List.mem_cons_self)
   ·exact av.2 j q⟩, fun j b ej => by
   have hjk : j ≠ k := fun z => by rw [z, hfree] at ej; contradiction
   unfold zbJ
   exists if_neg hjk; exact ej⟩
 have hav3 : ∀ y ∈ ys, zaL Y (zbJ β k s.heap.objs.size) y.2.1 := fun y hy => by
  have av := hyav y hy
  refine ⟨fun y => av.1 (.inl y), fun j ej => ?_⟩
  unfold zbJ at ej
  split at ej
  ·exact av.1 (.inr (by refine rwR (Option.some.inj ej) ?_; exact List.mem_cons_self))
  ·exact av.2 j ej
 obtain ⟨g2, t2, V⟩ := g.born (k := k) (D := s.heap.objs.size) (o := .dctp (l.map fun p => [p.1, p.2.1]) (l.map fun p => p.2.2)) (s' := { s with heap := h3, toks := tk }) k03 e1 (by obtain ⟨o, V, V, ho, V⟩ := hD3; exact ⟨o, ho⟩ : ∃ o, h3.get? s.heap.objs.size = some o) rfl rfl hk ⟨zdk hs g e1, ys, hD3, hav3, hys, zan.stays S3 hyr⟩
 exact ⟨rfl, _, .loc k, _, g2, t2, ⟨_, by simp [zbJ], rfl⟩, q⟩
end
end
section
section
variable {d : Nat} {env : Env} {vars : zaf} {mu : Mu}
theorem zkE {h : Heap} {Y : zau} {β : zaq} {x : AV} {v : Value} (r : Rep w h Y β x v) : ∀ n : Nat, zan w h Y β (List.replicate n x) (List.replicate n v)
 | 0 => rfl
 | n + 1 => by exact ⟨v, _, rfl, r, zkE r n⟩
theorem mul_one {A : Around} {E : QV} {s : Shared} {l : Addr} {items : Array Value} {k : Nat} {x : Int} {u : Tok} {Q : QV} (hl : IsL s.heap l items k)
  (c0 : ¬(!Builtin.List.listFitsIndex x) = true) (c1 : ¬items.size * x.toNat > (2 ^ 63 - 1) / 8) (c2 : ¬Builtin.List.listTooLong (items.size * x.toNat) = true)
  (h : Q (.ref s.heap.objs.size) { s with heap := s.heap.push { cls := .type "list", data := .seq (List.foldl (fun x1 x2 => x1 ++ x2) #[] (List.replicate (if items.isEmpty = true then 0 else x.toNat) items)) } }) :
  wpAny (model pw w) A (binaryOp .Mult (.ref l) (.int x u)) Q E s :=
 wpAny_binaryOp_repeat_ref (T := "list") (U := "int") (by rfl) ⟨_, hl, rfl⟩ (fun s' => typeIs_int s' x u) noFill_list_mul F.fills_int_mul F.slot_int_rmul repeat_list F.slot_int_index.lookup
  (call_meets F.slot_int_rmul (typeIs_int s x u) F.entry_int_rmul (F.args_int_rmul_2 _ _) (int___rmul___int_list x u l items k)
   ⟨hl, rfl, ⟨_, hl, rfl⟩, call_meets F.slot_list_mul ⟨_, hl, rfl⟩ F.entry_list_mul (F.args_list_mul_2 _ _)
    (AutoListH.list___mul___list_int_3 l items k x u c0 c1 c2) ⟨hl, h⟩⟩)
theorem zl7 {l r pos} {Q : QL} (h : EW w H d env (eval l env) vars mu fun a mu1 => EW w H d env (eval r env) vars mu1 fun b mu2 => Ex2 fun (x : AV) (n : Nat) => zbI (zcV mu2 a = some [x]) (b = .int n) (n ≤ 1000) (Q (List.replicate n x) mu2)) :
  EWL w H d env (eval (.BinOp l .Mult r pos) env) vars mu Q := fun A Y β s hA g vo =>
 wpAny_BinOp (h.run hA g vo fun va s1 β1 a mu1 g1 t1 vo1 ra q1 => q1.run hA g1 vo1 fun vb s2 β2 b mu2 g2 t2 vo2 rb hq9' => by
  obtain ⟨x, n, ha, eb, hn, q⟩ := hq9'
  subst eb
  obtain ⟨u, rfl⟩ := rb
  obtain ⟨l1, vs, n1, rfl, h1, r1⟩ := zbH g2 ha (t2.rep ra)
  obtain ⟨v, rr, e, rv, e2⟩ := r1
  subst e2
  have evs : vs = #[v] := by cases vs; simpa using e
  subst evs
  have hz : (#[v] : Array Value).size * ((n : Nat) : Int).toNat = n := by simp
  have c0 : ¬(!Builtin.List.listFitsIndex ((n : Nat) : Int)) = true := by
   have e63 : (2 : Int) ^ 63 = 9223372036854775808 := by decide +kernel
   unfold Builtin.List.listFitsIndex
   simp; kd_mem
  have c1 : ¬ (#[v] : Array Value).size * ((n : Nat) : Int).toNat > (2 ^ 63 - 1) / 8 := by
   have e63 : ((2 : Nat) ^ 63 - 1) / 8 = 1152921504606846975 := by decide +kernel
   (exists hz; exists e63); kd_mem
  have c2 : ¬ Builtin.List.listTooLong ((#[v] : Array Value).size * ((n : Nat) : Int).toNat) = true := by
   unfold Builtin.List.listTooLong
   (exists hz; exists sizeLine_eq); simp; kd_mem
  obtain ⟨g3, S⟩ := newObj g2 { cls := .type "list", data := .seq (List.foldl (fun x1 x2 => x1 ++ x2) #[] (List.replicate (if (#[v] : Array Value).isEmpty = true then 0 else ((n : Nat) : Int).toNat) #[v])) } rfl
  have fin : (List.foldl (fun x1 x2 => x1 ++ x2) #[] (List.replicate (if (#[v] : Array Value).isEmpty = true then 0 else ((n : Nat) : Int).toNat) #[v])).toList = List.replicate n v := by
   rw [listMul_foldl]
   simp
  generalize hf : List.foldl (fun x1 x2 => x1 ++ x2) #[] (List.replicate (if (#[v] : Array Value).isEmpty = true then 0 else ((n : Nat) : Int).toNat) #[v]) = us at fin g3 S
  have res : zlR w H Y β s Q (Value.ref s2.heap.objs.size) { s2 with heap := s2.heap.push { cls := .type "list", data := .seq us } } :=
   ⟨β2, List.replicate n x, mu2, _, us, 0, rfl, zaN (t1.trans t2) (zak _), Heap.get?_push_size _ rfl, g3, (t1.trans t2).trans (.push _), by exists fin; exact zkE (Rep.stays S rv) n, q⟩
  refine mul_one h1 c0 c1 c2 ?_
  exists hf
  exact res)
end
end
section

theorem zpD {ks : List Str} : ((x :: ks).zip (v :: vs)).lookup x = some v := by simp
theorem zor {ks : List Str} (h : (x == k) = false) (r : (ks.zip vs).lookup x = some u) : ((k :: ks).zip (v :: vs)).lookup x = some u := by
 (exists List.zip_cons_cons; exists List.lookup_cons; exists h); exact r
theorem zpG : (([] : List Str).zip ([] : List AV)).lookup x = none := rfl
theorem zos {ks : List Str} (h : (x == k) = false) (r : (ks.zip vs).lookup x = none) : ((k :: ks).zip (v :: vs)).lookup x = none := by
 (exists List.zip_cons_cons; exists List.lookup_cons; exists h); exact r
theorem zqM (h : D.scope.names.lookup x = some .local) : zbC (zdg D L a cd q) x := .inl h
theorem zmO (h : D.scope.names.lookup x = some .cell) (h2 : ((cellsFrom 0 D.scope.names []).lookup x).isSome = true) : zbC (zdg D L a cd q) x :=
 .inr ⟨rfl, h, (zee (zdO D.scope.names (L + 1) 0 [] [] rfl)).trans h2⟩
section
variable {d : Nat} {env : Env} {vars : zaf} {mu : Mu}
def zmI (H : Heap) (mu : Mu) (a : AV) (attr : Str) (Q : AV → Prop) : Prop := Ex5 fun c ks vs x K => znA (zcs mu a = some (c, ks, vs)) (zdq H c K) (zbv K c attr) ((ks.zip vs).lookup attr = some x) (x.handed = true) (Q x)
theorem zrN {K : Frag} (h1 : zcs mu a = some (c, ks, vs)) (h2 : zdq H c K) (h3 : zbv K c attr) (h4 : (ks.zip vs).lookup attr = some x) (h5 : x.handed = true) (q : Q x) : zmI H mu a attr Q :=
 ⟨c, ks, vs, x, K, h1, h2, h3, h4, h5, q⟩
theorem znV (h : EW w H d env (eval value env) vars mu fun a mu1 => zmI H mu1 a attr fun x => Q x mu1)
  (he : autoParam (eval (.Attribute value attr pos) env = (do
   let o ← eval value env
   standAt pos.atName
   let r ← holding [o] (getAttr o attr true)
   letTemporaryGo value o r
   pure r)) aW) : EW w H d env (eval (.Attribute value attr pos) env) vars mu Q := zpm (h.mono fun a m ⟨c, ks, vs, x, K, h1, h2, h3, h4, h5, q⟩ => ⟨c, ks, vs, x, K, h1, h2, h3, h4, h5, q⟩) he
def zrJ (w : World) (H : Heap) (d : Nat) (mu : Mu) (a : AV) (name : Str) (Q : Value → Nat → Prop) : Prop := Ex8 fun c ks vs K f D q d' => zhW (zcs mu a = some (c, ks, vs)) (zdq H c K) (zc7 K c name f) ((ks.zip vs).lookup name = none) (zaE H f D q) (d' ≤ d) (Q (.ref f) d')
theorem zfy {K : Frag} (d' : Nat) (h1 : zcs mu a = some (c, ks, vs)) (h2 : zdq H c K) (h3 : zc7 K c name f) (h4 : (ks.zip vs).lookup name = none) (h5 : zaE H f D q) (le : d' ≤ d) (r : Q (.ref f) d') : zrJ w H d mu a name Q :=
 ⟨c, ks, vs, K, f, D, q, d', h1, h2, h3, h4, h5, le, r⟩
theorem zaQ {o : Expr} {name : Str} {apos pos : Pos} {args : List Expr} {Q : QA}
  (h : EW w H d env (eval o env) vars mu fun a mu1 => zrJ w H d mu1 a name fun f d' => LW w H d env (spliced (backTo pos (starEach args env))) vars mu1 fun as mu2 => zar w H d' f (a :: as) mu2 Q)
  (hp : autoParam ((backTo pos (starEach args env)).any (fun V => V.1) = false) aW)
  (he : autoParam (∀ pl : Sem Bool, eval (.Call (.Attribute o name apos) args [] pos) env = (do
   let ov ← eval o env
   standAt apos.atName
   let (f, first) ← holding [ov] (getMethod ov name (do return (← importBound o env).getD true))
   callWith pos f first (backTo pos (starEach args env)) (backToKw pos (keywordEach [] env)))) aW) :
  EW w H d env (eval (.Call (.Attribute o name apos) args [] pos) env) vars mu Q := zmU (h.mono fun a m ⟨c, ks, vs, K, f, D, q, d', h1, h2, h3, h4, h5, h6, r⟩ => ⟨c, ks, vs, K, f, D, q, d', h1, h2, h3, h4, h5, h6, r⟩) hp he
theorem zd5 (ha : a.notRaw = true) (hc : (!a.isNone) = c) (h : Q (.bool c) mu) : Op2 w H d (compareOp .IsNot) a .none mu Q := zh5 ha (hc ▸ h)
theorem zfA (ha : a.notRaw = true) (hc : a.isNone = c) (h : Q (.bool c) mu) : Op2 w H d (compareOp .Is) a .none mu Q := zlx ha (hc ▸ h)
theorem rangeSize_nat (n : Nat) : Builtin.Range.rangeSize 0 n 1 = n := by
 unfold Builtin.Range.rangeSize
 simp only [show ((1 : Int) > 0) from by decide, if_true]
 split <;> kd_mem
theorem e62 : (2 : Int) ^ 62 = 4611686018427387904 := by decide +kernel
theorem zbO {n : Nat} (hn : n < 1000) : zmJ w H d (.rng 0 n 1) mu ((List.range n).map fun (i : Nat) => .int i) := by
 have h := zoc (d := d) (mu := mu) (a := 0) (b := n) (c := 1) (small_one (by decide) (by decide) (by exact Int.natCast_nonneg _) (by kd_mem)) (by rw [rangeSize_nat]; exact Int.natCast_nonneg _)
 unfold zbV zcE at h
 rw [rangeSize_nat] at h
 have e : (fun (i : Nat) => AV.int (0 + (i : Int) * 1)) = fun (i : Nat) => AV.int i := by funext i; simp
 rw [e] at h
 simpa using h
theorem rangeSize_down (n : Nat) : Builtin.Range.rangeSize n (-1) (-1) = n + 1 := by
 unfold Builtin.Range.rangeSize
 (exists (if_neg (by decide)); exists if_pos ((Int.natCast_nonneg _)))
 have : ((n : Int) - -1 - 1) / - -1 = n := by
  kd_mem
 rw [this]
theorem zeM {n : Nat} (hn : n < 1000) : zmJ w H d (.rng n (-1) (-1)) mu ((List.range (n + 1)).map fun (i : Nat) => .int ((n : Int) - i)) := by
 have h := zoc (d := d) (mu := mu) (a := n) (b := -1) (c := -1) (by
  unfold Builtin.Range.small
  rw [rangeSize_down]
  simp only [Builtin.Range.rangeFitsLong, Bool.and_eq_true, Bool.or_eq_true, decide_eq_true_eq, beq_iff_eq, (by decide +kernel : (2 : Int) ^ 63 = 9223372036854775808)]
  simp; kd_mem) (by rw [rangeSize_down]; exact Int.natCast_nonneg _)
 unfold zbV zcE at h
 rw [rangeSize_down] at h
 have e : (fun (i : Nat) => AV.int ((n : Int) + (i : Int) * (-1))) = fun (i : Nat) => AV.int ((n : Int) - i) := by funext i; congr 1; kd_mem
 rw [e] at h
 have e2 : ((n : Int) + 1).toNat = n + 1 := by exact rfl
 rw [e2] at h; exact h
end
end
section
section
variable {prog : Program} {A : Around} {E : QV} {s : Shared}
theorem zjJ {it l : Addr} {items : Array Value} (hne : l ≠ it) : ∀ (n i : Nat) (s : Shared) (Q : List Value → Shared → Prop), s.heap.IsListIter it l i → s.heap.IsList l items → i + n ≤ items.size →
  (∀ h', h'.IsListIter it l (i + n) → Heap.SameBut it s.heap h' → Q ((items.toList.drop i).take n) { s with heap := h' }) → wpAny (model prog w) A (draw (.ref it) n) Q E s
 | 0, i, s, Q, hit, _, _, hQ => by
  exact wpAny_pure (by simpa using hQ s.heap hit (Heap.SameBut.refl ..))
 | n + 1, i, s, Q, hit, ht, hle, hQ => by
  have hlt : i < items.size := by kd_mem
  refine wpAny_bind (wpAny_pyNext_list_item hit ht (x := items[i]) (by simp [hlt]) fun h₁ hit₁ hs₁ => ?_)
  refine wpAny_bind (wpAny_holding (zjJ hne n (i + 1) _ _ hit₁ (ht.extBut hs₁.extBut hne) (by kd_mem) fun h₂ hit₂ hs₂ => wpAny_pure ?_))
  have hd : items.toList.drop i = items[i] :: items.toList.drop (i + 1) := by simp [List.drop_eq_getElem_cons, hlt]
  have := hQ h₂ (by exists (show i + (n + 1) = i + 1 + n by kd_mem); exact hit₂) (hs₁.trans hs₂)
  rw [hd, List.take_succ_cons] at this
  exact this
theorem ze9 {env : Env} {elts : List Expr} {x1} {pos : Pos} {l : Addr} {items : Array Value} {Q : Unit → Shared → Prop} (hh : A.handled = none) (ht : s.heap.IsList l items)
  (hn : (assignEach elts env).length = items.size) (hstar : (assignEach elts env).findIdx? (fun V => V.1) = none)
  (h : ∀ h', Heap.ExtBut s.heap.objs.size s.heap h' → wpAny (model prog w) A (assignInOrder ((assignEach elts env).map (fun V => V.2)) items.toList) Q E { s with heap := h' }) :
  wpAny (model prog w) A (assign (.Tuple elts x1 pos) env (.ref l)) Q E s := by
 skip
 refine wpAny_bind (wpAny_standAt ?_)
 unfold unpack
 (exists hn; exists hstar)
 have hlt : l ≠ s.heap.objs.size := by obtain ⟨o, ho, V⟩ := ht; exact Nat.ne_of_lt (Heap.lt_size ho)
 refine wpAny_bind (wpAny_holding ?_)
 unfold unpackItems
 refine wpAny_bind ?_
 unfold notIterableAtAll
 refine wpAny_bind (wpAny_specialOf (let ⟨o, ho, hc, _⟩ := ht; ⟨o, ho, hc⟩ : s.TypeIs (.ref l) "list") F.slot_list_iter.lookup ?_)
 refine wpAny_pure ?_
 skip
 refine wpAny_bind (wpAny_holding (wpAny_pyIter_list ht ?_))
 refine wpAny_bind (wpAny_holding (zjJ hlt items.size 0 _ _ ⟨_, Heap.get?_push_size _ rfl, rfl, rfl⟩ (ht.push _) (by kd_mem) fun h₁ hit₁ hs₁ => ?_))
 have hall : List.take items.size (List.drop 0 items.toList) = items.toList := by
  exists List.drop_zero; exact List.take_of_length_le (by simp)
 exists hall
 exists (if_neg (by simp))
 have ht₁ : h₁.IsList l items := (ht.push _).extBut hs₁.extBut hlt
 refine wpAny_bind (wpAny_holding (wpAny_pyNext_list_end hh hit₁ ht₁ (by simp) fun h₂ he₂ => ?_))
 skip
 exact wpAny_pure (h h₂ fun b o hb e => he₂ b o hb (hs₁.extBut b o hb (Heap.get?_push_of_some _ e)))
end
section
variable {d : Nat} {env : Env} {vars : zaf} {mu : Mu}
theorem zrw {elts : List Expr} {k pos} {as : List AV} {Q : QU} (h : UWs w H d env elts as vars mu Q) (he : (assignEach elts env) = elts.map fun t => (false, fun v => assign t env v)) (hn : elts.length = as.length) :
  UW w H d env (fun v => assign (.Tuple elts k pos) env v) (.lst as) vars mu Q := fun A Y β s v hA g vo r => by
 obtain ⟨a, vs, n, rfl, ht, av, l⟩ := r
 refine ze9 hA.handled ⟨_, ht, rfl, _, rfl⟩ (by rw [he, List.length_map, hn]; simpa using (zah l).symm) (by exists he; clear he h hn; induction elts <;> simp_all [List.findIdx?_cons]) fun h' hx => ?_
 have kk := zgP hx
 have t1 : zap β s β { s with heap := h' } := .grow (s' := { s with heap := h' }) kk rfl rfl
 have e2 : (assignEach elts env).map (fun V => V.2) = elts.map fun t v => assign t env v := by (exists he; exists List.map_map); rfl
 exists e2
 exact UWs.run hA h (g.grow (s' := { s with heap := h' }) kk) (vo.step g.store t1) (t1.repL l) fun s2 β2 vars2 mu2 g2 vo2 t2 S2 q2 =>
  ⟨β2, vars2, mu2, g2, vo2, (t1.st env).trans t2, ⟨fun b o e a => S2.keep b o (kk b o e) a, fun b o e a => S2.avoid b o (kk b o e) a, S2.beta⟩, q2⟩
end
end
section
section
variable {d : Nat} {mu : Mu}
structure zib (H : Heap) (a : Addr) (D : DefRec) (q : Str) : Prop where
 ex : Ex7 fun o pm cd doc T oT n => ze5 (H.get? a = some o) (o.data = .func { docDef D.name D.params D.body D.scope pm cd doc with qualname := q, defaults := .ref T }) (H.get? T = some oT) (oT.data = .seq #[.none, .none] n) (H.CodeRec cd q)
theorem zar.ofD {a : Addr} {D : DefRec} {q : Str} (pas : zaf) {as : List AV} {R : QA} {st : Stmt} {rest : List Stmt} (F : zib H a D q) (hlim : H.NoLimit)
  (hb : D.body = st :: rest) (has : as = pas.map (fun V => V.2))
  (hsw : ∀ L cd, SW w H d (zdg D L a cd q) (execs (st :: rest) (zdg D L a cd q)) pas mu fun af V mu' => zcS mu R af mu')
  (hbind : ∀ pm cd doc T vs, vs.length = (pas.map (fun V => V.1)).length → ∃ k, bindArgs { docDef D.name D.params D.body D.scope pm cd doc with qualname := q, defaults := .ref T } ⟨vs, []⟩ = seqItems? (.ref T) >>= k ∧ k (some #[.none, .none]) = pure ((pas.map (fun V => V.1)).zip vs))
  (hkind : zfw D.scope.names (pas.map (fun V => V.1)) = true)
  (nd : (pas.map (fun V => V.1)).Nodup) (hk : autoParam (D.scope.kind = .function) aW) (hco : autoParam (D.scope.isCoroutine = false) aW) (hgen : autoParam (D.scope.isGenerator = false) aW) : zar w H (d + 1) (.ref a) as mu R := by
 subst has
 obtain ⟨o, pm, cd, doc, T, oT, nT, ho, hd, hT, hT2, hc⟩ := F.ex
 exact zar.introG (dv := .ref T) ho hd hc hlim (by rw [zip_unzip]; exact hsw) hb (by simp) (fun s base vs e => by obtain ⟨k, k1, k2⟩ := hbind pm cd doc T vs e; exact .of_defaults rfl (base _ _ hT) hT2 k1 k2) hkind nd hk hco hgen
end
end
section
inductive Is (av : AV) (mu' : Mu) : AV → Mu → Prop
 | mk : Is av mu' av mu'
inductive IsB (b : Bool) (mu' : Mu) : Bool → Mu → Prop
 | mk : IsB b mu' b mu'
inductive IsM (avs : List AV) (mu' : Mu) : List AV → Mu → Prop
 | mk : IsM avs mu' avs mu'
section
variable {d : Nat} {env : Env} {vars : zaf} {mu mu' : Mu}
end
theorem zrW {P : List Value → Prop} (n : Nat) (h : ∀ f : Nat → Value, P ((List.range n).map f)) (vs : List Value) (e : vs.length = n) : P vs := by
 have : (List.range n).map (fun i => vs.getD i .none) = vs := by
  subst e
  apply List.ext_getElem?
  intro i
  exists List.getElem?_map
  by_cases hi : i < vs.length
  ·exists List.getElem?_range hi; simp [List.getD, List.getElem?_eq_getElem hi]
  ·(exists (List.getElem?_eq_none (by simpa using hi)); exists (List.getElem?_eq_none (by simpa using hi))); rfl
 exact this ▸ h _
section
variable {d : Nat} {env : Env} {vars : zaf} {mu : Mu}
theorem SW.gen (h : ∀ Q' : zeH → zaf → Mu → Prop, (∀ af v m, Q af v m → Q' af v m) → SW w H d env t vars mu Q') : SW w H d env t vars mu Q := h Q fun V V V z => z
theorem zfO {target iter body orelse pos} (Ok : Mu → Prop) (item : Mu → Nat → Option AV) (Inv : Nat → Nat → zaf → Mu → Prop)
  (h : LIW w H Ok item d env iter vars mu fun mu1 => ∃ n, Inv n 0 vars mu1) (ok : ∀ n i v m, Inv n i v m → Ok m)
  (turn : ∀ n i x v m, Inv n i v m → item m i = some x → ∀ Q' : zeH → zaf → Mu → Prop, (∀ af v m, ze6 (fun v' m' => ∃ n', n' < n ∧ Inv n' (i + 1) v' m') Q af v m → Q' af v m) → UW w H d env (fun u => assign target env u) x v m fun v1 m1 => SW w H d env (execs body env) v1 m1 Q')
  (done : ∀ n i v m, Inv n i v m → item m i = none → SW w H d env (execs orelse env) v m Q)
  (hs : autoParam (∀ x, foldedSetIterable iter env x = pure x) aW) : SW w H d env (exec (.For target iter body orelse pos) env) vars mu Q :=
 zkQ Ok item Inv h ok (fun n i x v m a b => turn n i x v m a b _ fun V V V z => z) done hs
end
end
section
abbrev zma {α : Type} (Q : α → Mu → Prop) (m : Mu) (a : α) : Prop := Q a m
abbrev zrY (Q : QF) (m : Mu) (v : zaf) : Prop := Q .next v m
abbrev zrZ (Q : QF) (v : zaf) (m : Mu) : Prop := Q .next v m
abbrev retC (v : zaf) (Q : QF) (a : AV) (m : Mu) : Prop := Q (.ret a) v m
abbrev asgC (v : zaf) (x : Str) (Q : QF) (a : AV) (m : Mu) : Prop := zgY v x a (zrY Q m)
abbrev notC (Q : QB) (b : Bool) (m : Mu) : Prop := Q (!b) m
abbrev tupC (Q : QA) (as : List AV) (m : Mu) : Prop := as.length ≤ sizeLine ∧ Q (.tup as) m
abbrev lcB (a : AV) (Q : QL) (as : List AV) (m : Mu) : Prop := Q (a :: as) m
abbrev slD (a b : Option Nat) (m : Mu) (Q : QA) (xs : List AV) : Prop := Q (.tup (zdx xs a b)) m
abbrev zr8 (Q : Option Nat → Mu → Prop) (a : AV) (m : Mu) : Prop := zjw a (zma Q m)
abbrev ignC (v : zaf) (Q : QF) (_ : AV) (m : Mu) : Prop := Q .next v m
section
variable (w : World) (H : Heap) (d : Nat)
abbrev zrt (Q : QB) (a : AV) (m : Mu) : Prop := Truth w H d a m Q
abbrev opO (o : Value → Value → Sem Value) (a : AV) (Q : QA) (b : AV) (m : Mu) : Prop := Op2 w H d o a b m Q
abbrev zsj (o : AV) (Q : QA) (i : AV) (m : Mu) : Prop := zb3 w H d o i m Q
abbrev zqx (f : AV) (Q : QA) (as : List AV) (m : Mu) : Prop := zaP w H d f as m Q
abbrev attC (attr : Str) (Q : QA) (a : AV) (m : Mu) : Prop := zmI H m a attr (zma Q m)
variable (env : Env)
abbrev slC (o : AV) (a : Option Nat) (Q : QA) (b : Option Nat) (m : Mu) : Prop := zgZ o (slD a b m Q)
abbrev uwsC (ts : List Expr) (as : List AV) (Q : QU) (v : zaf) (m : Mu) : Prop := UWs w H d env ts as v m Q
variable (vars : zaf)
abbrev asgU (t : Expr) (Q : QF) (a : AV) (m : Mu) : Prop := UW w H d env (fun v => assign t env v) a vars m (zrZ Q)
abbrev ifC (b o : List Stmt) (Q : QF) (c : Bool) (m : Mu) : Prop := IfK c (SW w H d env (execs b env) vars m Q) (SW w H d env (execs o env) vars m Q)
abbrev andC (op : BoolOp) (r : List Expr) (Q : QB) (b : Bool) (m : Mu) : Prop := IfB b (TW w H d env (allTrue op r env) vars m Q) (Q false m)
abbrev orC (op : BoolOp) (r : List Expr) (Q : QB) (b : Bool) (m : Mu) : Prop := IfB b (Q true m) (TW w H d env (allTrue op r env) vars m Q)
abbrev tifC (x y : Expr) (Q : QB) (b : Bool) (m : Mu) : Prop := IfB b (TW w H d env (isTrue x env (eval x env)) vars m Q) (TW w H d env (isTrue y env (eval y env)) vars m Q)
abbrev eifC (x y : Expr) (Q : QA) (b : Bool) (m : Mu) : Prop := IfB b (EW w H d env (eval x env) vars m Q) (EW w H d env (eval y env) vars m Q)
abbrev evC (e : Expr) (Q : QA) (m : Mu) : Prop := EW w H d env (eval e env) vars m Q
abbrev opR (o : Value → Value → Sem Value) (r : Expr) (Q : QA) (a : AV) (m : Mu) : Prop := EW w H d env (eval r env) vars m (opO w H d o a Q)
abbrev subR (r : Expr) (Q : QA) (a : AV) (m : Mu) : Prop := EW w H d env (eval r env) vars m (zsj w H d a Q)
abbrev slB (o : AV) (hi : Option Expr) (Q : QA) (a : Option Nat) (m : Mu) : Prop := PW w H d env hi vars m (slC o a Q)
abbrev slA (lo hi : Option Expr) (Q : QA) (o : AV) (m : Mu) : Prop := PW w H d env lo vars m (slB w H d env vars o hi Q)
abbrev an2 (y : Expr) (a : AV) (Q : QA) (b : Bool) (m : Mu) : Prop := IfB b (EW w H d env (eval y env) vars m Q) (Q a m)
abbrev an1 (y : Expr) (Q : QA) (a : AV) (m : Mu) : Prop := Truth w H d a m (an2 w H d env vars y a Q)
abbrev or2 (y : Expr) (a : AV) (Q : QA) (b : Bool) (m : Mu) : Prop := IfB b (Q a m) (EW w H d env (eval y env) vars m Q)
abbrev or1 (y : Expr) (Q : QA) (a : AV) (m : Mu) : Prop := Truth w H d a m (or2 w H d env vars y a Q)
abbrev lcA (p : Pos) (r : List Expr) (Q : QL) (a : AV) (m : Mu) : Prop := LW w H d env (spliced (backTo p (starEach r env))) vars m (lcB a Q)
abbrev caF (p : Pos) (as : List Expr) (Q : QA) (f : AV) (m : Mu) : Prop := LW w H d env (spliced (backTo p (starEach as env))) vars m (zqx w H d f Q)
end
@[reducible] noncomputable def zh8 : zaf → Nat → Option (Str × AV)
 | p :: _, 0 => some p
 | _ :: r, i + 1 => zh8 r i
 | [], _ => none
theorem zpa : ∀ {vs : zaf} {i : Nat}, zh8 vs i = some p → p ∈ vs := by
 intro vs
 induction vs with
 | nil => intro i h; contradiction
 | cons q r ih =>
  intro i h
  cases i with
  | zero => exact Option.some.inj h ▸ List.mem_cons_self
  | succ i => exact List.mem_cons_of_mem _ (ih h)
noncomputable def zbr (x : Str) : Bool := !(x == ("__debug__" : Str)) && !(x == ("__classdict__" : Str))
theorem zdX (h : zbr x = true) : (x == ("__debug__" : Str)) = false ∧ (x == ("__classdict__" : Str)) = false := by
 unfold zbr at h; simpa using h
noncomputable def bindB (env : Env) (x : Str) : Bool := match env.kindOf x with
 | some .local => true
 | some .cell => env.func.isSome && (env.cells.lookup x).isSome
 | _ => false
theorem zg1 (h : bindB env x = true) : zbC env x := by
 delta bindB at h
 cases q : env.kindOf x with
 | none => rw [q] at h; exact Bool.noConfusion h
 | some k =>
  rw [q] at h
  cases k <;> first
   | exact Bool.noConfusion h
   | exact .inl q
   | exact .inr ⟨(Bool.and_eq_true_iff.mp h).1, q, (Bool.and_eq_true_iff.mp h).2⟩
@[reducible] noncomputable def zoS : zaf → Nat → Str → AV → Option zaf
 | _ :: r, 0, x, a => some ((x, a) :: r)
 | p :: r, i + 1, x, a => match zoS r i x a with
  | some r' => some (p :: r')
  | none => none
 | [], _, _, _ => none
noncomputable def keysAt (x : Str) : zaf → Nat → Bool
 | p :: _, 0 => p.1 == x
 | p :: r, i + 1 => !(p.1 == x) && keysAt x r i
 | [], _ => false
@[reducible] noncomputable def ziS : zaf → Str → AV → Option zaf
 | [], x, a => some [(x, a)]
 | p :: r, x, a => match ziS r x a with
  | some r' => some (p :: r')
  | none => none
theorem zrd : ∀ {vs : zaf} {i : Nat} {vs' : zaf}, keysAt x vs i = true → zoS vs i x a = some vs' → Put vs x a vs' := by
 intro vs
 induction vs with
 | nil => intro i vs' h V; exact Bool.noConfusion h
 | cons p r ih =>
  intro i vs' h e
  cases i with
  | zero =>
   injection e with e; subst e
   obtain ⟨y, b⟩ := p
   have : y = x := by exact of_decide_eq_true h
   subst this
   exact .here
  | succ i =>
   obtain ⟨h1, h2⟩ := Bool.and_eq_true_iff.mp h
   replace e : (match zoS r i x a with | some r' => some (p :: r') | none => none) = some vs' := e
   cases q : zoS r i x a with
   | none => replace e := (q) ▸ e; contradiction
   | some r' => replace e := (q) ▸ e; injection e with e; subst e; exact .there (by simpa using h1) (ih h2 q)
theorem zoM : ∀ {vs : zaf} {vs' : zaf}, (vs.all fun p => !(p.1 == x)) = true → ziS vs x a = some vs' → Put vs x a vs' := by
 intro vs
 induction vs with
 | nil => intro vs' V e; injection e with e; subst e; exact .nil
 | cons p r ih =>
  intro vs' h e
  obtain ⟨h1, h2⟩ := Bool.and_eq_true_iff.mp h
  replace e : (match ziS r x a with | some r' => some (p :: r') | none => none) = some vs' := e
  cases q : ziS r x a with
  | none => replace e := (q) ▸ e; contradiction
  | some r' => replace e := (q) ▸ e; injection e with e; subst e; exact .there (by simpa using h1) (ih h2 q)
@[reducible] noncomputable def zp : zaf → Nat → Option Str
 | p :: _, 0 => some p.1
 | _ :: r, i + 1 => zp r i
 | [], _ => none
noncomputable def newN (x : Str) (vs : zaf) : Bool := vs.all fun p => !(p.1 == x)
theorem zsa (q : Q vs') (_h0 : autoParam (zp vs i = some x) aV) (e : autoParam (some vs' = zoS vs i x a) aE) (h : autoParam (true = keysAt x vs i) aK) : zgY vs x a Q := ⟨_, zrd h.symm e.symm, q⟩
theorem zrc (q : Q vs') (e : autoParam (some vs' = ziS vs x a) aE) (h : autoParam (true = newN x vs) aK) : zgY vs x a Q := ⟨_, zoM h.symm e.symm, q⟩
@[reducible] noncomputable def zeq : List Str → Nat → Option Str
 | k :: _, 0 => some k
 | _ :: r, i + 1 => zeq r i
 | [], _ => none
@[reducible] noncomputable def zo9 : List AV → Nat → Option AV
 | k :: _, 0 => some k
 | _ :: r, i + 1 => zo9 r i
 | [], _ => none
theorem vk0 : some k = zeq (k :: r) 0 := rfl
theorem vk1 : some k = zeq (k0 :: k :: r) 1 := rfl
theorem vk2 : some k = zeq (k0 :: k1 :: k :: r) 2 := rfl
theorem vk3 : some k = zeq (k0 :: k1 :: k2 :: k :: r) 3 := rfl
theorem vk4 : some k = zeq (k0 :: k1 :: k2 :: k3 :: k :: r) 4 := rfl
theorem vk5 : some k = zeq (k0 :: k1 :: k2 :: k3 :: k4 :: k :: r) 5 := rfl
theorem vk6 : some k = zeq (k0 :: k1 :: k2 :: k3 :: k4 :: k5 :: k :: r) 6 := rfl
theorem vk7 : some k = zeq (k0 :: k1 :: k2 :: k3 :: k4 :: k5 :: k6 :: k :: r) 7 := rfl
theorem vk8 : some k = zeq (k0 :: k1 :: k2 :: k3 :: k4 :: k5 :: k6 :: k7 :: k :: r) 8 := rfl
noncomputable def zoe (x : Str) : List Str → Nat → Bool
 | k :: _, 0 => x == k
 | k :: r, i + 1 => !(x == k) && zoe x r i
 | [], _ => false
theorem zpN : ∀ {ks : List Str} {vs : List AV} {i : Nat}, zoe x ks i = true → zo9 vs i = some u → (ks.zip vs).lookup x = some u := by
 intro ks
 induction ks with
 | nil => intro vs i h; exact Bool.noConfusion h
 | cons k r ih =>
  intro vs i h e
  cases vs with
  | nil => cases i <;> contradiction
  | cons v vs =>
   (exists List.zip_cons_cons; exists List.lookup_cons)
   cases i with
   | zero => obtain rfl := Option.some.inj e; rw [show (x == k) = true from h]
   | succ i =>
    obtain ⟨h1, h2⟩ := Bool.and_eq_true_iff.mp h
    exists (show (x == k) = false from by simpa using h1)
    exact ih h2 e
noncomputable def noKey (x : Str) (ks : List Str) : Bool := ks.all fun k => !(x == k)
section
variable {d : Nat} {env : Env} {vars : zaf} {mu : Mu}
theorem zsf {test body orelse pos} (h : TW w H d env (isTrue test env (eval test env)) vars mu (ifC w H d env vars body orelse Q)) : SW w H d env (exec (.If test body orelse pos) env) vars mu Q := zsk h
theorem znq {e pos} (h : EW w H d env (eval e env) vars mu (retC vars Q)) : SW w H d env (exec (.Return (some e) pos) env) vars mu Q := zb2 h
theorem zsw {e pos} (h : EW w H d env (eval e env) vars mu (ignC vars Q)) (hi : autoParam (interactive env = false) aW) (hs : autoParam (swapsWith e none pos.line env = pure false) aW) : SW w H d env (exec (.Expr e pos) env) vars mu Q := za1 h hi hs
theorem zqb {x p value pos} {Q : QF} (h : EW w H d env (eval value env) vars mu (asgC vars x Q)) (hk : autoParam (true = bindB env x) aK) (hs : autoParam (swapsWith value (some (.Name x p)) pos.line env = pure false) aW) :
  SW w H d env (exec (.Assign [.Name x p] value pos) env) vars mu Q := zbX h (zg1 hk.symm) hs
theorem znp {t value pos} (h : EW w H d env (eval value env) vars mu (asgU w H d env vars t Q)) (hs : autoParam (swapsWithSole [t] value pos.line env = pure false) aW) (hw : autoParam (swappedStores [t] value env = pure none) aW)
  (he : autoParam ((assignEach [t] env).map (fun V => V.2) = [assign t env]) aW) : SW w H d env (exec (.Assign [t] value pos) env) vars mu Q := znu h hs hw he
theorem zrr {x rest} (h : TW w H d env (isTrue x env (eval x env)) vars mu (andC w H d env vars .And rest Q)) : TW w H d env (allTrue .And (x :: rest) env) vars mu Q := zru h
theorem zsl {x rest} (h : TW w H d env (isTrue x env (eval x env)) vars mu (orC w H d env vars .Or rest Q)) : TW w H d env (allTrue .Or (x :: rest) env) vars mu Q := zsm h
theorem zrs {x pos whole} (h : TW w H d env (isTrue x env (eval x env)) vars mu (notC Q)) : TW w H d env (isTrue (.UnaryOp .Not x pos) env whole) vars mu Q := zrv h
theorem zhR {l op r pos whole} (h : EW w H d env (eval l env) vars mu (opR w H d env vars (compareOp op) r (zrt w H d Q))) (hm : autoParam (behindInMarks op r = false) aW) : TW w H d env (isTrue (.Compare l [op] [r] pos) env whole) vars mu Q := zlN h hm
theorem zo2 (h : EW w H d env whole vars mu (zrt w H d Q)) (he : autoParam (isTrue e env whole = (do let v ← whole; standAt e.pos; holding [v] (truthy v))) aW) : TW w H d env (isTrue e env whole) vars mu Q := zo4 h he
theorem en {x pos av} (h : Q av mu) (h0 : autoParam (zh8 vars i = some (x, av)) aV) (hd : autoParam (true = zbr x) aK) : EW w H d env (eval (.Name x pos) env) vars mu Q :=
 zpp (zpa h0) h (zdX hd.symm).1 (zdX hd.symm).2
theorem eg {x pos av} (h : Q av mu) (hg : autoParam (zac w H x av) aA) (hk : autoParam (env.kindOf x = some .globalImplicit) aK) (hd : autoParam (true = zbr x) aK) : EW w H d env (eval (.Name x pos) env) vars mu Q := zpo hk hg h (zdX hd.symm).1
theorem znT {value lo hi p pos} (h : EW w H d env (eval value env) vars mu (slA w H d env vars lo hi Q)) : EW w H d env (eval (.Subscript value (.Slice lo hi none p) pos) env) vars mu Q := znZ h
theorem zpY (h : EW w H d env (eval e env) vars mu (zr8 Q)) : PW w H d env (some e) vars mu Q := h
theorem zk7 {value slice pos} (h : EW w H d env (eval value env) vars mu (subR w H d env vars slice Q)) : EW w H d env (eval (.Subscript value slice pos) env) vars mu Q := zqV h
theorem znQ {l op r pos} (h : EW w H d env (eval l env) vars mu (opR w H d env vars (binaryOp op) r Q)) : EW w H d env (eval (.BinOp l op r pos) env) vars mu Q := znW h
theorem zk6 {l op r pos} (h : EW w H d env (eval l env) vars mu (opR w H d env vars (compareOp op) r Q)) (hm : autoParam (behindInMarks op r = false) aW) : EW w H d env (eval (.Compare l [op] [r] pos) env) vars mu Q := zk9 h hm
theorem znS {test body orelse pos} (h : TW w H d env (isTrue test env (eval test env)) vars mu (eifC w H d env vars body orelse Q)) : EW w H d env (eval (.IfExp test body orelse pos) env) vars mu Q := znX h
theorem zqS {x y pos} (h : EW w H d env (eval x env) vars mu (an1 w H d env vars y Q)) : EW w H d env (eval (.BoolOp .And [x, y] pos) env) vars mu Q := zpl h
theorem zl4 (h : EW w H d env (eval value env) vars mu (attC H attr Q)) (he : autoParam (eval (.Attribute value attr pos) env = (do
   let o ← eval value env
   standAt pos.atName
   let r ← holding [o] (getAttr o attr true)
   letTemporaryGo value o r
   pure r)) aW) : EW w H d env (eval (.Attribute value attr pos) env) vars mu Q := znV h he
theorem akf {K : Frag} (q : Q x) (h1 : autoParam (zcs mu a = some (c, ks, vs)) aY) (h2 : autoParam (zdq H c K) aA) (h3 : autoParam (zbv K c attr) aA) (_h0 : autoParam (some attr = zeq ks i) aB) (h4 : autoParam (some x = zo9 vs i) aE) (hk : autoParam (true = zoe attr ks i) aK) (h5 : autoParam (true = x.handed) aX) : zmI H mu a attr Q :=
 zrN h1 h2 h3 (zpN hk.symm h4.symm) h5.symm q
theorem zl5 {x p pos args} (h : EW w H d env (eval (.Name x p) env) vars mu (caF w H d env vars pos args Q)) (hp : autoParam ((backTo pos (starEach args env)).any (fun V => V.1) = false) aW) : EW w H d env (eval (.Call (.Name x p) args [] pos) env) vars mu Q := zi1 h hp
theorem zi8 {pos e rest} (h : EW w H d env (eval e env) vars mu (lcA w H d env vars pos rest Q)) (hs : autoParam (starEach (e :: rest) env = (false, eval e env) :: starEach rest env) aW) : LW w H d env (spliced (backTo pos (starEach (e :: rest) env))) vars mu Q := zml h hs
theorem znU {elts k pos} (h : LW w H d env (spliced (backTo pos (starEach elts env))) vars mu (tupC Q)) : EW w H d env (eval (.Tuple elts k pos) env) vars mu Q := zn0 h
theorem zqi {t ts a as} (h : UW w H d env (fun v => assign t env v) a vars mu (uwsC w H d env ts as Q)) : UWs w H d env (t :: ts) (a :: as) vars mu Q := zo7 h
theorem zqj {x pos av} (h : zgY vars x av (zma Q mu)) (hk : autoParam (true = bindB env x) aK) : UW w H d env (fun v => assign (.Name x pos) env v) av vars mu Q := zjr (zg1 hk.symm) h
end
noncomputable def zdw : List AV → Nat → Bool
 | [], _ => true
 | _ :: r, n + 1 => zdw r n
 | _ :: _, 0 => false
theorem ziF : ∀ {n : Nat}, true = zdw l n → l.length ≤ n := by
 induction l with
 | nil => intro n V; exact Nat.zero_le _
 | cons x r ih =>
  intro n h
  cases n with
  | zero => exact Bool.noConfusion h
  | succ n => exact Nat.succ_le_succ (ih h)
section
variable {d : Nat} {mu : Mu}
theorem zgj {i : Nat} (hz : true = zdw xs 50) (hx : xs[i]? = some x) (h : Q x mu) : zb3 w H d (.tup xs) (.int i) mu Q :=
 zqe (Int.natCast_nonneg i) (by simpa using hx) (Nat.lt_of_le_of_lt (ziF hz) (by decide)) h
theorem zrk (h : Q x mu) (hz : autoParam (true = zdw (x :: r) 50) aL) : zb3 w H d (.tup (x :: r)) (.int 0) mu Q := zgj (i := 0) hz rfl h
theorem zrl (h : Q x mu) (hz : autoParam (true = zdw (y0 :: x :: r) 50) aL) : zb3 w H d (.tup (y0 :: x :: r)) (.int 1) mu Q := zgj (i := 1) hz rfl h
theorem zrm (h : Q x mu) (hz : autoParam (true = zdw (y0 :: y1 :: x :: r) 50) aL) : zb3 w H d (.tup (y0 :: y1 :: x :: r)) (.int 2) mu Q := zgj (i := 2) hz rfl h
theorem zrn (h : Q x mu) (hz : autoParam (true = zdw (y0 :: y1 :: y2 :: x :: r) 50) aL) : zb3 w H d (.tup (y0 :: y1 :: y2 :: x :: r)) (.int 3) mu Q := zgj (i := 3) hz rfl h
theorem zro (h : Q x mu) (hz : autoParam (true = zdw (y0 :: y1 :: y2 :: y3 :: x :: r) 50) aL) : zb3 w H d (.tup (y0 :: y1 :: y2 :: y3 :: x :: r)) (.int 4) mu Q := zgj (i := 4) hz rfl h
theorem zrp (h : Q x mu) (hz : autoParam (true = zdw (y0 :: y1 :: y2 :: y3 :: y4 :: x :: r) 50) aL) : zb3 w H d (.tup (y0 :: y1 :: y2 :: y3 :: y4 :: x :: r)) (.int 5) mu Q := zgj (i := 5) hz rfl h
theorem zoV (h : Q x mu) (hi : autoParam (0 ≤ i) aD) (hx : autoParam (xs[i.toNat]? = some x) aX) (hz : autoParam (xs.length < 2 ^ 60) aU) : zb3 w H d (.lst xs) (.int i) mu Q := zgU hi hx hz h
theorem zjo {α : Type} {f : α → AV} {l : List α} {i : Nat} {x : α} (h : Q (f x) mu) (hx : autoParam (l[i]? = some x) aA) (hz : autoParam (l.length < 2 ^ 60) aU) : zb3 w H d (.lst (l.map f)) (.int i) mu Q := zeo hx hz h
theorem zqd (h : Q xs) (hz : autoParam (xs.length ≤ sizeLine) aU) : zgZ (.tup xs) Q := zrj hz h
theorem zrh (h : P) (hz : autoParam (true = zdw as 50) aL) : as.length ≤ sizeLine ∧ P := ⟨Nat.le_trans (ziF hz) (by decide), h⟩
theorem zri (h : P) (hz : autoParam (n ≤ sizeLine) aU) : n ≤ sizeLine ∧ P := ⟨hz, h⟩
theorem zjk (h : Q (.rng a b c) mu) (hc : autoParam (c ≠ 0) aD) (hs : autoParam (c.natAbs < 1073741824) aD) : zaP w H d (.raw (.type "range")) [.int a, .int b, .int c] mu Q := zkA hc hs h
theorem zol (h : Q (.int xs.length) mu) (hz : autoParam (xs.length < 2 ^ 60) aU) : zaP w H d (.raw (.builtin "len")) [.tup xs] mu Q := zpB hz h
theorem zok (h : Q (.int xs.length) mu) (ha : autoParam (zcV mu a = some xs) aX) (hz : autoParam (xs.length < 2 ^ 60) aU) : zaP w H d (.raw (.builtin "len")) [a] mu Q := zpA ha hz h
theorem zpU (h : Q (.bool true) mu) (ha : autoParam (true = a.notRaw) aX) (hc : autoParam (true = (a.isNone)) aX) : Op2 w H d (compareOp .Is) a .none mu Q := zfA ha.symm hc.symm h
theorem zpT (h : Q (.bool false) mu) (ha : autoParam (true = a.notRaw) aX) (hc : autoParam (false = (a.isNone)) aX) : Op2 w H d (compareOp .Is) a .none mu Q := zfA ha.symm hc.symm h
theorem zoF (h : Q (.bool true) mu) (ha : autoParam (true = a.notRaw) aX) (hc : autoParam (true = (!a.isNone)) aX) : Op2 w H d (compareOp .IsNot) a .none mu Q := zd5 ha.symm hc.symm h
theorem zoE (h : Q (.bool false) mu) (ha : autoParam (true = a.notRaw) aX) (hc : autoParam (false = (!a.isNone)) aX) : Op2 w H d (compareOp .IsNot) a .none mu Q := zd5 ha.symm hc.symm h
theorem zpP (h : Q (.bool true) mu) (ha : autoParam (a.pdm mu = some da) aX) (hb : autoParam (b.pdm mu = some db) aX) (hc : autoParam (true = (PyData.eqv da db)) aL) (fa : autoParam (zcf da) aK) (fb : autoParam (zcf db) aK) : Op2 w H d (compareOp .Eq) a b mu Q := zgA ha hb fa fb hc.symm h
theorem zpO (h : Q (.bool false) mu) (ha : autoParam (a.pdm mu = some da) aX) (hb : autoParam (b.pdm mu = some db) aX) (hc : autoParam (false = (PyData.eqv da db)) aL) (fa : autoParam (zcf da) aK) (fb : autoParam (zcf db) aK) : Op2 w H d (compareOp .Eq) a b mu Q := zgA ha hb fa fb hc.symm h
theorem zlv (q : Q (.bool (decide (a = b))) mu) (ha : autoParam (PyData.strOk a = true) aS) (hb : autoParam (PyData.strOk b = true) aS) : Op2 w H d (compareOp .Eq) (.str a) (.str b) mu Q := zng ha hb q
theorem zpW (h : Q (.bool true) mu) (ha : autoParam (a.pdm mu = some da) aX) (hb : autoParam (b.pdm mu = some db) aX) (hc : autoParam (true = (!PyData.eqv da db)) aL) (fa : autoParam (zcf da) aK) (fb : autoParam (zcf db) aK) : Op2 w H d (compareOp .NotEq) a b mu Q := zeh ha hb fa fb hc.symm h
theorem zpV (h : Q (.bool false) mu) (ha : autoParam (a.pdm mu = some da) aX) (hb : autoParam (b.pdm mu = some db) aX) (hc : autoParam (false = (!PyData.eqv da db)) aL) (fa : autoParam (zcf da) aK) (fb : autoParam (zcf db) aK) : Op2 w H d (compareOp .NotEq) a b mu Q := zeh ha hb fa fb hc.symm h
theorem zlA (q : Q (.bool (!decide (a = b))) mu) (ha : autoParam (PyData.strOk a = true) aS) (hb : autoParam (PyData.strOk b = true) aS) : Op2 w H d (compareOp .NotEq) (.str a) (.str b) mu Q := znj ha hb q
theorem zpS (h : Q (.bool true) mu) (hx : autoParam (x.pdm mu = some dx) aX) (hc : autoParam (c.pdm mu = some (.tuple ds)) aX) (hb : autoParam (true = (ds.any fun y => y.eqv dx)) aL) (fx : autoParam (zcf dx) aK) (fc : autoParam (zcf (.list ds)) aK) : Op2 w H d (compareOp .In) x c mu Q := zkp hx (.inr hc) fx fc hb.symm h
theorem zpR (h : Q (.bool false) mu) (hx : autoParam (x.pdm mu = some dx) aX) (hc : autoParam (c.pdm mu = some (.tuple ds)) aX) (hb : autoParam (false = (ds.any fun y => y.eqv dx)) aL) (fx : autoParam (zcf dx) aK) (fc : autoParam (zcf (.list ds)) aK) : Op2 w H d (compareOp .In) x c mu Q := zkp hx (.inr hc) fx fc hb.symm h
end
section
variable {d : Nat} {env : Env} {vars : zaf} {mu : Mu}
theorem zql (h : UWs w H d env elts as vars mu Q) (he : autoParam (assignEach elts env = elts.map (fun t => (false, fun v => assign t env v))) aW) (hn : autoParam (elts.length = as.length) aX) : UW w H d env (fun v => assign (.Tuple elts k pos) env v) (.tup as) vars mu Q := zo6 h he hn
theorem zqk (h : UWs w H d env elts as vars mu Q) (he : autoParam (assignEach elts env = elts.map (fun t => (false, fun v => assign t env v))) aW) (hn : autoParam (elts.length = as.length) aX) : UW w H d env (fun v => assign (.Tuple elts k pos) env v) (.lst as) vars mu Q := zrw h he hn
end
noncomputable def zq2 (D : DefRec) (ks : List Str) : Bool := zfw D.scope.names ks && decide ks.Nodup && (match D.scope.kind with | .function => true | _ => false) && !D.scope.isCoroutine && !D.scope.isGenerator
abbrev zqu (D : DefRec) (q : Str) (ks : List Str) (pm cd doc : Value) (vs : List Value) : Prop := pure (ks.zip vs) = bindArgs { docDef D.name D.params D.body D.scope pm cd doc with qualname := q } ⟨vs, []⟩
def zkW (D : DefRec) (q : Str) (ks : List Str) : Prop := ∀ pm cd doc vs, vs.length = ks.length → zqu D q ks pm cd doc vs
theorem zqL (h : ∀ pm cd doc f, zqu D q ks pm cd doc ((List.range ks.length).map f)) : zkW D q ks := fun pm cd doc => zrW ks.length (h pm cd doc)
def znC (mu : Mu) (R : QA) (Q : QF) : Prop := ∀ af v m, zcS mu R af m → Q af v m
abbrev zsb (R : AV → Prop) (r : AV) (m : Mu) : Prop := R r ∧ m = []
section
variable {d : Nat} {mu : Mu}
theorem SW.fin (hQ : znC mu0 R Q) (h : SW w H d env t vars mu fun af V m => zcS mu0 R af m) : SW w H d env t vars mu Q := h.mono hQ
theorem zar.go (pas : zaf) {st : Stmt} (F : zaE H a D q) (hlim : H.NoLimit) (hb : D.body = st :: rest) (has : as = pas.map (fun V => V.2))
  (hsw : ∀ L cd Q, znC mu R Q → SW w H d (zdg D L a cd q) (execs (st :: rest) (zdg D L a cd q)) pas mu Q)
  (hc : autoParam (true = zq2 D (pas.map (fun V => V.1))) aK) (hbind : autoParam (zkW D q (pas.map (fun V => V.1))) aN) : zar w H (d + 1) (.ref a) as mu R := by
 unfold zq2 at hc
 have hc := hc.symm
 rw [Bool.and_eq_true_iff, Bool.and_eq_true_iff, Bool.and_eq_true_iff, Bool.and_eq_true_iff] at hc
 kcf_m
 obtain ⟨⟨⟨⟨h1, h2⟩, h3⟩, h4⟩, h5⟩ := hc
 kcj_m
 exact zar.of pas F hlim hb has (fun L cd => hsw L cd _ fun V V V z => z) (fun pm cd doc vs e => (hbind pm cd doc vs e).symm) h1 (of_decide_eq_true h2) (by split at h3; assumption; contradiction) (by simpa using h4) (by simpa using h5)
theorem zal.go {q : Str} (pas : zaf) {st : Stmt} (F : zaE H a D q) (hlim : H.NoLimit) (hb : D.body = st :: rest) (has : as = pas.map (fun V => V.2)) (hl : AV.locsL zaw as)
  (hsw : ∀ L cd Q, znC [] (zsb R) Q → SW w H d (zdg D L a cd q) (execs (st :: rest) (zdg D L a cd q)) pas [] Q)
  (hc : autoParam (true = zq2 D (pas.map (fun V => V.1))) aK) (hbind : autoParam (zkW D q (pas.map (fun V => V.1))) aN) : zal w H (d + 1) (.ref a) as R := zar.frame (zar.go pas F hlim hb has hsw hc hbind) hl
end
def znF (Inv : QU) (Q Q' : QF) : Prop := ∀ af v m, ze6 Inv Q af v m → Q' af v m
abbrev atV (Inv : List AV → zaf → Mu → Prop) (v : zaf) (items : List AV) (m : Mu) : Prop := Inv items v m
section
variable {d : Nat} {env : Env} {vars : zaf} {mu : Mu}
abbrev zqw (w : World) (H : Heap) (d : Nat) (env : Env) (b : List Stmt) (Q : QF) (v : zaf) (m : Mu) : Prop := SW w H d env (execs b env) v m Q
theorem zbc (R : Heap → zau → zaq → AV → Value → Prop) {target iter body orelse pos} (Inv : List AV → zaf → Mu → Prop)
  (h : IW w H R target d env iter vars mu (atV Inv vars))
  (turn : ∀ J : List AV → zaf → Mu → Prop, (∀ rem v m, Inv rem v m → J rem v m) → ∀ (Q' : QF) x rest, znF (J rest) Q Q' → ∀ v m, Inv (x :: rest) v m → UR w H R d env (fun u => assign target env u) x v m (zqw w H d env body Q'))
  (done : ∀ v m, Inv [] v m → SW w H d env (execs orelse env) v m Q)
  (hs : autoParam (∀ x, foldedSetIterable iter env x = pure x) aW) : SW w H d env (exec (.For target iter body orelse pos) env) vars mu Q :=
 zoY R Inv h (fun x rest v m i => turn Inv (fun V V V z => z) _ x rest (fun V V V z => z) v m i) done hs
theorem zeC {test body orelse pos} {Q : QF} (Inv : Nat → zaf → Mu → Prop) (n0 : Nat) (init : Inv n0 vars mu)
  (turn : ∀ (Q' : QF) n, znF (fun v' m' => ∃ n', n' < n ∧ Inv n' v' m') Q Q' → ∀ v m, Inv n v m → TW w H d env (isTrue test env (eval test env)) v m fun b m1 => IfK b (SW w H d env (execs body env) v m1 Q') (SW w H d env (execs orelse env) v m1 Q)) :
  SW w H d env (exec (.While test body orelse pos) env) vars mu Q := zo0 Inv n0 init fun n v m i => turn _ n (fun V V V z => z) v m i
end
section
variable {d : Nat} {mu : Mu}
theorem zal.callE {q : Str} (h : zal w H d' (.ref a) as fun r => r = x) (F : zaE H a D q) (le : d' ≤ d) (k : Q x mu) : zaP w H d (.raw (.ref a)) as mu Q := h.call F le fun V e => e ▸ k
theorem zal.methE (h : zal w H d f as fun r => r = x) (k : Q x mu) : zar w H d f as mu Q := (h.at_ mu).mono (Nat.le_refl _) fun r m z => z.1 ▸ z.2 ▸ k
theorem zeJ.callE (h : zeJ w H d' (.ref a) as fun r => r = x) (F : zaE H a D q) (le : d' ≤ d) (fr : FrL mu as' as) (k : Q x mu) : zaP w H d (.raw (.ref a)) as' mu Q := h.call F le fr fun V e => e ▸ k
theorem zeJ.methE (h : zeJ w H d' (.ref a) as fun r => r = x) (fr : FrL mu as' as) (k : Q x mu) : zar w H d' (.ref a) as' mu Q := h.meth fr fun V e => e ▸ k
end
end
section
structure zgV (scope : Scope) (env : Env) (cl : List (Str × Addr)) (cvars vars : zaf) : Prop where
 hclos : closureFor scope env = pure cl
 hcl : ∀ x c, cl.lookup x = some c → env.cells.lookup x = some c
 hcap : zfX scope.names env cl cvars
 hsub : ∀ p ∈ cvars, p ∈ vars
 hnd : (cvars.map (fun V => V.1)).Nodup
 hcell : ∀ y ∈ scope.names, y.2 ≠ .cell
 hnames : ∀ y ∈ scope.names, y.2 = .local → scope.names.lookup y.1 = some .local
 hkind : scope.kind = .function
noncomputable def capB (env : Env) (names : List (Str × NameKind)) (x : Str) : Bool := (match env.kindOf x with
 | some .cell => true
 | some .free => true
 | _ => false) && names.lookup x == some .free
noncomputable def zqy (scope : Scope) (env : Env) (ks cs : List Str) : Bool :=
 cs.all (fun x => capB env scope.names x && ks.contains x) && (decide cs.Nodup && (scope.kind == .function && scope.names.all fun y => y.2 != .cell && (y.2 != .local || scope.names.lookup y.1 == some .local)))
inductive zcW (cells : List (Str × Addr)) : List (Str × Addr) → Prop
 | nil : zcW cells []
 | cons {x c r} (h : cells.lookup x = some c) (t : zcW cells r) : zcW cells ((x, c) :: r)
inductive zjx (vars : zaf) : zaf → Prop
 | nil : zjx vars []
 | cons {p r} (h : p ∈ vars) (t : zjx vars r) : zjx vars (p :: r)
theorem memH : a ∈ a :: l := List.mem_cons_self
theorem memT (h : a ∈ l) : a ∈ b :: l := List.mem_cons_of_mem _ h
theorem zqO {x c r} (t : zcW cells r) (h : autoParam (cells.lookup x = some c) aK) : zcW cells ((x, c) :: r) := .cons h t
theorem putT (h : Put r x av r') (hne : autoParam ((y == x) = false) aS) : Put ((y, b) :: r) x av ((y, b) :: r') := .there hne h
theorem lkT {ks : List Str} {vs : List AV} (r : (ks.zip vs).lookup x = some u) (h : autoParam ((x == k) = false) aS) : ((k :: ks).zip (v :: vs)).lookup x = some u := zor h r
theorem lknT {ks : List Str} {vs : List AV} (r : (ks.zip vs).lookup x = none) (h : autoParam ((x == k) = false) aS) : ((k :: ks).zip (v :: vs)).lookup x = none := zos h r
theorem bindL (h : autoParam (D.scope.names.lookup x = some .local) aS) : zbC (zdg D L a cd q) x := .inl h
theorem bindC (h : autoParam (D.scope.names.lookup x = some .cell) aS) (h2 : autoParam (((cellsFrom 0 D.scope.names []).lookup x).isSome = true) aS) : zbC (zdg D L a cd q) x := zmO h h2
theorem zrO (h : autoParam (env.kindOf x = some .local) aK) : zbC env x := .inl h
theorem zcW.look (h : zcW cells cl) : ∀ x c, cl.lookup x = some c → cells.lookup x = some c := by
 induction h with
 | nil => intro x c e; contradiction
 | @cons y d r h _ ih =>
  intro x c e
  rw [List.lookup_cons] at e
  cases q : x == y with
  | true => rw [q] at e; injection e with e; subst e; exists eq_of_beq q; exact h
  | false => rw [q] at e; exact ih x c e
theorem zjx.mem (h : zjx vars cv) : ∀ p ∈ cv, p ∈ vars := by
 induction h with
 | nil => intro p hp; cases hp
 | cons h _ ih =>
  intro p hp
  rcases List.mem_cons.mp hp with e | hp
  ·exact e ▸ h
  ·exact ih p hp
theorem zqQ (hclos : autoParam (closureFor scope env = pure cl) aK) (hb : autoParam (true = zqy scope env (cl.map (fun V => V.1)) (cvars.map (fun V => V.1))) aK) (hcl : autoParam (zcW env.cells cl) aB) (hsub : autoParam (zjx vars cvars) aB) : zgV scope env cl cvars vars := by
 have hb := hb.symm
 unfold zqy at hb
 obtain ⟨h1, hb⟩ := Bool.and_eq_true_iff.mp hb
 obtain ⟨h2, hb⟩ := Bool.and_eq_true_iff.mp hb
 obtain ⟨h3, h4⟩ := Bool.and_eq_true_iff.mp hb
 refine ⟨hclos, hcl.look, fun p hp => ?_, hsub.mem, of_decide_eq_true h2, fun y hy e => ?_, fun y hy e => ?_, beq_iff_eq.mp h3⟩
 ·have q := List.all_eq_true.mp h1 p.1 (List.mem_map.mpr ⟨p, hp, rfl⟩)
  obtain ⟨q1, q2⟩ := Bool.and_eq_true_iff.mp q
  obtain ⟨q3, q4⟩ := Bool.and_eq_true_iff.mp q1
  refine ⟨?_, beq_iff_eq.mp q4, ?_⟩
  ·cases e : env.kindOf p.1 with
   | none => replace q3 := (e) ▸ q3; exact Bool.noConfusion q3
   | some k => cases k <;> rw [e] at q3 <;> first | exact .inl rfl | exact .inr rfl | exact Bool.noConfusion q3
  ·obtain ⟨y, hy, e⟩ := List.mem_map.mp (List.contains_iff_mem.mp q2)
   cases el : cl.lookup p.1 with
   | none => exact absurd ((List.lookup_eq_none_iff.mp el) y hy) (by exists e; simp)
   | some c => exact ⟨c, rfl, hcl.look _ _ el⟩
 ·have q := (Bool.and_eq_true_iff.mp (List.all_eq_true.mp h4 y hy)).1
  replace q := (e) ▸ q; exact absurd q Bool.false_ne_true
 ·have q := (Bool.and_eq_true_iff.mp (List.all_eq_true.mp h4 y hy)).2
  rw [e] at q
  exact beq_iff_eq.mp q
section
variable {d : Nat} {env : Env} {vars : zaf} {mu : Mu}
theorem zdF (R : Heap → zau → zaq → AV → Value → Prop) (cl : List (Str × Addr)) (cvars : zaf) (Inv : List AV → List AV → Mu → Prop)
  (h : IW w H R tgt d env iter vars mu fun items mu1 => items.length ≤ sizeLine ∧ Inv items [] mu1)
  (turn : ∀ C x rest acc m, Inv (x :: rest) acc m → UR w H R d (compEnvC scope cl C env) (fun u => assign tgt (compEnvC scope cl C env) u) x cvars m fun v1 m1 => (∃ v3, v1 = cvars ++ v3) ∧
   TT w H d (compEnvC scope cl C env) ifs v1 m1 fun b m2 => IfB b (EW w H d (compEnvC scope cl C env) (eval elt (compEnvC scope cl C env)) v1 m2 fun y m3 => Inv rest (acc ++ [y]) m3) (Inv rest acc m2))
  (done : ∀ acc m, Inv [] acc m → Q acc m)
  (ok : autoParam (zgV scope env cl cvars vars) aQ) (hs : autoParam (∀ x, foldedSetIterable iter env x = pure x) aW) : EWL w H d env (eval (.ListComp elt [⟨tgt, iter, ifs, 0⟩] scope pos) env) vars mu Q :=
 zjR R cl cvars Inv h turn done ok.hclos ok.hcl ok.hcap ok.hsub ok.hnd ok.hcell ok.hnames ok.hkind hs
theorem zcd (R : Heap → zau → zaq → AV → Value → Prop) (cl : List (Str × Addr)) (cvars : zaf) (Inv : List AV → List AV → Mu → Prop)
  (h : IW w H R tgt d env iter vars mu fun items mu1 => items.length ≤ sizeLine ∧ Inv items [] mu1)
  (turn : ∀ C x rest acc m, Inv (x :: rest) acc m → UR w H R d (compEnvC scope cl C env) (fun u => assign tgt (compEnvC scope cl C env) u) x cvars m fun v1 m1 => (∃ v3, v1 = cvars ++ v3) ∧
   TT w H d (compEnvC scope cl C env) ifs v1 m1 fun b m2 => IfB b (EW w H d (compEnvC scope cl C env) (eval elt (compEnvC scope cl C env)) v1 m2 fun y m3 => Inv rest (acc ++ [y]) m3) (Inv rest acc m2))
  (done : ∀ acc m, Inv [] acc m → Ex3 fun av m' vars' => zaF (zeI acc m av m') (Put vars y av vars') (Q .next vars' m'))
  (ok : autoParam (zgV scope env cl cvars vars) aQ) (hsw : autoParam (swapsWith (.ListComp elt [⟨tgt, iter, ifs, 0⟩] scope pos) (some (.Name y py)) spos.line env = pure true) aW) (hy : autoParam (true = bindB env y) aK)
  (hs : autoParam (∀ x, foldedSetIterable iter env x = pure x) aW) : SW w H d env (exec (.Assign [.Name y py] (.ListComp elt [⟨tgt, iter, ifs, 0⟩] scope pos) spos) env) vars mu Q :=
 zhO R cl cvars Inv h turn done hsw (zg1 hy.symm) ok.hclos ok.hcl ok.hcap ok.hsub ok.hnd ok.hcell ok.hnames ok.hkind hs
noncomputable def zq4 (scope : Scope) (t : Str) (cs : List Str) : Bool := scope.names.lookup t == some .local && cs.all fun x => !(x == t)
theorem zgS {cvars : zaf} (h : true = zq4 scope t (cvars.map (fun V => V.1))) : scope.names.lookup t = some .local ∧ cvars.all (fun p => !(p.1 == t)) = true := by
 obtain ⟨a, b⟩ := Bool.and_eq_true_iff.mp h.symm
 rw [List.all_map] at b
 exact ⟨beq_iff_eq.mp a, b⟩
theorem zlW : ziS vs x a = some (vs ++ [(x, a)]) := by
 induction vs with
 | nil => rfl
 | cons p r ih => unfold ziS; exists ih; rfl
theorem zaY {α : Type} {elt iter : Expr} {t : Str} {tp : Pos} {ifs : List Expr} {scope : Scope} {pos : Pos} (cl : List (Str × Addr)) (cvars : zaf) {cv : AV → zaf} (f g : α → AV) (p : α → Bool) {Q : QL}
  (h : IW w H (Rep w) (.Name t tp) d env iter vars mu fun items mu1 => ∃ l : List α, zbI (items = l.map f) (l.length ≤ sizeLine)
   (∀ C, ∀ x ∈ l, Elt w H d (compEnvC scope cl C env) ifs elt (cv (f x)) mu1 (p x) (g x)) (Q ((l.filter p).map g) mu1))
  (hcv : autoParam (∀ a, some (cv a) = ziS cvars t a) aI) (ok : autoParam (zgV scope env cl cvars vars) aQ) (hm : autoParam (true = zq4 scope t (cvars.map (fun V => V.1))) aK) (hs : autoParam (∀ x, foldedSetIterable iter env x = pure x) aW) :
  EWL w H d env (eval (.ListComp elt [⟨.Name t tp, iter, ifs, 0⟩] scope pos) env) vars mu Q :=
 zpr cl cvars cv f g p h ok.hclos ok.hcl ok.hcap ok.hsub ok.hnd ok.hcell ok.hnames (zgS hm).1 (zgS hm).2 (fun a => Option.some.inj ((hcv a).trans zlW)) ok.hkind hs
end
end
section
section
variable {d : Nat} {env : Env} {vars : zaf} {mu : Mu}
theorem zpE (h : Q [av] mu) (h0 : autoParam (zh8 vars i = some (x, av)) aV) (hd : autoParam (true = zbr x) aK) : LW w H d env (spliced (backTo pos (starEach [.Name x p] env))) vars mu Q := zi8 (en (zov h) h0 hd) rfl
theorem zpF (h : LW w H d env (spliced (backTo pos (starEach rest env))) vars mu (lcB av Q)) (h0 : autoParam (zh8 vars i = some (x, av)) aV) (hd : autoParam (true = zbr x) aK) : LW w H d env (spliced (backTo pos (starEach (.Name x p :: rest) env))) vars mu Q := zi8 (en h h0 hd) rfl
theorem znR {x p pos args av} (h : LW w H d env (spliced (backTo pos (starEach args env))) vars mu (zqx w H d av Q)) (hg : autoParam (zac w H x av) aA) (hk : autoParam (env.kindOf x = some .globalImplicit) aK) (hd : autoParam (true = zbr x) aK) (hp : autoParam ((backTo pos (starEach args env)).any (fun V => V.1) = false) aW) : EW w H d env (eval (.Call (.Name x p) args [] pos) env) vars mu Q := zl5 (eg h hg hk hd) hp
theorem znP (h : zmI H mu av attr (zma Q mu)) (h0 : autoParam (zh8 vars i = some (x, av)) aV) (hd : autoParam (true = zbr x) aK) : EW w H d env (eval (.Attribute (.Name x p) attr pos) env) vars mu Q := zl4 (en h h0 hd) (by with_unfolding_all rfl)
theorem zpk (h : EW w H d env (eval slice env) vars mu (zsj w H d av Q)) (h0 : autoParam (zh8 vars i = some (x, av)) aV) (hd : autoParam (true = zbr x) aK) : EW w H d env (eval (.Subscript (.Name x p) slice pos) env) vars mu Q := zk7 (en h h0 hd)
theorem zpj (h : zb3 w H d av (.int n) mu Q) (h0 : autoParam (zh8 vars i = some (x, av)) aV) (hd : autoParam (true = zbr x) aK) : EW w H d env (eval (.Subscript (.Name x p) (.Constant (.int n) k q) pos) env) vars mu Q := zk7 (en (znY h) h0 hd)
theorem zqf (h : EW w H d env (eval r env) vars mu (opO w H d (compareOp op) av (zrt w H d Q))) (h0 : autoParam (zh8 vars i = some (x, av)) aV) (hd : autoParam (true = zbr x) aK) (hm : autoParam (behindInMarks op r = false) aW) : TW w H d env (isTrue (.Compare (.Name x p) [op] [r] pos) env whole) vars mu Q := zhR (en h h0 hd) hm
theorem fl {mu1 : Mu} {k : Nat} {c : Addr} {kd : Nat} {ks : List Str} {vs : List AV} {K : Frag} {ks' : List Str} {vs' : List AV} {attr : Str} {av : AV} {Q : Mu → Prop} (q : zcM mu1 kd (.ns ks' vs') Q) (h1 : autoParam (mu1.lookup k = some (.inst c kd)) aX) (h2 : autoParam (mu1.lookup kd = some (.ns ks vs)) aX) (hc : autoParam (zdq H c K) aA) (ha : autoParam (zbv K c attr) aA) (hz : autoParam (ks.length ≤ 800) aD) (hn : autoParam (zds ks vs attr av ks' vs') aB) :
  Ex8 fun k' c' kd' ks1 vs1 K' ks2 vs2 => zqH (AV.loc k = .loc k') (mu1.lookup k' = some (.inst c' kd')) (mu1.lookup kd' = some (.ns ks1 vs1)) (zdq H c' K') (zbv K' c' attr) (ks1.length ≤ 800) (zds ks1 vs1 attr av ks2 vs2) (zcM mu1 kd' (.ns ks2 vs2) Q) :=
 ⟨k, c, kd, ks, vs, K, ks', vs', rfl, h1, h2, hc, ha, hz, hn, q⟩
theorem zlr {j k a m r} (h : zcM r k m fun r' => Q ((j, a) :: r')) (hj : autoParam (j ≠ k) aD) : zcM ((j, a) :: r) k m Q := zbT hj h
end
end
section
set_option maxHeartbeats 4000000
local macro_rules | `(tactic| ktr_unf) => `(tactic| first | (simp only [List.length_map, List.length_cons, List.length_nil, List.length_append, zab] <;> omega) | omega)
local macro_rules | `(tactic| tb_start) => return zrB
local macro_rules | `(tactic| tb_rel) => return zrz
local macro_rules | `(tactic| x_close) => return zry
theorem nn {p : Prop} {α : Type} {a : α} (e : none = some a) : p := nomatch e
theorem zjE {d : Data} {f : FuncData} : zl1 d = some f → d = .func f := @Data.casesOn (fun d => zl1 d = some f → d = .func f) d nn (fun V => nn) (fun V V => nn) (fun V V => nn) (fun V V V => nn) (fun V V => nn) (fun V => nn) (fun V e => congrArg _ (Option.some.inj e)) (fun V => nn) (fun V => nn) nn
theorem zk2 {d : Data} {f : Array Value} : ziW d = some f → d = .fields f := @Data.casesOn (fun d => ziW d = some f → d = .fields f) d nn (fun V => nn) (fun V V => nn) (fun V V => nn) (fun V V V => nn) (fun V V => nn) (fun V => nn) (fun V => nn) (fun V => nn) (fun V e => congrArg _ (Option.some.inj e)) nn
theorem zpi {d : Data} {f : List Value} : zqR d = some f → ∃ n, d = .seq f.toArray n := @Data.casesOn (fun d => zqR d = some f → ∃ n, d = .seq f.toArray n) d nn (fun V => nn) (fun x n e => ⟨n, congrArg (fun l : List Value => Data.seq l.toArray n) (Option.some.inj e)⟩) (fun V V => nn) (fun V V V => nn) (fun V V => nn) (fun V => nn) (fun V => nn) (fun V => nn) (fun V => nn) nn
theorem zqn {v : Value} {f : Addr} : zrx v = some f → v = .ref f := @Value.casesOn (fun v => zrx v = some f → v = .ref f) v nn nn nn (fun V => nn) (fun V V => nn) (fun V V => nn) (fun V V => nn) (fun V V => nn) (fun V => nn) (fun V => nn) (fun V e => congrArg _ (Option.some.inj e))
theorem zmF {v : Value} {f : Str} : znv v = some f → ∃ t, v = .str f t := @Value.casesOn (fun v => znv v = some f → ∃ t, v = .str f t) v nn nn nn (fun V => nn) (fun V V => nn) (fun V V => nn) (fun V t e => ⟨t, congrArg (Value.str · t) (Option.some.inj e)⟩) (fun V V => nn) (fun V => nn) (fun V => nn) (fun V => nn)
theorem zqt {h : Heap} {v : Value} {d : Data} (e : zk3 h v = some d) : Ex2 fun a o => zaF (v = .ref a) (h.get? a = some o) (o.data = d) := by
 obtain ⟨a, ha, e⟩ := Option.bind_eq_some_iff.mp e
 obtain ⟨o, ho, e⟩ := Option.map_eq_some_iff.mp e
 exact ⟨a, o, zqn ha, ho, e⟩
theorem codeRec_of {h : Heap} {v : Value} {q : Str} (e : zg3 h v = some q) : h.CodeRec v q := by
 obtain ⟨vs, e, e2⟩ := Option.bind_eq_some_iff.mp e
 obtain ⟨d, e, e1⟩ := Option.bind_eq_some_iff.mp e
 obtain ⟨c, o, e, ho, hd⟩ := zqt e
 obtain ⟨x, hx, e2⟩ := Option.bind_eq_some_iff.mp e2
 obtain ⟨t, e2⟩ := zmF e2
 exact ⟨c, o, vs, t, e, ho, hd.trans (zk2 e1), hx.trans (congrArg _ e2)⟩
theorem zmb {s : Shared} {a : Addr} {D : DefRec} {q : Str} (e : fnV s a = fnR D q) : zaE s.heap a D q := by
 obtain ⟨o, ho, e⟩ := Option.bind_eq_some_iff.mp e
 obtain ⟨fd, hd, e⟩ := Option.map_eq_some_iff.mp e
 exact ⟨o, fd.pyModule, fd.code, fd.doc, ho, (zjE hd).trans (congrArg (fun x : FuncData × Option Str => Data.func { x.1 with doc := fd.doc, pyModule := fd.pyModule, code := fd.code }) e), codeRec_of (congrArg Prod.snd e)⟩
theorem zn4 {s : Shared} {a : Addr} {D : DefRec} {q : Str} (e : fnD s a = some ({ docDef D.name D.params D.body D.scope .none .none .none with qualname := q }, some q, some [.none, .none])) : zib s.heap a D q := by
 obtain ⟨o, ho, e⟩ := Option.bind_eq_some_iff.mp e
 obtain ⟨fd, hd, e⟩ := Option.map_eq_some_iff.mp e
 obtain ⟨x, e1, e2⟩ := Option.bind_eq_some_iff.mp (congrArg (fun x => x.2.2) e)
 obtain ⟨T, oT, hv, hT, hT2⟩ := zqt e1
 obtain ⟨n, e2⟩ := zpi e2
 exact ⟨o, fd.pyModule, fd.code, fd.doc, T, oT, n, ho, (zjE hd).trans (hv ▸ congrArg (fun x : FuncData × Option Str × Option (List Value) => Data.func { x.1 with doc := fd.doc, pyModule := fd.pyModule, code := fd.code, defaults := fd.defaults }) e), hT, hT2.trans e2, codeRec_of (congrArg (fun x => x.2.1) e)⟩
theorem zi6 {h : Heap} : ∀ (l : List Addr) (a : Addr) (o : Obj), (l.filterMap fun a => (h.get? a).map fun o => (a, o)).lookup a = some o → h.get? a = some o
 | [], a, o, e => by rw [List.filterMap_nil, List.lookup_nil] at e; exact absurd e (Option.some_ne_none o).symm
 | b :: l, a, o, e => by
  rw [List.filterMap_cons] at e
  cases hb : h.get? b with
  | none => rw [hb] at e; exact zi6 l a o e
  | some x =>
   rw [hb] at e
   simp only [Option.map_some] at e
   rw [List.lookup_cons] at e
   cases q : a == b with
   | true => rw [q] at e; obtain rfl := Option.some.inj e; exists eq_of_beq q; exact hb
   | false => rw [q] at e; exact zi6 l a o e
theorem zm0 (s : Shared) : (fragOf s).In s.heap := fun a o e => zi6 _ a o e
theorem zbu {α : Type} {l m : List α} (h : l = m) (i : Nat) {a b : α} (ha : autoParam (l[i]? = some a) aI) (hb : autoParam (m[i]? = some b) aI) : a = b := by
 subst h; rw [ha] at hb; exact Option.some.inj hb
theorem zaE.keeps {H H' : Heap} {a : Addr} {D : DefRec} {q : Str} (F : zaE H a D q) (k : ∀ b o, H.get? b = some o → H'.get? b = some o) : zaE H' a D q := by
 obtain ⟨o, pm, cd, doc, ho, hd, hc⟩ := F.ex
 exact ⟨o, pm, cd, doc, k _ _ ho, hd, hc.keeps k⟩
theorem zib.keeps {H H' : Heap} {a : Addr} {D : DefRec} {q : Str} (F : zib H a D q) (k : ∀ b o, H.get? b = some o → H'.get? b = some o) : zib H' a D q := by
 obtain ⟨o, pm, cd, doc, T, oT, n, ho, hd, hT, hT2, hc⟩ := F.ex
 exact ⟨o, pm, cd, doc, T, oT, n, k _ _ ho, hd, k _ _ hT, hT2, hc.keeps k⟩
theorem zac.keeps {w : World} {H H' : Heap} {x : Str} {av : AV} (F : zac w H x av) (k : ∀ b o, H.get? b = some o → H'.get? b = some o) : zac w H' x av := by
 obtain ⟨v, g, r⟩ := F
 refine ⟨v, g.imp (by rintro ⟨mg, n, e⟩; exact ⟨mg, n.keeps k, e⟩) (by rintro ⟨mg, mb, n, e, nb, eb⟩; exact ⟨mg, mb, n.keeps k, e, nb.keeps k, eb⟩), Rep.stays (Y := fun V => False) (β := fun V => none) ⟨fun b o e V => k b o e, fun V V V a => a, nofun⟩ r⟩
theorem zdq.keeps {H H' : Heap} {C : Addr} {K : Frag} (F : zdq H C K) (k : ∀ b o, H.get? b = some o → H'.get? b = some o) : zdq H' C K := ⟨fun a o e => k _ _ (F.X a o e), F.ga, F.gt, F.sa, F.dict, F.plain, F.makes⟩
def Facts (w : World) (H : Heap) : Prop := zkn sH = zkT w ∧ Keeps sH.heap H
theorem Facts.yK (B : Facts w H) : znd sH = znw := congrArg (fun y : Obs => y.2.2.1) B.1
theorem Facts.yT (B : Facts w H) : zne sH = znx := congrArg (fun y : Obs => y.2.2.2.1) B.1
theorem Facts.yB (B : Facts w H) : zoz sH = zo8 := congrArg (fun y : Obs => y.2.2.2.2.1) B.1
theorem Facts.nM (B : Facts w H) : sH.heap.isNs mainGlobals = true := zbu B.yB 0
theorem Facts.cl (B : Facts w H) (i j : Nat) {C : Addr} (h1 : autoParam ((znd sH).drop i = fI sH C "__getattribute__" :: fI sH C "__getattr__" :: fI sH C "__setattr__" :: (znd sH).drop (i + 3)) aI) (h2 : autoParam (znw.drop i = bi "object.__getattribute__" :: some none :: bi "object.__setattr__" :: znw.drop (i + 3)) aI) (h3 : autoParam ((zoz sH).drop j = hasDictIn (fragOf sH) C :: plainOver (fragOf sH) C :: makesIn (fragOf sH) C :: (zoz sH).drop (j + 3)) aI) (h4 : autoParam (zo8.drop j = true :: true :: true :: zo8.drop (j + 3)) aI) : zdq H C Kf := by
 rw [B.yK, h2] at h1; rw [B.yB, h4] at h3
 injection h1 with e1 h1; injection h1 with e2 h1; injection h1 with e3 h1
 injection h3 with e4 h3; injection h3 with e5 h3; injection h3 with e6 h3
 exact ⟨fun a o e => B.2 _ _ (zm0 sH a o e), e1.symm, e2.symm, e3.symm, e4.symm, e5.symm, e6.symm⟩
theorem Facts.me (B : Facts w H) (i j k l : Nat) {C f : Addr} {n : Str} (h1 : autoParam ((znd sH)[i]? = some (fI sH C n)) aI) (h2 : autoParam (znw[i]? = some (some (some (.ref f)))) aI) (h3 : autoParam ((znd sH)[j]? = some (specialIn Kf (.ref f) "__get__")) aI) (h4 : autoParam (znw[j]? = some (bi "function.__get__")) aI) (h5 : autoParam ((zne sH)[k]? = some (typeIn Kf (.ref f))) aI) (h6 : autoParam (znx[k]? = some tf) aI) (h7 : autoParam ((zoz sH)[l]? = some (takesIn Kf (.ref f) == some false)) aI) (h8 : autoParam (zo8[l]? = some true) aI) (h9 : autoParam (copiedNames.contains n = false) aS) : zc7 Kf C n f :=
 ⟨zbu B.yK i h1 h2, zbu B.yT k h5 h6, zbu B.yK j h3 h4, eq_of_beq (zbu B.yB l h7 h8), h9⟩
theorem Facts.fn (B : Facts w H) (i : Nat) {a : Addr} {D : DefRec} {q : Str} (h1 : autoParam ((zr2 sH)[i]? = some (fnV sH a)) aI) (h2 : autoParam (zsp[i]? = some (fnR D q)) aI) : zaE H a D q := (zmb (zbu (congrArg (fun y : Obs => y.1) B.1) i h1 h2)).keeps B.2
theorem Facts.gr (B : Facts w H) (i : Nat) {a : Addr} {x : Str} (h1 : autoParam ((zne sH)[i]? = some (gl sH x)) aI) (h2 : autoParam (znx[i]? = some (rf a)) aI) : zac w H x (.raw (.ref a)) := zac.keeps ⟨_, .inl ⟨_, .of_isNs B.nM, zbu B.yT i h1 h2⟩, rfl⟩ B.2
theorem Facts.gb (B : Facts w H) (i j : Nat) {v : Value} {x : Str} (h1 : autoParam ((zne sH)[i]? = some (gl sH x)) aI) (h2 : autoParam (znx[i]? = some none) aI) (h3 : autoParam ((zne sH)[j]? = some (sH.heap.nsMap builtinsNs x)) aI) (h4 : autoParam (znx[j]? = some (some v)) aI) : zac w H x (.raw v) := zac.keeps ⟨v, .inr ⟨_, _, .of_isNs B.nM, zbu B.yT i h1 h2, .of_isNs (zbu B.yB 1), zbu B.yT j h3 h4⟩, rfl⟩ B.2
theorem Facts.gs (B : Facts w H) {x y : Str} (e : (gl sH x).bind znv = some y) : zac w H x (.str y) := by
 obtain ⟨v, hv, e⟩ := Option.bind_eq_some_iff.mp e
 obtain ⟨t, e⟩ := zmF e
 exact zac.keeps ⟨v, .inl ⟨_, .of_isNs B.nM, hv⟩, ⟨t, e⟩⟩ B.2
theorem Facts.g_SHALLOW (B : Facts w H) : zac w H "SHALLOW" (.str "shallow") := B.gs (congrArg (fun y : Obs => y.2.2.2.2.2.2.1) B.1)
theorem Facts.g_DEEP (B : Facts w H) : zac w H "DEEP" (.str "deep") := B.gs (congrArg (fun y : Obs => y.2.2.2.2.2.2.2) B.1)
theorem Facts.g_NOTHING (B : Facts w H) : zac w H "NOTHING" (.fset fun V => false) := zac.keeps ⟨_, .inl ⟨_, .of_isNs B.nM, zbu B.yT 83⟩, 279, _, rfl, congrArg (fun y : Obs => y.2.2.2.2.2.1) B.1, ⟨_, _, _, rfl, zhg w _ rfl⟩, ⟨id, nofun⟩⟩ B.2
theorem Facts.lim (B : Facts w H) : H.NoLimit := Heap.NoLimit.keeps ⟨_, .of_isNs (zbu B.yB 2), Option.isNone_iff_eq_none.mp (zbu B.yB 3)⟩ B.2
theorem Facts.sys (B : Facts w H) : ∃ o, H.get? sysModules = some o := (Option.isSome_iff_exists.mp (zbu B.yB 4)).imp fun o e => B.2 _ _ e
theorem Facts.m_Body_init__ (B : Facts w H) : zib H 131 (zbi 13 0) "Body.__init__" := (zn4 (congrArg (fun y : Obs => y.2.1) B.1)).keeps B.2
theorem Facts.c_LoanScopes (B : Facts w H) : zdq H 112 Kf := B.cl 0 5
theorem Facts.a_LoanScopes_body (B : Facts w H) : zbv Kf 112 "body" := ⟨zbu B.yK 3⟩
theorem Facts.a_LoanScopes_loans (B : Facts w H) : zbv Kf 112 "loans" := ⟨zbu B.yK 4⟩
theorem Facts.a_LoanScopes_values (B : Facts w H) : zbv Kf 112 "values" := ⟨zbu B.yK 5⟩
theorem Facts.a_LoanScopes_numbers (B : Facts w H) : zbv Kf 112 "numbers" := ⟨zbu B.yK 6⟩
theorem Facts.a_LoanScopes_after (B : Facts w H) : zbv Kf 112 "after" := ⟨zbu B.yK 7⟩
theorem Facts.a_LoanScopes_begins (B : Facts w H) : zbv Kf 112 "begins" := ⟨zbu B.yK 8⟩
theorem Facts.a_LoanScopes_kept (B : Facts w H) : zbv Kf 112 "kept" := ⟨zbu B.yK 9⟩
theorem Facts.i_LoanScopes (B : Facts w H) : findIn Kf (.ref 112) "__init__" = some (some (.ref 78)) := zbu B.yK 10
theorem Facts.f_LoanScopes (B : Facts w H) : typeIn Kf (.ref 78) = some (.type "function") := zbu B.yT 0
theorem Facts.k_LoanScopes_let_on (B : Facts w H) : zc7 Kf 112 "let_on" 83 := B.me 11 12 1 8
theorem Facts.k_LoanScopes_behind (B : Facts w H) : zc7 Kf 112 "behind" 88 := B.me 13 14 2 9
theorem Facts.k_LoanScopes_lead (B : Facts w H) : zc7 Kf 112 "lead" 95 := B.me 15 16 3 10
theorem Facts.k_LoanScopes_keep (B : Facts w H) : zc7 Kf 112 "keep" 102 := B.me 17 18 4 11
theorem Facts.k_LoanScopes_at (B : Facts w H) : zc7 Kf 112 "at" 109 := B.me 19 20 5 12
theorem Facts.c_Body (B : Facts w H) : zdq H 177 Kf := B.cl 21 13
theorem Facts.a_Body_name (B : Facts w H) : zbv Kf 177 "name" := ⟨zbu B.yK 24⟩
theorem Facts.a_Body_arg_count (B : Facts w H) : zbv Kf 177 "arg_count" := ⟨zbu B.yK 25⟩
theorem Facts.a_Body_locals (B : Facts w H) : zbv Kf 177 "locals" := ⟨zbu B.yK 26⟩
theorem Facts.a_Body_blocks (B : Facts w H) : zbv Kf 177 "blocks" := ⟨zbu B.yK 27⟩
theorem Facts.a_Body_spots (B : Facts w H) : zbv Kf 177 "spots" := ⟨zbu B.yK 28⟩
theorem Facts.i_Body (B : Facts w H) : findIn Kf (.ref 177) "__init__" = some (some (.ref 131)) := zbu B.yK 29
theorem Facts.f_Body (B : Facts w H) : typeIn Kf (.ref 131) = some (.type "function") := zbu B.yT 6
theorem Facts.k_Body_statements (B : Facts w H) : zc7 Kf 177 "statements" 152 := B.me 30 31 7 16
theorem Facts.k_Body_terminator (B : Facts w H) : zc7 Kf 177 "terminator" 159 := B.me 32 33 8 17
theorem Facts.c_Liveness (B : Facts w H) : zdq H 352 Kf := B.cl 34 18
theorem Facts.a_Liveness_used (B : Facts w H) : zbv Kf 352 "used" := ⟨zbu B.yK 37⟩
theorem Facts.a_Liveness_dropped (B : Facts w H) : zbv Kf 352 "dropped" := ⟨zbu B.yK 38⟩
theorem Facts.a_Liveness_put (B : Facts w H) : zbv Kf 352 "put" := ⟨zbu B.yK 39⟩
theorem Facts.a_Liveness_use_facts (B : Facts w H) : zbv Kf 352 "use_facts" := ⟨zbu B.yK 40⟩
theorem Facts.a_Liveness_drop_facts (B : Facts w H) : zbv Kf 352 "drop_facts" := ⟨zbu B.yK 41⟩
theorem Facts.i_Liveness (B : Facts w H) : findIn Kf (.ref 352) "__init__" = some (some (.ref 321)) := zbu B.yK 42
theorem Facts.f_Liveness (B : Facts w H) : typeIn Kf (.ref 321) = some (.type "function") := zbu B.yT 9
theorem Facts.k_Liveness_use_step (B : Facts w H) : zc7 Kf 352 "use_step" 328 := B.me 43 44 10 21
theorem Facts.k_Liveness_drop_step (B : Facts w H) : zc7 Kf 352 "drop_step" 335 := B.me 45 46 11 22
theorem Facts.k_Liveness_for_use (B : Facts w H) : zc7 Kf 352 "for_use" 342 := B.me 47 48 12 23
theorem Facts.n_loans_of (B : Facts w H) : zaE H 28 (top 4) "loans_of" := B.fn 0
theorem Facts.n_meets (B : Facts w H) : zaE H 35 (top 5) "meets" := B.fn 1
theorem Facts.n_may_meet (B : Facts w H) : zaE H 42 (top 6) "may_meet" := B.fn 2
theorem Facts.n_conflicts (B : Facts w H) : zaE H 47 (top 7) "conflicts" := B.fn 3
theorem Facts.n_is_prefix (B : Facts w H) : zaE H 54 (top 8) "is_prefix" := B.fn 4
theorem Facts.n_killed_by (B : Facts w H) : zaE H 59 (top 9) "killed_by" := B.fn 5
theorem Facts.n_killed_at_end (B : Facts w H) : zaE H 64 (top 10) "killed_at_end" := B.fn 6
theorem Facts.n_points (B : Facts w H) : zaE H 186 (top 14) "points" := B.fn 7
theorem Facts.n_successors (B : Facts w H) : zaE H 191 (top 15) "successors" := B.fn 8
theorem Facts.n_predecessors (B : Facts w H) : zaE H 196 (top 16) "predecessors" := B.fn 9
theorem Facts.n_operands_of (B : Facts w H) : zaE H 203 (top 17) "operands_of" := B.fn 10
theorem Facts.n_operands_at (B : Facts w H) : zaE H 210 (top 18) "operands_at" := B.fn 11
theorem Facts.n_indices_of (B : Facts w H) : zaE H 215 (top 19) "indices_of" := B.fn 12
theorem Facts.n_joined (B : Facts w H) : zaE H 222 (top 21) "joined" := B.fn 13
theorem Facts.n_behind_block (B : Facts w H) : zaE H 229 (top 22) "behind_block" := B.fn 14
theorem Facts.n_back_to (B : Facts w H) : zaE H 236 (top 23) "back_to" := B.fn 15
theorem Facts.n_solve_backward (B : Facts w H) : zaE H 243 (top 24) "solve_backward" := B.fn 16
theorem Facts.n_all_facts_before (B : Facts w H) : zaE H 250 (top 25) "all_facts_before" := B.fn 17
theorem Facts.n_looked_at (B : Facts w H) : zaE H 257 (top 26) "looked_at" := B.fn 18
theorem Facts.n_written_at (B : Facts w H) : zaE H 264 (top 27) "written_at" := B.fn 19
theorem Facts.n_dropped_at (B : Facts w H) : zaE H 271 (top 28) "dropped_at" := B.fn 20
theorem Facts.n_turned_at (B : Facts w H) : zaE H 278 (top 29) "turned_at" := B.fn 21
theorem Facts.n_used_locals (B : Facts w H) : zaE H 286 (top 32) "used_locals" := B.fn 22
theorem Facts.n_is_return (B : Facts w H) : zaE H 293 (top 33) "is_return" := B.fn 23
theorem Facts.n_dropped_locals (B : Facts w H) : zaE H 300 (top 34) "dropped_locals" := B.fn 24
theorem Facts.n_set_locals (B : Facts w H) : zaE H 307 (top 35) "set_locals" := B.fn 25
theorem Facts.n_law_pool (B : Facts w H) : zaE H 363 (top 38) "_law_pool" := B.fn 26
theorem Facts.n_law_take (B : Facts w H) : zaE H 370 (top 39) "_law_take" := B.fn 27
theorem Facts.n_law_one (B : Facts w H) : zaE H 377 (top 40) "_law_one" := B.fn 28
theorem Facts.n_law_places (B : Facts w H) : zaE H 384 (top 41) "_law_places" := B.fn 29
theorem Facts.n_law_event (B : Facts w H) : zaE H 391 (top 42) "_law_event" := B.fn 30
theorem Facts.n_law_line (B : Facts w H) : zaE H 398 (top 43) "_law_line" := B.fn 31
theorem Facts.n_law_goals (B : Facts w H) : zaE H 405 (top 44) "_law_goals" := B.fn 32
theorem Facts.n_law_end (B : Facts w H) : zaE H 412 (top 45) "_law_end" := B.fn 33
theorem Facts.n_law_later (B : Facts w H) : zaE H 417 (top 46) "_law_later" := B.fn 34
theorem Facts.n_law_here (B : Facts w H) : zaE H 424 (top 47) "_law_here" := B.fn 35
theorem Facts.n_law_is_part (B : Facts w H) : zaE H 431 (top 48) "_law_is_part" := B.fn 36
theorem Facts.n_law_lives (B : Facts w H) : zaE H 438 (top 49) "_law_lives" := B.fn 37
theorem Facts.n_law_span (B : Facts w H) : zaE H 445 (top 50) "_law_span" := B.fn 38
theorem Facts.n_law_hurts (B : Facts w H) : zaE H 452 (top 51) "_law_hurts" := B.fn 39
theorem Facts.n_law_reached (B : Facts w H) : zaE H 457 (top 52) "_law_reached" := B.fn 40
theorem Facts.n_law_derefs (B : Facts w H) : zaE H 462 (top 53) "_law_derefs" := B.fn 41
theorem Facts.n_law_right (B : Facts w H) : zaE H 467 (top 54) "_law_right" := B.fn 42
theorem Facts.m_LoanScopes_init__ (B : Facts w H) : zaE H 78 (zbi 11 0) "LoanScopes.__init__" := B.fn 43
theorem Facts.m_LoanScopes_let_on (B : Facts w H) : zaE H 83 (zbi 11 1) "LoanScopes.let_on" := B.fn 44
theorem Facts.m_LoanScopes_behind (B : Facts w H) : zaE H 88 (zbi 11 2) "LoanScopes.behind" := B.fn 45
theorem Facts.m_LoanScopes_lead (B : Facts w H) : zaE H 95 (zbi 11 3) "LoanScopes.lead" := B.fn 46
theorem Facts.m_LoanScopes_keep (B : Facts w H) : zaE H 102 (zbi 11 4) "LoanScopes.keep" := B.fn 47
theorem Facts.m_LoanScopes_at (B : Facts w H) : zaE H 109 (zbi 11 5) "LoanScopes.at" := B.fn 48
theorem Facts.m_Body_statements (B : Facts w H) : zaE H 152 (zbi 13 3) "Body.statements" := B.fn 49
theorem Facts.m_Body_terminator (B : Facts w H) : zaE H 159 (zbi 13 4) "Body.terminator" := B.fn 50
theorem Facts.m_Liveness_init__ (B : Facts w H) : zaE H 321 (zbi 36 0) "Liveness.__init__" := B.fn 51
theorem Facts.m_Liveness_use_step (B : Facts w H) : zaE H 328 (zbi 36 1) "Liveness.use_step" := B.fn 52
theorem Facts.m_Liveness_drop_step (B : Facts w H) : zaE H 335 (zbi 36 2) "Liveness.drop_step" := B.fn 53
theorem Facts.m_Liveness_for_use (B : Facts w H) : zaE H 342 (zbi 36 3) "Liveness.for_use" := B.fn 54
theorem Facts.g_loans_of (B : Facts w H) : zac w H "loans_of" (.raw (.ref 28)) := B.gr 13
theorem Facts.g_meets (B : Facts w H) : zac w H "meets" (.raw (.ref 35)) := B.gr 14
theorem Facts.g_may_meet (B : Facts w H) : zac w H "may_meet" (.raw (.ref 42)) := B.gr 15
theorem Facts.g_conflicts (B : Facts w H) : zac w H "conflicts" (.raw (.ref 47)) := B.gr 16
theorem Facts.g_is_prefix (B : Facts w H) : zac w H "is_prefix" (.raw (.ref 54)) := B.gr 17
theorem Facts.g_killed_by (B : Facts w H) : zac w H "killed_by" (.raw (.ref 59)) := B.gr 18
theorem Facts.g_killed_at_end (B : Facts w H) : zac w H "killed_at_end" (.raw (.ref 64)) := B.gr 19
theorem Facts.g_points (B : Facts w H) : zac w H "points" (.raw (.ref 186)) := B.gr 20
theorem Facts.g_successors (B : Facts w H) : zac w H "successors" (.raw (.ref 191)) := B.gr 21
theorem Facts.g_predecessors (B : Facts w H) : zac w H "predecessors" (.raw (.ref 196)) := B.gr 22
theorem Facts.g_operands_of (B : Facts w H) : zac w H "operands_of" (.raw (.ref 203)) := B.gr 23
theorem Facts.g_operands_at (B : Facts w H) : zac w H "operands_at" (.raw (.ref 210)) := B.gr 24
theorem Facts.g_indices_of (B : Facts w H) : zac w H "indices_of" (.raw (.ref 215)) := B.gr 25
theorem Facts.g_joined (B : Facts w H) : zac w H "joined" (.raw (.ref 222)) := B.gr 26
theorem Facts.g_behind_block (B : Facts w H) : zac w H "behind_block" (.raw (.ref 229)) := B.gr 27
theorem Facts.g_back_to (B : Facts w H) : zac w H "back_to" (.raw (.ref 236)) := B.gr 28
theorem Facts.g_solve_backward (B : Facts w H) : zac w H "solve_backward" (.raw (.ref 243)) := B.gr 29
theorem Facts.g_all_facts_before (B : Facts w H) : zac w H "all_facts_before" (.raw (.ref 250)) := B.gr 30
theorem Facts.g_looked_at (B : Facts w H) : zac w H "looked_at" (.raw (.ref 257)) := B.gr 31
theorem Facts.g_written_at (B : Facts w H) : zac w H "written_at" (.raw (.ref 264)) := B.gr 32
theorem Facts.g_dropped_at (B : Facts w H) : zac w H "dropped_at" (.raw (.ref 271)) := B.gr 33
theorem Facts.g_turned_at (B : Facts w H) : zac w H "turned_at" (.raw (.ref 278)) := B.gr 34
theorem Facts.g_used_locals (B : Facts w H) : zac w H "used_locals" (.raw (.ref 286)) := B.gr 35
theorem Facts.g_is_return (B : Facts w H) : zac w H "is_return" (.raw (.ref 293)) := B.gr 36
theorem Facts.g_dropped_locals (B : Facts w H) : zac w H "dropped_locals" (.raw (.ref 300)) := B.gr 37
theorem Facts.g_set_locals (B : Facts w H) : zac w H "set_locals" (.raw (.ref 307)) := B.gr 38
theorem Facts.g_law_pool (B : Facts w H) : zac w H "_law_pool" (.raw (.ref 363)) := B.gr 39
theorem Facts.g_law_take (B : Facts w H) : zac w H "_law_take" (.raw (.ref 370)) := B.gr 40
theorem Facts.g_law_one (B : Facts w H) : zac w H "_law_one" (.raw (.ref 377)) := B.gr 41
theorem Facts.g_law_places (B : Facts w H) : zac w H "_law_places" (.raw (.ref 384)) := B.gr 42
theorem Facts.g_law_event (B : Facts w H) : zac w H "_law_event" (.raw (.ref 391)) := B.gr 43
theorem Facts.g_law_line (B : Facts w H) : zac w H "_law_line" (.raw (.ref 398)) := B.gr 44
theorem Facts.g_law_goals (B : Facts w H) : zac w H "_law_goals" (.raw (.ref 405)) := B.gr 45
theorem Facts.g_law_end (B : Facts w H) : zac w H "_law_end" (.raw (.ref 412)) := B.gr 46
theorem Facts.g_law_later (B : Facts w H) : zac w H "_law_later" (.raw (.ref 417)) := B.gr 47
theorem Facts.g_law_here (B : Facts w H) : zac w H "_law_here" (.raw (.ref 424)) := B.gr 48
theorem Facts.g_law_is_part (B : Facts w H) : zac w H "_law_is_part" (.raw (.ref 431)) := B.gr 49
theorem Facts.g_law_lives (B : Facts w H) : zac w H "_law_lives" (.raw (.ref 438)) := B.gr 50
theorem Facts.g_law_span (B : Facts w H) : zac w H "_law_span" (.raw (.ref 445)) := B.gr 51
theorem Facts.g_law_hurts (B : Facts w H) : zac w H "_law_hurts" (.raw (.ref 452)) := B.gr 52
theorem Facts.g_law_reached (B : Facts w H) : zac w H "_law_reached" (.raw (.ref 457)) := B.gr 53
theorem Facts.g_law_derefs (B : Facts w H) : zac w H "_law_derefs" (.raw (.ref 462)) := B.gr 54
theorem Facts.g_law_right (B : Facts w H) : zac w H "_law_right" (.raw (.ref 467)) := B.gr 55
theorem Facts.g_LoanScopes (B : Facts w H) : zac w H "LoanScopes" (.raw (.ref 112)) := B.gr 56
theorem Facts.g_Body (B : Facts w H) : zac w H "Body" (.raw (.ref 177)) := B.gr 57
theorem Facts.g_Liveness (B : Facts w H) : zac w H "Liveness" (.raw (.ref 352)) := B.gr 58
theorem Facts.g_len (B : Facts w H) : zac w H "len" (.raw (.builtin "len")) := B.gb 59 60
theorem Facts.g_max (B : Facts w H) : zac w H "max" (.raw (.builtin "max")) := B.gb 61 62
theorem Facts.g_sorted (B : Facts w H) : zac w H "sorted" (.raw (.builtin "sorted")) := B.gb 63 64
theorem Facts.g_range (B : Facts w H) : zac w H "range" (.raw (.type "range")) := B.gb 65 66
theorem Facts.g_zip (B : Facts w H) : zac w H "zip" (.raw (.type "zip")) := B.gb 67 68
theorem Facts.g_enumerate (B : Facts w H) : zac w H "enumerate" (.raw (.type "enumerate")) := B.gb 69 70
theorem Facts.g_list (B : Facts w H) : zac w H "list" (.raw (.type "list")) := B.gb 71 72
theorem Facts.g_tuple (B : Facts w H) : zac w H "tuple" (.raw (.type "tuple")) := B.gb 73 74
theorem Facts.g_int (B : Facts w H) : zac w H "int" (.raw (.type "int")) := B.gb 75 76
theorem Facts.g_dict (B : Facts w H) : zac w H "dict" (.raw (.type "dict")) := B.gb 77 78
theorem Facts.g_set (B : Facts w H) : zac w H "set" (.raw (.type "set")) := B.gb 79 80
theorem Facts.g_frozenset (B : Facts w H) : zac w H "frozenset" (.raw (.type "frozenset")) := B.gb 81 82
theorem zoh {s : Shared} (Y : zkn s = zkT w') : zaE s.heap 472 (top 55) "law" ∧ zac w' s.heap "law" (.raw (.ref 472)) :=
 ⟨zmb (zbu (congrArg (fun y : Obs => y.1) Y) 55), ⟨_, .inl ⟨_, .of_isNs (zbu (congrArg (fun y : Obs => y.2.2.2.2.1) Y) 0), zbu (congrArg (fun y : Obs => y.2.2.2.1) Y) 84⟩, rfl⟩⟩
inductive Step where
 | field (i : Int)
 | deref
 deriving DecidableEq
noncomputable abbrev Step.av : Step → AV
 | .field i => .tup [.str "field", .int i]
 | .deref => .tup [.str "deref"]
noncomputable def zja : Step → Step → Bool
 | .field i, .field j => i == j
 | _, _ => true
section
variable {d : Nat}
theorem zpv (B : Facts w H) (p q : Step) : zal w H 1 (.ref 35) [p.av, q.av] fun r => r = .bool (zja p q) := by
 refine zar.frame ?_ (by cases p <;> cases q <;> (repeat' first | exact trivial | refine And.intro ?_ ?_))
 refine zar.go [("one", p.av), ("other", q.av)] B.n_meets B.lim rfl rfl ?hsw
 case hsw =>
  intro L cd Q0 hQ
  cases p <;> cases q <;> simp only [Step.av]
  all_goals (kd_p)
  all_goals (refine hQ _ _ _ ?_; exact zaa trivial ⟨rfl, rfl⟩)
end
theorem zao {α : Type} {D : Nat → Bool} {f : α → AV} (h : ∀ x, (f x).locs D) : ∀ l : List α, AV.locsL D (l.map f)
 | [] => trivial
 | x :: r => ⟨h x, zao h r⟩
theorem Step.locs {D : Nat → Bool} : ∀ s : Step, s.av.locs D
 | .field _ => ⟨trivial, trivial, trivial⟩
 | .deref => ⟨trivial, trivial⟩
noncomputable abbrev zbb (p : List Step) : AV := .tup (p.map Step.av)
theorem ze1 {D : Nat → Bool} (p : List Step) : (zbb p).locs D := zao Step.locs p
noncomputable def zcL (p q : List Step) : Bool := (p.zip q).all fun x => zja x.1 x.2
section
variable {d : Nat}
theorem zlb (B : Facts w H) (p q : List Step) : zal w H 2 (.ref 42) [zbb p, zbb q] fun r => r = .bool (zcL p q) := by
 have g_meets := B.g_meets
 have g_zip := B.g_zip
 refine zal.go [("one", zbb p), ("other", zbb q)] B.n_may_meet B.lim rfl rfl ⟨ze1 p, ze1 q, trivial⟩ ?hsw
 case hsw =>
  intro L cd Q0 hQ
  refine zce (zbc (zhX w) (fun rem v m => zaF (v = ([("one", zbb p), ("other", zbb q)] : zaf)) (m = []) (Ex2 fun ps qs => rem = zipItems (ps.map Step.av) (qs.map Step.av) ∧ zcL p q = zcL ps qs)) ?_ ?_ ?_)
  ·refine zlh (by kpf_c) g_zip ?_
   kd_p
   exact ⟨p.map Step.av, q.map Step.av, .inr ⟨rfl, rfl⟩, rfl, rfl, p, q, rfl, rfl⟩
  ·intro J hJ Q1 x rest hN
   rintro v m ⟨rfl, rfl, ps, qs, hr, he⟩
   cases ps with
   | nil => contradiction
   | cons a ps =>
    cases qs with
    | nil => contradiction
    | cons b qs =>
     simp only [zipItems, List.map_cons, List.zip_cons_cons, List.cons.injEq] at hr
     obtain ⟨rfl, rfl⟩ := hr
     refine zfR ?_ rfl rfl
     kd_p
     refine (zpv B a b).callE B.n_meets (Nat.le_refl _) ?_
     kd_p
     refine ifk (fun hb => ?_) (fun hb => ?_)
     ·kd_p
      (refine hN _ _ _ ?_; refine zho ?_)
      kd_p
      (refine hQ _ _ _ ?_; refine zaa trivial ⟨?_, rfl⟩)
      have hb' : zja a b = false := by simpa using hb
      exists he; simp [zcL, hb']
     ·kd_p
      (refine hN _ _ _ ?_; refine zaj [("one", zbb p), ("other", zbb q)] _ rfl (hJ _ _ _ ⟨rfl, rfl, ps, qs, rfl, ?_⟩))
      have hb' : zja a b = true := by simpa using hb
      exists he; simp [zcL, hb']
  ·rintro v m ⟨rfl, rfl, ps, qs, hr, he⟩
   kd_p
   (refine hQ _ _ _ ?_; refine zaa trivial ⟨?_, rfl⟩)
   have : ps = [] ∨ qs = [] := by
    cases ps <;> cases qs <;> simp [zipItems] at hr <;> simp
   exists he
   rcases this with h | h <;> subst h <;> simp [zcL]
end
structure Place where
 loc : Int
 steps : List Step
 deriving DecidableEq
noncomputable abbrev Place.av (p : Place) : AV := .tup [.int p.loc, zbb p.steps]
theorem Place.locs {D : Nat → Bool} (p : Place) : p.av.locs D := ⟨trivial, ze1 p.steps, trivial⟩
noncomputable def Step.pd : Step → PyData
 | .field i => .tuple [.str "field", .int i]
 | .deref => .tuple [.str "deref"]
theorem Step.pd_av : ∀ s : Step, s.av.pd = some s.pd
 | .field _ => rfl
 | .deref => rfl
theorem Step.fine : ∀ s : Step, zcf s.pd
 | .field _ => by kpf_c
 | .deref => by kpf_c
theorem Step.eqv : ∀ a b : Step, PyData.eqv a.pd b.pd = decide (a = b)
 | .field i, .field j => by
  simp only [Step.pd, PyData.eqv, PyData.eqvAll, beq_self_eq_true, Bool.true_and, Bool.and_true, Step.field.injEq]
  by_cases h : i = j <;> rfl
 | .field _, .deref => by
  have h : (Str.ofString "field" == Str.ofString "deref") = false := by decide +kernel
  rfl
 | .deref, .field _ => by
  have h : (Str.ofString "deref" == Str.ofString "field") = false := by decide +kernel
  rfl
 | .deref, .deref => by
  rfl
theorem zcZ {α : Type} {f : α → AV} {g : α → PyData} (h : ∀ x, (f x).pd = some (g x)) : ∀ l : List α, AV.pdL (l.map f) = some (l.map g)
 | [] => rfl
 | x :: r => by show ((f x).pd).bind (fun d => (AV.pdL (r.map f)).map (d :: ·)) = _; (exists h x; exists zcZ h r); rfl
theorem zc8 {α : Type} [DecidableEq α] {g : α → PyData} (h : ∀ a b, PyData.eqv (g a) (g b) = decide (a = b)) : ∀ l r : List α, PyData.eqvAll (l.map g) (r.map g) = decide (l = r)
 | [], [] => rfl
 | [], _ :: _ => rfl
 | _ :: _, [] => rfl
 | a :: l, b :: r => by
  simp only [List.map_cons, PyData.eqvAll, h a b, zc8 h l r, List.cons.injEq]
  by_cases h1 : a = b <;> by_cases h2 : l = r <;> simp [h1, h2]
theorem zfx {α : Type} {g : α → PyData} (h : ∀ x, (g x).canLay0 = true) : ∀ l : List α, PyData.canLayAll0 (l.map g) = true
 | [] => rfl
 | x :: r => by simp only [List.map_cons, PyData.canLayAll0, h x, zfx h r, Bool.and_self]
theorem zcA {α : Type} {g : α → PyData} {n : Nat} (h : ∀ x, (g x).depth ≤ n) : ∀ l : List α, PyData.depthAll (l.map g) ≤ n
 | [] => Nat.zero_le _
 | x :: r => by
  skip
  exact Nat.max_le.mpr ⟨h x, zcA h r⟩
theorem zjF (xs : List PyData) : (PyData.tuple xs).depth = PyData.depthAll xs + 1 := by simp [PyData.depth, Nat.add_comm]
theorem zdQ (xs : List PyData) : (PyData.list xs).depth = PyData.depthAll xs + 1 := by simp [PyData.depth, Nat.add_comm]
theorem Step.pdm {mu : Mu} : ∀ s : Step, s.av.pdm mu = some s.pd
 | .field _ => rfl
 | .deref => rfl
noncomputable def zbB (p : List Step) : PyData := .tuple (p.map Step.pd)
theorem zen (p : List Step) : (zbb p).pd = some (zbB p) := by
 show (AV.pdL (p.map Step.av)).map PyData.tuple = _
 rw [zcZ Step.pd_av]; rfl
theorem zgh (p q : List Step) : PyData.eqv (zbB p) (zbB q) = decide (p = q) := by
 show PyData.eqvAll _ _ = _
 exact zc8 Step.eqv p q
theorem Step.lay : ∀ s : Step, s.pd.canLay0 = true
 | .field _ => by kpf_c
 | .deref => by kpf_c
theorem Step.dep : ∀ s : Step, s.pd.depth ≤ 1
 | .field _ => by simp [Step.pd, PyData.depth, PyData.depthAll]
 | .deref => by decide
theorem znt (p : List Step) : (zbB p).canLay0 = true := by
 show PyData.canLayAll0 _ = true
 exact zfx Step.lay p
theorem zns (p : List Step) : (zbB p).depth ≤ 2 := by
 unfold zbB; skip
 have := zcA Step.dep p
 exact Nat.lt_succ_of_le ‹_›
theorem zd1 (p : List Step) : zcf (zbB p) := zcc (znt p) (by have := zns p; kd_mem)
noncomputable def Place.pd (p : Place) : PyData := .tuple [.int p.loc, zbB p.steps]
noncomputable def za9 (short long : Place) : Bool := short.loc == long.loc && short.steps.isPrefixOf long.steps
noncomputable def zr0 : Step → Bool := fun V => true
section
variable {d : Nat}
theorem zgu (B : Facts w H) (p q : Place) (hp : p.steps.length < 1000) (hq : q.steps.length < 1000) : zal w H 1 (.ref 54) [p.av, q.av] fun r => r = .bool (za9 p q) := by
 have g_zip := B.g_zip
 have g_len := B.g_len
 refine zal.go [("short", p.av), ("long", q.av)] B.n_is_prefix B.lim rfl rfl ⟨p.locs, q.locs, trivial⟩ ?hsw
 case hsw =>
  intro L cd Q0 hQ
  kd_p
  refine ifb (fun hb => ?_) (fun hb => ?_)
  ·kd_p
   (refine hQ _ _ _ ?_; refine zaa trivial ⟨?_, rfl⟩)
   have : (p.loc == q.loc) = false := by simpa using hb
   simp [za9, this]
  kd_p
  refine ifb (fun hc => ?_) (fun hc => ?_)
  ·kd_p
   (refine hQ _ _ _ ?_; refine zaa trivial ⟨?_, rfl⟩)
   have : p.steps.isPrefixOf q.steps = false := by
    rw [Bool.eq_false_iff]
    intro h
    have := (List.isPrefixOf_iff_prefix.mp h).length_le
    simp at hc; kd_mem
   simp [za9, this]
  kd_p
  refine zbc (zhX w) (fun rem v m => zaF (v = ([("short", p.av), ("long", q.av)] : zaf)) (m = []) (∃ ps qs : List Step, zaF (ps.length ≤ qs.length) (rem = zipItems (ps.map Step.av) (qs.map Step.av)) (za9 p q = ps.isPrefixOf qs))) ?_ ?_ ?_
  ·refine zlh (by kpf_c) g_zip ?_
   kd_p
   exact ⟨p.steps.map Step.av, q.steps.map Step.av, .inr ⟨rfl, rfl⟩, rfl, rfl, p.steps, q.steps, by simp at hc; omega, rfl, by simp [za9, (by simpa using hb : (p.loc == q.loc) = true)]⟩
  ·intro J hJ Q1 x rest hN
   rintro v m ⟨rfl, rfl, ps, qs, hl, hr, he⟩
   cases ps with
   | nil => simp [zipItems] at hr
   | cons a ps =>
    cases qs with
    | nil => simp [zipItems] at hr
    | cons b qs =>
     simp only [zipItems, List.map_cons, List.zip_cons_cons, List.cons.injEq] at hr
     obtain ⟨rfl, rfl⟩ := hr
     refine zfR ?_ rfl rfl
     kd_p
     refine zeh (da := a.pd) (db := b.pd) (Step.pdm a) (Step.pdm b) a.fine b.fine (c := !decide (a = b)) (by rw [Step.eqv]) ?_
     kd_p
     refine ifb (fun hb => ?_) (fun hb => ?_)
     ·kd_p
      (refine hN _ _ _ ?_; refine zho ?_)
      kd_p
      (refine hQ _ _ _ ?_; refine zaa trivial ⟨?_, rfl⟩)
      have hb' : (a == b) = false := by simpa using hb
      rw [he]; simp [List.isPrefixOf, hb']
     ·have hab : a = b := by simpa using hb
      subst hab
      cases a <;> kd_p
      all_goals
       (refine hN _ _ _ ?_; refine zaj [("short", p.av), ("long", q.av)] _ rfl (hJ _ _ _ ⟨rfl, rfl, ps, qs, ?_, rfl, ?_⟩))
       ·simpa using hl
       ·rw [he]; simp [List.isPrefixOf]
  ·rintro v m ⟨rfl, rfl, ps, qs, hl, hr, he⟩
   kd_p
   (refine hQ _ _ _ ?_; refine zaa trivial ⟨?_, rfl⟩)
   have : ps = [] := by
    cases ps with
    | nil => rfl
    | cons a ps => cases qs with
     | nil => simp at hl
     | cons b qs => simp [zipItems] at hr
   subst this
   exists he; simp [List.isPrefixOf]
end
theorem zdY {α : Type} (f : α → AV) (l : List α) (lo hi : Option Nat) : zdx (l.map f) lo hi = ((l.take (zdt l.length hi)).drop (zci lo)).map f := by
 simp [zdx, List.map_take, List.map_drop]
noncomputable def zbD (l : List Step) : Nat := (l.filter fun s => s == .deref).length
noncomputable abbrev ze2 (l : List Str) : AV := .tup (l.map AV.str)
noncomputable def zgi (l : List Str) : PyData := .tuple (l.map PyData.str)
theorem zmz (l : List Str) : (ze2 l).pd = some (zgi l) := by
 show (AV.pdL (l.map AV.str)).map PyData.tuple = _
 rw [zcZ (g := PyData.str) (fun V => rfl)]; rfl
theorem ziH {l : List Str} (h : ∀ x ∈ l, PyData.strOk x = true) : zcf (zgi l) := by
 have h1 : ∀ l : List Str, (∀ x ∈ l, PyData.strOk x = true) → PyData.canLayAll0 (l.map PyData.str) = true := by
  intro l
  induction l with
  | nil => intro V; rfl
  | cons x r ih =>
   intro h
   simp only [List.map_cons, PyData.canLayAll0, PyData.canLay0, h x List.mem_cons_self, Bool.true_and]
   exact ih fun y hy => h y (List.mem_cons_of_mem _ hy)
 refine zcc (h1 l h) ?_
 unfold zgi; rw [zjF]
 have := zcA (g := PyData.str) (n := 0) (fun V => Nat.le_refl _) l
 kd_mem
noncomputable def zbx (lent : Place) (derefs : List Str) (place : Place) : Bool :=
 if lent.loc ≠ place.loc ∨ zcL lent.steps place.steps = false then false
 else if lent.steps.length ≤ place.steps.length then true
 else decide (derefs.drop (zbD (lent.steps.take place.steps.length)) = [])
section
variable {d : Nat}
theorem zjV (B : Facts w H) (p q : Place) (ds : List Str) (hp : p.steps.length < 1000) (hq : q.steps.length < 1000) (hd : ds.length < 1000) (hds : ∀ x ∈ ds, PyData.strOk x = true) :
  zal w H 3 (.ref 47) [p.av, ze2 ds, .str "shallow", q.av] fun r => r = .bool (zbx p ds q) := by
 have g_may_meet := B.g_may_meet
 have g_len := B.g_len
 have g_SHALLOW := B.g_SHALLOW
 refine zal.go [("lent", p.av), ("derefs", ze2 ds), ("depth", .str "shallow"), ("place", q.av)] B.n_conflicts B.lim rfl rfl ⟨p.locs, zao (f := AV.str) (fun V => trivial) ds, trivial, q.locs, trivial⟩ ?hsw
 case hsw =>
  intro L cd Q0 hQ
  kd_p
  refine ifb (fun hb => ?_) (fun hb => ?_)
  ·kd_p
   (refine hQ _ _ _ ?_; refine zaa trivial ⟨?_, rfl⟩)
   have : p.loc ≠ q.loc := by simpa using hb
   simp [zbx, this]
  have hloc : p.loc = q.loc := by simpa using hb
  kd_p
  refine (zlb B p.steps q.steps).callE B.n_may_meet (by decide) ?_
  kd_p
  refine ifb (fun hc => ?_) (fun hc => ?_)
  ·kd_p
   (refine hQ _ _ _ ?_; refine zaa trivial ⟨?_, rfl⟩)
   have : zcL p.steps q.steps = false := by simpa using hc
   simp [zbx, this]
  kd_p
  refine ifk (fun he => ?_) (fun he => ?_)
  ·kd_p
   (refine hQ _ _ _ ?_; refine zaa trivial ⟨?_, rfl⟩)
   have : p.steps.length ≤ q.steps.length := by simp at he; assumption
   simp [zbx, hloc, (by simpa using hc : zcL p.steps q.steps = true), this]
  kd_p
  refine zam (zaY [] [] Step.av Step.av (fun s => s == .deref) ?_)
  refine zaC ?_
  kd_p
  refine ⟨_, zf4, (p.steps.take q.steps.length), ?_, ?_, ?_, ?_⟩
  ·rw [zdY]; simp [zdt, zci]
  ·rw [List.length_take, zab]; kd_mem
  ·intro C x V
   refine zcq ?_
   cases x
   ·kd_p
    refine ⟨by simp, rfl, fun h => ?_⟩
    simp at h
   ·kd_p
    refine ⟨by decide +kernel, rfl, fun V => ?_⟩
    kd_p
    exact ⟨rfl, rfl⟩
  have hfl : (List.filter (fun s => s == Step.deref) (List.take q.steps.length p.steps)).length ≤ p.steps.length := Nat.le_trans (List.length_filter_le _ _) (List.length_take_le' _ _)
  kd_p
  refine zgA (da := zgi (ds.drop (zbD (p.steps.take q.steps.length)))) (db := zgi []) (c := decide (ds.drop (zbD (p.steps.take q.steps.length)) = [])) ?_ ?_ ?_ (by kpf_c) ?_ ?_
  ·rw [zdY]
   show (ze2 _).pd = _
   rw [zmz]
   simp [zdt, zci, zbD]
  ·rfl
  ·exact ziH fun x hx => hds x (List.mem_of_mem_drop hx)
  ·show PyData.eqvAll ((List.drop _ ds).map PyData.str) ([].map PyData.str) = _
   exact zc8 (fun a b => by show (a == b) = _; by_cases h : a = b <;> simp [h]) _ _
  kd_p
  (refine hQ _ _ _ ?_; refine zaa trivial ⟨?_, rfl⟩)
  simp [zbx, hloc, (by simpa using hc : zcL p.steps q.steps = true), (by simp at he; kd_mem : ¬ p.steps.length ≤ q.steps.length)]
end
inductive Kind where
 | lend | use | write | dead
 deriving DecidableEq
noncomputable def Kind.str : Kind → Str
 | .lend => "lend"
 | .use => "use"
 | .write => "write"
 | .dead => "dead"
structure Ev where
 kind : Kind
 place : Place
 deriving DecidableEq
noncomputable abbrev Ev.av (e : Ev) : AV := .tup [.str e.kind.str, e.place.av]
inductive End where
 | panic
 | goto (g : Nat)
 | switch (g o : Nat)
 deriving DecidableEq
noncomputable abbrev End.av : End → AV
 | .panic => .tup [.str "panic", .str "end"]
 | .goto g => .tup [.str "goto", .int g]
 | .switch g o => .tup [.str "switch", .tup [.str "const", .tup [.str "bool"], .bool true], .tup [.tup [.bool false, .int g]], .int o]
noncomputable def End.goals : End → List Nat
 | .panic => []
 | .goto g => [g]
 | .switch g o => [g, o]
theorem Ev.locs {D : Nat → Bool} (e : Ev) : e.av.locs D := ⟨trivial, e.place.locs, trivial⟩
theorem End.locs {D : Nat → Bool} : ∀ e : End, e.av.locs D
 | .panic => by repeat' first | exact trivial | refine And.intro ?_ ?_
 | .goto _ => by repeat' first | exact trivial | refine And.intro ?_ ?_
 | .switch _ _ => by repeat' first | exact trivial | refine And.intro ?_ ?_
noncomputable abbrev zbU (l : List Nat) : AV := .lst (l.map fun (n : Nat) => .int n)
noncomputable def zec (inner outer : Place) : Bool := inner.loc == outer.loc && decide (inner.steps.take outer.steps.length = outer.steps)
noncomputable def zhh (lent place : Place) : Bool :=
 if zec place lent then true
 else zec lent place && !((lent.steps.drop place.steps.length).any fun s => s == .deref)
section
variable {d : Nat}
theorem zl8 (B : Facts w H) (e : End) : zal w H 1 (.ref 405) [e.av] fun r => r = zbU e.goals := by
 refine zal.go [("end", e.av)] B.n_law_goals B.lim rfl rfl ⟨e.locs, trivial⟩ ?hsw
 case hsw =>
  intro L cd Q0 hQ
  cases e <;> simp only [End.av]
  all_goals
   kd_p
   refine za6 ?_
   kd_p
   (refine hQ _ _ _ ?_; exact zaa (by repeat' first | exact trivial | exact rfl | refine And.intro ?_ ?_) ⟨rfl, rfl⟩)
theorem zf2 (B : Facts w H) (p q : Place) (hp : p.steps.length < 1000) (hq : q.steps.length < 1000) : zal w H 1 (.ref 431) [p.av, q.av] fun r => r = .bool (zec p q) := by
 have g_len := B.g_len
 refine zal.go [("inner", p.av), ("outer", q.av)] B.n_law_is_part B.lim rfl rfl ⟨p.locs, q.locs, trivial⟩ ?hsw
 case hsw =>
  intro L cd Q0 hQ
  have key : ∀ {E : Env} {Q : QA}, Q (.bool (decide (p.steps.take q.steps.length = q.steps))) [] → Op2 w H 0 (compareOp .Eq) (.tup (zdx (p.steps.map Step.av) none (some (q.steps.map Step.av).length))) (zbb q.steps) [] Q := by
   intro V Q h
   refine zgA (da := zbB (p.steps.take q.steps.length)) (db := zbB q.steps) (c := decide (p.steps.take q.steps.length = q.steps)) ?_ (zen q.steps) (zd1 _) (zd1 _) (zgh _ _) h
   rw [zdY]
   show (zbb _).pd = _
   rw [zen]; simp [zdt, zci]
  kd_p
  refine ifb (fun hb => ?_) (fun hb => ?_)
  ·kd_p
   refine key (E := zdg (top 48) L 431 cd "_law_is_part") ?_
   kd_p
   (refine hQ _ _ _ ?_; exact zaa trivial ⟨by simp [zec, hb], rfl⟩)
  ·kd_p
   (refine hQ _ _ _ ?_; exact zaa trivial ⟨by simp [zec, hb], rfl⟩)
theorem zpt (B : Facts w H) (p q : Place) (hp : p.steps.length < 1000) (hq : q.steps.length < 1000) : zal w H 2 (.ref 452) [p.av, q.av] fun r => r = .bool (zhh p q) := by
 have g_len := B.g_len
 have g_law_is_part := B.g_law_is_part
 refine zal.go [("lent", p.av), ("place", q.av)] B.n_law_hurts B.lim rfl rfl ⟨p.locs, q.locs, trivial⟩ ?hsw
 case hsw =>
  intro L cd Q0 hQ
  kd_p
  refine (zf2 B q p hq hp).callE B.n_law_is_part (by decide) ?_
  kd_p
  refine ifk (fun hb => ?_) (fun hb => ?_)
  ·kd_p
   (refine hQ _ _ _ ?_; exact zaa trivial ⟨by simp [zhh, hb], rfl⟩)
  kd_p
  refine (zf2 B p q hp hq).callE B.n_law_is_part (by decide) ?_
  kd_p
  refine ifb (fun hc => ?_) (fun hc => ?_)
  ·kd_p
   refine zfB (dx := Step.deref.pd) (ds := (p.steps.drop q.steps.length).map Step.pd) (b := !((p.steps.drop q.steps.length).any fun s => s == .deref)) rfl (.inr ?_) (by kpf_c) ?_ ?_ ?_
   ·rw [zdY]
    show (zbb _).pd = _
    rw [zen]; simp [zdt, zci, zbB]
   ·exact zcc (zfx Step.lay _) (by rw [zdQ]; have := zcA Step.dep (p.steps.drop q.steps.length); kd_mem)
   ·exists List.any_map
    congr 2
    funext s
    show PyData.eqv s.pd Step.deref.pd = _
    rw [Step.eqv]
    by_cases h : s = Step.deref <;> rfl
   kd_p
   (refine hQ _ _ _ ?_; exact zaa trivial ⟨by simp [zhh, hb, hc], rfl⟩)
  ·kd_p
   (refine hQ _ _ _ ?_; exact zaa trivial ⟨by simp [zhh, hb, hc], rfl⟩)
end
noncomputable abbrev Rows := List (List Ev)
noncomputable abbrev Ends := List End
noncomputable abbrev ziD (r : List Ev) : AV := .lst (r.map Ev.av)
noncomputable abbrev zbW (zR : Rows) : AV := .lst (zR.map ziD)
noncomputable abbrev zbK (zE : Ends) : AV := .lst (zE.map End.av)
noncomputable abbrev Spot := Nat × Nat
noncomputable abbrev za (s : Spot) : AV := .tup [.int s.1, .int s.2]
theorem zoO {D : Nat → Bool} (r : List Ev) : (ziD r).locs D := zao Ev.locs r
theorem zdL {D : Nat → Bool} (zR : Rows) : (zbW zR).locs D := zao zoO zR
theorem zdC {D : Nat → Bool} (zE : Ends) : (zbK zE).locs D := zao End.locs zE
theorem zaA {D : Nat → Bool} (s : Spot) : (za s).locs D := ⟨trivial, trivial, trivial⟩
structure Sane (zR : Rows) (zE : Ends) : Prop where
 len : zE.length = zR.length
 few : zR.length < 100
 row : ∀ r ∈ zR, r.length < 100
 goal : ∀ e ∈ zE, ∀ g ∈ e.goals, g < zR.length
 place : ∀ r ∈ zR, ∀ e ∈ r, e.place.steps.length < 100
noncomputable def zmo : AV := .tup [.str "", .tup [.int 0, .tup []]]
noncomputable def zeV (zR : Rows) (s : Spot) : AV := match (zR.getD s.1 [])[s.2]? with
 | some e => e.av
 | none => zmo
noncomputable def later (zR : Rows) (zE : Ends) (s : Spot) : List Spot :=
 if s.2 < (zR.getD s.1 []).length then [(s.1, s.2 + 1)] else ((zE.getD s.1 .panic).goals.map fun g => (g, 0))
theorem filter_tt {α : Type} (l : List α) : l.filter (fun V => true) = l := List.filter_eq_self.mpr fun V V => rfl
theorem getD_some {α : Type} {l : List α} {i : Nat} {x d : α} (h : l[i]? = some x) : l.getD i d = x := by simp [List.getD, h]
theorem zay {α : Type} {l : List α} {i : Nat} (h : i < l.length) : ∃ x, l[i]? = some x ∧ x ∈ l := ⟨l[i], by simp [h], List.getElem_mem h⟩
section
variable {d : Nat}
theorem zhb (B : Facts w H) (zR : Rows) (zE : Ends) (S : Sane zR zE) (s : Spot) (hs : s.1 < zR.length) : zal w H 1 (.ref 424) [zbW zR, za s] fun r => r = zeV zR s := by
 have g_len := B.g_len
 obtain ⟨row, hrow, hmem⟩ := zay hs
 have h1 := S.few
 have h2 := S.row row hmem
 have h3 : zR.getD s.1 [] = row := getD_some hrow
 refine zal.go [("rows", zbW zR), ("spot", za s)] B.n_law_here B.lim rfl rfl ⟨zdL zR, zaA s, trivial⟩ ?hsw
 case hsw =>
  intro L cd Q0 hQ
  kd_p
  refine ifb (fun hb => ?_) (fun hb => ?_)
  ·have hi : s.2 < row.length := by simp at hb; assumption
   obtain ⟨e, he, V⟩ := zay hi
   kd_p
   (refine hQ _ _ _ ?_; refine zaa e.locs ?_)
   exact ⟨by simp [zeV, hrow, he], rfl⟩
  ·have hi : ¬ s.2 < row.length := by simp at hb; exact Nat.not_lt.mpr ‹_›
   kd_p
   (refine hQ _ _ _ ?_; refine zaa (by repeat' first | exact trivial | exact rfl | refine And.intro ?_ ?_) ?_)
   exact ⟨by simp [zeV, hrow, Nat.not_lt.mp hi, zmo], rfl⟩
theorem zfk (B : Facts w H) (zR : Rows) (zE : Ends) (S : Sane zR zE) (s : Spot) (hs : s.1 < zR.length) : zlP w H 2 (.ref 417) [zbW zR, zbK zE, za s] ((later zR zE s).map za) := by
 have g_len := B.g_len
 have g_law_goals := B.g_law_goals
 obtain ⟨row, hrow, hmem⟩ := zay hs
 have h1 := S.few
 have h2 := S.row row hmem
 have h3 : zR.getD s.1 [] = row := getD_some hrow
 obtain ⟨e, he, hme⟩ := zay (l := zE) (i := s.1) (by exists S.len; exact hs)
 have h4 : zE.getD s.1 .panic = e := getD_some he
 have h5 := S.len
 refine zar.frameB ?_ ⟨zdL zR, zdC zE, zaA s, trivial⟩ (zao zaA _)
 refine zar.go [("rows", zbW zR), ("ends", zbK zE), ("spot", za s)] B.n_law_later B.lim rfl rfl ?hsw
 case hsw =>
  intro L cd Q0 hQ
  kd_p
  refine ifk (fun hb => ?_) (fun hb => ?_)
  ·have hi : s.2 < row.length := by simp at hb; assumption
   kd_p
   refine zaO 0 (zaG ?_)
   kd_p
   refine ⟨rfl, ?_⟩
   kd_p
   (refine hQ _ _ _ ?_; refine zim rfl (by repeat' first | exact trivial | exact rfl | refine And.intro ?_ ?_) ?_)
   exact ⟨rfl, by unfold later; (exists h3; exists if_pos hi); rfl⟩
  ·kd_p
   refine zaO 0 (zaY [] [] (fun (n : Nat) => .int n) (fun (n : Nat) => za (n, 0)) (fun V => true) ?_)
   refine zaC ?_
   kd_p
   refine (zl8 B e).callE B.n_law_goals (by decide) ?_
   refine ⟨_, zbj, e.goals, rfl, ?_, fun C x V => ?_, rfl, ?_⟩
   ·cases e <;> simp [End.goals, zab]
   ·refine zfe rfl ?_
    kd_p
    exact ⟨rfl, rfl⟩
   kd_p
   (refine hQ _ _ _ ?_; refine zim rfl (zao (f := fun n : Nat => za (n, 0)) (fun V => ⟨trivial, trivial, trivial⟩) _) ?_)
   exact ⟨rfl, by unfold later; rw [h3, if_neg (by simp at hb; kd_mem : ¬ s.2 < row.length), h4, filter_tt, List.map_map]; rfl⟩
end
noncomputable def za4 (s : Spot) : PyData := .tuple [.int s.1, .int s.2]
theorem zfL (s : Spot) : (za s).pd = some (za4 s) := rfl
theorem zhI (a b : Spot) : PyData.eqv (za4 a) (za4 b) = decide (a = b) := by
 obtain ⟨a1, a2⟩ := a; obtain ⟨b1, b2⟩ := b
 simp only [za4, PyData.eqv, PyData.eqvAll, Bool.and_true, Prod.mk.injEq]
 by_cases h1 : a1 = b1 <;> by_cases h2 : a2 = b2 <;> simp [h1, h2, Int.natCast_inj]
theorem zc6 (s : Spot) : zcf (za4 s) := zcc (by rfl) (by simp [za4, PyData.depth, PyData.depthAll])
theorem zcH (l : List Spot) : zcf (.list (l.map za4)) := zcc (zfx (g := za4) (fun s => (zbo (zc6 s)).1) l) (by rw [zdQ]; have := zcA (g := za4) (n := 1) (fun s => by simp [za4, PyData.depth, PyData.depthAll]) l; kd_mem)
theorem zmj {k : Nat} {m : Mu} {l : List Spot} (h : m.lookup k = some (.list (l.map za))) : (AV.loc k).pdm m = some (.list (l.map za4)) := by
 show zoJ (m.lookup k) = _
 exists h; show (AV.pdL _).map _ = _; rw [zcZ zfL]; rfl
theorem zgg (l : List Spot) (x : Spot) : ((l.map za4).any fun y => PyData.eqv y (za4 x)) = decide (x ∈ l) := by
 exists List.any_map
 have : (fun y => PyData.eqv y (za4 x)) ∘ za4 = fun y => decide (y = x) := by funext y; exact zhI y x
 exists this
 by_cases h : x ∈ l
 ·simp [h]
 ·rw [decide_eq_false h, List.any_eq_false]
  intro y hy e; exact h (of_decide_eq_true e ▸ hy)
noncomputable def zag (zR : Rows) : List Spot := (List.range zR.length).flatMap fun b => (List.range ((zR.getD b []).length + 1)).map fun i => (b, i)
theorem zax {zR : Rows} {s : Spot} : s ∈ zag zR ↔ s.1 < zR.length ∧ s.2 ≤ (zR.getD s.1 []).length := by
 obtain ⟨b, i⟩ := s
 simp only [zag, List.mem_flatMap, List.mem_range, List.mem_map, Prod.mk.injEq]
 constructor
 ·rintro ⟨b', h1, i', h2, rfl, rfl⟩; exact ⟨h1, (Nat.le_of_lt_succ ‹_›)⟩
 ·rintro ⟨h1, h2⟩; exact ⟨b, h1, i, (Nat.lt_succ_of_le ‹_›), rfl, rfl⟩
theorem zdH {zR : Rows} {zE : Ends} (S : Sane zR zE) {s t : Spot} (hs : s ∈ zag zR) (ht : t ∈ later zR zE s) : t ∈ zag zR := by
 obtain ⟨h1, h2⟩ := zax.mp hs
 unfold later at ht
 split at ht
 ·rename_i h; replace ht := List.mem_singleton.mp ht; subst ht; exact zax.mpr ⟨h1, by show s.2 + 1 ≤ _; exact h⟩
 ·obtain ⟨e, he, hme⟩ := zay (l := zE) (i := s.1) (by exists S.len; exact h1)
  replace ht := (getD_some he) ▸ ht
  obtain ⟨g, hg, rfl⟩ := List.mem_map.mp ht
  exact zax.mpr ⟨S.goal e hme g hg, Nat.zero_le _⟩
theorem zc2 {zR : Rows} {zE : Ends} (s : Spot) : (later zR zE s).length ≤ 2 := by
 unfold later
 split
 ·simp
 ·cases zE.getD s.1 .panic <;> simp [End.goals]
noncomputable def zaW (zR : Rows) (s : Spot) : Option Ev := (zR.getD s.1 [])[s.2]?
noncomputable def kindAt (zR : Rows) (s : Spot) : Option Kind := (zaW zR s).map (·.kind)
inductive zbw (zR : Rows) (zE : Ends) : Spot → Prop
 | use {s} : kindAt zR s = some .use → zbw zR zE s
 | step {s t} : kindAt zR s ≠ some .lend → t ∈ later zR zE s → zbw zR zE t → zbw zR zE s
noncomputable def zdp (zR : Rows) (met : List Spot) : Nat := ((zag zR).filter fun s => decide (s ∉ met)).length
theorem zdj {α : Type} {p q : α → Bool} (h : ∀ x, q x = true → p x = true) : ∀ {l : List α} {a : α}, a ∈ l → p a = true → q a = false → (l.filter q).length < (l.filter p).length
 | x :: r, a, hm, hp, hq => by
  have le : ∀ l : List α, (l.filter q).length ≤ (l.filter p).length := by
   intro l
   induction l with
   | nil => exact Nat.le_refl _
   | cons y l ih =>
    (exists List.filter_cons; exists List.filter_cons)
    split
    ·rename_i hy; rw [if_pos (h y hy)]; simpa using ih
    ·split
     ·simp; exact Nat.le_succ_of_le ‹_›
     ·exact ih
  (exists List.filter_cons; exists List.filter_cons)
  rcases List.mem_cons.mp hm with e | hm
  ·subst e
   rw [if_pos hp, if_neg (by simp [hq])]
   exact Nat.lt_succ_of_le (le r)
  ·have ih := zdj h hm hp hq
   split
   ·rename_i hx; rw [if_pos (h x hx)]; simpa using ih
   ·split
    ·simp; exact Nat.le_succ_of_le ‹_›
    ·exact ih
theorem zhS {zR : Rows} {met : List Spot} {s : Spot} (hs : s ∈ zag zR) (hn : s ∉ met) : zdp zR (met ++ [s]) < zdp zR met :=
 zdj (fun x hx => by simp at hx ⊢; exact hx.1) hs (by simpa using hn) (by simp)
theorem zfp (m : Mu) : ∃ k, m.lookup k = none := by
 have : ∀ (m : Mu), ∃ n, ∀ k, n ≤ k → m.lookup k = none := by
  intro m
  induction m with
  | nil => exact ⟨0, fun V V => rfl⟩
  | cons p r ih =>
   obtain ⟨n, hn⟩ := ih
   refine ⟨max n (p.1 + 1), fun k hk => ?_⟩
   have h1 : (k == p.1) = false := by simp; kd_mem
   obtain ⟨a, b⟩ := p
   (exists List.lookup_cons; exists h1)
   exact hn k (by kd_mem)
 obtain ⟨n, hn⟩ := this m
 exact ⟨n, hn n (Nat.le_refl _)⟩
theorem zdU {m : Mu} {k : Nat} {m0 : zb4} (h : m.lookup k = some m0) (x : zb4) : ∃ m', zeQ m k x m' := ⟨_, .any h⟩
theorem zd0 {α : Type} {l : List α} (h : l ≠ []) : Ex2 fun i x => l = i ++ [x] := ⟨l.dropLast, l.getLast h, (List.dropLast_concat_getLast h).symm⟩
structure zqI (zR : Rows) (zE : Ends) (s : Spot) (n kl : Nat) (met left : List Spot) (m : Mu) : Prop where
 kl0 : kl ≠ 0
 lm : m.lookup 0 = some (.list (met.map za))
 ll : m.lookup kl = some (.list (left.map za))
 inl : ∀ x ∈ left, x ∈ zag zR ∧ (zbw zR zE x → zbw zR zE s)
 cl : ∀ x ∈ met, kindAt zR x ≠ some .use ∧ (kindAt zR x ≠ some .lend → ∀ t ∈ later zR zE x, t ∈ met ∨ t ∈ left)
 st : s ∈ met ∨ s ∈ left
 fuel : n = 3 * zdp zR met + left.length
 few : met.length + n ≤ 40000
theorem zqI.done {zR : Rows} {zE : Ends} {s : Spot} {n kl : Nat} {met : List Spot} {m : Mu} (I : zqI zR zE s n kl met [] m) : ¬ zbw zR zE s := by
 have : ∀ x, zbw zR zE x → x ∉ met := by
  intro x hx
  induction hx with
  | use h => intro hm; exact (I.cl _ hm).1 h
  | step h ht _ ih =>
   intro hm
   rcases (I.cl _ hm).2 h _ ht with h | h
   ·exact ih h
   ·simp at h
 intro hs
 rcases I.st with h | h
 ·exact this s hs h
 ·simp at h
section
variable {d : Nat} {mu : Mu}
theorem zfo {α β : Type} {f : α → List β} {c : Nat} : ∀ {l : List α}, (∀ x ∈ l, (f x).length ≤ c) → (l.flatMap f).length ≤ c * l.length
 | [], _ => by simp
 | x :: l, h => by
  have := zfo (l := l) fun y hy => h y (List.mem_cons_of_mem _ hy)
  have := h x List.mem_cons_self
  (exists List.flatMap_cons; exists List.length_append; exists List.length_cons); kd_mem
theorem znr {zR : Rows} {zE : Ends} (S : Sane zR zE) : (zag zR).length ≤ 10000 := by
 have h1 := S.few
 have : (zag zR).length ≤ 100 * (List.range zR.length).length := zfo fun b hb => by
  obtain ⟨r, hr, hm⟩ := zay (List.mem_range.mp hb)
  exists getD_some hr
  have := S.row r hm
  simp; exact Nat.le_of_lt_succ ‹_›
 simp at this; kd_mem
theorem ziK {zR : Rows} {zE : Ends} (S : Sane zR zE) (met : List Spot) : zdp zR met ≤ 10000 := Nat.le_trans (List.length_filter_le _ _) (znr S)
theorem zmh : ∀ k : Kind, PyData.strOk k.str = true := by intro k; cases k <;> decide +kernel
theorem zog : ∀ k : Kind, k.str = Str.ofString "use" ↔ k = .use := by intro k; cases k <;> decide +kernel
theorem zir : ∀ k : Kind, k.str = Str.ofString "lend" ↔ k = .lend := by intro k; cases k <;> decide +kernel
theorem zm2 (zR : Rows) (s : Spot) : Ex2 fun wd pl => zbI (zeV zR s = .tup [.str wd, pl]) ((wd = Str.ofString "use" ↔ kindAt zR s = some .use)) ((wd = Str.ofString "lend" ↔ kindAt zR s = some .lend)) (PyData.strOk wd = true) := by
 delta zeV kindAt zaW
 cases (zR.getD s.1 [])[s.2]? with
 | none => exact ⟨_, _, rfl, by decide +kernel, by decide +kernel, by decide +kernel⟩
 | some e => exact ⟨_, _, rfl, by simpa using zog e.kind, by simpa using zir e.kind, zmh e.kind⟩
theorem zmq {k : Nat} {l : List Spot} {Q : QA} (h : mu.lookup k = some (.list (l.map za))) (q : Q (.bool (!l.isEmpty)) mu) : Op2 w H d (compareOp .NotEq) (.loc k) (.lst []) mu Q :=
 zeh (da := .list (l.map za4)) (db := .list []) (c := !l.isEmpty) (zmj h) rfl (zcH l) (by kpf_c) (by cases l <;> rfl) q
theorem zoG {k : Nat} {l : List Spot} {x : Spot} {Q : QA} (h : mu.lookup k = some (.list (l.map za))) (q : Q (.bool (decide (x ∈ l))) mu) : Op2 w H d (compareOp .In) (za x) (.loc k) mu Q :=
 zkp (dx := za4 x) (ds := l.map za4) (b := decide (x ∈ l)) rfl (.inl (zmj h)) (zc6 x) (zcH l) (zgg l x) q
theorem zpu (B : Facts w H) (zR : Rows) (zE : Ends) (S : Sane zR zE) (s : Spot) (hs : s ∈ zag zR) : zal w H 3 (.ref 438) [zbW zR, zbK zE, za s] fun r => ∃ b, r = .bool b ∧ (b = true ↔ zbw zR zE s) := by
 have g_law_here := B.g_law_here
 have g_law_later := B.g_law_later
 refine zal.go [("rows", zbW zR), ("ends", zbK zE), ("spot", za s)] B.n_law_lives B.lim rfl rfl ⟨zdL zR, zdC zE, zaA s, trivial⟩ ?hsw
 case hsw =>
  intro L cd Q0 hQ
  refine zce (zfP ["met", "left"] ?_ ?_ (by with_unfolding_all rfl))
  ·kd_p
   refine zaO 0 (zaG ?_)
   kd_p
   refine ⟨rfl, ?_⟩
   kd_p
   refine zaO 1 (zaG ?_)
   kd_p
   refine ⟨rfl, ?_⟩
   kd_p
   refine ⟨_, rfl, rfl, za7 ?_⟩
   kd_p
   refine za7 ?_
   kd_p
   refine zdK ?_
   kd_p
   refine zeC (fun n v m => Ex3 fun kl met left => v = ([("rows", zbW zR), ("ends", zbK zE), ("spot", za s), ("left", .loc kl), ("met", .loc 0)] : zaf) ∧ zqI zR zE s n kl met left m) _ ⟨1, [], [s], rfl, ⟨by decide, rfl, rfl, fun x hx => by rw [List.mem_singleton.mp hx]; exact ⟨hs, id⟩, fun x hx => by simp at hx, .inr (by simp), rfl, ?_⟩⟩ ?_
   ·have := ziK S []; simp; kd_mem
   intro Q1 n hN
   intro v m hq2'
   kcf_m
   obtain ⟨kl, met, left, rfl, I⟩ := hq2'
   kcj_m
   kd_p
   refine zam (zaG ?_)
   kd_p
   refine zmq I.ll ?_
   kd_p
   refine ifk (fun hb => ?_) (fun hb => ?_)
   rotate_left
   ·have : left = [] := by simpa using hb
    subst this
    kd_p
    (refine hQ _ _ _ ?_; exact zaa trivial ⟨⟨false, rfl, by simpa using I.done⟩, rfl⟩)
   obtain ⟨init, here, rfl⟩ := zd0 (l := left) (by simpa using hb)
   have hlen : (init ++ [here]).length = init.length + 1 := by simp
   have hfew := I.few
   have hfuel := I.fuel
   have hin := I.inl here (by simp)
   kd_p
   refine zi3 ?_
   kd_p
   refine ⟨kl, init.map za, za here, rfl, by rw [I.ll, List.map_append]; rfl, by rw [List.length_map, zab]; kd_mem, ?_⟩
   obtain ⟨m1, p1⟩ := zdU I.ll (.list (init.map za))
   refine ⟨m1, p1, ?_⟩
   have l0 : m1.lookup 0 = some (.list (met.map za)) := by rw [p1.2, if_neg (Ne.symm I.kl0)]; exact I.lm
   have l1 : m1.lookup kl = some (.list (init.map za)) := by rw [p1.2, if_pos rfl]
   kd_p
   refine zoG l0 ?_
   kd_p
   refine ifk (fun hc => ?_) (fun hc => ?_)
   ·have hm : here ∈ met := of_decide_eq_true hc
    kd_p
    (refine hN _ _ _ ?_; refine zf8 _ [_] rfl ⟨n - 1, by kd_mem, kl, met, init, rfl, I.kl0, l0, l1, fun x hx => I.inl x (by simp [hx]), fun x hx => ⟨(I.cl x hx).1, fun h t ht => ?_⟩, ?_, by kd_mem, by kd_mem⟩)
    ·rcases (I.cl x hx).2 h t ht with h | h
     ·exact .inl h
     ·rcases List.mem_append.mp h with h | h
      ·exact .inr h
      ·rw [List.mem_singleton.mp h]; exact .inl hm
    ·rcases I.st with h | h
     ·exact .inl h
     ·rcases List.mem_append.mp h with h | h
      ·exact .inr h
      ·rw [List.mem_singleton.mp h]; exact .inl hm
   have hm : here ∉ met := of_decide_eq_false hc
   have hless := zhS hin.1 hm
   kd_p
   refine za1 (zbe ?_)
   kd_p
   refine ⟨0, _, rfl, l0, ?_⟩
   kd_p
   refine ⟨_, l0, by rw [List.length_map, zab]; omega, ?_⟩
   obtain ⟨m2, p2⟩ := zdU l0 (.list ((met ++ [here]).map za))
   refine ⟨m2, by rw [List.map_append] at p2; exact p2, ?_⟩
   have k0 : m2.lookup 0 = some (.list ((met ++ [here]).map za)) := by rw [p2.2, if_pos rfl]
   have k1 : m2.lookup kl = some (.list (init.map za)) := by rw [p2.2, if_neg I.kl0]; exact l1
   kd_p
   refine (zhb B zR zE S here (zax.mp hin.1).1).callE B.n_law_here (by decide) ?_
   obtain ⟨wd, pl, hwd, huse, hlend, hok⟩ := zm2 zR here
   rw [hwd]
   kd_p
   refine ifk (fun hu => ?_) (fun hu => ?_)
   ·have hL : zbw zR zE here := .use (huse.mp (of_decide_eq_true hu))
    kd_p
    (refine hN _ _ _ ?_; refine zho ?_; refine hQ _ _ _ ?_; exact zaa trivial ⟨⟨true, rfl, by simpa using hin.2 hL⟩, rfl⟩)
   have hnu : kindAt zR here ≠ some .use := fun h => of_decide_eq_false hu (huse.mpr h)
   kd_p
   have hst : s ∈ met ++ [here] ∨ s ∈ init := by
    rcases I.st with h | h
    ·exact .inl (by simp [h])
    ·rcases List.mem_append.mp h with h | h
     ·exact .inr h
     ·exact .inl (by rw [List.mem_singleton.mp h]; simp)
   have hcl : ∀ x ∈ met, kindAt zR x ≠ some .use ∧ (kindAt zR x ≠ some .lend → ∀ t ∈ later zR zE x, t ∈ met ++ [here] ∨ t ∈ init) := fun x hx => ⟨(I.cl x hx).1, fun h t ht => by
    rcases (I.cl x hx).2 h t ht with h | h
    ·exact .inl (by simp [h])
    ·rcases List.mem_append.mp h with h | h
     ·exact .inr h
     ·exact .inl (by rw [List.mem_singleton.mp h]; simp)⟩
   have hfm : (met ++ [here]).length = met.length + 1 := by simp
   refine ifk (fun hl => ?_) (fun hl => ?_)
   ·have hnl : kindAt zR here ≠ some .lend := fun h => by simp [hlend.mpr h] at hl
    iterate 2 x_close
    obtain ⟨k2, hk2⟩ := zfp m2
    have hlt := zc2 (zR := zR) (zE := zE) here
    refine zaO k2 (zeu ?_)
    kd_p
    refine (zfk B zR zE S here (zax.mp hin.1).1).call B.n_law_later (by decide) .frozen ?_
    refine ⟨init.map za, (later zR zE here).map za, ?_, rfl, ?_, hk2, ?_⟩
    ·exact congrArg zn k1
    ·rw [List.length_map, List.length_map, zab]; kd_mem
    kd_p
    have h20 : k2 ≠ 0 := by rintro rfl; rw [k0] at hk2; cases hk2
    have hll : (init ++ later zR zE here).length = init.length + (later zR zE here).length := by simp
    (refine hN _ _ _ ?_; refine zaj _ [_, _] rfl ⟨3 * zdp zR (met ++ [here]) + (init ++ later zR zE here).length, by kd_mem, k2, met ++ [here], init ++ later zR zE here, rfl, h20, ?_, ?_, ?_, ?_, ?_, rfl, by kd_mem⟩)
    ·rw [List.lookup_cons, show ((0 : Nat) == k2) = false by simp; kd_mem]; exact k0
    ·rw [List.lookup_cons, beq_self_eq_true, List.map_append]
    ·intro x hx
     rcases List.mem_append.mp hx with hx | hx
     ·exact I.inl x (by simp [hx])
     ·exact ⟨zdH S hin.1 hx, fun h => hin.2 (.step hnl hx h)⟩
    ·intro x hx
     rcases List.mem_append.mp hx with hx | hx
     ·refine ⟨(hcl x hx).1, fun h t ht => ?_⟩
      rcases (hcl x hx).2 h t ht with h | h
      ·exact .inl h
      ·exact .inr (by simp [h])
     ·rw [List.mem_singleton.mp hx]; exact ⟨hnu, fun V t ht => .inr (by simp [ht])⟩
    ·rcases hst with h | h
     ·exact .inl h
     ·exact .inr (by simp [h])
   ·have hnl : kindAt zR here = some .lend := hlend.mp (by simpa using hl)
    kd_p
    (refine hN _ _ _ ?_; refine zaj _ [_, _] rfl ⟨3 * zdp zR (met ++ [here]) + init.length, by kd_mem, kl, met ++ [here], init, rfl, I.kl0, k0, k1, fun x hx => I.inl x (by simp [hx]), fun x hx => ?_, hst, rfl, by kd_mem⟩)
    rcases List.mem_append.mp hx with hx | hx
    ·exact hcl x hx
    ·rw [List.mem_singleton.mp hx]; exact ⟨hnu, fun h => (h hnl).elim⟩
  ·intro x hx
   simp at hx
   rcases hx with rfl | rfl <;> tb_start
end
noncomputable def wordAt (zR : Rows) (s : Spot) : Str := match zaW zR s with
 | some e => e.kind.str
 | none => ""
noncomputable def placeAt (zR : Rows) (s : Spot) : Place := match zaW zR s with
 | some e => e.place
 | none => ⟨0, []⟩
theorem zgM (zR : Rows) (s : Spot) : zeV zR s = .tup [.str (wordAt zR s), (placeAt zR s).av] := by
 delta zeV wordAt placeAt zaW
 cases (zR.getD s.1 [])[s.2]? <;> rfl
theorem zjs (zR : Rows) (s : Spot) : PyData.strOk (wordAt zR s) = true := by
 unfold wordAt
 cases zaW zR s with
 | none => decide +kernel
 | some e => exact zmh e.kind
theorem zlk : ∀ k : Kind, k.str = Str.ofString "write" ↔ k = .write := by intro k; cases k <;> decide +kernel
theorem zm8 : ∀ k : Kind, k.str = Str.ofString "dead" ↔ k = .dead := by intro k; cases k <;> decide +kernel
theorem ze3 (zR : Rows) (s : Spot) : wordAt zR s = Str.ofString "write" ↔ kindAt zR s = some .write := by
 unfold wordAt kindAt
 cases zaW zR s with
 | none => exact ⟨fun h => absurd h (by decide +kernel), fun h => by simp at h⟩
 | some e => simpa using zlk e.kind
theorem zgl (zR : Rows) (s : Spot) : wordAt zR s = Str.ofString "dead" ↔ kindAt zR s = some .dead := by
 unfold wordAt kindAt
 cases zaW zR s with
 | none => exact ⟨fun h => absurd h (by decide +kernel), fun h => by simp at h⟩
 | some e => simpa using zm8 e.kind
theorem zny (zR : Rows) (s : Spot) : wordAt zR s = Str.ofString "lend" ↔ kindAt zR s = some .lend := by
 unfold wordAt kindAt
 cases zaW zR s with
 | none => exact ⟨fun h => absurd h (by decide +kernel), fun h => by simp at h⟩
 | some e => simpa using zir e.kind
theorem zge {zR : Rows} {zE : Ends} (S : Sane zR zE) (s : Spot) : (placeAt zR s).steps.length < 100 := by
 delta placeAt zaW
 cases h : (zR.getD s.1 [])[s.2]? with
 | none => simp
 | some e =>
  have h1 : e ∈ zR.getD s.1 [] := List.mem_of_getElem? h
  have h2 : zR.getD s.1 [] ∈ zR ∨ zR.getD s.1 [] = [] := by
   exists List.getD_eq_getElem?_getD
   cases h3 : zR[s.1]? with
   | none => right; rfl
   | some r => left; exact List.mem_of_getElem? h3
  rcases h2 with h2 | h2
  ·exact S.place _ h2 e h1
  ·replace h1 := (h2) ▸ h1; contradiction
noncomputable def zcm (zR : Rows) (lent : Place) (s : Spot) : Bool :=
 (decide (kindAt zR s = some .write) && zec lent (placeAt zR s)) || (decide (kindAt zR s = some .dead) && lent.loc == 1)
inductive Span (zR : Rows) (zE : Ends) (lv : List Spot) (b : Spot) : Spot → Prop
 | first {t} : t ∈ later zR zE b → t ∈ lv → Span zR zE lv b t
 | step {u t} : Span zR zE lv b u → zcm zR (placeAt zR b) u = false → t ∈ later zR zE u → t ∈ lv → Span zR zE lv b t
structure zmL (zR : Rows) (zE : Ends) (lv : List Spot) (b : Spot) (n kl : Nat) (met left : List Spot) (m : Mu) : Prop where
 kl0 : kl ≠ 0
 lm : m.lookup 0 = some (.list (met.map za))
 ll : m.lookup kl = some (.list (left.map za))
 inl : ∀ x ∈ left, x ∈ zag zR ∧ (x ∈ lv → Span zR zE lv b x)
 inm : ∀ x ∈ met, Span zR zE lv b x
 cl : ∀ x ∈ met, zcm zR (placeAt zR b) x = false → ∀ t ∈ later zR zE x, t ∈ lv → t ∈ met ∨ t ∈ left
 st : ∀ t ∈ later zR zE b, t ∈ lv → t ∈ met ∨ t ∈ left
 fuel : n = 3 * zdp zR met + left.length
 few : met.length + n ≤ 40000
theorem zmL.done {zR : Rows} {zE : Ends} {lv : List Spot} {b : Spot} {n kl : Nat} {met : List Spot} {m : Mu} (I : zmL zR zE lv b n kl met [] m) : ∀ t, t ∈ met ↔ Span zR zE lv b t := by
 intro t
 refine ⟨I.inm t, fun h => ?_⟩
 induction h with
 | first h1 h2 => simpa using I.st _ h1 h2
 | step _ h1 h2 h3 ih => simpa using I.cl _ ih h1 _ h2 h3
section
variable {d : Nat} {mu : Mu}
theorem znh {l : List Spot} {x : Spot} {Q : QA} (q : Q (.bool (decide (x ∈ l))) mu) : Op2 w H d (compareOp .In) (za x) (.lst (l.map za)) mu Q :=
 zkp (dx := za4 x) (ds := l.map za4) (b := decide (x ∈ l)) rfl (.inl (by show (AV.pdL _).map _ = _; rw [zcZ zfL]; rfl)) (zc6 x) (zcH l) (zgg l x) q
theorem zjg {l : List Spot} {x : Spot} {Q : QA} (q : Q (.bool (!decide (x ∈ l))) mu) : Op2 w H d (compareOp .NotIn) (za x) (.lst (l.map za)) mu Q :=
 zfB (dx := za4 x) (ds := l.map za4) (b := !decide (x ∈ l)) rfl (.inl (by show (AV.pdL _).map _ = _; rw [zcZ zfL]; rfl)) (zc6 x) (zcH l) (by rw [zgg l x]) q
theorem zq0 (B : Facts w H) (zR : Rows) (zE : Ends) (S : Sane zR zE) (b : Spot) (hb : b ∈ zag zR) (lv : List Spot) :
  zal w H 3 (.ref 445) [zbW zR, zbK zE, za b, .lst (lv.map za)] fun r => ∃ met : List Spot, r = .lst (met.map za) ∧ ∀ t, t ∈ met ↔ Span zR zE lv b t := by
 have g_law_here := B.g_law_here
 have g_law_later := B.g_law_later
 have g_law_is_part := B.g_law_is_part
 refine zal.go [("rows", zbW zR), ("ends", zbK zE), ("begin", za b), ("lives", .lst (lv.map za))] B.n_law_span B.lim rfl rfl ⟨zdL zR, zdC zE, zaA b, zao zaA lv, trivial⟩ ?hsw
 case hsw =>
  intro L cd Q0 hQ
  have hlt := zc2 (zR := zR) (zE := zE) b
  refine zce (zfP ["met", "left", "lent"] ?_ ?_ (by with_unfolding_all rfl))
  ·kd_p
   refine zaO 0 (zaG ?_)
   kd_p
   refine ⟨rfl, ?_⟩
   kd_p
   refine (zfk B zR zE S b (zax.mp hb).1).call B.n_law_later (by decide) (.born (k := 1) rfl) ?_
   kd_p
   refine (zhb B zR zE S b (zax.mp hb).1).callE B.n_law_here (by decide) ?_
   rw [zgM]
   kd_p
   refine ⟨_, rfl, rfl, za7 ?_⟩
   kd_p
   refine za7 ?_
   kd_p
   refine za7 ?_
   kd_p
   refine zdK ?_
   kd_p
   refine zeC (fun n v m => ∃ kl, ∃ met left : List Spot, v = ([("rows", zbW zR), ("ends", zbK zE), ("begin", za b), ("lives", .lst (lv.map za)), ("lent", (placeAt zR b).av), ("left", .loc kl), ("met", .loc 0)] : zaf) ∧ zmL zR zE lv b n kl met left m) _ ⟨1, [], later zR zE b, rfl, ⟨by decide, rfl, rfl, fun x hx => ⟨zdH S hb hx, fun h => .first hx h⟩, fun x hx => by simp at hx, fun x hx => by simp at hx, fun t ht V => .inr ht, rfl, ?_⟩⟩ ?_
   ·have := ziK S []; simp; kd_mem
   intro Q1 n hN
   intro v m hq2'
   kcf_m
   obtain ⟨kl, met, left, rfl, I⟩ := hq2'
   kcj_m
   kd_p
   refine zam (zaG ?_)
   kd_p
   refine zmq I.ll ?_
   kd_p
   refine ifk (fun hb => ?_) (fun hb => ?_)
   rotate_left
   ·have : left = [] := by simpa using hb
    subst this
    kd_p
    (refine hQ _ _ _ ?_; exact zbl I.lm (zao zaA _) ⟨⟨met, rfl, I.done⟩, rfl⟩)
   obtain ⟨init, here, rfl⟩ := zd0 (l := left) (by simpa using hb)
   have hlen : (init ++ [here]).length = init.length + 1 := by simp
   have hfew := I.few
   have hfuel := I.fuel
   have hin := I.inl here (by simp)
   kd_p
   refine zi3 ?_
   kd_p
   refine ⟨kl, init.map za, za here, rfl, by rw [I.ll, List.map_append]; rfl, by rw [List.length_map, zab]; kd_mem, ?_⟩
   obtain ⟨m1, p1⟩ := zdU I.ll (.list (init.map za))
   refine ⟨m1, p1, ?_⟩
   have l0 : m1.lookup 0 = some (.list (met.map za)) := by rw [p1.2, if_neg (Ne.symm I.kl0)]; exact I.lm
   have l1 : m1.lookup kl = some (.list (init.map za)) := by rw [p1.2, if_pos rfl]
   have skip : here ∉ lv ∨ here ∈ met → zmL zR zE lv b (n - 1) kl met init m1 := by
    intro hs
    have mv : ∀ t, t ∈ lv → t ∈ met ∨ t ∈ init ++ [here] → t ∈ met ∨ t ∈ init := by
     intro t hv h
     rcases h with h | h
     ·exact .inl h
     ·rcases List.mem_append.mp h with h | h
      ·exact .inr h
      ·rw [List.mem_singleton.mp h] at hv ⊢
       rcases hs with hs | hs
       ·exact absurd hv hs
       ·exact .inl hs
    exact ⟨I.kl0, l0, l1, fun x hx => I.inl x (by simp [hx]), I.inm, fun x hx h t ht hv => mv t hv (I.cl x hx h t ht hv), fun t ht hv => mv t hv (I.st t ht hv), by kd_mem, by kd_mem⟩
   kd_p
   refine zjg ?_
   kd_p
   refine ifb (fun hc => ?_) (fun hc => ?_)
   ·have hc : here ∉ lv := by simpa using hc
    kd_p
    (refine hN _ _ _ ?_; exact zf8 _ [_] rfl ⟨n - 1, by kd_mem, kl, met, init, rfl, skip (.inl hc)⟩)
   have hv : here ∈ lv := by simpa using hc
   kd_p
   refine zoG l0 ?_
   kd_p
   refine ifb (fun hc => ?_) (fun hc => ?_)
   ·have hm : here ∈ met := of_decide_eq_true hc
    kd_p
    (refine hN _ _ _ ?_; exact zf8 _ [_] rfl ⟨n - 1, by kd_mem, kl, met, init, rfl, skip (.inr hm)⟩)
   have hm : here ∉ met := of_decide_eq_false hc
   have hless := zhS hin.1 hm
   kd_p
   refine za1 (zbe ?_)
   kd_p
   refine ⟨0, _, rfl, l0, ?_⟩
   kd_p
   refine ⟨_, l0, by rw [List.length_map, zab]; kd_mem, ?_⟩
   obtain ⟨m2, p2⟩ := zdU l0 (.list ((met ++ [here]).map za))
   refine ⟨m2, by rw [List.map_append] at p2; exact p2, ?_⟩
   have k0 : m2.lookup 0 = some (.list ((met ++ [here]).map za)) := by rw [p2.2, if_pos rfl]
   have k1 : m2.lookup kl = some (.list (init.map za)) := by rw [p2.2, if_neg I.kl0]; exact l1
   have hS := hin.2 hv
   have hinm : ∀ x ∈ met ++ [here], Span zR zE lv b x := fun x hx => by
    rcases List.mem_append.mp hx with hx | hx
    ·exact I.inm x hx
    ·rw [List.mem_singleton.mp hx]; exact hS
   have mv : ∀ t, t ∈ met ∨ t ∈ init ++ [here] → t ∈ met ++ [here] ∨ t ∈ init := by
    intro t h
    rcases h with h | h
    ·exact .inl (by simp [h])
    ·rcases List.mem_append.mp h with h | h
     ·exact .inr h
     ·exact .inl (by rw [List.mem_singleton.mp h]; simp)
   have hfm : (met ++ [here]).length = met.length + 1 := by simp
   have hpb := zge S b
   have hph := zge S here
   have nonext : zcm zR (placeAt zR b) here = true → zmL zR zE lv b (3 * zdp zR (met ++ [here]) + init.length) kl (met ++ [here]) init m2 := by
    intro hs
    refine ⟨I.kl0, k0, k1, fun x hx => I.inl x (by simp [hx]), hinm, fun x hx h t ht hv => ?_, fun t ht hv => mv t (I.st t ht hv), rfl, by kd_mem⟩
    rcases List.mem_append.mp hx with hx | hx
    ·exact mv t (I.cl x hx h t ht hv)
    ·rw [List.mem_singleton.mp hx, hs] at h; cases h
   have onext : zcm zR (placeAt zR b) here = false → ∀ k2 mm, k2 ≠ 0 → mm.lookup 0 = some (.list ((met ++ [here]).map za)) → mm.lookup k2 = some (.list ((init ++ later zR zE here).map za)) → zmL zR zE lv b (3 * zdp zR (met ++ [here]) + (init ++ later zR zE here).length) k2 (met ++ [here]) (init ++ later zR zE here) mm := by
    intro hs k2 mm h20 hm0 hmk
    have hll : (init ++ later zR zE here).length = init.length + (later zR zE here).length := by simp
    have hlt2 := zc2 (zR := zR) (zE := zE) here
    have mv2 : ∀ t, t ∈ met ∨ t ∈ init ++ [here] → t ∈ met ++ [here] ∨ t ∈ init ++ later zR zE here := fun t h => (mv t h).imp id fun h => by simp [h]
    refine ⟨h20, hm0, hmk, fun x hx => ?_, hinm, fun x hx h t ht hv => ?_, fun t ht hv => mv2 t (I.st t ht hv), rfl, by kd_mem⟩
    ·rcases List.mem_append.mp hx with hx | hx
     ·exact I.inl x (by simp [hx])
     ·exact ⟨zdH S hin.1 hx, fun h => .step hS hs hx h⟩
    ·rcases List.mem_append.mp hx with hx | hx
     ·exact mv2 t (I.cl x hx h t ht hv)
     ·rw [List.mem_singleton.mp hx] at ht; exact .inr (by simp [ht])
   kd_p
   refine (zhb B zR zE S here (zax.mp hin.1).1).callE B.n_law_here (by decide) ?_
   rw [zgM]
   have hok := zjs zR here
   kd_p
   refine ifb (fun hw => ?_) (fun hw => ?_)
   ·have hk : kindAt zR here = some .write := (ze3 zR here).mp (of_decide_eq_true hw)
    kd_p
    refine (zf2 B (placeAt zR b) (placeAt zR here) (by kd_mem) (by kd_mem)).callE B.n_law_is_part (by decide) ?_
    kd_p
    refine ifb (fun hp => ?_) (fun hp => ?_)
    ·have hs : zcm zR (placeAt zR b) here = true := by simp [zcm, hk, hp]
     kd_p
     refine zf3 ?_
     kd_p
     (refine hN _ _ _ ?_; refine zaj _ [_, _, _] rfl ⟨3 * zdp zR (met ++ [here]) + init.length, by kd_mem, kl, met ++ [here], init, rfl, nonext hs⟩)
    have hs : zcm zR (placeAt zR b) here = false := by simp [zcm, hk, hp]
    kd_p
    refine ifb (fun hd => ?_) (fun hd => ?_)
    ·have := (zgl zR here).mp (of_decide_eq_true hd)
     rw [hk] at this; cases this
    repeat (first | with_reducible refine zfs ?_ | with_reducible refine zex ?_ | with_reducible refine zd3 ?_ | with_reducible refine zeD ?_)
    refine zft ?_
    refine zce (zbX ?_ (by tb_start))
    obtain ⟨k2, hk2⟩ := zfp m2
    have hlt := zc2 (zR := zR) (zE := zE) here
    refine zaO k2 (zeu ?_)
    kd_p
    refine (zfk B zR zE S here (zax.mp hin.1).1).call B.n_law_later (by decide) .frozen ?_
    refine ⟨init.map za, (later zR zE here).map za, ?_, rfl, ?_, hk2, ?_⟩
    ·exact congrArg zn k1
    ·rw [List.length_map, List.length_map, zab]; kd_mem
    kd_p
    have h20 : k2 ≠ 0 := by rintro rfl; rw [k0] at hk2; cases hk2
    have hll : (init ++ later zR zE here).length = init.length + (later zR zE here).length := by simp
    (refine hN _ _ _ ?_; refine zaj _ [_, _, _] rfl ⟨3 * zdp zR (met ++ [here]) + (init ++ later zR zE here).length, ?_, k2, met ++ [here], init ++ later zR zE here, rfl, onext hs k2 _ h20 ?_ ?_⟩)
    ·kd_mem
    ·rw [List.lookup_cons, show ((0 : Nat) == k2) = false by simp; kd_mem]; exact k0
    ·rw [List.lookup_cons, beq_self_eq_true, List.map_append]
   have hk : kindAt zR here ≠ some .write := fun h => of_decide_eq_false hw ((ze3 zR here).mpr h)
   kd_p
   refine ifb (fun hd => ?_) (fun hd => ?_)
   ·have hk2 : kindAt zR here = some .dead := (zgl zR here).mp (of_decide_eq_true hd)
    kd_p
    refine ifb (fun hp => ?_) (fun hp => ?_)
    ·have hs : zcm zR (placeAt zR b) here = true := by simp [zcm, hk2]; simpa using hp
     kd_p
     refine zf3 ?_
     kd_p
     (refine hN _ _ _ ?_; refine zaj _ [_, _, _] rfl ⟨3 * zdp zR (met ++ [here]) + init.length, by kd_mem, kl, met ++ [here], init, rfl, nonext hs⟩)
    ·have hs : zcm zR (placeAt zR b) here = false := by simp [zcm, hk2]; simpa using hp
     repeat (first | with_reducible refine zfs ?_ | with_reducible refine zex ?_ | with_reducible refine zd3 ?_ | with_reducible refine zeD ?_)
     refine zft ?_
     refine zce (zbX ?_ (by tb_start))
     obtain ⟨k2, hk2⟩ := zfp m2
     have hlt := zc2 (zR := zR) (zE := zE) here
     refine zaO k2 (zeu ?_)
     kd_p
     refine (zfk B zR zE S here (zax.mp hin.1).1).call B.n_law_later (by decide) .frozen ?_
     refine ⟨init.map za, (later zR zE here).map za, ?_, rfl, ?_, hk2, ?_⟩
     ·exact congrArg zn k1
     ·rw [List.length_map, List.length_map, zab]; kd_mem
     kd_p
     have h20 : k2 ≠ 0 := by rintro rfl; rw [k0] at hk2; cases hk2
     have hll : (init ++ later zR zE here).length = init.length + (later zR zE here).length := by simp
     (refine hN _ _ _ ?_; refine zaj _ [_, _, _] rfl ⟨3 * zdp zR (met ++ [here]) + (init ++ later zR zE here).length, ?_, k2, met ++ [here], init ++ later zR zE here, rfl, onext hs k2 _ h20 ?_ ?_⟩)
     ·kd_mem
     ·rw [List.lookup_cons, show ((0 : Nat) == k2) = false by simp; kd_mem]; exact k0
     ·rw [List.lookup_cons, beq_self_eq_true, List.map_append]
   ·have hk2 : kindAt zR here ≠ some .dead := fun h => of_decide_eq_false hd ((zgl zR here).mpr h)
    have hs : zcm zR (placeAt zR b) here = false := by simp [zcm, hk, hk2]
    repeat (first | with_reducible refine zfs ?_ | with_reducible refine zex ?_ | with_reducible refine zd3 ?_ | with_reducible refine zeD ?_)
    refine zft ?_
    refine zce (zbX ?_ (by tb_start))
    obtain ⟨k2, hk2⟩ := zfp m2
    have hlt := zc2 (zR := zR) (zE := zE) here
    refine zaO k2 (zeu ?_)
    kd_p
    refine (zfk B zR zE S here (zax.mp hin.1).1).call B.n_law_later (by decide) .frozen ?_
    refine ⟨init.map za, (later zR zE here).map za, ?_, rfl, ?_, hk2, ?_⟩
    ·exact congrArg zn k1
    ·rw [List.length_map, List.length_map, zab]; kd_mem
    kd_p
    have h20 : k2 ≠ 0 := by rintro rfl; rw [k0] at hk2; cases hk2
    have hll : (init ++ later zR zE here).length = init.length + (later zR zE here).length := by simp
    (refine hN _ _ _ ?_; refine zaj _ [_, _, _] rfl ⟨3 * zdp zR (met ++ [here]) + (init ++ later zR zE here).length, ?_, k2, met ++ [here], init ++ later zR zE here, rfl, onext hs k2 _ h20 ?_ ?_⟩)
    ·kd_mem
    ·rw [List.lookup_cons, show ((0 : Nat) == k2) = false by simp; kd_mem]; exact k0
    ·rw [List.lookup_cons, beq_self_eq_true, List.map_append]
  ·intro x hx
   simp at hx
   rcases hx with rfl | rfl | rfl <;> tb_start
end
noncomputable abbrev Ev.line (e : Ev) : AV := match e.kind with
 | .lend => .tup [.str "assign", .tup [.int 4, .tup []], .tup [.str "ref", .int 4, .str "shared", e.place.av]]
 | .use => .tup [.str "print", .tup [.str "copy", .tup [.int 4, .tup [.tup [.str "deref"]]]]]
 | .dead => .tup [.str "dead", .int 1]
 | .write => .tup [.str "assign", e.place.av, .tup [.str "use", .tup [.str "const", .tup [.str "int", .str "u8"], .int 1]]]
theorem Ev.line_locs {D : Nat → Bool} (e : Ev) : e.line.locs D := by
 unfold Ev.line
 split <;> (repeat' first | exact trivial | exact zao Step.locs _ | refine And.intro ?_ ?_)
noncomputable abbrev zi7 (r : List Ev) : AV := .lst (r.map Ev.line)
noncomputable abbrev zfc (p : List Ev × End) : AV := .lst [zi7 p.1, p.2.av]
noncomputable abbrev zcO (zR : Rows) (zE : Ends) : AV := .lst ((zR.zip zE).map zfc)
noncomputable abbrev zg2 : List Str := ["name", "arg_count", "locals", "blocks", "spots"]
noncomputable abbrev zas (zR : Rows) (zE : Ends) (lo sp : AV) : AV := .obj 177 zg2 [.str "b", .int 0, lo, zcO zR zE, sp]
theorem zhj {D : Nat → Bool} (r : List Ev) : (zi7 r).locs D := zao Ev.line_locs r
theorem zk0 {D : Nat → Bool} (p : List Ev × End) : (zfc p).locs D := ⟨zhj p.1, p.2.locs, trivial⟩
theorem zgo {D : Nat → Bool} (zR : Rows) (zE : Ends) : (zcO zR zE).locs D := zao zk0 _
theorem zaM {D : Nat → Bool} {zR : Rows} {zE : Ends} {lo sp : AV} (hL : lo.locs D) (hs : sp.locs D) : (zas zR zE lo sp).locs D := ⟨trivial, trivial, hL, zgo zR zE, hs, trivial⟩
structure zbm (zR : Rows) (zE : Ends) : Prop extends Sane zR zE where
 tiny : (zag zR).length ≤ 16
 pos : 0 < zR.length
 loc : ∀ r ∈ zR, ∀ e ∈ r, e.place.loc = 1 ∨ e.place.loc = 2 ∨ e.place.loc = 3
theorem zip_get {zR : Rows} {zE : Ends} (S : Sane zR zE) {b : Nat} (hb : b < zR.length) : Ex2 fun row e => znA (zR[b]? = some row) (zE[b]? = some e) ((zR.zip zE)[b]? = some (row, e)) (row.length < 100) (zR.getD b [] = row) (zE.getD b .panic = e) := by
 kcf_m
 obtain ⟨row, hrow, hmem⟩ := zay hb
 kcj_m
 obtain ⟨e, he, V⟩ := zay (l := zE) (i := b) (by exists S.len; exact hb)
 refine ⟨row, e, hrow, he, ?_, S.row row hmem, getD_some hrow, getD_some he⟩
 rw [List.getElem?_zip_eq_some]; exact ⟨hrow, he⟩
theorem zbd {zR : Rows} {zE : Ends} (S : Sane zR zE) : (zR.zip zE).length = zR.length := by
 (exists List.length_zip; exists S.len); simp
section
variable {d : Nat}
theorem zqY (B : Facts w H) (e : Ev) : zal w H 1 (.ref 398) [e.av] fun r => r = e.line := by
 refine zal.go [("event", e.av)] B.n_law_line B.lim rfl rfl ⟨e.locs, trivial⟩ ?hsw
 case hsw =>
  intro L cd Q0 hQ
  obtain ⟨k, p⟩ := e
  cases k <;> simp only [Ev.av, Kind.str, Ev.line]
  all_goals (kd_p)
  all_goals (refine hQ _ _ _ ?_; exact zaa (by repeat' first | exact trivial | exact zao Step.locs _ | refine And.intro ?_ ?_) ⟨rfl, rfl⟩)
theorem zdR (B : Facts w H) (zR : Rows) (zE : Ends) (S : Sane zR zE) (lo sp : AV) (hL : lo.locs zaw) (hs : sp.locs zaw) (b : Nat) (hb : b < zR.length) :
  zal w H 1 (.ref 152) [zas zR zE lo sp, .int b] fun r => r = zi7 (zR.getD b []) := by
 have c1 := B.c_Body
 have c2 := B.a_Body_blocks
 obtain ⟨row, e, hrow, he, hz, h1, h2, h3⟩ := zip_get S hb
 have h4 := S.few
 have h5 := zbd S
 refine zal.go [("self", zas zR zE lo sp), ("block", .int b)] B.m_Body_statements B.lim rfl rfl ⟨zaM hL hs, trivial, trivial⟩ ?hsw
 case hsw =>
  intro L cd Q0 hQ
  kd_p
  (refine hQ _ _ _ ?_; exact zaa (zhj row) ⟨by rw [h2], rfl⟩)
theorem zfl (B : Facts w H) (zR : Rows) (zE : Ends) (S : Sane zR zE) (lo sp : AV) (hL : lo.locs zaw) (hs : sp.locs zaw) (b : Nat) (hb : b < zR.length) :
  zal w H 1 (.ref 159) [zas zR zE lo sp, .int b] fun r => r = (zE.getD b .panic).av := by
 have c1 := B.c_Body
 have c2 := B.a_Body_blocks
 obtain ⟨row, e, hrow, he, hz, h1, h2, h3⟩ := zip_get S hb
 have h4 := S.few
 have h5 := zbd S
 refine zal.go [("self", zas zR zE lo sp), ("block", .int b)] B.m_Body_terminator B.lim rfl rfl ⟨zaM hL hs, trivial, trivial⟩ ?hsw
 case hsw =>
  intro L cd Q0 hQ
  kd_p
  (refine hQ _ _ _ ?_; exact zaa e.locs ⟨by rw [h3], rfl⟩)
end
theorem zal.meth {d : Nat} {mu : Mu} {f : Value} {as : List AV} {R : AV → Prop} {Q : QA} (h : zal w H d f as R) (k : ∀ r, R r → Q r mu) : zar w H d f as mu Q :=
 (h.at_ mu).mono (Nat.le_refl _) fun r m ⟨hr, hm⟩ => hm ▸ k r hr
theorem range_drop {n b : Nat} {f : Nat → AV} {x : AV} {rest : List AV} (h : ((List.range n).drop b).map f = x :: rest) : zaF (b < n) (x = f b) (rest = ((List.range n).drop (b + 1)).map f) := by
 have hb : b < n := by
  apply Nat.lt_of_not_le
  intro hle
  rw [List.drop_eq_nil_iff.mpr (by simpa using hle)] at h; contradiction
 rw [List.drop_eq_getElem_cons (by simpa using hb)] at h
 simp only [List.map_cons, List.getElem_range, List.cons.injEq] at h
 exact ⟨hb, h.1.symm, h.2.symm⟩
theorem zaH {n b : Nat} {f : Nat → AV} (hb : b ≤ n) (h : ((List.range n).drop b).map f = []) : b = n := by
 rw [List.map_eq_nil_iff, List.drop_eq_nil_iff] at h
 simp at h; exact Nat.le_antisymm ‹_› ‹_›
noncomputable def zbL (zR : Rows) (n : Nat) : List Spot := (List.range n).flatMap fun b => (List.range ((zR.getD b []).length + 1)).map fun i => (b, i)
theorem zc1 (zR : Rows) (n : Nat) : zbL zR (n + 1) = zbL zR n ++ (List.range ((zR.getD n []).length + 1)).map fun i => (n, i) := by
 unfold zbL
 exists List.range_succ
 simp
theorem zkN {zR : Rows} {zE : Ends} (S : Sane zR zE) {n : Nat} (hn : n ≤ zR.length) : (zbL zR n).length ≤ 10000 := by
 have h1 := S.few
 have : (zbL zR n).length ≤ 100 * (List.range n).length := zfo fun b hb => by
  obtain ⟨r, hr, hm⟩ := zay (show b < zR.length by have := List.mem_range.mp hb; exact Nat.lt_of_lt_of_le ‹_› ‹_›)
  exists getD_some hr
  have := S.row r hm
  simp; exact Nat.le_of_lt_succ ‹_›
 simp at this; kd_mem
section
variable {d : Nat}
theorem zj1 (B : Facts w H) (zR : Rows) (zE : Ends) (S : Sane zR zE) (lo sp : AV) (hL : lo.locs zaw) (hs : sp.locs zaw) :
  zal w H 2 (.ref 186) [zas zR zE lo sp] fun r => r = .lst ((zag zR).map za) := by
 have c1 := B.c_Body
 have c2 := B.a_Body_blocks
 have c3 := B.k_Body_statements
 have h4 := S.few
 have h5 := zbd S
 have g_range := B.g_range
 have g_len := B.g_len
 refine zal.go [("body", zas zR zE lo sp)] B.n_points B.lim rfl rfl ⟨zaM hL hs, trivial⟩ ?hsw
 case hsw =>
  intro L cd Q0 hQ
  kd_p
  refine zaO 0 (zaG ?_)
  kd_p
  refine ⟨rfl, ?_⟩
  kd_p
  refine zbc (Rep w) (fun rem v m => v = ([("body", zas zR zE lo sp), ("found", .loc 0)] : zaf) ∧ ∃ b ≤ zR.length, rem = ((List.range zR.length).drop b).map (fun (n : Nat) => AV.int n) ∧ m = [(0, .list ((zbL zR b).map za))]) ?_ ?_ ?_
  ·refine zaC ?_
   kd_p
   refine ⟨_, zbO (by simpa [h5] using (show zR.length < 1000 by omega)), rfl, 0, Nat.zero_le _, by simp [h5], rfl⟩
  ·intro J hJ Q1 x rest hN
   rintro v m ⟨rfl, b, hb, hr, rfl⟩
   obtain ⟨hlt, rfl, rfl⟩ := range_drop hr.symm
   refine za8 ?_
   kd_p
   kcf_m
   obtain ⟨row, e, hrow, he, hz, h1, h2, h3⟩ := zip_get S hlt
   kcj_m
   refine za1 (zdE ?_)
   kd_p
   refine ⟨0, _, rfl, rfl, ?_⟩
   refine zam (zaY [("block", L + 1)] [("block", .int b)] (fun (n : Nat) => .int n) (fun (i : Nat) => za (b, i)) (fun V => true) ?_)
   ·refine zaC ?_
    kd_p
    refine zaQ ?_
    kd_p
    refine zfy 1 rfl c1 c3 (by tb_start) B.m_Body_statements (by decide) ?_
    kd_p
    refine (zdR B zR zE S lo sp hL hs b hlt).methE ?_
    exists h2
    kd_p
    have e1 : (((row.map Ev.line).length : Nat) : Int) + 1 = ((row.length + 1 : Nat) : Int) := by simp
    exists e1
    refine ⟨_, zbO (by kd_mem), List.range (row.length + 1), rfl, by rw [List.length_range, zab]; kd_mem, fun C x V => ?_, ?_⟩
    ·refine zfe rfl ?_
     kd_p
     exact ⟨rfl, rfl⟩
    ·refine ⟨_, _, rfl, rfl, ?_, ?_⟩
     ·have := zkN S (n := b) (by assumption)
      rw [filter_tt]; simp [zab]; kd_mem
     ·refine zat ?_
      kd_p
      (refine hN _ _ _ ?_; refine zaj _ [_] rfl (hJ _ _ _ ⟨rfl, b + 1, hlt, rfl, ?_⟩))
      rw [zc1, h2, List.map_append, filter_tt]
      simp only [List.map_map]
      rfl
  ·rintro v m ⟨rfl, b, hb, hr, rfl⟩
   have := zaH hb hr.symm
   subst this
   kd_p
   (refine hQ _ _ _ ?_; exact zbl rfl (zao zaA _) ⟨rfl, rfl⟩)
noncomputable def zbM (acc : List Nat) (g : Nat) : List Nat := if g ∈ acc then acc else acc ++ [g]
noncomputable def End.succs (e : End) : List Nat := e.goals.foldl zbM []
noncomputable def zb8 (n : Nat) : PyData := .int n
theorem zkl (l : List Nat) (x : Nat) : ((l.map zb8).any fun y => PyData.eqv y (zb8 x)) = decide (x ∈ l) := by
 exists List.any_map
 have : (fun y => PyData.eqv y (zb8 x)) ∘ zb8 = fun y => decide (y = x) := by
  funext y
  show ((y : Int) == (x : Int)) = _
  by_cases h : y = x
  ·simp [h]
  ·simp [h, Int.natCast_inj]
 exists this
 by_cases h : x ∈ l
 ·simp [h]
 ·rw [decide_eq_false h, List.any_eq_false]
  intro y hy e; exact h (of_decide_eq_true e ▸ hy)
theorem zkk (n : Nat) : zcf (zb8 n) := zcc rfl (by simp [zb8, PyData.depth])
theorem zdI (l : List Nat) : zcf (.list (l.map zb8)) := zcc (zfx (g := zb8) (fun V => rfl) l) (by rw [zdQ]; have := zcA (g := zb8) (n := 0) (fun s => by simp [zb8, PyData.depth]) l; kd_mem)
theorem zez (l : List Nat) : AV.pdL (l.map fun (n : Nat) => AV.int n) = some (l.map zb8) := zcZ (g := zb8) (fun V => rfl) l
theorem zbZ {D : Nat → Bool} (l : List Nat) : AV.locsL D (l.map fun (n : Nat) => AV.int n) := zao (f := fun (n : Nat) => AV.int n) (fun V => trivial) l
theorem zdv {mu : Mu} {a : AV} {l : List Nat} {x : Nat} {Q : QA} (h : zcV mu a = some (l.map fun (n : Nat) => AV.int n)) (q : Q (.bool (!decide (x ∈ l))) mu) : Op2 w H d (compareOp .NotIn) (.int x) a mu Q := by
 refine zfB (dx := zb8 x) (ds := l.map zb8) (b := !decide (x ∈ l)) rfl (.inl ?_) (zkk x) (zdI l) (by rw [zkl l x]) q
 rcases zf9 h with e | ⟨k, e, hm⟩ <;> subst e
 ·show (AV.pdL _).map _ = _; rw [zez]; rfl
 ·show zoJ (mu.lookup k) = _; exists hm; show (AV.pdL _).map _ = _; rw [zez]; rfl
theorem zdS (B : Facts w H) (e : End) : zal w H 1 (.ref 191) [e.av] fun r => r = zbU e.succs := by
 have tail : ∀ {L cd wd} (told : List Nat), told.length ≤ 2 → told = e.goals → SW w H 0 (zdg (top 15) L 191 cd "successors") (execs ((top 15).body.drop 2) (zdg (top 15) L 191 cd "successors")) [("terminator", e.av), ("word", wd), ("told", zbU told)] [] fun af V mu' => zcS [] (fun r m => r = zbU e.succs ∧ m = []) af mu' := by
  intro L cd wd told hl ht
  refine SW.gen ?_
  intro Q0 hQ
  show SW w H 0 _ (execs [_, _, _] _) _ _ _
  kd_p
  refine zaO 0 (zaG ?_)
  kd_p
  refine ⟨rfl, ?_⟩
  kd_p
  refine zbc (Rep w) (fun rem v m => v = ([("terminator", e.av), ("word", wd), ("told", zbU told), ("found", .loc 0)] : zaf) ∧ ∃ rest acc : List Nat, zbI (rem = rest.map (fun (n : Nat) => AV.int n)) (m = [(0, .list (acc.map fun (n : Nat) => AV.int n))]) (rest.foldl zbM acc = e.succs) (acc.length + rest.length ≤ 2)) ?_ ?_ ?_
  ·refine zaC ?_
   kd_p
   exact ⟨_, zbj, rfl, told, [], rfl, rfl, by rw [ht]; rfl, by simpa using hl⟩
  ·intro J hJ Q1 x rest hN
   rintro v m ⟨rfl, rest', acc, hr, rfl, he, hz⟩
   cases rest' with
   | nil => simp at hr
   | cons g rest' =>
    simp only [List.map_cons, List.cons.injEq] at hr
    obtain ⟨rfl, rfl⟩ := hr
    refine za8 ?_
    kd_p
    refine zdv (l := acc) ?ha ?_
    case ha => rfl
    kd_p
    have hla : acc.length + (rest'.length + 1) ≤ 2 := by simpa using hz
    refine ifb (fun hb => ?_) (fun hb => ?_)
    ·have hb : g ∉ acc := by simpa using hb
     kd_p
     refine za1 (zbe ?_)
     kd_p
     refine ⟨0, _, rfl, rfl, ?_⟩
     kd_p
     refine ⟨_, rfl, by rw [List.length_map, zab]; kd_mem, zat ?_⟩
     kd_p
     (refine hN _ _ _ ?_; refine zaj _ [_] rfl (hJ _ _ _ ⟨rfl, rest', acc ++ [g], rfl, by simp, ?_, by simp; kd_mem⟩))
     rw [← he, List.foldl_cons]
     unfold zbM; rw [if_neg hb]
    ·have hb : g ∈ acc := by simpa using hb
     kd_p
     (refine hN _ _ _ ?_; refine zaj _ [_] rfl (hJ _ _ _ ⟨rfl, rest', acc, rfl, rfl, ?_, by kd_mem⟩))
     rw [← he, List.foldl_cons]
     congr 1
     unfold zbM; rw [if_pos hb]
  ·rintro v m ⟨rfl, rest', acc, hr, rfl, he, hz⟩
   have : rest' = [] := by simpa using hr.symm
   subst this
   kd_p
   (refine hQ _ _ _ ?_; exact zbl rfl (zbZ _) ⟨by rw [← he]; rfl, rfl⟩)
 refine zal.go [("terminator", e.av)] B.n_successors B.lim rfl rfl ⟨e.locs, trivial⟩ ?hsw
 case hsw =>
  intro L cd Q0 hQ
  cases e with
  | panic =>
   simp only [End.av]
   kd_p
   refine zam (zaG ?_)
   repeat (first | exact (tail [] (by simp) rfl).mono hQ | x_close)
  | goto g =>
   simp only [End.av]
   kd_p
   refine zam (zaG ?_)
   repeat (first | exact (tail [g] (by simp) rfl).mono hQ | x_close)
  | switch g o =>
   simp only [End.av]
   repeat (first | with_reducible refine zam (zeu ?_) | x_close)
   refine zam (zdF (Rep w) [] [] (fun rem acc m => m = [] ∧ ((rem = [.tup [.bool false, .int g]] ∧ acc = []) ∨ (rem = [] ∧ acc = [.int g]))) ?_ ?_ ?_)
   ·refine zaC ?_
    kd_p
    exact ⟨_, zf4, by simp [zab], rfl, .inl ⟨rfl, rfl⟩⟩
   ·rintro C x rest acc m ⟨rfl, h⟩
    have hx : zaF (x = .tup [.bool false, .int g]) (rest = []) (acc = []) := by
     rcases h with ⟨h1, h2⟩ | ⟨h1, h2⟩
     ·cases h1; exact ⟨rfl, rfl, h2⟩
     ·cases h1
    obtain ⟨rfl, rfl, rfl⟩ := hx
    refine za8 ?_
    kd_p
    refine ⟨⟨_, rfl⟩, ?_⟩
    show IfB true _ _
    kd_p
    exact ⟨rfl, .inr ⟨rfl, rfl⟩⟩
   ·rintro acc m ⟨rfl, h⟩
    have hx : acc = [.int g] := by
     rcases h with ⟨h1, h2⟩ | ⟨h1, h2⟩
     ·cases h1
     ·exact h2
    subst hx
    refine zam (zaG ?_)
    kd_p
    refine ⟨_, _, rfl, rfl, by simp [zab], ?_⟩
    repeat (first | exact (tail [g, o] (by simp) rfl).mono hQ | x_close)
end
theorem zmd {α : Type} {mu : Mu} {D : Nat → Bool} {f g : α → AV} : ∀ {l : List α}, (∀ j ∈ l, Fz mu D (f j) (g j)) → FzL mu D (l.map f) (l.map g)
 | [], _ => .nil
 | x :: l, h => .cons (h x List.mem_cons_self) (zmd fun j hj => h j (List.mem_cons_of_mem _ hj))
noncomputable def zaK (zE : Ends) (n j : Nat) : List Nat := (List.range n).filter fun p => decide (j ∈ (zE.getD p .panic).succs)
theorem zji (zE : Ends) (n j : Nat) : zaK zE (n + 1) j = zaK zE n j ++ (if j ∈ (zE.getD n .panic).succs then [n] else []) := by
 unfold zaK
 rw [List.range_succ, List.filter_append]
 congr 1
 by_cases h : j ∈ (zE.getD n .panic).succs
 ·(exists if_pos h; exists (List.filter_cons_of_pos (by simpa using h))); rfl
 ·(exists if_neg h; exists (List.filter_cons_of_neg (by simpa using h))); rfl
theorem zkw (zE : Ends) (n j : Nat) : (zaK zE n j).length ≤ n := by
 have := List.length_filter_le (fun p => decide (j ∈ (zE.getD p .panic).succs)) (List.range n)
 simpa [zaK] using this
theorem zjy {acc : List Nat} (h : acc.Nodup) (g : Nat) : (zbM acc g).Nodup := by
 unfold zbM
 refine iteInduction (fun _ => ?_) (fun _ => ?_)
 ·exact h
 ·rename_i hg
  rw [List.nodup_append]
  exact ⟨h, by simp, fun a ha b hb => by exists List.mem_singleton.mp hb; rintro rfl; exact hg ha⟩
theorem zmM {acc : List Nat} {g x : Nat} : x ∈ zbM acc g ↔ x ∈ acc ∨ x = g := by
 unfold zbM
 split
 ·rename_i hg
  exact ⟨.inl, fun h => h.elim id fun e => e ▸ hg⟩
 ·simp
theorem zcg : ∀ {l acc : List Nat}, acc.Nodup → (l.foldl zbM acc).Nodup ∧ ∀ x, x ∈ l.foldl zbM acc ↔ x ∈ acc ∨ x ∈ l
 | [], acc, h => ⟨h, fun x => by simp⟩
 | g :: l, acc, h => by
  obtain ⟨h1, h2⟩ := zcg (l := l) (zjy h g)
  refine ⟨h1, fun x => ?_⟩
  rw [List.foldl_cons, h2, zmM, List.mem_cons, or_assoc]
theorem End.succs_nodup (e : End) : e.succs.Nodup := (zcg List.nodup_nil).1
theorem End.mem_succs (e : End) (x : Nat) : x ∈ e.succs ↔ x ∈ e.goals := by
 have := (zcg (l := e.goals) List.nodup_nil).2 x
 unfold End.succs
 simpa using this
structure zqJ (n : Nat) (ps : Nat → List Nat) (m : Mu) : Prop where
 out : m.lookup 0 = some (.list ((List.range n).map fun j => AV.loc (j + 1)))
 at_ : ∀ j, j < n → m.lookup (j + 1) = some (.list ((ps j).map fun (n : Nat) => AV.int n))
section
variable {d : Nat}
theorem zhc (B : Facts w H) (zR : Rows) (zE : Ends) (S : Sane zR zE) (lo sp : AV) (hL : lo.locs zaw) (hs : sp.locs zaw) :
  zal w H 2 (.ref 196) [zas zR zE lo sp] fun r => r = .lst ((List.range zR.length).map fun j => zbU (zaK zE zR.length j)) := by
 have c1 := B.c_Body
 have c2 := B.a_Body_blocks
 have c3 := B.k_Body_terminator
 have h4 := S.few
 have h5 := zbd S
 have g_range := B.g_range
 have g_len := B.g_len
 have g_successors := B.g_successors
 refine zal.go [("body", zas zR zE lo sp)] B.n_predecessors B.lim rfl rfl ⟨zaM hL hs, trivial⟩ ?hsw
 case hsw =>
  intro L cd Q0 hQ
  refine zce (zcd (Rep w) [] [] (fun rem acc m => ∃ i ≤ zR.length, ze5 (rem = (((zR.zip zE).drop i).map zfc)) (acc = ((List.range i).map fun j => AV.loc (j + 1))) (m.lookup 0 = none) ((∀ j, i ≤ j → m.lookup (j + 1) = none)) (∀ j, j < i → m.lookup (j + 1) = some (.list []))) ?_ ?_ ?_)
  ·refine zaC ?_
   kd_p
   exact ⟨_, zbj, by rw [List.length_map, h5, zab]; kd_mem, 0, Nat.zero_le _, rfl, rfl, rfl, fun V V => rfl, fun j hj => absurd hj (Nat.not_lt_zero _)⟩
  ·rintro C x rest acc m ⟨i, hi, hr, rfl, hm0, hmn, hms⟩
   refine za8 ?_
   refine zjr (.inl (by kpf_c)) ?_
   kd_p
   refine ⟨⟨_, rfl⟩, ?_⟩
   show IfB true _ _
   kd_p
   refine zaO (i + 1) (zaG ?_)
   kd_p
   have hlt : i < zR.length := by
    apply Nat.lt_of_not_le
    intro hle
    rw [List.drop_eq_nil_iff.mpr (by kd_mem)] at hr; simp at hr
   refine ⟨hmn i (Nat.le_refl _), i + 1, hlt, ?_, ?_, ?_, fun j hj => ?_, fun j hj => ?_⟩
   ·rw [List.drop_eq_getElem_cons (by kd_mem)] at hr
    simp only [List.map_cons, List.cons.injEq] at hr
    exact hr.2
   ·rw [List.range_succ, List.map_append]; rfl
   ·rw [List.lookup_cons, show ((0 : Nat) == i + 1) = false by simp]; exact hm0
   ·rw [List.lookup_cons, show ((j + 1 : Nat) == i + 1) = false by simp; kd_mem]; exact hmn j (by kd_mem)
   ·by_cases q : j = i
    ·subst q; rw [List.lookup_cons, beq_self_eq_true]
    ·rw [List.lookup_cons, show ((j + 1 : Nat) == i + 1) = false by simp; omega]; exact hms j (by kd_mem)
  ·rintro acc m ⟨i, hi, hr, rfl, hm0, hmn, hms⟩
   have hin : i = zR.length := by
    have := hr.symm
    rw [List.map_eq_nil_iff, List.drop_eq_nil_iff] at this
    kd_mem
   subst hin
   refine ⟨.loc 0, _, _, .born hm0, by tb_start, ?_⟩
   have P0 : zqJ zR.length (zaK zE 0) ((0, .list ((List.range zR.length).map fun j => AV.loc (j + 1))) :: m) := by
    refine ⟨by simp, fun j hj => ?_⟩
    rw [List.lookup_cons, show ((j + 1 : Nat) == 0) = false by simp]
    exact hms j hj
   generalize ((0, zb4.list ((List.range zR.length).map fun j => AV.loc (j + 1))) :: m) = m0 at P0 ⊢
   clear hms hmn hm0
   kd_p
   refine zbc (Rep w) (fun rem v m => v = ([("body", zas zR zE lo sp), ("found", .loc 0)] : zaf) ∧ ∃ b ≤ zR.length, rem = ((List.range zR.length).drop b).map (fun (n : Nat) => AV.int n) ∧ zqJ zR.length (zaK zE b) m) ?_ ?_ ?_
   ·refine zaC ?_
    kd_p
    exact ⟨_, zbO (by simpa [h5] using (show zR.length < 1000 by kd_mem)), rfl, 0, Nat.zero_le _, by simp [h5], P0⟩
   ·intro J hJ Q1 x rest hN
    rintro v m ⟨rfl, b, hb, hr, P⟩
    obtain ⟨hlt, rfl, rfl⟩ := range_drop hr.symm
    kcf_m
    obtain ⟨row, e, hrow, he, hz, h1, h2, h3⟩ := zip_get S hlt
    kcj_m
    refine za8 ?_
    kd_p
    refine zbc (Rep w) (fun rem v m => v = ([("body", zas zR zE lo sp), ("found", .loc 0), ("block", .int b)] : zaf) ∧ ∃ done rest : List Nat, zaF (done ++ rest = e.succs) (rem = rest.map (fun (n : Nat) => AV.int n)) (zqJ zR.length (fun j => zaK zE b j ++ if j ∈ done then [b] else []) m)) ?_ ?_ ?_
    ·refine zaC ?_
     kd_p
     refine zaQ ?_
     kd_p
     refine zfy 1 rfl c1 c3 (by tb_start) B.m_Body_terminator (by decide) ?_
     kd_p
     refine (zfl B zR zE S lo sp hL hs b hlt).methE ?_
     rw [h3]
     kd_p
     refine (zdS B e).callE B.n_successors (by decide) ?_
     exact ⟨_, zbj, rfl, [], e.succs, rfl, rfl, by simpa using P⟩
    ·intro J hJ Q1 x rest hN
     rintro v m ⟨rfl, done, rest', hds, hr', P'⟩
     cases rest' with
     | nil => simp at hr'
     | cons g rest' =>
      simp only [List.map_cons, List.cons.injEq] at hr'
      obtain ⟨rfl, rfl⟩ := hr'
      have hg : g ∈ e.goals := (e.mem_succs g).mp (by rw [← hds]; simp)
      have hgl : g < zR.length := S.goal e (List.mem_of_getElem? he) g hg
      have hgd : g ∉ done := by
       have := e.succs_nodup
       rw [← hds, List.nodup_append] at this
       intro hm
       exact this.2.2 g hm g List.mem_cons_self rfl
      refine za8 ?_
      kd_p
      refine za1 (zbe ?_)
      kd_p
      refine zgE (x := .loc (g + 1)) P'.out (by simp [hgl]) (by simp; kd_mem) ?_
      refine ⟨g + 1, _, rfl, P'.at_ g hgl, ?_⟩
      kd_p
      have hpf := zkw zE b g
      obtain ⟨m2, p2⟩ := zdU (P'.at_ g hgl) (.list ((zaK zE b g ++ [b]).map fun (n : Nat) => AV.int n))
      refine ⟨_, P'.at_ g hgl, by simp [hgd, zab]; kd_mem, m2, by simpa [hgd] using p2, ?_⟩
      kd_p
      (refine hN _ _ _ ?_; refine zaj _ [_] rfl (hJ _ _ _ ⟨rfl, done ++ [g], rest', by simp [hds], rfl, ?_, fun j hj => ?_⟩))
      ·rw [p2.2, if_neg (by kd_mem)]; exact P'.out
      ·rw [p2.2]
       by_cases q : j = g
       ·subst q; rw [if_pos rfl]; simp
       ·rw [if_neg (by kd_mem), P'.at_ j hj]
        simp [q]
    ·rintro v m ⟨rfl, done, rest', hds, hr', P'⟩
     have : rest' = [] := by simpa using hr'.symm
     subst this
     rw [List.append_nil] at hds
     subst hds
     kd_p
     (refine hN _ _ _ ?_; refine zaj _ [_] rfl (hJ _ _ _ ⟨rfl, b + 1, hlt, rfl, ?_⟩))
     have : zaK zE (b + 1) = fun j => zaK zE b j ++ if j ∈ e.succs then [b] else [] := by
      funext j; rw [zji, h3]
     rw [this]; exact P'
   ·rintro v m ⟨rfl, b, hb, hr, P⟩
    have := zaH hb hr.symm
    subst this
    kd_p
    refine hQ _ _ _ ?_
    refine ⟨_, [], zaw, .list rfl P.out (zmd (g := fun j => zbU (zaK zE zR.length j)) fun j hj => .list rfl (P.at_ j (List.mem_range.mp hj)) (FzL.same (zbZ _))), by simp, by simp, by simp, rfl, rfl⟩
end
noncomputable abbrev rvAV (e : Ev) : AV := match e.kind with
 | .lend => .tup [.str "ref", .int 4, .str "shared", e.place.av]
 | .write => .tup [.str "use", .tup [.str "const", .tup [.str "int", .str "u8"], .int 1]]
 | _ => .none
noncomputable abbrev zoB : AV := .tup [.str "copy", .tup [.int 4, .tup [.tup [.str "deref"]]]]
noncomputable abbrev zko : AV := .tup [.str "const", .tup [.str "int", .str "u8"], .int 1]
noncomputable abbrev zoA : AV := .tup [.str "const", .tup [.str "bool"], .bool true]
theorem zdN {zR : Rows} {zE : Ends} (S : Sane zR zE) {s : Spot} (hs : s ∈ zag zR) : Ex2 fun row e => zhW ((zR.zip zE)[s.1]? = some (row, e)) (zR.getD s.1 [] = row) (zE.getD s.1 .panic = e) (s.2 ≤ row.length) (row.length < 100) (zaW zR s = row[s.2]?) (s.1 < zR.length) := by
 obtain ⟨h1, h2⟩ := zax.mp hs
 obtain ⟨row, e, hrow, he, hz, h3, h4, h5⟩ := zip_get S h1
 exact ⟨row, e, hz, h4, h5, by refine rwR h4 ?_; exact h2, h3, by unfold zaW; rw [h4], h1⟩
noncomputable def zeO (zR : Rows) (zE : Ends) (s : Spot) : List AV := match zaW zR s with
 | some e => match e.kind with
  | .use => [zoB]
  | .write => [zko]
  | _ => []
 | none => match zE.getD s.1 .panic with
  | .switch _ _ => [zoA]
  | _ => []
section
variable {d : Nat}
theorem zj0 (B : Facts w H) : zal w H 1 (.ref 203) [.tup [.str "use", zko]] fun r => r = .lst [zko] := by
 refine zal.go [("rvalue", .tup [.str "use", zko])] B.n_operands_of B.lim rfl rfl ⟨by (repeat' first | exact trivial | refine And.intro ?_ ?_), trivial⟩ ?hsw
 case hsw =>
  intro L cd Q0 hQ
  kd_p
  refine za6 ?_
  kd_p
  (refine hQ _ _ _ ?_; exact zaa (by repeat' first | exact trivial | exact rfl | refine And.intro ?_ ?_) ⟨rfl, rfl⟩)
theorem zlc (B : Facts w H) (p : Place) : zal w H 1 (.ref 203) [.tup [.str "ref", .int 4, .str "shared", p.av]] fun r => r = .lst [] := by
 refine zal.go [("rvalue", .tup [.str "ref", .int 4, .str "shared", p.av])] B.n_operands_of B.lim rfl rfl ⟨(show AV.locs zaw (.tup [.str "ref", .int 4, .str "shared", p.av]) from ⟨trivial, trivial, trivial, p.locs, trivial⟩), trivial⟩ ?hsw
 case hsw =>
  intro L cd Q0 hQ
  kd_p
  refine za6 ?_
  kd_p
  (refine hQ _ _ _ ?_; exact zaa (by repeat' first | exact trivial | exact rfl | refine And.intro ?_ ?_) ⟨rfl, rfl⟩)
theorem zf1 (B : Facts w H) (p : Place) (hp : p.steps.length < 1000) : zal w H 1 (.ref 215) [p.av] fun r => r = .lst [] := by
 refine zal.go [("place", p.av)] B.n_indices_of B.lim rfl rfl ⟨p.locs, trivial⟩ ?hsw
 case hsw =>
  intro L cd Q0 hQ
  kd_p
  refine zam (zaY [] [] Step.av Step.av (fun V => false) ?_)
  refine zaC ?_
  kd_p
  refine ⟨_, zf4, p.steps, rfl, ?_, ?_, ?_⟩
  ·rw [zab]; kd_mem
  ·intro C x V
   refine zcq ?_
   cases x
   ·kd_p
    refine ⟨rfl, rfl, fun h => ?_⟩
    exact Bool.noConfusion h
   ·kd_p
    refine ⟨rfl, rfl, fun h => ?_⟩
    exact absurd h Bool.false_ne_true
  ·have : p.steps.filter (fun V => false) = [] := List.filter_eq_nil_iff.mpr (by simp)
   exists this
   (refine hQ _ _ _ ?_; exact zaa (by repeat' first | exact trivial | exact rfl | refine And.intro ?_ ?_) ⟨rfl, rfl⟩)
theorem zh0 (B : Facts w H) (zR : Rows) (zE : Ends) (S : Sane zR zE) (lo sp : AV) (hL : lo.locs zaw) (hs : sp.locs zaw) (s : Spot) (hm : s ∈ zag zR) :
  zal w H 2 (.ref 210) [zas zR zE lo sp, za s] fun r => r = .lst (zeO zR zE s) := by
 have c1 := B.c_Body
 have c2 := B.a_Body_blocks
 have c3 := B.k_Body_terminator
 have c4 := B.k_Body_statements
 have h4 := S.few
 have h5 := zbd S
 kcf_m
 obtain ⟨row, en, hz, g1, g2, g3, g4, g5, g6⟩ := zdN S hm
 kcj_m
 have g_len := B.g_len
 have g_operands_of := B.g_operands_of
 refine zal.go [("body", zas zR zE lo sp), ("point", za s)] B.n_operands_at B.lim rfl rfl ⟨zaM hL hs, zaA s, trivial⟩ ?hsw
 case hsw =>
  intro L cd Q0 hQ
  kd_p
  refine zaQ ?_
  kd_p
  refine zfy 1 rfl c1 c4 (by tb_start) B.m_Body_statements (by decide) ?_
  kd_p
  refine (zdR B zR zE S lo sp hL hs s.1 g6).methE ?_
  rw [g1]
  kd_p
  refine ifk (fun hb => ?_) (fun hb => ?_)
  ·have hi : s.2 < row.length := by simp at hb; assumption
   obtain ⟨e, he, V⟩ := zay hi
   kd_p
   refine zaQ ?_
   kd_p
   refine zfy 1 rfl c1 c4 (by tb_start) B.m_Body_statements (by decide) ?_
   kd_p
   refine (zdR B zR zE S lo sp hL hs s.1 g6).methE ?_
   rw [g1]
   kd_p
   have hev : zaW zR s = some e := by rw [g5]; exact he
   obtain ⟨k, p⟩ := e
   cases k <;> simp only [Ev.line]
   ·kd_p
    refine (zlc B p).callE B.n_operands_of (by decide) ?_
    (refine hQ _ _ _ ?_; refine zaa (by repeat' first | exact trivial | exact rfl | refine And.intro ?_ ?_) ⟨by simp [zeO, hev], rfl⟩)
   ·kd_p
    refine za6 ?_
    kd_p
    (refine hQ _ _ _ ?_; refine zaa (by repeat' first | exact trivial | exact rfl | refine And.intro ?_ ?_) ⟨by simp [zeO, hev], rfl⟩)
   ·kd_p
    refine (zj0 B).callE B.n_operands_of (by decide) ?_
    (refine hQ _ _ _ ?_; refine zaa (by repeat' first | exact trivial | exact rfl | refine And.intro ?_ ?_) ⟨by simp [zeO, hev], rfl⟩)
   ·kd_p
    refine za6 ?_
    kd_p
    (refine hQ _ _ _ ?_; refine zaa (by repeat' first | exact trivial | exact rfl | refine And.intro ?_ ?_) ⟨by simp [zeO, hev], rfl⟩)
  ·have hi : ¬ s.2 < row.length := by simp at hb; kd_mem
   have hev : zaW zR s = none := by rw [g5]; simp; kd_mem
   kd_p
   refine zaQ ?_
   kd_p
   refine zfy 1 rfl c1 c3 (by tb_start) B.m_Body_terminator (by decide) ?_
   kd_p
   refine (zfl B zR zE S lo sp hL hs s.1 g6).methE ?_
   rw [g2]
   cases en <;> simp only [End.av]
   ·kd_p
    refine za6 ?_
    kd_p
    (refine hQ _ _ _ ?_; refine zaa (by repeat' first | exact trivial | exact rfl | refine And.intro ?_ ?_) ⟨by unfold zeO; rw [hev, g2], rfl⟩)
   ·kd_p
    refine za6 ?_
    kd_p
    (refine hQ _ _ _ ?_; refine zaa (by repeat' first | exact trivial | exact rfl | refine And.intro ?_ ?_) ⟨by unfold zeO; rw [hev, g2], rfl⟩)
   ·kd_p
    refine za6 ?_
    kd_p
    (refine hQ _ _ _ ?_; refine zaa (by repeat' first | exact trivial | exact rfl | refine And.intro ?_ ?_) ⟨by unfold zeO; rw [hev, g2], rfl⟩)
noncomputable def zcw (zR : Rows) (s : Spot) : Option Place := match zaW zR s with
 | some ⟨.lend, p⟩ => some p
 | _ => none
noncomputable def zcJ (zR : Rows) (s : Spot) : Option Place := match zaW zR s with
 | some ⟨.lend, _⟩ => some ⟨4, []⟩
 | some ⟨.write, p⟩ => some p
 | _ => none
noncomputable def zep (zR : Rows) (s : Spot) : Option Int := match zaW zR s with
 | some ⟨.dead, _⟩ => some 1
 | _ => none
noncomputable def zbF : Option Place → AV
 | some p => p.av
 | none => .none
noncomputable def zdV : Option Int → AV
 | some i => .int i
 | none => .none
theorem zgv (B : Facts w H) (zR : Rows) (zE : Ends) (S : Sane zR zE) (lo sp : AV) (hL : lo.locs zaw) (hs : sp.locs zaw) (s : Spot) (hm : s ∈ zag zR) :
  zal w H 1 (.ref 257) [zas zR zE lo sp, za s] fun r => r = zbF (zcw zR s) := by
 have c1 := B.c_Body
 have c2 := B.a_Body_blocks
 have h4 := S.few
 have h5 := zbd S
 obtain ⟨row, en, hz, g1, g2, g3, g4, g5, g6⟩ := zdN S hm
 have g_len := B.g_len
 refine zal.go [("body", zas zR zE lo sp), ("point", za s)] B.n_looked_at B.lim rfl rfl ⟨zaM hL hs, zaA s, trivial⟩ ?hsw
 case hsw =>
  intro L cd Q0 hQ
  kd_p
  refine ifb (fun hb => ?_) (fun hb => ?_)
  ·have hi : s.2 < row.length := by simp at hb; omega
   obtain ⟨e, he, V⟩ := zay hi
   have hev : zaW zR s = some e := by rw [g5]; exact he
   obtain ⟨k, p⟩ := e
   kd_p
   cases k <;> simp only [Ev.line]
   all_goals
    kd_p
    (refine hQ _ _ _ ?_; refine zaa (by first | exact p.locs | exact trivial | (repeat' first | exact trivial | refine And.intro ?_ ?_)) ⟨by simp [zcw, zbF, zdV, hev, Place.av], rfl⟩)
  ·have hi : ¬ s.2 < row.length := by simp at hb; kd_mem
   have hev : zaW zR s = none := by rw [g5]; simp; kd_mem
   kd_p
   (refine hQ _ _ _ ?_; refine zaa trivial ⟨by simp [zcw, zbF, zdV, hev], rfl⟩)
theorem zfm (B : Facts w H) (zR : Rows) (zE : Ends) (S : Sane zR zE) (lo sp : AV) (hL : lo.locs zaw) (hs : sp.locs zaw) (s : Spot) (hm : s ∈ zag zR) :
  zal w H 1 (.ref 264) [zas zR zE lo sp, za s] fun r => r = zbF (zcJ zR s) := by
 have c1 := B.c_Body
 have c2 := B.a_Body_blocks
 have h4 := S.few
 have h5 := zbd S
 obtain ⟨row, en, hz, g1, g2, g3, g4, g5, g6⟩ := zdN S hm
 have g_len := B.g_len
 refine zal.go [("body", zas zR zE lo sp), ("point", za s)] B.n_written_at B.lim rfl rfl ⟨zaM hL hs, zaA s, trivial⟩ ?hsw
 case hsw =>
  intro L cd Q0 hQ
  kd_p
  refine ifk (fun hb => ?_) (fun hb => ?_)
  ·have hi : s.2 < row.length := by simp at hb; assumption
   obtain ⟨e, he, V⟩ := zay hi
   have hev : zaW zR s = some e := by rw [g5]; exact he
   obtain ⟨k, p⟩ := e
   kd_p
   cases k <;> simp only [Ev.line]
   all_goals
    kd_p
    (refine hQ _ _ _ ?_; refine zaa (by first | exact p.locs | exact trivial | (repeat' first | exact trivial | refine And.intro ?_ ?_)) ⟨by simp [zcJ, zbF, zdV, hev, Place.av], rfl⟩)
  ·have hi : ¬ s.2 < row.length := by simp at hb; exact Nat.not_lt.mpr ‹_›
   have hev : zaW zR s = none := by rw [g5]; simp; exact Nat.le_of_not_lt ‹_›
   kd_p
   cases en <;> simp only [End.av]
   all_goals
    kd_p
    (refine hQ _ _ _ ?_; refine zaa trivial ⟨by simp [zcJ, zbF, zdV, hev], rfl⟩)
theorem zj3 (B : Facts w H) (zR : Rows) (zE : Ends) (S : Sane zR zE) (lo sp : AV) (hL : lo.locs zaw) (hs : sp.locs zaw) (s : Spot) (hm : s ∈ zag zR) :
  zal w H 1 (.ref 278) [zas zR zE lo sp, za s] fun r => r = zdV (zep zR s) := by
 have c1 := B.c_Body
 have c2 := B.a_Body_blocks
 have h4 := S.few
 have h5 := zbd S
 obtain ⟨row, en, hz, g1, g2, g3, g4, g5, g6⟩ := zdN S hm
 have g_len := B.g_len
 refine zal.go [("body", zas zR zE lo sp), ("point", za s)] B.n_turned_at B.lim rfl rfl ⟨zaM hL hs, zaA s, trivial⟩ ?hsw
 case hsw =>
  intro L cd Q0 hQ
  kd_p
  refine ifb (fun hb => ?_) (fun hb => ?_)
  ·have hi : s.2 < row.length := by simp at hb; assumption
   obtain ⟨e, he, V⟩ := zay hi
   have hev : zaW zR s = some e := by rw [g5]; exact he
   obtain ⟨k, p⟩ := e
   kd_p
   cases k <;> simp only [Ev.line]
   all_goals
    kd_p
    (refine hQ _ _ _ ?_; refine zaa (by first | exact p.locs | exact trivial | (repeat' first | exact trivial | refine And.intro ?_ ?_)) ⟨by simp [zep, zbF, zdV, hev, Place.av], rfl⟩)
  ·have hi : ¬ s.2 < row.length := by simp at hb; exact Nat.not_lt.mpr ‹_›
   have hev : zaW zR s = none := by rw [g5]; simp; exact Nat.le_of_not_lt ‹_›
   kd_p
   (refine hQ _ _ _ ?_; refine zaa trivial ⟨by simp [zep, zbF, zdV, hev], rfl⟩)
theorem zfj (B : Facts w H) (zR : Rows) (zE : Ends) (S : Sane zR zE) (lo sp : AV) (hL : lo.locs zaw) (hs : sp.locs zaw) (s : Spot) (hm : s ∈ zag zR) :
  zal w H 1 (.ref 271) [zas zR zE lo sp, za s] fun r => r = .none := by
 have c1 := B.c_Body
 have c2 := B.a_Body_blocks
 have h4 := S.few
 have h5 := zbd S
 obtain ⟨row, en, hz, g1, g2, g3, g4, g5, g6⟩ := zdN S hm
 have g_len := B.g_len
 refine zal.go [("body", zas zR zE lo sp), ("point", za s)] B.n_dropped_at B.lim rfl rfl ⟨zaM hL hs, zaA s, trivial⟩ ?hsw
 case hsw =>
  intro L cd Q0 hQ
  kd_p
  refine ifb (fun hb => ?_) (fun hb => ?_)
  ·kd_p
   cases en <;> simp only [End.av]
   all_goals
    kd_p
    (refine hQ _ _ _ ?_; refine zaa trivial ⟨rfl, rfl⟩)
  ·kd_p
   (refine hQ _ _ _ ?_; refine zaa trivial ⟨rfl, rfl⟩)
theorem zcj (B : Facts w H) (zR : Rows) (zE : Ends) (S : Sane zR zE) (lo sp : AV) (hL : lo.locs zaw) (hs : sp.locs zaw) (s : Spot) (hm : s ∈ zag zR) :
  zal w H 1 (.ref 293) [zas zR zE lo sp, za s] fun r => r = .bool false := by
 have c1 := B.c_Body
 have c2 := B.a_Body_blocks
 have h4 := S.few
 have h5 := zbd S
 obtain ⟨row, en, hz, g1, g2, g3, g4, g5, g6⟩ := zdN S hm
 have g_len := B.g_len
 refine zal.go [("body", zas zR zE lo sp), ("point", za s)] B.n_is_return B.lim rfl rfl ⟨zaM hL hs, zaA s, trivial⟩ ?hsw
 case hsw =>
  intro L cd Q0 hQ
  kd_p
  refine ifb (fun hb => ?_) (fun hb => ?_)
  ·kd_p
   cases en <;> simp only [End.av]
   all_goals
    kd_p
    (refine hQ _ _ _ ?_; refine zaa trivial ⟨rfl, rfl⟩)
  ·kd_p
   (refine hQ _ _ _ ?_; refine zaa trivial ⟨congrArg AV.bool hb, rfl⟩)
end
noncomputable def ziL (e : Ev) : List Int := match e.kind with
 | .lend => [e.place.loc]
 | .use => [4]
 | .write => if e.place.steps = [] then [] else [e.place.loc]
 | _ => []
noncomputable def zky (e : Ev) : List Int := match e.kind with
 | .lend => [4]
 | .write => if e.place.steps = [] then [e.place.loc] else []
 | .dead => [1]
 | _ => []
noncomputable def zcn (zR : Rows) (s : Spot) : List Int := (zaW zR s).elim [] ziL
noncomputable def putL (zR : Rows) (s : Spot) : List Int := (zaW zR s).elim [] zky
theorem zeE {zR : Rows} {s : Spot} {e : Ev} (h : zaW zR s = some e) : zcn zR s = ziL e := congrArg (fun o : Option Ev => o.elim [] ziL) h
theorem zp7 {zR : Rows} {s : Spot} {e : Ev} (h : zaW zR s = some e) : putL zR s = zky e := congrArg (fun o : Option Ev => o.elim [] zky) h
theorem zmE {zR : Rows} {s : Spot} (h : zaW zR s = none) : zcn zR s = [] := congrArg (fun o : Option Ev => o.elim [] ziL) h
theorem zre {zR : Rows} {s : Spot} (h : zaW zR s = none) : putL zR s = [] := congrArg (fun o : Option Ev => o.elim [] zky) h
theorem zfZ {zR : Rows} {s : Spot} {e : Ev} (h : zaW zR s = some e) : ∃ r ∈ zR, e ∈ r := by
 unfold zaW at h
 have h1 : e ∈ zR.getD s.1 [] := List.mem_of_getElem? h
 replace h1 := (List.getD_eq_getElem?_getD) ▸ h1
 cases h3 : zR[s.1]? with
 | none => rw [h3] at h1; simp at h1
 | some r => rw [h3] at h1; exact ⟨r, List.mem_of_getElem? h3, h1⟩
theorem zbm.locAt {zR : Rows} {zE : Ends} (S : zbm zR zE) {s : Spot} {e : Ev} (h : zaW zR s = some e) : 0 ≤ e.place.loc ∧ e.place.loc < 16 := by
 obtain ⟨r, hr, he⟩ := zfZ h
 have := S.loc r hr e he
 kd_mem
theorem zbm.stepsAt {zR : Rows} {zE : Ends} (S : zbm zR zE) {s : Spot} {e : Ev} (h : zaW zR s = some e) : e.place.steps.length < 1000 := by
 obtain ⟨r, hr, he⟩ := zfZ h
 have := S.place r hr e he
 kd_mem
theorem zcQ {zR : Rows} {zE : Ends} (S : zbm zR zE) (s : Spot) : ∀ n ∈ zcn zR s, 0 ≤ n ∧ n < 16 := by
 intro n hn
 cases h : zaW zR s with
 | none => replace hn := zmE h ▸ hn; cases hn
 | some e =>
  replace hn := zeE h ▸ hn
  obtain ⟨k, p⟩ := e
  cases k with
  | lend =>
   replace hn := List.mem_singleton.mp hn; subst hn; exact S.locAt h
  | use =>
   replace hn := List.mem_singleton.mp hn; subst hn; decide
  | write =>
   replace hn : n ∈ (if p.steps = [] then [] else [p.loc] : List Int) := hn
   by_cases q : p.steps = []
   ·replace hn := if_pos q ▸ hn
    contradiction
   ·replace hn := if_neg q ▸ hn
    replace hn := List.mem_singleton.mp hn; subst hn; exact S.locAt h
  | dead =>
   cases hn
theorem zp6 {zR : Rows} {zE : Ends} (S : zbm zR zE) (s : Spot) : ∀ n ∈ putL zR s, 0 ≤ n ∧ n < 16 := by
 intro n hn
 cases h : zaW zR s with
 | none => replace hn := zre h ▸ hn; cases hn
 | some e =>
  replace hn := zp7 h ▸ hn
  obtain ⟨k, p⟩ := e
  cases k with
  | lend =>
   replace hn := List.mem_singleton.mp hn; subst hn; decide
  | use =>
   cases hn
  | write =>
   replace hn : n ∈ (if p.steps = [] then [p.loc] else [] : List Int) := hn
   by_cases q : p.steps = []
   ·replace hn := if_pos q ▸ hn
    replace hn := List.mem_singleton.mp hn; subst hn; exact S.locAt h
   ·replace hn := if_neg q ▸ hn
    contradiction
  | dead =>
   replace hn := List.mem_singleton.mp hn; subst hn; decide
section
variable {d : Nat}
theorem zhy {m : Mu} {Q : QA} (p : List Step) (h : Q (.bool (decide (p = []))) m) : Op2 w H d (compareOp .Eq) (zbb p) (.tup []) m Q :=
 zgA (da := zbB p) (db := zbB []) (c := decide (p = [])) (by show (zbb p).pd = _; exact zen p) rfl (zd1 _) (by kpf_c) (zgh _ _) h
theorem zhz {m : Mu} {Q : QA} (p : List Step) (h : Q (.bool (!decide (p = []))) m) : Op2 w H d (compareOp .NotEq) (zbb p) (.tup []) m Q :=
 zeh (da := zbB p) (db := zbB []) (c := !decide (p = [])) (by show (zbb p).pd = _; exact zen p) rfl (zd1 _) (by kpf_c) (by rw [← zgh p []]) h
theorem zf0 (B : Facts w H) (zR : Rows) (zE : Ends) (S : zbm zR zE) (lo sp : AV) (hL : lo.locs zaw) (hs : sp.locs zaw) (s : Spot) (hm : s ∈ zag zR) :
  zal w H 2 (.ref 300) [zas zR zE lo sp, za s] fun r => r = .lst [] := by
 have g_dropped_at := B.g_dropped_at
 refine zal.go [("body", zas zR zE lo sp), ("point", za s)] B.n_dropped_locals B.lim rfl rfl ⟨zaM hL hs, zaA s, trivial⟩ ?hsw
 case hsw =>
  intro L cd Q0 hQ
  kd_p
  refine (zfj B zR zE S.toSane lo sp hL hs s hm).callE B.n_dropped_at (by decide) ?_
  kd_p
  refine za6 ?_
  kd_p
  (refine hQ _ _ _ ?_; refine zaa (by repeat' first | exact trivial | exact rfl | refine And.intro ?_ ?_) ⟨rfl, rfl⟩)
theorem zi4 (B : Facts w H) (zR : Rows) (zE : Ends) (S : zbm zR zE) (lo sp : AV) (hL : lo.locs zaw) (hs : sp.locs zaw) (s : Spot) (hm : s ∈ zag zR) :
  zal w H 2 (.ref 307) [zas zR zE lo sp, za s] fun r => r = .lst ((putL zR s).map .int) := by
 have g_turned_at := B.g_turned_at
 have g_written_at := B.g_written_at
 refine zal.go [("body", zas zR zE lo sp), ("point", za s)] B.n_set_locals B.lim rfl rfl ⟨zaM hL hs, zaA s, trivial⟩ ?hsw
 case hsw =>
  intro L cd Q0 hQ
  refine SW.fin hQ ?_
  clear hQ Q0
  refine zce (zfP ["local", "written"] ?_ ?_ (by with_unfolding_all rfl))
  ·kd_p
   refine (zj3 B zR zE S.toSane lo sp hL hs s hm).callE B.n_turned_at (by decide) ?_
   kd_p
   refine (zfm B zR zE S.toSane lo sp hL hs s hm).callE B.n_written_at (by decide) ?_
   kd_p
   refine ⟨_, rfl, rfl, za7 ?_⟩
   kd_p
   refine za7 ?_
   kd_p
   refine zdK ?_
   cases hev : zaW zR s with
   | none =>
    simp only [zep, zcJ, putL, zky, Option.elim_none, Option.elim_some, hev, zbF, zdV]
    kd_p
    refine zaO 0 (zaG ?_)
    kd_p
    refine ⟨rfl, ?_⟩
    kd_p
    exact zbl rfl trivial ⟨rfl, rfl⟩
   | some e =>
    kcf_m
    obtain ⟨k, p⟩ := e
    kcj_m
    cases k <;> simp only [zep, zcJ, putL, zky, Option.elim_none, Option.elim_some, hev, zbF, zdV]
    ·kd_p
     refine zaO 0 (zaG ?_)
     kd_p
     refine ⟨rfl, ?_⟩
     kd_p
     refine za1 (zbe ?_)
     kd_p
     refine ⟨0, _, rfl, rfl, ?_⟩
     kd_p
     refine ⟨_, rfl, by decide, zat ?_⟩
     kd_p
     exact zbl rfl ⟨trivial, trivial⟩ ⟨rfl, rfl⟩
    ·kd_p
     refine zaO 0 (zaG ?_)
     kd_p
     refine ⟨rfl, ?_⟩
     kd_p
     exact zbl rfl trivial ⟨rfl, rfl⟩
    ·kd_p
     refine zaO 0 (zaG ?_)
     kd_p
     refine ⟨rfl, ?_⟩
     kd_p
     refine zhy p.steps ?_
     kd_p
     refine ifb (fun hb => ?_) (fun hb => ?_)
     ·have hp : p.steps = [] := of_decide_eq_true hb
      kd_p
      refine za1 (zbe ?_)
      kd_p
      refine ⟨0, _, rfl, rfl, ?_⟩
      kd_p
      refine ⟨_, rfl, by simp [zab], zat ?_⟩
      kd_p
      exact zbl rfl ⟨trivial, trivial⟩ ⟨by exists if_pos hp; rfl, rfl⟩
     ·have hp : ¬ p.steps = [] := of_decide_eq_false hb
      kd_p
      exact zbl rfl trivial ⟨by exists if_neg hp; rfl, rfl⟩
    ·kd_p
     refine zaO 0 (zaG ?_)
     kd_p
     refine ⟨rfl, ?_⟩
     kd_p
     exact zbl rfl ⟨trivial, trivial⟩ ⟨rfl, rfl⟩
  ·intro x hx
   simp at hx
   rcases hx with rfl | rfl <;> tb_start
inductive Opd where
 | copy | int | bool
noncomputable abbrev Opd.av : Opd → AV
 | .copy => zoB
 | .int => zko
 | .bool => zoA
noncomputable def Opd.loc (o : Opd) : List Int := @Opd.casesOn (fun V => List Int) o [4] [] []
theorem zoI (zR : Rows) (zE : Ends) (s : Spot) : ∃ l : List Opd, zaF (zeO zR zE s = l.map Opd.av) (l.flatMap Opd.loc = (if kindAt zR s = some .use then [4] else [])) (l.length ≤ 1) := by
 delta zeO kindAt
 cases zaW zR s with
 | none =>
  cases zE.getD s.1 .panic with
  | panic => exact ⟨[], rfl, rfl, by simp⟩
  | goto _ => exact ⟨[], rfl, rfl, by simp⟩
  | switch _ _ => exact ⟨[.bool], rfl, rfl, by simp⟩
 | some e =>
  obtain ⟨k, p⟩ := e
  cases k
  ·exact ⟨[], rfl, rfl, by simp⟩
  ·exact ⟨[.copy], rfl, rfl, by simp⟩
  ·exact ⟨[.int], rfl, rfl, by simp⟩
  ·exact ⟨[], rfl, rfl, by simp⟩
theorem zh1 (B : Facts w H) (zR : Rows) (zE : Ends) (S : zbm zR zE) (lo sp : AV) (hL : lo.locs zaw) (hs : sp.locs zaw) (s : Spot) (hm : s ∈ zag zR) :
  zal w H 3 (.ref 286) [zas zR zE lo sp, za s] fun r => r = zbU (za5 (zbR (zcn zR s))) := by
 kcf_m
 obtain ⟨ol, ho, hf, hol⟩ := zoI zR zE s
 kcj_m
 have g_operands_at := B.g_operands_at
 have g_indices_of := B.g_indices_of
 have g_looked_at := B.g_looked_at
 have g_dropped_at := B.g_dropped_at
 have g_written_at := B.g_written_at
 have g_is_return := B.g_is_return
 have g_set := B.g_set
 have g_sorted := B.g_sorted
 refine zal.go [("body", zas zR zE lo sp), ("point", za s)] B.n_used_locals B.lim rfl rfl ⟨zaM hL hs, zaA s, trivial⟩ ?hsw
 case hsw =>
  intro L cd Q0 hQ
  kd_p
  refine zaO 0 (zaG ?_)
  kd_p
  refine ⟨rfl, ?_⟩
  kd_p
  refine zbc (Rep w) (fun rem v m => v = ([("body", zas zR zE lo sp), ("point", za s), ("found", .loc 0)] : zaf) ∧ Ex2 fun (l : List Opd) (acc : List Int) => zbI (rem = l.map Opd.av) (m = [(0, .list (acc.map .int))]) (acc ++ l.flatMap Opd.loc = (if kindAt zR s = some .use then [4] else [])) (acc.length + l.length ≤ 1)) ?_ ?_ ?_
  ·refine zaC ?_
   kd_p
   refine (zh0 B zR zE S.toSane lo sp hL hs s hm).callE B.n_operands_at (by decide) ?_
   rw [ho]
   exact ⟨_, zbj, rfl, ol, [], rfl, rfl, by simpa using hf, by simpa using hol⟩
  ·intro J hJ Q1 x rest hN
   rintro v m ⟨rfl, l, acc, hr, rfl, hl, hz⟩
   cases l with
   | nil => simp at hr
   | cons o l =>
    simp only [List.map_cons, List.cons.injEq] at hr
    obtain ⟨rfl, rfl⟩ := hr
    simp at hz
    have hz1 : acc = [] := List.eq_nil_of_length_eq_zero (by kd_mem)
    have hz2 : l = [] := List.eq_nil_of_length_eq_zero (by kd_mem)
    subst hz1 hz2
    refine za8 ?_
    cases o
    ·kd_p
     refine za1 (zbe ?_)
     kd_p
     refine ⟨0, _, rfl, rfl, ?_⟩
     kd_p
     refine ⟨_, rfl, by simp [zab], zat ?_⟩
     kd_p
     refine za1 (zdE ?_)
     kd_p
     refine ⟨0, _, rfl, rfl, ?_⟩
     kd_p
     refine (zf1 B ⟨4, [.deref]⟩ (by decide)).callE B.n_indices_of (by decide) ?_
     refine ⟨_, _, rfl, rfl, by simp [zab], zat ?_⟩
     kd_p
     (refine hN _ _ _ ?_; exact zaj _ [_] rfl (hJ _ _ _ ⟨rfl, [], [4], rfl, rfl, by simpa [Opd.loc] using hl, by simp⟩))
    ·kd_p
     (refine hN _ _ _ ?_; exact zaj _ [_] rfl (hJ _ _ _ ⟨rfl, [], [], rfl, rfl, by simpa [Opd.loc] using hl, by simp⟩))
    ·kd_p
     (refine hN _ _ _ ?_; exact zaj _ [_] rfl (hJ _ _ _ ⟨rfl, [], [], rfl, rfl, by simpa [Opd.loc] using hl, by simp⟩))
  ·intro v m hq2'
   kcf_m
   obtain ⟨rfl, l, acc, hr, rfl, hl, hz⟩ := hq2'
   kcj_m
   have : l = [] := by simpa using hr.symm
   subst this
   rw [List.flatMap_nil, List.append_nil] at hl
   subst hl
   clear hr hz
   kd_p
   refine zbc (Rep w) (fun rem v m => zaF (v = ([("body", zas zR zE lo sp), ("point", za s), ("found", .loc 0)] : zaf)) ((∀ x ∈ rem, x = .none ∨ ∃ p, x = p.av ∧ zcw zR s = some p)) (m = [(0, .list ((if kindAt zR s = some .use then [4] else [] : List Int).map .int))])) ?_ ?_ ?_
   ·refine zaC ?_
    kd_p
    refine (zgv B zR zE S.toSane lo sp hL hs s hm).callE B.n_looked_at (by decide) ?_
    kd_p
    refine (zfj B zR zE S.toSane lo sp hL hs s hm).callE B.n_dropped_at (by decide) ?_
    kd_p
    refine ⟨_, zf4, rfl, ?_, rfl⟩
    intro x hx
    simp only [List.mem_cons, List.not_mem_nil, or_false] at hx
    rcases hx with rfl | rfl
    ·cases hl : zcw zR s with
     | none => exact .inl rfl
     | some p => exact .inr ⟨p, rfl, rfl⟩
    ·exact .inl rfl
   ·intro J hJ Q1 x rest hN
    rintro v m ⟨rfl, hx, rfl⟩
    refine za8 ?_
    have hrest : ∀ x ∈ rest, x = .none ∨ ∃ p, x = p.av ∧ zcw zR s = some p := fun y hy => hx y (List.mem_cons_of_mem _ hy)
    rcases hx x List.mem_cons_self with rfl | ⟨p, rfl, hp⟩
    ·kd_p
     (refine hN _ _ _ ?_; exact zaj _ [_] rfl (hJ _ _ _ ⟨rfl, hrest, rfl⟩))
    ·have hps : p.steps.length < 1000 := by
      delta zcw at hp
      cases hq : zaW zR s with
      | none => rw [hq] at hp; contradiction
      | some e =>
       rw [hq] at hp
       obtain ⟨k, q⟩ := e
       cases k
       ·obtain rfl := Option.some.inj hp; exact S.stepsAt hq
       all_goals contradiction
     kd_p
     refine za1 (zdE ?_)
     kd_p
     refine ⟨0, _, rfl, rfl, ?_⟩
     kd_p
     refine (zf1 B p hps).callE B.n_indices_of (by decide) ?_
     refine ⟨_, _, rfl, rfl, by split <;> simp [zab], zat ?_⟩
     kd_p
     (refine hN _ _ _ ?_; exact zaj _ [_] rfl (hJ _ _ _ ⟨rfl, hrest, by rw [List.append_nil]⟩))
   ·rintro v m ⟨rfl, hx, rfl⟩
    repeat (first | refine zce (zfP ["looked", "written"] ?_ ?_ (by with_unfolding_all rfl)) | x_close)
    ·kd_p
     refine (zgv B zR zE S.toSane lo sp hL hs s hm).callE B.n_looked_at (by decide) ?_
     kd_p
     refine (zfm B zR zE S.toSane lo sp hL hs s hm).callE B.n_written_at (by decide) ?_
     kd_p
     refine ⟨_, rfl, rfl, za7 ?_⟩
     kd_p
     refine za7 ?_
     kd_p
     refine zdK ?_
     cases hev : zaW zR s with
     | none =>
      simp only [zcw, zcJ, hev, zbF, kindAt, Option.map_none]
      rw [if_neg (by simp)]
      have hu : ([] : List Int) = zcn zR s := (zmE hev).symm
      kd_p
      refine (zcj B zR zE S.toSane lo sp hL hs s hm).callE B.n_is_return (by decide) ?_
      repeat (first | with_reducible refine zb2 (zam (zcr ?_)) | x_close)
      refine zgf (ns := zcn zR s) (by rw [← hu]; rfl) (zcQ S s) ?_
      kd_p
      refine zcl ?_
      (refine hQ _ _ _ ?_; exact zaa (zbZ _) ⟨rfl, rfl⟩)
     | some e =>
      obtain ⟨k, p⟩ := e
      have hps : p.steps.length < 1000 := S.stepsAt hev
      cases k <;> simp only [zcw, zcJ, hev, zbF, kindAt, Option.map_some]
      ·rw [if_neg (by simp)]
       have hu : [p.loc] = zcn zR s := (zeE hev).symm
       kd_p
       refine za1 (zbe ?_)
       kd_p
       refine ⟨0, _, rfl, rfl, ?_⟩
       kd_p
       refine ⟨_, rfl, by simp [zab], zat ?_⟩
       kd_p
       kd_p
       refine (zcj B zR zE S.toSane lo sp hL hs s hm).callE B.n_is_return (by decide) ?_
       repeat (first | with_reducible refine zb2 (zam (zcr ?_)) | x_close)
       refine zgf (ns := zcn zR s) (by rw [← hu]; rfl) (zcQ S s) ?_
       kd_p
       refine zcl ?_
       (refine hQ _ _ _ ?_; exact zaa (zbZ _) ⟨rfl, rfl⟩)
      ·first | rw [if_pos rfl] | skip
       have hu : ([4] : List Int) = zcn zR s := (zeE hev).symm
       kd_p
       refine (zcj B zR zE S.toSane lo sp hL hs s hm).callE B.n_is_return (by decide) ?_
       repeat (first | with_reducible refine zb2 (zam (zcr ?_)) | x_close)
       refine zgf (ns := zcn zR s) (by rw [← hu]; rfl) (zcQ S s) ?_
       kd_p
       refine zcl ?_
       (refine hQ _ _ _ ?_; exact zaa (zbZ _) ⟨rfl, rfl⟩)
      ·rw [if_neg (by simp)]
       kd_p
       refine zhz p.steps ?_
       kd_p
       refine ifb (fun hb => ?_) (fun hb => ?_)
       ·have hp : ¬ p.steps = [] := by simpa using hb
        have hu : [p.loc] = zcn zR s := ((zeE hev).trans (if_neg hp)).symm
        kd_p
        refine za1 (zbe ?_)
        kd_p
        refine ⟨0, _, rfl, rfl, ?_⟩
        kd_p
        refine ⟨_, rfl, by simp [zab], zat ?_⟩
        kd_p
        refine za1 (zdE ?_)
        kd_p
        refine ⟨0, _, rfl, rfl, ?_⟩
        kd_p
        refine (zf1 B p hps).callE B.n_indices_of (by decide) ?_
        refine ⟨_, _, rfl, rfl, by simp [zab], zat ?_⟩
        kd_p
        refine (zcj B zR zE S.toSane lo sp hL hs s hm).callE B.n_is_return (by decide) ?_
        repeat (first | with_reducible refine zb2 (zam (zcr ?_)) | x_close)
        refine zgf (ns := zcn zR s) (by rw [← hu]; rfl) (zcQ S s) ?_
        kd_p
        refine zcl ?_
        (refine hQ _ _ _ ?_; exact zaa (zbZ _) ⟨rfl, rfl⟩)
       ·have hp : p.steps = [] := by simpa using hb
        have hu : ([] : List Int) = zcn zR s := ((zeE hev).trans (if_pos hp)).symm
        kd_p
        refine (zcj B zR zE S.toSane lo sp hL hs s hm).callE B.n_is_return (by decide) ?_
        repeat (first | with_reducible refine zb2 (zam (zcr ?_)) | x_close)
        refine zgf (ns := zcn zR s) (by rw [← hu]; rfl) (zcQ S s) ?_
        kd_p
        refine zcl ?_
        (refine hQ _ _ _ ?_; exact zaa (zbZ _) ⟨rfl, rfl⟩)
      ·rw [if_neg (by simp)]
       have hu : ([] : List Int) = zcn zR s := (zeE hev).symm
       kd_p
       refine (zcj B zR zE S.toSane lo sp hL hs s hm).callE B.n_is_return (by decide) ?_
       repeat (first | with_reducible refine zb2 (zam (zcr ?_)) | x_close)
       refine zgf (ns := zcn zR s) (by rw [← hu]; rfl) (zcQ S s) ?_
       kd_p
       refine zcl ?_
       (refine hQ _ _ _ ?_; exact zaa (zbZ _) ⟨rfl, rfl⟩)
    ·intro x hx
     simp at hx
     rcases hx with rfl | rfl <;> tb_start
end
noncomputable abbrev Fct := Int → Bool
noncomputable def noF : Fct := fun V => false
noncomputable def orF (S T : Fct) : Fct := fun j => S j || T j
noncomputable def key (s : Spot) : List Int := [s.1, s.2]
theorem zgQ {s t : Spot} (h : key s = key t) : s = t := by
 unfold key at h
 simp only [List.cons.injEq, and_true, Int.natCast_inj] at h
 exact Prod.ext h.1 h.2
theorem zb1 {f : Spot → AV} {s : Spot} : ∀ {l : List Spot}, s ∈ l → ((l.map key).zip (l.map f)).lookup (key s) = some (f s)
 | t :: l, h => by
  rw [List.map_cons, List.map_cons, List.zip_cons_cons, List.lookup_cons]
  by_cases e : s = t
  ·subst e; simp
  ·exists (show (key s == key t) = false by simpa using fun q => e (zgQ q))
   exact zb1 ((List.mem_cons.mp h).resolve_left e)
theorem zhH {f : Spot → AV} {s : Spot} : ∀ {l : List Spot}, s ∉ l → ((l.map key).zip (l.map f)).lookup (key s) = none
 | [], _ => rfl
 | t :: l, h => by
  rw [List.map_cons, List.map_cons, List.zip_cons_cons, List.lookup_cons]
  rw [List.mem_cons, not_or] at h
  exists (show (key s == key t) = false by simpa using fun q => h.1 (zgQ q))
  exact zhH h.2
theorem zfv {l : List Spot} {s : Spot} : key s ∈ l.map key ↔ s ∈ l := by
 rw [List.mem_map]
 exact ⟨fun ⟨t, ht, e⟩ => zgQ e ▸ ht, fun h => ⟨s, h, rfl⟩⟩
noncomputable abbrev zaJ (l : List Spot) (f : Spot → AV) : zb4 := .dctp (l.map key) (l.map f)
noncomputable abbrev zcG (l : List Spot) (f : Spot → AV) : AV := .dctp (l.map key) (l.map f)
noncomputable def downs (F : Fct → Spot → Fct) (b n : Nat) : Nat → Fct → Fct
 | 0, S => S
 | k + 1, S => F (downs F b n k S) (b, n - k)
noncomputable def zba (fs : List Fct) (l : List Nat) (S : Fct) : Fct := l.foldl (fun S t => orF S (fs.getD t noF)) S
structure zgW (w : World) (H : Heap) (zR : Rows) (st : AV) (F : Fct → Spot → Fct) : Prop where
 locs : st.locs zaw
 at_ : ∀ {d : Nat} {mu : Mu} {S : Fct} {s : Spot} {Q : QA}, 1 ≤ d → s ∈ zag zR → Q (.fset (F S s)) mu → zaP w H d st [.fset S, .int s.1, .int s.2] mu Q
section
variable {d : Nat} {mu : Mu}
theorem list_range {n : Nat} {Q : QL} (hn : n < 1000) (q : Q ((List.range n).map fun (i : Nat) => .int i) mu) : zi w H d (.raw (.type "list")) [.rng 0 n 1] mu Q := by
 refine zon (small_one (by decide) (by decide) (by exact Int.natCast_nonneg _) (by kd_mem)) (by rw [rangeSize_nat]; exact Int.natCast_nonneg _) ?_ ?_
 ·unfold zcE; rw [rangeSize_nat]; simp; kd_mem
 ·unfold zbV zcE
  rw [rangeSize_nat]
  rw [(by funext i; simp : (fun (i : Nat) => AV.int (0 + (i : Int) * 1)) = fun (i : Nat) => AV.int i)]
  simpa using q
theorem zi2 {env : Env} {vars : zaf} {x : Expr} {pos : Pos} {Q : QA} (h : EW w H d env (eval x env) vars mu fun a mu1 => ∃ i, a = .int i ∧ Q (.int (-i)) mu1) : EW w H d env (eval (.UnaryOp .USub x pos) env) vars mu Q := fun A Y β s hA g vo =>
 wpAny_UnaryOp (h.run hA g vo fun v s1 β1 a mu1 g1 t1 vo1 ra hq9' => by
  obtain ⟨i, ea, q⟩ := hq9'
  subst ea
  obtain ⟨t, rfl⟩ := ra
  exact PyProof.Rows.neg_int ⟨β1, .int _, mu1, g1.toks _, t1.trans .toks, ⟨_, rfl⟩, q⟩)
theorem zn2 (B : Facts w H) (S T : Fct) : zal w H 1 (.ref 222) [.fset S, .fset T] fun r => r = .fset (orF S T) := by
 refine zal.go [("one", .fset S), ("other", .fset T)] B.n_joined B.lim rfl rfl ⟨trivial, trivial, trivial⟩ ?hsw
 case hsw =>
  intro L cd Q0 hQ
  kd_p
  (refine hQ _ _ _ ?_; exact zaa trivial ⟨rfl, rfl⟩)
theorem zmV (B : Facts w H) (zR : Rows) (zE : Ends) (S : Sane zR zE) (lo sp : AV) (hL : lo.locs zaw) (hs : sp.locs zaw) {st : AV} {F : Fct → Spot → Fct} (hst : zgW w H zR st F) (fc : Fct) (b : Nat) (hb : b < zR.length) :
  zal w H 2 (.ref 236) [zas zR zE lo sp, .fset fc, .int b, .int 0, st] fun r => r = .fset (downs F b (zR.getD b []).length ((zR.getD b []).length + 1) fc) := by
 have c1 := B.c_Body
 have c2 := B.a_Body_blocks
 have h4 := S.few
 have h5 := zbd S
 obtain ⟨row, e, hrow, he, hz, h1, h2, h3⟩ := zip_get S hb
 exists h2
 have g_len := B.g_len
 have g_range := B.g_range
 refine zal.go [("body", zas zR zE lo sp), ("facts", .fset fc), ("block", .int b), ("index", .int 0), ("step", st)] B.n_back_to B.lim rfl rfl ⟨zaM hL hs, trivial, trivial, trivial, hst.locs, trivial⟩ ?hsw
 case hsw =>
  intro L cd Q0 hQ
  kd_p
  refine zbc (Rep w) (fun rem v m => ∃ k ≤ row.length + 1, zaF (v = ([("body", zas zR zE lo sp), ("facts", .fset (downs F b row.length k fc)), ("block", .int b), ("index", .int 0), ("step", st)] : zaf)) (rem = ((List.range (row.length + 1)).drop k).map (fun (i : Nat) => AV.int ((row.length : Int) - i))) (m = [])) ?_ ?_ ?_
  ·refine zaC ?_
   kd_p
   refine zi2 ?_
   kd_p
   refine ⟨1, rfl, ?_⟩
   kd_p
   refine ⟨_, ?_, 0, Nat.zero_le _, rfl, rfl, rfl⟩
   have := zeM (d := 1) (mu := []) (n := row.length) (by kd_mem)
   simpa using this
  ·intro J hJ Q1 x rest hN
   rintro v m ⟨k, hk, rfl, hr, rfl⟩
   obtain ⟨hlt, rfl, rfl⟩ := range_drop hr.symm
   refine za8 ?_
   kd_p
   exists ((by kd_mem : (row.length : Int) - (k : Int) = (((row.length - k : Nat)) : Int)))
   refine hst.at_ (s := (b, row.length - k)) (by decide) (zax.mpr ⟨hb, by show row.length - k ≤ _; rw [h2]; exact Nat.sub_le _ _⟩) ?_
   kd_p
   (refine hN _ _ _ ?_; exact zaj [("body", zas zR zE lo sp), ("facts", .fset (downs F b row.length (k + 1) fc)), ("block", .int b), ("index", .int 0), ("step", st)] [_] rfl (hJ _ _ _ ⟨k + 1, hlt, rfl, rfl, rfl⟩))
  ·intro v m hq2'
   obtain ⟨k, hk, rfl, hr, rfl⟩ := hq2'
   have := zaH hk hr.symm
   subst this
   kd_p
   (refine hQ _ _ _ ?_; exact zaa trivial ⟨rfl, rfl⟩)
theorem ziI {a : AV} {α : Type} {f : α → AV} {l : List α} {i : Nat} {x : α} {Q : QA} (ha : zcV mu a = some (l.map f)) (hx : l[i]? = some x) (hz : l.length < 2 ^ 60) (h : Q (f x) mu) : zb3 w H d a (.int i) mu Q := by
 rcases zf9 ha with e | ⟨k, e, hm⟩ <;> subst e
 ·exact zeo hx hz h
 ·exact zgE hm (get_map hx) (by simpa using hz) h
theorem zjT (B : Facts w H) (zR : Rows) (zE : Ends) (S : Sane zR zE) (lo sp : AV) {fa : AV} {fs : List Fct} (hf : zcV mu fa = some (fs.map .fset)) (hfl : fs.length = zR.length) (fc : Fct) (b : Nat) (hb : b < zR.length) {body : AV} (hbi : zcs mu body = some (177, zg2, [.str "b", .int 0, lo, zcO zR zE, sp])) :
  zar w H 2 (.ref 229) [body, fa, .int b, .fset fc, .raw (.ref 222)] mu fun r m => r = .fset (zba fs (zE.getD b .panic).succs fc) ∧ m = mu := by
 have c1 := B.c_Body
 have c2 := B.a_Body_blocks
 have h4 := S.few
 have h5 := zbd S
 obtain ⟨row, e, hrow, he, hz, h1, h2, h3⟩ := zip_get S hb
 exists h3
 have g_successors := B.g_successors
 refine zar.go [("body", body), ("facts", fa), ("block", .int b), ("end", .fset fc), ("join", .raw (.ref 222))] B.n_behind_block B.lim rfl rfl ?hsw
 case hsw =>
  intro L cd Q0 hQ
  kd_p
  refine zbc (Rep w) (fun rem v m => ∃ done rest : List Nat, zbI (done ++ rest = e.succs) (v = ([("body", body), ("facts", fa), ("block", .int b), ("end", .fset fc), ("join", .raw (.ref 222)), ("here", .fset (zba fs done fc))] : zaf)) (rem = rest.map (fun (n : Nat) => AV.int n)) (m = mu)) ?_ ?_ ?_
  ·refine zaC ?_
   kd_p
   refine (zdS B e).callE B.n_successors (by decide) ?_
   exact ⟨_, zbj, [], e.succs, rfl, rfl, rfl, rfl⟩
  ·intro J hJ Q1 x rest hN
   rintro v m ⟨done, rest', hds, rfl, hr, rfl⟩
   cases rest' with
   | nil => contradiction
   | cons g rest' =>
    simp only [List.map_cons, List.cons.injEq] at hr
    obtain ⟨rfl, rfl⟩ := hr
    have hgl : g < zR.length := S.goal e (List.mem_of_getElem? he) g ((e.mem_succs g).mp (by rw [← hds]; simp))
    have hfg : fs[g]? = some (fs.getD g noF) := by
     exists List.getD_eq_getElem?_getD
     have : g < fs.length := by kd_mem
     simp [this]
    refine za8 ?_
    kd_p
    refine ziI (i := g) hf hfg (by kd_mem) ?_
    kd_p
    refine (zn2 B _ _).callE B.n_joined (by decide) ?_
    kd_p
    (refine hN _ _ _ ?_; refine zaj [("body", body), ("facts", fa), ("block", .int b), ("end", .fset fc), ("join", .raw (.ref 222)), ("here", .fset (orF (zba fs done fc) (fs.getD g noF)))] [_] rfl (hJ _ _ _ ⟨done ++ [g], rest', by simp [hds], ?_, rfl, rfl⟩))
    simp [zba]
  ·rintro v m ⟨done, rest', hds, rfl, hr, rfl⟩
   have : rest' = [] := by simpa using hr.symm
   subst this
   rw [List.append_nil] at hds
   subst hds
   kd_p
   (refine hQ _ _ _ ?_; exact zbN ⟨rfl, rfl⟩)
end
theorem zc3 : ∀ {n : Nat} {l : List Nat}, l.Nodup → (∀ x ∈ l, x < n) → l.length ≤ n
 | 0, [], _, _ => Nat.le_refl _
 | 0, x :: _, _, h => absurd (h x List.mem_cons_self) (Nat.not_lt_zero _)
 | n + 1, l, nd, h => by
  by_cases hm : n ∈ l
  ·have h1 := zc3 (n := n) (l := l.erase n) (nd.erase n) fun x hx => by
    have h2 := h x (List.mem_of_mem_erase hx)
    have h3 : x ≠ n := fun e => by rw [e] at hx; exact (List.Nodup.not_mem_erase nd) hx
    kd_mem
   have := List.length_erase_of_mem hm
   kd_mem
  ·have := zc3 (n := n) (l := l) nd fun x hx => by
    have h2 := h x hx
    have h3 : x ≠ n := fun e => hm (e ▸ hx)
    kd_mem
   exact Nat.le_succ_of_le ‹_›
def leF (S T : Fct) : Prop := ∀ j, S j = true → T j = true
def zde (S : Fct) : Prop := ∀ j, S j = true → 0 ≤ j ∧ j < 16
structure zdM (F : Fct → Spot → Fct) : Prop where
 mono : ∀ S T s, leF S T → leF (F S s) (F T s)
 small : ∀ S s, zde S → zde (F S s)
theorem leF.refl (S : Fct) : leF S S := fun V h => h
theorem leF.trans {S T U : Fct} (h : leF S T) (k : leF T U) : leF S U := fun j x => k j (h j x)
theorem zg8 {F : Fct → Spot → Fct} (O : zdM F) (b n : Nat) {S T : Fct} (h : leF S T) : ∀ k, leF (downs F b n k S) (downs F b n k T)
 | 0 => h
 | k + 1 => O.mono _ _ _ (zg8 O b n h k)
theorem zgr {F : Fct → Spot → Fct} (O : zdM F) (b n : Nat) {S : Fct} (h : zde S) : ∀ k, zde (downs F b n k S)
 | 0 => h
 | k + 1 => O.small _ _ (zgr O b n h k)
theorem zcz {fs : List Fct} {j : Int} : ∀ {l : List Nat} {S : Fct}, zba fs l S j = true ↔ S j = true ∨ ∃ t ∈ l, fs.getD t noF j = true
 | [], S => by simp [zba]
 | t :: l, S => by
  have := zcz (fs := fs) (j := j) (l := l) (S := orF S (fs.getD t noF))
  unfold zba at this ⊢
  rw [List.foldl_cons, this]
  simp [orF, or_assoc]
theorem zdu {j : Int} : noF j = true ↔ False := by simp [noF]
noncomputable def trans (F : Fct → Spot → Fct) (zR : Rows) (zE : Ends) (fs : List Fct) (b : Nat) : Fct :=
 downs F b (zR.getD b []).length ((zR.getD b []).length + 1) (zba fs (zE.getD b .panic).succs noF)
theorem zlL {F : Fct → Spot → Fct} (O : zdM F) {zR : Rows} {zE : Ends} {fs gs : List Fct} (h : ∀ b, leF (fs.getD b noF) (gs.getD b noF)) (b : Nat) : leF (trans F zR zE fs b) (trans F zR zE gs b) := by
 refine zg8 O _ _ (fun j hj => ?_) _
 rw [zcz] at hj ⊢
 exact hj.imp id fun ⟨t, ht, hx⟩ => ⟨t, ht, h t j hx⟩
theorem zkR {F : Fct → Spot → Fct} (O : zdM F) {zR : Rows} {zE : Ends} {fs : List Fct} (h : ∀ b, zde (fs.getD b noF)) (b : Nat) : zde (trans F zR zE fs b) := by
 refine zgr O _ _ (fun j hj => ?_) _
 rw [zcz] at hj
 rcases hj with hj | ⟨t, _, hj⟩
 ·exact (zdu.mp hj).elim
 ·exact h t j hj
def znB (F : Fct → Spot → Fct) (zR : Rows) (zE : Ends) (G : Nat → Fct) : Prop :=
 ∀ gs : List Fct, (∀ b, leF (gs.getD b noF) (G b)) → ∀ b < zR.length, leF (trans F zR zE gs b) (G b)
noncomputable def room (fs : List Fct) : Nat := (fs.map fun S => 16 - (za5 S).length).sum
theorem zij (S : Fct) : (za5 S).length ≤ 16 := by
 have := List.length_filter_le (fun n => S (Int.ofNat n)) (List.range 16)
 exact this
theorem zhN : ∀ {l : List Nat} {i y x : Nat}, l[i]? = some x → y < x → (l.set i y).sum < l.sum
 | z :: l, 0, y, x, h, hy => by simp at h; subst h; simp; assumption
 | z :: l, i + 1, y, x, h, hy => by
  have := zhN (l := l) (i := i) (by simpa using h) hy
  simp; omega
theorem ziC {fs : List Fct} {b : Nat} {S T : Fct} (h : fs[b]? = some S) (le : leF S T) (sm : zde T) (hne : ¬ ∀ j, T j = S j) : room (fs.set b T) < room fs := by
 unfold room
 exists List.map_set
 refine zhN (x := 16 - (za5 S).length) (by (exists List.getElem?_map; exists h); rfl) ?_
 have hT := zij T
 obtain ⟨j, hj⟩ : ∃ j, ¬ T j = S j := Classical.byContradiction fun hc => hne fun j => Classical.byContradiction fun q => hc ⟨j, q⟩
 have hTj : T j = true ∧ S j = false := by
  cases h1 : T j <;> cases h2 : S j
  ·rw [h1, h2] at hj; exact absurd rfl hj
  ·replace h1 := (le j h2) ▸ h1; contradiction
  ·exact ⟨rfl, rfl⟩
  ·rw [h1, h2] at hj; exact absurd rfl hj
 have hs := sm j hTj.1
 have e : j = Int.ofNat j.toNat := by show j = ((j.toNat : Nat) : Int); kd_mem
 have : (za5 S).length < (za5 T).length := zdj (fun x hx => le _ hx) (a := j.toNat) (by rw [List.mem_range]; kd_mem) (by show T (Int.ofNat j.toNat) = true; rw [← e]; exact hTj.1) (by show S (Int.ofNat j.toNat) = false; rw [← e]; exact hTj.2)
 kd_mem
structure zgG (F : Fct → Spot → Fct) (zR : Rows) (zE : Ends) (n : Nat) (fs : List Fct) (left : List Nat) : Prop where
 len : fs.length = zR.length
 asc : ∀ b < zR.length, leF (fs.getD b noF) (trans F zR zE fs b)
 fix : ∀ b < zR.length, b ∉ left → ∀ j, fs.getD b noF j = trans F zR zE fs b j
 least : ∀ G, znB F zR zE G → ∀ b, leF (fs.getD b noF) (G b)
 small : ∀ b, zde (fs.getD b noF)
 nd : left.Nodup
 lt : ∀ x ∈ left, x < zR.length
 fuel : n = room fs * (zR.length + 1) + left.length
theorem zdG {fs : List Fct} {b c : Nat} {T : Fct} (hb : b < fs.length) : (fs.set b T).getD c noF = if c = b then T else fs.getD c noF := by
 (exists List.getD_eq_getElem?_getD; exists List.getD_eq_getElem?_getD; exists List.getElem?_set)
 by_cases h : c = b
 ·subst h; simp [hb]
 ·rw [if_neg (Ne.symm h), if_neg h]
theorem zn5 {n b : Nat} : (List.replicate n noF).getD b noF = noF := by
 (exists List.getD_eq_getElem?_getD; exists List.getElem?_replicate)
 split <;> rfl
theorem zgG.init {F : Fct → Spot → Fct} {zR : Rows} {zE : Ends} : ∃ n, zgG F zR zE n (List.replicate zR.length noF) (List.range zR.length) := by
 refine ⟨_, ⟨by simp, fun b hb j hj => ?_, fun b hb hn => absurd (List.mem_range.mpr hb) hn, fun G V b j hj => ?_, fun b j hj => ?_, List.nodup_range, fun x hx => List.mem_range.mp hx, rfl⟩⟩
 all_goals (rw [zn5] at hj; exact (zdu.mp hj).elim)
theorem zgG.skip {F : Fct → Spot → Fct} {zR : Rows} {zE : Ends} {n : Nat} {fs : List Fct} {init : List Nat} {b : Nat} (I : zgG F zR zE n fs (init ++ [b])) (h : ∀ j, trans F zR zE fs b j = fs.getD b noF j) : ∃ n', n' < n ∧ zgG F zR zE n' fs init := by
 have hz := I.fuel
 rw [List.length_append, List.length_singleton] at hz
 refine ⟨_, ?_, ⟨I.len, I.asc, fun c hc hn j => ?_, I.least, I.small, (List.nodup_append.mp I.nd).1, fun x hx => I.lt x (by simp [hx]), rfl⟩⟩
 ·exact Nat.le_of_eq (Eq.symm ‹_›)
 ·by_cases e : c = b
  ·subst e; exact (h j).symm
  ·exact I.fix c hc (by simp [hn, e]) j
theorem zgG.grow {F : Fct → Spot → Fct} (O : zdM F) {zR : Rows} {zE : Ends} (S : Sane zR zE) {n : Nat} {fs : List Fct} {init : List Nat} {b : Nat} (I : zgG F zR zE n fs (init ++ [b])) (h : ¬ ∀ j, trans F zR zE fs b j = fs.getD b noF j) :
  ∃ n', n' < n ∧ zgG F zR zE n' (fs.set b (trans F zR zE fs b)) ((zaK zE zR.length b).foldl zbM init) := by
 have hb : b < zR.length := I.lt b (by simp)
 have hbf : b < fs.length := by rw [I.len]; exact hb
 have hnd := (List.nodup_append.mp I.nd).1
 obtain ⟨f1, f2⟩ := zcg (l := zaK zE zR.length b) hnd
 have hsm := zkR O (zR := zR) (zE := zE) I.small b
 have up : ∀ c, leF (fs.getD c noF) ((fs.set b (trans F zR zE fs b)).getD c noF) := by
  intro c
  rw [zdG hbf]
  refine iteInduction (fun _ => ?_) (fun _ => ?_)
  ·rename_i e; subst e; exact I.asc c hb
  ·exact leF.refl _
 have hlt : ∀ x ∈ (zaK zE zR.length b).foldl zbM init, x < zR.length := by
  intro x hx
  rcases (f2 x).mp hx with hx | hx
  ·exact I.lt x (by simp [hx])
  ·exact List.mem_range.mp (List.mem_filter.mp hx).1
 have hfew := zc3 f1 hlt
 refine ⟨_, ?_, ⟨by simp [I.len], fun c hc => ?_, fun c hc hn j => ?_, fun G hG c => ?_, fun c => ?_, f1, hlt, rfl⟩⟩
 ·have hz := I.fuel
  have : (room (fs.set b (trans F zR zE fs b)) + 1) * (zR.length + 1) ≤ room fs * (zR.length + 1) := Nat.mul_le_mul_right _ (ziC (by simp [hbf] : fs[b]? = some (fs.getD b noF)) (I.asc b hb) hsm h)
  rw [Nat.add_mul, Nat.one_mul] at this
  omega
 ·refine leF.trans ?_ (zlL O up c)
  exists zdG hbf
  split
  ·rename_i e; cases e; exact leF.refl _
  ·exact I.asc c hc
 ·have hnp : c ∉ zaK zE zR.length b := fun q => hn ((f2 c).mpr (.inr q))
  have hni : c ∉ init := fun q => hn ((f2 c).mpr (.inl q))
  have hbs : b ∉ (zE.getD c .panic).succs := fun q => hnp (List.mem_filter.mpr ⟨List.mem_range.mpr hc, by simpa using q⟩)
  have same : trans F zR zE (fs.set b (trans F zR zE fs b)) c = trans F zR zE fs c := by as_aux_lemma =>
   have : zba (fs.set b (trans F zR zE fs b)) (zE.getD c .panic).succs noF = zba fs (zE.getD c .panic).succs noF := by
    funext j
    rw [Bool.eq_iff_iff, zcz, zcz]
    have : ∀ t ∈ (zE.getD c .panic).succs, (fs.set b (trans F zR zE fs b)).getD t noF = fs.getD t noF := fun t ht => by
     rw [zdG hbf, if_neg (show ¬ t = b from fun e => hbs (e ▸ ht))]
    constructor
    ·rintro (q | ⟨t, ht, q⟩)
     ·exact .inl q
     ·exact .inr ⟨t, ht, by refine rwR (this t ht) ?_; exact q⟩
    ·rintro (q | ⟨t, ht, q⟩)
     ·exact .inl q
     ·exact .inr ⟨t, ht, by rw [this t ht]; exact q⟩
   unfold trans at this ⊢
   rw [this]
  (exists same; exists zdG hbf)
  split
  ·rename_i e; rw [e]
  ·rename_i e; exact I.fix c hc (by simp [hni, e]) j
 ·exists zdG hbf
  split
  ·rename_i e; rw [e]; exact hG fs (I.least G hG) b hb
  ·exact I.least G hG c
 ·rw [zdG hbf]
  refine iteInduction (fun _ => ?_) (fun _ => ?_)
  ·exact hsm
  ·exact I.small c
structure zeR (F : Fct → Spot → Fct) (zR : Rows) (zE : Ends) (fs : List Fct) : Prop where
 len : fs.length = zR.length
 fix : ∀ b < zR.length, ∀ j, fs.getD b noF j = trans F zR zE fs b j
 least : ∀ G, znB F zR zE G → ∀ b, leF (fs.getD b noF) (G b)
theorem zgG.done {F : Fct → Spot → Fct} {zR : Rows} {zE : Ends} {n : Nat} {fs : List Fct} (I : zgG F zR zE n fs []) : zeR F zR zE fs :=
 ⟨I.len, fun b hb j => I.fix b hb (by simp) j, I.least⟩
section
variable {d : Nat} {mu : Mu}
theorem zei {k : Nat} {l : List Nat} {Q : QA} (h : mu.lookup k = some (.list (l.map fun (n : Nat) => AV.int n))) (q : Q (.bool (!l.isEmpty)) mu) : Op2 w H d (compareOp .NotEq) (.loc k) (.lst []) mu Q :=
 zeh (da := .list (l.map zb8)) (db := .list []) (c := !l.isEmpty) (by show zoJ (mu.lookup k) = _; exists h; show (AV.pdL _).map _ = _; rw [zez]; rfl) rfl (zdI l) (by kpf_c) (by cases l <;> rfl) q
theorem zl9 (B : Facts w H) (zR : Rows) (zE : Ends) (S : Sane zR zE) (lo sp : AV) (hL : lo.locs zaw) (hs : sp.locs zaw) {st : AV} {F : Fct → Spot → Fct} (hst : zgW w H zR st F) (O : zdM F) :
  zal w H 3 (.ref 243) [zas zR zE lo sp, .fset noF, st, .raw (.ref 222)] fun r => ∃ fs, r = .lst (fs.map .fset) ∧ zeR F zR zE fs := by
 have c1 := B.c_Body
 have c2 := B.a_Body_blocks
 have h4 := S.few
 have h5 := zbd S
 have g_len := B.g_len
 have g_range := B.g_range
 have g_list := B.g_list
 have g_predecessors := B.g_predecessors
 have g_back_to := B.g_back_to
 have g_behind_block := B.g_behind_block
 refine zal.go [("body", zas zR zE lo sp), ("end", .fset noF), ("step", st), ("join", .raw (.ref 222))] B.n_solve_backward B.lim rfl rfl ⟨zaM hL hs, trivial, hst.locs, trivial, trivial⟩ ?hsw
 case hsw =>
  intro L cd Q0 hQ
  repeat (first | with_reducible refine zaO 0 (zl7 ?_) | x_close)
  refine za6 ?_
  kd_p
  refine ⟨.fset noF, zR.length, rfl, by simp [h5], by kd_mem, rfl, ?_⟩
  kd_p
  refine (zhc B zR zE S lo sp hL hs).callE B.n_predecessors (by decide) ?_
  repeat (first | with_reducible refine zbX (zaO 1 (zcr ?_)) (by tb_start) | x_close)
  rw [show (((zR.zip zE).map zfc).length : Int) = (zR.length : Int) by simp [h5]]
  refine list_range (by kd_mem) ?_
  refine ⟨rfl, ?_⟩
  kd_p
  obtain ⟨n0, I0⟩ := zgG.init (F := F) (zR := zR) (zE := zE)
  refine zeC (fun n v m => Ex2 fun (fs : List Fct) (left : List Nat) => zaF (v = ([("body", zas zR zE lo sp), ("end", .fset noF), ("step", st), ("join", .raw (.ref 222)), ("facts", .loc 0), ("ahead", .lst ((List.range zR.length).map fun j => zbU (zaK zE zR.length j))), ("left", .loc 1)] : zaf)) (m = [(1, .list (left.map fun (n : Nat) => AV.int n)), (0, .list (fs.map .fset))]) (zgG F zR zE n fs left)) n0 ⟨List.replicate zR.length noF, List.range zR.length, rfl, by simp, I0⟩ ?_
  intro Q1 n hN
  rintro v m ⟨fs, left, rfl, rfl, I⟩
  have hlen := I.len
  kd_p
  refine zam (zaG ?_)
  kd_p
  refine zei (l := left) rfl ?_
  kd_p
  refine ifk (fun hb => ?_) (fun hb => ?_)
  rotate_left
  ·have : left = [] := by simpa using hb
   subst this
   kd_p
   (refine hQ _ _ _ ?_; exact zbl (k := 0) rfl (zao (f := AV.fset) (fun V => trivial) _) ⟨⟨fs, rfl, I.done⟩, rfl⟩)
  obtain ⟨init, b, rfl⟩ := zd0 (l := left) (by simpa using hb)
  have hbl : b < zR.length := I.lt b (by simp)
  have hfew := zc3 I.nd I.lt
  have hlen2 : (init ++ [b]).length = init.length + 1 := by simp
  obtain ⟨f1, f2⟩ := zcg (l := zaK zE zR.length b) (List.nodup_append.mp I.nd).1
  kd_p
  refine zi3 ?_
  kd_p
  refine ⟨1, init.map (fun (n : Nat) => AV.int n), .int b, rfl, by rw [List.map_append]; rfl, by rw [List.length_map, zab]; kd_mem, zat ?_⟩
  kd_p
  refine zaU B.n_behind_block ((zjT B zR zE S lo sp (fs := fs) rfl hlen noF b hbl rfl).mono (Nat.le_refl _) ?_) (by decide)
  rintro r m ⟨rfl, rfl⟩
  kd_p
  refine (zmV B zR zE S lo sp hL hs hst _ b hbl).callE B.n_back_to (by decide) ?_
  kd_p
  have hget : fs[b]? = some (fs.getD b noF) := by
   rw [List.getD_eq_getElem?_getD]
   have : b < fs.length := by kd_mem
   simp [this]
  refine ziI (a := .loc 0) (l := fs) (i := b) rfl hget (by kd_mem) ?_
  refine zoD (fun c hc => ?_)
  kd_p
  refine ifk (fun hb => ?_) (fun hb => ?_)
  rotate_left
  ·obtain ⟨n', hn, I'⟩ := I.skip (fun j => by
    rw [hb] at hc
    exact Classical.byContradiction fun q => by have := hc.mpr (fun h => q (h j)); cases this)
   kd_p
   (refine hN _ _ _ ?_; exact zaj [("body", zas zR zE lo sp), ("end", .fset noF), ("step", st), ("join", .raw (.ref 222)), ("facts", .loc 0), ("ahead", .lst ((List.range zR.length).map fun j => zbU (zaK zE zR.length j))), ("left", .loc 1)] [_, _] rfl ⟨n', hn, fs, init, rfl, rfl, I'⟩)
  ·obtain ⟨n', hn, I'⟩ := I.grow O S (hc.mp hb)
   kd_p
   refine zdy ?_
   kd_p
   refine zjl (k := 0) (i := b) rfl (by simp; kd_mem) (by simp; kd_mem) (zbT (by decide) (zat ?_))
   rw [← List.map_set (f := AV.fset)]
   kd_p
   refine zbc (Rep w) (fun rem v m => v = ([("body", zas zR zE lo sp), ("end", .fset noF), ("step", st), ("join", .raw (.ref 222)), ("facts", .loc 0), ("ahead", .lst ((List.range zR.length).map fun j => zbU (zaK zE zR.length j))), ("left", .loc 1), ("block", .int b), ("here", .fset (trans F zR zE fs b))] : zaf) ∧ ∃ done rest : List Nat, zaF (done ++ rest = zaK zE zR.length b) (rem = rest.map (fun (n : Nat) => AV.int n)) (m = [(1, .list ((done.foldl zbM init).map fun (n : Nat) => AV.int n)), (0, .list ((fs.set b (trans F zR zE fs b)).map .fset))])) ?_ ?_ ?_
   ·refine zaC ?_
    kd_p
    refine zeo (l := List.range zR.length) (i := b) (x := b) (by simp [hbl]) (by simp; kd_mem) ?_
    exact ⟨_, zbj, rfl, [], zaK zE zR.length b, rfl, rfl, rfl⟩
   ·intro J hJ Q1 x rest hN
    rintro v m ⟨rfl, done, rest', hds, hr, rfl⟩
    cases rest' with
    | nil => simp at hr
    | cons g rest' =>
     simp only [List.map_cons, List.cons.injEq] at hr
     obtain ⟨rfl, rfl⟩ := hr
     have hlt2 : ∀ x ∈ done.foldl zbM init, x < zR.length := fun x hx => by
      rcases ((zcg (l := done) (List.nodup_append.mp I.nd).1).2 x).mp hx with hx | hx
      ·exact I.lt x (by simp [hx])
      ·exact List.mem_range.mp (List.mem_filter.mp (hds ▸ List.mem_append_left _ hx : x ∈ zaK zE zR.length b)).1
     have hfew2 := zc3 (zcg (l := done) (List.nodup_append.mp I.nd).1).1 hlt2
     refine za8 ?_
     kd_p
     refine zdv (l := done.foldl zbM init) rfl ?_
     kd_p
     refine ifk (fun hb => ?_) (fun hb => ?_)
     ·have hb : g ∉ done.foldl zbM init := by simpa using hb
      kd_p
      refine za1 (zbe ?_)
      kd_p
      refine ⟨1, _, rfl, rfl, ?_⟩
      kd_p
      refine ⟨_, rfl, by rw [List.length_map, zab]; kd_mem, zat ?_⟩
      kd_p
      (refine hN _ _ _ ?_; refine zaj _ [_] rfl (hJ _ _ _ ⟨rfl, done ++ [g], rest', by simp [hds], rfl, ?_⟩))
      rw [List.foldl_append, List.foldl_cons, List.foldl_nil]
      rw [show zbM (done.foldl zbM init) g = done.foldl zbM init ++ [g] from if_neg hb, List.map_append]; rfl
     ·have hb : g ∈ done.foldl zbM init := by simpa using hb
      kd_p
      (refine hN _ _ _ ?_; refine zaj _ [_] rfl (hJ _ _ _ ⟨rfl, done ++ [g], rest', by simp [hds], rfl, ?_⟩))
      rw [List.foldl_append, List.foldl_cons, List.foldl_nil]
      rw [show zbM (done.foldl zbM init) g = done.foldl zbM init from if_pos hb]
   ·rintro v m ⟨rfl, done, rest', hds, hr, rfl⟩
    have : rest' = [] := by simpa using hr.symm
    subst this
    rw [List.append_nil] at hds
    subst hds
    kd_p
    (refine hN _ _ _ ?_; exact zaj [("body", zas zR zE lo sp), ("end", .fset noF), ("step", st), ("join", .raw (.ref 222)), ("facts", .loc 0), ("ahead", .lst ((List.range zR.length).map fun j => zbU (zaK zE zR.length j))), ("left", .loc 1)] [_, _] rfl ⟨n', hn, _, _, rfl, rfl, I'⟩)
end
noncomputable def zaZ (F : Fct → Spot → Fct) (zR : Rows) (zE : Ends) (fs : List Fct) (s : Spot) : Fct :=
 downs F s.1 (zR.getD s.1 []).length ((zR.getD s.1 []).length - s.2 + 1) (zba fs (zE.getD s.1 .panic).succs noF)
noncomputable def zcT (zR : Rows) (b k : Nat) : List Spot := (List.range k).map fun i => (b, (zR.getD b []).length - i)
noncomputable def zb5 (zR : Rows) (n : Nat) : List Spot := (List.range n).flatMap fun b => zcT zR b ((zR.getD b []).length + 1)
theorem zgq (zR : Rows) (n : Nat) : zb5 zR (n + 1) = zb5 zR n ++ zcT zR n ((zR.getD n []).length + 1) := by
 unfold zb5
 (exists List.range_succ; exists List.flatMap_append); simp
theorem zjI (zR : Rows) (b k : Nat) : zcT zR b (k + 1) = zcT zR b k ++ [(b, (zR.getD b []).length - k)] := by
 unfold zcT
 (exists List.range_succ; exists List.map_append); rfl
theorem zhq {zR : Rows} {b k : Nat} {s : Spot} : s ∈ zcT zR b k ↔ s.1 = b ∧ ∃ i < k, s.2 = (zR.getD b []).length - i := by
 obtain ⟨x, y⟩ := s
 simp only [zcT, List.mem_map, List.mem_range, Prod.mk.injEq]
 exact ⟨fun ⟨i, h, e, e2⟩ => ⟨e.symm, i, h, e2.symm⟩, fun ⟨e, i, h, e2⟩ => ⟨i, h, e.symm, e2.symm⟩⟩
theorem zhr {zR : Rows} {n : Nat} {s : Spot} : s ∈ zb5 zR n ↔ s.1 < n ∧ s.2 ≤ (zR.getD s.1 []).length := by
 simp only [zb5, List.mem_flatMap, List.mem_range, zhq]
 constructor
 ·rintro ⟨b, h, e, i, hi, e2⟩; subst e; exact ⟨h, by omega⟩
 ·rintro ⟨h1, h2⟩; exact ⟨s.1, h1, rfl, (zR.getD s.1 []).length - s.2, by omega, by omega⟩
theorem zk5 (zR : Rows) (n : Nat) : (zb5 zR n).length = (zbL zR n).length := by
 unfold zb5 zbL
 (exists List.length_flatMap; exists List.length_flatMap)
 congr 1
 apply List.map_congr_left
 intro b V
 simp [zcT]
theorem zhJ {zR : Rows} {n : Nat} (h : n ≤ zR.length) : (zbL zR n).length ≤ (zag zR).length := by
 have : ∀ m, (zbL zR n).length ≤ (zbL zR (n + m)).length := by
  intro m
  induction m with
  | zero => exact Nat.le_refl _
  | succ m ih => rw [← Nat.add_assoc, zc1, List.length_append]; exact Nat.le_trans ‹_› (Nat.le_add_right _ _)
 have := this (zR.length - n)
 rw [show n + (zR.length - n) = zR.length by kd_mem] at this
 exact this
noncomputable def zaV (put used : Spot → Fct) (S : Fct) (s : Spot) : Fct := fun j => (S j && !put s j) || used s j
theorem zkO {put used : Spot → Fct} (h : ∀ s, zde (used s)) : zdM (zaV put used) := by
 refine ⟨fun S T s le j hj => ?_, fun S s sm j hj => ?_⟩
 ·unfold zaV at hj ⊢
  rw [Bool.or_eq_true] at hj ⊢
  refine hj.imp (fun q => ?_) id
  rw [Bool.and_eq_true] at q ⊢
  exact ⟨le j q.1, q.2⟩
 ·unfold zaV at hj
  rw [Bool.or_eq_true, Bool.and_eq_true] at hj
  rcases hj with ⟨q, _⟩ | q
  ·exact sm j q
  ·exact h s j q
noncomputable abbrev zfn (zR : Rows) (f : Spot → Fct) : AV := zcG (zag zR) fun s => .fset (f s)
noncomputable abbrev zeW (zR : Rows) (used dropped put : Spot → Fct) (ks : List Str) (vs : List AV) : AV := .obj 352 ("used" :: "dropped" :: "put" :: ks) (zfn zR used :: zfn zR dropped :: zfn zR put :: vs)
theorem zeU {D : Nat → Bool} (zR : Rows) (f : Spot → Fct) : (zfn zR f).locs D := zao (f := fun s : Spot => AV.fset (f s)) (fun V => trivial) (zag zR)
theorem zey {D : Nat → Bool} (zR : Rows) (used dropped put : Spot → Fct) {ks : List Str} {vs : List AV} (h : AV.locsL D vs) : (zeW zR used dropped put ks vs).locs D := ⟨zeU _ _, zeU _ _, zeU _ _, h⟩
theorem zcb {α : Type} {f : α → AV} (h : ∀ x, (f x).tame = true) : ∀ l : List α, AV.tameL (l.map f) = true
 | [] => rfl
 | x :: l => by simp only [List.map_cons, AV.tameL, h x, zcb h l, Bool.and_self]
theorem zhQ (l : List Fct) : AV.tameL (l.map .fset) = true := zcb (f := AV.fset) (fun V => rfl) l
section
variable {d : Nat} {mu : Mu}
theorem zld (B : Facts w H) (zR : Rows) (used dropped put : Spot → Fct) {ks : List Str} {vs : List AV} (hv : AV.locsL zaw vs) (S : Fct) (s : Spot) (hs : s ∈ zag zR) :
  zal w H 1 (.ref 328) [zeW zR used dropped put ks vs, .fset S, .int s.1, .int s.2] fun r => r = .fset (zaV put used S s) := by
 have c1 := B.c_Liveness
 have c2 := B.a_Liveness_put
 have c3 := B.a_Liveness_used
 refine zal.go [("self", zeW zR used dropped put ks vs), ("facts", .fset S), ("block", .int s.1), ("index", .int s.2)] B.m_Liveness_use_step B.lim rfl rfl ⟨zey _ _ _ _ hv, trivial, trivial, trivial, trivial⟩ ?hsw
 case hsw =>
  intro L cd Q0 hQ
  kd_p
  refine zdf rfl (zb1 (f := fun s => .fset (put s)) hs) ?_
  kd_p
  refine zdf rfl (zb1 (f := fun s => .fset (used s)) hs) ?_
  kd_p
  (refine hQ _ _ _ ?_; exact zaa trivial ⟨rfl, rfl⟩)
theorem zjW (B : Facts w H) (zR : Rows) (used dropped put : Spot → Fct) {ks : List Str} {vs : List AV} (hv : AV.locsL zaw vs) (S : Fct) (s : Spot) (hs : s ∈ zag zR) :
  zal w H 1 (.ref 335) [zeW zR used dropped put ks vs, .fset S, .int s.1, .int s.2] fun r => r = .fset (zaV put dropped S s) := by
 have c1 := B.c_Liveness
 have c2 := B.a_Liveness_put
 have c3 := B.a_Liveness_dropped
 refine zal.go [("self", zeW zR used dropped put ks vs), ("facts", .fset S), ("block", .int s.1), ("index", .int s.2)] B.m_Liveness_drop_step B.lim rfl rfl ⟨zey _ _ _ _ hv, trivial, trivial, trivial, trivial⟩ ?hsw
 case hsw =>
  intro L cd Q0 hQ
  kd_p
  refine zdf rfl (zb1 (f := fun s => .fset (put s)) hs) ?_
  kd_p
  refine zdf rfl (zb1 (f := fun s => .fset (dropped s)) hs) ?_
  kd_p
  (refine hQ _ _ _ ?_; exact zaa trivial ⟨rfl, rfl⟩)
theorem zo5 (B : Facts w H) (zR : Rows) (used dropped put : Spot → Fct) {ks : List Str} {vs : List AV} (hv : AV.locsL zaw vs) : zgW w H zR (.meth (.ref 328) (zeW zR used dropped put ks vs)) (zaV put used) :=
 ⟨zey (ks := ks) _ _ _ _ hv, fun {d mu S s Q} le hs q => zgp B.m_Liveness_use_step ((zld B zR used dropped put hv S s hs).meth fun r hr => hr ▸ q) le⟩
theorem zl3 (B : Facts w H) (zR : Rows) (used dropped put : Spot → Fct) {ks : List Str} {vs : List AV} (hv : AV.locsL zaw vs) : zgW w H zR (.meth (.ref 335) (zeW zR used dropped put ks vs)) (zaV put dropped) :=
 ⟨zey (ks := ks) _ _ _ _ hv, fun {d mu S s Q} le hs q => zgp B.m_Liveness_drop_step ((zjW B zR used dropped put hv S s hs).meth fun r hr => hr ▸ q) le⟩
theorem zgt (B : Facts w H) (zR : Rows) (zE : Ends) (S : zbm zR zE) (lo sp : AV) {st : AV} {F : Fct → Spot → Fct} (hst : zgW w H zR st F) {fs : List Fct} (hfl : fs.length = zR.length) :
  zju w H 3 (.ref 250) [zas zR zE lo sp, .lst (fs.map .fset), .fset noF, st, .raw (.ref 222)] fun o => o = zaJ (zb5 zR zR.length) fun s => .fset (zaZ F zR zE fs s) := by
 have c1 := B.c_Body
 have c2 := B.a_Body_blocks
 have h4 := S.few
 have h5 := zbd S.toSane
 have h6 := S.tiny
 refine zar.frameN ?_ (by rintro V rfl; exact ⟨_, .dctp, zcb (f := fun s => AV.fset (zaZ F zR zE fs s)) (fun V => rfl) _, zao (f := fun s => AV.fset (zaZ F zR zE fs s)) (fun V => trivial) _⟩)
 have g_len := B.g_len
 have g_range := B.g_range
 have g_behind_block := B.g_behind_block
 refine zar.go [("body", zas zR zE lo sp), ("facts", .lst (fs.map .fset)), ("end", .fset noF), ("step", st), ("join", .raw (.ref 222))] B.n_all_facts_before B.lim rfl rfl ?hsw
 case hsw =>
  intro L cd Q0 hQ
  kd_p
  refine zb6 0 B.sys rfl ?_
  kd_p
  refine zbc (Rep w) (fun rem v m => v = ([("body", zas zR zE lo sp), ("facts", .lst (fs.map .fset)), ("end", .fset noF), ("step", st), ("join", .raw (.ref 222)), ("found", .loc 0)] : zaf) ∧ ∃ b ≤ zR.length, rem = ((List.range zR.length).drop b).map (fun (n : Nat) => AV.int n) ∧ m = [(0, zaJ (zb5 zR b) fun s => .fset (zaZ F zR zE fs s))]) ?_ ?_ ?_
  ·refine zaC ?_
   kd_p
   exact ⟨_, zbO (by simpa [h5] using (show zR.length < 1000 by kd_mem)), rfl, 0, Nat.zero_le _, by simp [h5], rfl⟩
  ·intro J hJ Q1 x rest hN
   rintro v m ⟨rfl, b, hb, hr, rfl⟩
   obtain ⟨hlt, rfl, rfl⟩ := range_drop hr.symm
   kcf_m
   kcf_m
   obtain ⟨row, e, hrow, he, hz, h1, h2, h3⟩ := zip_get S.toSane hlt
   kcj_m
   kcj_m
   refine za8 ?_
   kd_p
   refine zaU B.n_behind_block ((zjT B zR zE S.toSane lo sp (fs := fs) rfl hfl noF b hlt rfl).mono (Nat.le_refl _) ?_) (by decide)
   rintro r m ⟨rfl, rfl⟩
   kd_p
   refine zbc (Rep w) (fun rem v m => ∃ k ≤ row.length + 1, zaF (v = ([("body", zas zR zE lo sp), ("facts", .lst (fs.map .fset)), ("end", .fset noF), ("step", st), ("join", .raw (.ref 222)), ("found", .loc 0), ("block", .int b), ("here", .fset (downs F b row.length k (zba fs (zE.getD b .panic).succs noF)))] : zaf)) (rem = ((List.range (row.length + 1)).drop k).map (fun (i : Nat) => AV.int ((row.length : Int) - i))) (m = [(0, zaJ (zb5 zR b ++ zcT zR b k) fun s => .fset (zaZ F zR zE fs s))])) ?_ ?_ ?_
   ·refine zaC ?_
    kd_p
    refine zi2 ?_
    kd_p
    refine ⟨1, rfl, ?_⟩
    kd_p
    refine zi2 ?_
    kd_p
    refine ⟨1, rfl, ?_⟩
    kd_p
    refine ⟨_, ?_, 0, Nat.zero_le _, rfl, rfl, by simp [zcT]⟩
    have := zeM (d := 2) (mu := [(0, zaJ (zb5 zR b) fun s => .fset (zaZ F zR zE fs s))]) (n := row.length) (by kd_mem)
    simpa using this
   ·intro J hJ Q1 x rest hN
    rintro v m ⟨k, hk, rfl, hr, rfl⟩
    obtain ⟨hlk, rfl, rfl⟩ := range_drop hr.symm
    refine za8 ?_
    have e1 : (row.length : Int) - (k : Int) = (((row.length - k : Nat)) : Int) := by kd_mem
    rw [e1]
    have hsp : (b, row.length - k) ∈ zag zR := zax.mpr ⟨hlt, by show row.length - k ≤ _; rw [h2]; exact Nat.sub_le _ _⟩
    kd_p
    refine hst.at_ (s := (b, row.length - k)) (by decide) hsp ?_
    kd_p
    refine zdy ?_
    kd_p
    have hle := zhJ (zR := zR) (n := b + 1) hlt
    rw [← zk5, zgq, List.length_append] at hle
    have hdo : ∀ k, (zcT zR b k).length = k := fun k => by simp [zcT]
    rw [hdo, h2] at hle
    refine zel (k := 0) rfl (by rw [List.length_map, List.length_append, hdo]; kd_mem) ?_ (zat ?_)
    ·show key (b, row.length - k) ∉ _
     rw [zfv, List.mem_append, zhr, zhq, h2]
     rintro (⟨q, V⟩ | ⟨V, i, hi, q⟩)
     ·exact absurd q (Nat.lt_irrefl _)
     ·have q : row.length - k = row.length - i := q
      kd_mem
    kd_p
    (refine hN _ _ _ ?_; refine zaj [("body", zas zR zE lo sp), ("facts", .lst (fs.map .fset)), ("end", .fset noF), ("step", st), ("join", .raw (.ref 222)), ("found", .loc 0), ("block", .int b), ("here", .fset (downs F b row.length (k + 1) (zba fs (zE.getD b .panic).succs noF)))] [_] rfl (hJ _ _ _ ⟨k + 1, hlk, rfl, rfl, ?_⟩))
    have hf : zaZ F zR zE fs (b, row.length - k) = downs F b row.length (k + 1) (zba fs (zE.getD b .panic).succs noF) := by
     unfold zaZ
     rw [h2, show row.length - (row.length - k) + 1 = k + 1 by kd_mem]
    rw [zjI, h2]
    simp only [zaJ, List.map_append, List.map_cons, List.map_nil, List.append_assoc, hf]
    rfl
   ·rintro v m ⟨k, hk, rfl, hr, rfl⟩
    have := zaH hk hr.symm
    subst this
    kd_p
    (refine hN _ _ _ ?_; exact zaj [("body", zas zR zE lo sp), ("facts", .lst (fs.map .fset)), ("end", .fset noF), ("step", st), ("join", .raw (.ref 222)), ("found", .loc 0)] [_, _] rfl (hJ _ _ _ ⟨rfl, b + 1, hlt, rfl, by rw [zgq, h2]⟩))
  ·rintro v m ⟨rfl, b, hb, hr, rfl⟩
   have := zaH hb hr.symm
   subst this
   kd_p
   (refine hQ _ _ _ ?_; exact zjS rfl (zao (f := fun s => AV.fset (zaZ F zR zE fs s)) (fun V => trivial) _) ⟨rfl, _, rfl, rfl⟩)
end
theorem zem (zR : Rows) : (zag zR).Nodup := by
 unfold zag
 have : ∀ l : List Nat, l.Nodup → (l.flatMap fun b => (List.range ((zR.getD b []).length + 1)).map fun i => ((b, i) : Spot)).Nodup := by
  intro l
  induction l with
  | nil => intro V; simp
  | cons b l ih =>
   intro h
   rw [List.nodup_cons] at h
   rw [List.flatMap_cons, List.nodup_append]
   refine ⟨?_, ih h.2, ?_⟩
   ·rw [List.Nodup, List.pairwise_map]
    exact List.nodup_range.imp fun hab e => hab (Prod.mk.inj e).2
   ·rintro ⟨x, y⟩ hx ⟨x', y'⟩ hy e
    simp only [List.mem_map, List.mem_flatMap, Prod.mk.injEq] at hx hy
    obtain ⟨V, V, rfl, rfl⟩ := hx
    obtain ⟨c, hc, V, V, rfl, rfl⟩ := hy
    injection e with e; subst e
    exact h.1 hc
 exact this _ List.nodup_range
theorem zlp {l : List Int} (h : ∀ n ∈ l, 0 ≤ n ∧ n < 16) : zbR ((za5 (zbR l)).map Int.ofNat) = zbR l := by
 funext j
 unfold zbR
 congr 1
 rw [eq_iff_iff, List.mem_map]
 constructor
 ·rintro ⟨n, hn, rfl⟩
  simpa [za5] using (List.mem_filter.mp hn).2
 ·intro hj
  obtain ⟨h0, h1⟩ := h j hj
  refine ⟨j.toNat, List.mem_filter.mpr ⟨List.mem_range.mpr (by kd_mem), ?_⟩, by show ((j.toNat : Nat) : Int) = j; kd_mem⟩
  have e : Int.ofNat j.toNat = j := by show ((j.toNat : Nat) : Int) = j; kd_mem
  exists e; simpa using hj
noncomputable def zaT (zR : Rows) (s : Spot) : Fct := zbR (zcn zR s)
noncomputable def zbt (zR : Rows) (s : Spot) : Fct := zbR (putL zR s)
noncomputable def zdi (s : Spot) : Fct := zbR []
theorem zlq {l : List Int} (h : ∀ n ∈ l, 0 ≤ n ∧ n < 16) : zde (zbR l) := fun j hj => h j (of_decide_eq_true hj)
noncomputable abbrev mu0 (zR : Rows) (zE : Ends) (lo : AV) : Mu := [(2, .inst 177 1), (1, .ns zg2 [.str "b", .int 0, lo, zcO zR zE, .loc 0]), (0, .dcti [] [])]
noncomputable abbrev bAV (zR : Rows) (zE : Ends) (lo : AV) : AV := zas zR zE lo (.dcti [] [])
theorem zcp {m : Mu} {zR : Rows} {zE : Ends} {lo : AV} (hL : lo.locs zaw) (h2 : m.lookup 2 = some (.inst 177 1)) (h1 : m.lookup 1 = some (.ns zg2 [.str "b", .int 0, lo, zcO zR zE, .loc 0])) (h0 : m.lookup 0 = some (.dcti [] [])) : Fr m (.loc 2) (bAV zR zE lo) :=
 .inst h2 h1 (.cons (.same trivial) (.cons (.same trivial) (.cons (.same hL) (.cons (.same (zgo _ _)) (.cons (.dcti h0 .nil) .nil)))))
theorem zbp {m : Mu} {k : Nat} {l : List Spot} {f : Spot → Fct} (h : m.lookup k = some (zaJ l fun s => .fset (f s))) : Fr m (.loc k) (zcG l fun s => .fset (f s)) :=
 .dctp h (FrL.same (zao (f := fun s => AV.fset (f s)) (fun V => trivial) _))
structure zrC (zR : Rows) (zE : Ends) (fs : List Fct) : Prop where
 sol : zeR (zaV (zbt zR) (zaT zR)) zR zE fs
noncomputable abbrev zoo (zR : Rows) (zE : Ends) (lo : AV) (us ds : List Fct) : Mu :=
 (9, zaJ (zb5 zR zR.length) fun s => .fset (zaZ (zaV (zbt zR) zdi) zR zE ds s)) :: (8, zaJ (zb5 zR zR.length) fun s => .fset (zaZ (zaV (zbt zR) (zaT zR)) zR zE us s)) ::
 (7, zaJ (zag zR) fun s => .fset (zbt zR s)) :: (6, zaJ (zag zR) fun s => .fset (zdi s)) :: (5, zaJ (zag zR) fun s => .fset (zaT zR s)) ::
 (4, .inst 352 3) :: (3, .ns ["used", "dropped", "put", "use_facts", "drop_facts"] [.loc 5, .loc 6, .loc 7, .loc 8, .loc 9]) :: mu0 zR zE lo
section
variable {d : Nat} {mu : Mu}
theorem zmW (B : Facts w H) {a : AV} {ks : List Str} {vs : List AV} {x : AV} {l : List Spot} {f : Spot → Fct} (ha : zcs mu a = some (352, ks, vs)) (hl : (ks.zip vs).lookup ("use_facts" : Str) = some x) (hh : x.handed = true) (hx : zfY mu x = some (l.map key, l.map fun s => .fset (f s))) (s : Spot) (hs : s ∈ l) :
  zar w H 1 (.ref 342) [a, za s] mu fun r m => r = .fset (f s) ∧ m = mu := by
 have c1 := B.c_Liveness
 have c2 := B.a_Liveness_use_facts
 refine zar.go [("self", a), ("point", za s)] B.m_Liveness_for_use B.lim rfl rfl ?hsw
 case hsw =>
  intro L cd Q0 hQ
  kd_p
  refine zrN ha c1 c2 hl hh ?_
  kd_p
  refine zdf hx (zb1 (f := fun s => .fset (f s)) hs) ?_
  (refine hQ _ _ _ ?_; exact zbN ⟨rfl, rfl⟩)
theorem zjZ (B : Facts w H) (zR : Rows) (zE : Ends) (S : zbm zR zE) (lo : AV) (hL : lo.locs zaw) :
  zar w H 4 (.ref 321) [.loc 4, .loc 2] ((4, .inst 352 3) :: (3, .ns [] []) :: mu0 zR zE lo) fun r m => r = .none ∧ Ex2 fun us ds => zeR (zaV (zbt zR) (zaT zR)) zR zE us ∧ m = zoo zR zE lo us ds := by
 have c1 := B.c_Liveness
 have a1 := B.a_Liveness_used
 have a2 := B.a_Liveness_dropped
 have a3 := B.a_Liveness_put
 have a4 := B.a_Liveness_use_facts
 have a5 := B.a_Liveness_drop_facts
 have k1 := B.k_Liveness_use_step
 have k2 := B.k_Liveness_drop_step
 have hsp : AV.locs zaw (.dcti [] []) := trivial
 have h6 := S.tiny
 have ou : zdM (zaV (zbt zR) (zaT zR)) := zkO fun s => zlq (zcQ S s)
 have od : zdM (zaV (zbt zR) zdi) := zkO fun s j hj => by simp [zdi, zbR] at hj
 have g_points := B.g_points
 have g_frozenset := B.g_frozenset
 have g_used_locals := B.g_used_locals
 have g_dropped_locals := B.g_dropped_locals
 have g_set_locals := B.g_set_locals
 have g_solve_backward := B.g_solve_backward
 have g_all_facts_before := B.g_all_facts_before
 have g_NOTHING := B.g_NOTHING
 have g_joined := B.g_joined
 refine zar.go [("self", .loc 4), ("body", .loc 2)] B.m_Liveness_init__ B.lim rfl rfl ?hsw
 case hsw =>
  intro L cd Q0 hQ
  kd_p
  refine zb6 5 B.sys rfl ?_
  kd_p
  refine zb6 6 B.sys rfl ?_
  kd_p
  refine zb6 7 B.sys rfl ?_
  kd_p
  refine zbh ?_
  kd_p
  refine fl ?_
  kd_p
  refine zbh ?_
  kd_p
  refine fl ?_
  kd_p
  refine zbh ?_
  kd_p
  refine fl ?_
  kd_p
  refine zbc (Rep w) (fun rem v m => v = ([("self", .loc 4), ("body", .loc 2)] : zaf) ∧ ∃ done rest : List Spot, zaF (done ++ rest = zag zR) (rem = rest.map za) (m = ((7, zaJ done fun s => .fset (zbt zR s)) :: (6, zaJ done fun s => .fset (zdi s)) :: (5, zaJ done fun s => .fset (zaT zR s)) :: (4, .inst 352 3) :: (3, .ns ["used", "dropped", "put"] [.loc 5, .loc 6, .loc 7]) :: mu0 zR zE lo : Mu))) ?_ ?_ ?_
  ·refine zaC ?_
   kd_p
   refine ((zj1 B zR zE S.toSane lo (.dcti [] []) hL hsp).q ?_).callE B.n_points (by decide) (.cons (zcp hL rfl rfl rfl) .nil) ?_
   ·rintro r rfl; exact zcb (f := za) (fun V => rfl) _
   exact ⟨_, zbj, rfl, [], zag zR, rfl, rfl, rfl⟩
  ·intro J hJ Q1 x rest hN
   rintro v m ⟨rfl, done, rest', hds, hr, rfl⟩
   cases rest' with
   | nil => simp at hr
   | cons s rest' =>
    simp only [List.map_cons, List.cons.injEq] at hr
    obtain ⟨rfl, rfl⟩ := hr
    have hs : s ∈ zag zR := by rw [← hds]; simp
    have hnd := zem zR
    rw [← hds, List.nodup_append] at hnd
    have hnew : s ∉ done := fun q => hnd.2.2 s q s List.mem_cons_self rfl
    have hlen : done.length + (rest'.length + 1) ≤ 16 := by rw [← hds] at h6; simpa using h6
    refine za8 ?_
    kd_p
    refine ((zh1 B zR zE S lo (.dcti [] []) hL hsp s hs).q ?_).callE B.n_used_locals (by decide) (.cons (zcp hL rfl rfl rfl) (.cons (.same (zaA _)) .nil)) ?_
    ·rintro r rfl; exact zcb (f := fun (n : Nat) => AV.int n) (fun V => rfl) _
    kd_p
    refine zfq (ns := (za5 (zbR (zcn zR s))).map Int.ofNat) (by rw [List.map_map]; rfl) (fun n hn => by obtain ⟨k, hk, rfl⟩ := List.mem_map.mp hn; have := List.mem_range.mp (List.mem_filter.mp hk).1; show 0 ≤ (k : Int) ∧ (k : Int) < 16; kd_mem) ?_
    rw [zlp (zcQ S s)]
    kd_p
    refine zdy ?_
    kd_p
    refine zel (k := 5) (ks := done.map key) (vs := done.map fun s => .fset (zaT zR s)) rfl (by rw [List.length_map]; kd_mem) ?_ (zbT (by decide) (zbT (by decide) (zat ?_)))
    ·show key s ∉ _
     rw [zfv]; exact hnew
    kd_p
    refine ((zf0 B zR zE S lo (.dcti [] []) hL hsp s hs).q ?_).callE B.n_dropped_locals (by decide) (.cons (zcp hL rfl rfl rfl) (.cons (.same (zaA _)) .nil)) ?_
    ·rintro r rfl; exact rfl
    kd_p
    refine zfq (ns := []) rfl (by simp) ?_
    kd_p
    refine zdy ?_
    kd_p
    refine zel (k := 6) (ks := done.map key) (vs := done.map fun s => .fset (zdi s)) rfl (by rw [List.length_map]; kd_mem) ?_ (zbT (by decide) (zat ?_))
    ·show key s ∉ _
     rw [zfv]; exact hnew
    kd_p
    refine ((zi4 B zR zE S lo (.dcti [] []) hL hsp s hs).q ?_).callE B.n_set_locals (by decide) (.cons (zcp hL rfl rfl rfl) (.cons (.same (zaA _)) .nil)) ?_
    ·rintro r rfl; exact zcb (f := AV.int) (fun V => rfl) _
    kd_p
    refine zfq (ns := putL zR s) rfl (zp6 S s) ?_
    kd_p
    refine zdy ?_
    kd_p
    refine zel (k := 7) (ks := done.map key) (vs := done.map fun s => .fset (zbt zR s)) rfl (by rw [List.length_map]; kd_mem) ?_ (zat ?_)
    ·show key s ∉ _
     rw [zfv]; exact hnew
    kd_p
    (refine hN _ _ _ ?_; refine zaj _ [_] rfl (hJ _ _ _ ⟨rfl, done ++ [s], rest', by simp [hds], rfl, ?_⟩))
    simp only [zaJ, List.map_append, List.map_cons, List.map_nil]
    rfl
  ·rintro v m ⟨rfl, done, rest', hds, hr, rfl⟩
   have : rest' = [] := by simpa using hr.symm
   subst this
   rw [List.append_nil] at hds
   subst hds
   repeat (first | with_reducible refine zfi ?_ | x_close)
   refine ⟨352, _, _, Kf, 328, rfl, c1, k1, by tb_start, ?_⟩
   kd_p
   refine ((zl9 B zR zE S.toSane lo (.dcti [] []) hL hsp (zo5 B zR (zaT zR) zdi (zbt zR) (ks := []) (vs := []) trivial) ou).q ?_).call B.n_solve_backward (by decide) (.cons (zcp hL rfl rfl rfl) (.cons (.same trivial) (.cons (.meth (.inst rfl rfl (.cons (zbp (l := zag zR) (f := zaT zR) rfl) (.cons (zbp (l := zag zR) (f := zdi) rfl) (.cons (zbp (l := zag zR) (f := zbt zR) rfl) .nil))))) (.cons (.same trivial) .nil)))) ?_
   ·rintro r ⟨fs, rfl, V⟩; exact zhQ fs
   rintro r ⟨us, rfl, sol_us⟩
   repeat (first | with_reducible refine zfi ?_ | x_close)
   refine ⟨352, _, _, Kf, 335, rfl, c1, k2, by tb_start, ?_⟩
   kd_p
   refine ((zl9 B zR zE S.toSane lo (.dcti [] []) hL hsp (zl3 B zR (zaT zR) zdi (zbt zR) (ks := []) (vs := []) trivial) od).q ?_).call B.n_solve_backward (by decide) (.cons (zcp hL rfl rfl rfl) (.cons (.same trivial) (.cons (.meth (.inst rfl rfl (.cons (zbp (l := zag zR) (f := zaT zR) rfl) (.cons (zbp (l := zag zR) (f := zdi) rfl) (.cons (zbp (l := zag zR) (f := zbt zR) rfl) .nil))))) (.cons (.same trivial) .nil)))) ?_
   ·rintro r ⟨fs, rfl, V⟩; exact zhQ fs
   rintro r ⟨ds, rfl, sol_ds⟩
   repeat (first | with_reducible refine zfi ?_ | x_close)
   refine ⟨352, _, _, Kf, 328, rfl, c1, k1, by tb_start, ?_⟩
   kd_p
   refine (zgt B zR zE S lo (.dcti [] []) (zo5 B zR (zaT zR) zdi (zbt zR) (ks := []) (vs := []) trivial) sol_us.len).call 8 B.n_all_facts_before (by decide) (.cons (zcp hL rfl rfl rfl) (.cons (.same (zao (f := AV.fset) (fun V => trivial) us)) (.cons (.same trivial) (.cons (.meth (.inst rfl rfl (.cons (zbp (l := zag zR) (f := zaT zR) rfl) (.cons (zbp (l := zag zR) (f := zdi) rfl) (.cons (zbp (l := zag zR) (f := zbt zR) rfl) .nil))))) (.cons (.same trivial) .nil))))) rfl ?_
   rintro o rfl
   kd_p
   refine zbh ?_
   kd_p
   refine fl ?_
   repeat (first | with_reducible refine zfi ?_ | x_close)
   refine ⟨352, _, _, Kf, 335, rfl, c1, k2, by tb_start, ?_⟩
   kd_p
   refine (zgt B zR zE S lo (.dcti [] []) (zl3 B zR (zaT zR) zdi (zbt zR) (ks := ["use_facts"]) (vs := [zcG (zb5 zR zR.length) fun s => .fset (zaZ (zaV (zbt zR) (zaT zR)) zR zE us s)]) ⟨zao (f := fun s => AV.fset (zaZ (zaV (zbt zR) (zaT zR)) zR zE us s)) (fun V => trivial) _, trivial⟩) sol_ds.len).call 9 B.n_all_facts_before (by decide) (.cons (zcp hL rfl rfl rfl) (.cons (.same (zao (f := AV.fset) (fun V => trivial) ds)) (.cons (.same trivial) (.cons (.meth (.inst rfl rfl (.cons (zbp (l := zag zR) (f := zaT zR) rfl) (.cons (zbp (l := zag zR) (f := zdi) rfl) (.cons (zbp (l := zag zR) (f := zbt zR) rfl) (.cons (zbp (l := zb5 zR zR.length) (f := zaZ (zaV (zbt zR) (zaT zR)) zR zE us) rfl) .nil)))))) (.cons (.same trivial) .nil))))) rfl ?_
   rintro o rfl
   kd_p
   refine zbh ?_
   kd_p
   refine fl ?_
   kd_p
   (refine hQ _ _ _ ?_; exact zb7 ⟨rfl, us, ds, sol_us, rfl⟩)
end
noncomputable def zbk (p : Place) : Str := if p.loc = 2 then "box" else "mut"
noncomputable def zbA (p : Place) : List Str := List.replicate (zbD p.steps) (zbk p)
theorem zfd (p : Place) : PyData.strOk (zbk p) = true := by
 unfold zbk; split <;> decide +kernel
theorem ziX (p : Place) : zbk p ≠ Str.ofString "shared" := by
 unfold zbk; split <;> decide +kernel
theorem zg5 (p : Place) : (zbA p).length ≤ p.steps.length := by
 unfold zbA zbD
 rw [List.length_replicate]
 exact List.length_filter_le _ _
noncomputable def zct (zR : Rows) (s : Spot) : Bool := decide (kindAt zR s = some .lend)
noncomputable abbrev zcU (zR : Rows) (p : Spot × Nat) : AV := .tup [.int p.2, (placeAt zR p.1).av, .str "shared", .int 4, za p.1, ze2 (zbA (placeAt zR p.1))]
noncomputable def zaS (zR : Rows) (l : List Spot) : List AV := l.zipIdx.map (zcU zR)
theorem zf6 (zR : Rows) (l : List Spot) : (zaS zR l).length = l.length := by simp [zaS]
theorem zln (zR : Rows) (l : List Spot) (s : Spot) : zaS zR (l ++ [s]) = zaS zR l ++ [zcU zR (s, l.length)] := by
 unfold zaS
 (exists List.zipIdx_append; exists List.map_append); simp
noncomputable def zcu (zR : Rows) (b i : Nat) : List Spot := (zbL zR b ++ (List.range i).map fun i => (b, i)).filter (zct zR)
noncomputable def zae (zR : Rows) : List Spot := (zag zR).filter (zct zR)
theorem zlm {zR : Rows} {b i : Nat} (h : b < zR.length) (hi : i ≤ (zR.getD b []).length) : (zcu zR b i).length ≤ (zag zR).length := by
 have h1 := List.length_filter_le (zct zR) (zbL zR b ++ (List.range i).map fun i => (b, i))
 have h2 := zhJ (zR := zR) (n := b + 1) h
 rw [zc1, List.length_append] at h2
 rw [List.length_map, List.length_range] at h2
 rw [List.length_append, List.length_map, List.length_range] at h1
 unfold zcu
 kd_mem
theorem zed {zR : Rows} {b i : Nat} : zcu zR b (i + 1) = zcu zR b i ++ if zct zR (b, i) then [(b, i)] else [] := by
 unfold zcu
 rw [List.range_succ, List.map_append, ← List.append_assoc, List.filter_append]
 skip
 congr 1
 by_cases h : zct zR (b, i) = true
 ·(exists if_pos h; exists List.filter_cons_of_pos h); rfl
 ·(exists if_neg h; exists List.filter_cons_of_neg h); rfl
theorem zkc {zR : Rows} {b : Nat} : zcu zR b (zR.getD b []).length = zcu zR (b + 1) 0 := by
 have h : zct zR (b, (zR.getD b []).length) = false := by
  delta zct kindAt zaW
  simp
 have := zed (zR := zR) (b := b) (i := (zR.getD b []).length)
 rw [h] at this
 simp only [Bool.false_eq_true, if_false, List.append_nil] at this
 refine rwR this ?_
 unfold zcu
 rw [zc1]; simp
theorem zqc {a b c d : AV} : zdx [a, b, c, d] (some 1) none = [b, c, d] := rfl
theorem zke {D : Nat → Bool} (zR : Rows) (p : Spot × Nat) : (zcU zR p).locs D := ⟨trivial, Place.locs _, trivial, trivial, zaA _, zao (f := AV.str) (fun V => trivial) _, trivial⟩
theorem zdc {D : Nat → Bool} (zR : Rows) (l : List Spot) : AV.locsL D (zaS zR l) := zao (zke zR) _
theorem zfF {zR : Rows} {s : Spot} {e : Ev} (h : zaW zR s = some e) : placeAt zR s = e.place := by unfold placeAt; rw [h]
section
variable {d : Nat} {mu : Mu}
theorem zn1 (B : Facts w H) (p : Place) (hp : p.steps.length < 1000) : zal w H 1 (.ref 462) [p.av] fun r => r = .lst ((zbA p).map .str) := by
 have g_len := B.g_len
 refine zal.go [("place", p.av)] B.n_law_derefs B.lim rfl rfl ⟨p.locs, trivial⟩ ?hsw
 case hsw =>
  intro L cd Q0 hQ
  have hfl : (List.filter (fun s => s == Step.deref) p.steps).length ≤ p.steps.length := List.length_filter_le _ _
  repeat (first | with_reducible refine zb2 (zam (zl7 ?_)) | x_close)
  refine za6 ?_
  kd_p
  refine ifk (fun hb => ?_) (fun hb => ?_)
  ·have hw : (Str.ofString "box") = zbk p := by
    have : p.loc = 2 := by simpa using hb
    unfold zbk; rw [if_pos this]
   kd_p
   rw [hw]
   refine zam (zaY [] [] Step.av Step.av (fun s => s == .deref) ?_)
   refine zaC ?_
   kd_p
   refine ⟨_, zf4, p.steps, rfl, by rw [zab]; kd_mem, ?_, ?_⟩
   ·intro C x V
    refine zcq ?_
    cases x
    ·kd_p
     refine ⟨by first | rfl | decide +kernel | simp, rfl, fun h => ?_⟩
     first | cases h | simp at h
    ·kd_p
     refine ⟨by decide +kernel, rfl, fun V => ?_⟩
     kd_p
     exact ⟨rfl, rfl⟩
   kd_p
   refine ⟨.str (zbk p), zbD p.steps, rfl, by unfold zbD; simp, by unfold zbD; kd_mem, ?_⟩
   (refine hQ _ _ _ ?_; refine zaa ?_ ⟨by unfold zbA; simp, rfl⟩)
   show AV.locsL _ _
   rw [← List.map_replicate (f := AV.str)]
   exact zao (f := AV.str) (fun V => trivial) _
  ·have hw : (Str.ofString "mut") = zbk p := by
    have : ¬ p.loc = 2 := by simpa using hb
    unfold zbk; rw [if_neg this]
   kd_p
   rw [hw]
   refine zam (zaY [] [] Step.av Step.av (fun s => s == .deref) ?_)
   refine zaC ?_
   kd_p
   refine ⟨_, zf4, p.steps, rfl, by rw [zab]; kd_mem, ?_, ?_⟩
   ·intro C x V
    refine zcq ?_
    cases x
    ·kd_p
     refine ⟨by first | rfl | decide +kernel | simp, rfl, fun h => ?_⟩
     first | cases h | simp at h
    ·kd_p
     refine ⟨by decide +kernel, rfl, fun V => ?_⟩
     kd_p
     exact ⟨rfl, rfl⟩
   kd_p
   refine ⟨.str (zbk p), zbD p.steps, rfl, by unfold zbD; simp, by unfold zbD; kd_mem, ?_⟩
   (refine hQ _ _ _ ?_; refine zaa ?_ ⟨by unfold zbA; simp, rfl⟩)
   show AV.locsL _ _
   rw [← List.map_replicate (f := AV.str)]
   exact zao (f := AV.str) (fun V => trivial) _
theorem zla (B : Facts w H) (zR : Rows) (zE : Ends) (S : zbm zR zE) (lo sp : AV) (hL : lo.locs zaw) (hs : sp.locs zaw) :
  zal w H 2 (.ref 28) [zas zR zE lo sp, .raw (.ref 462)] fun r => r = .lst (zaS zR (zae zR)) := by
 kcf_m
 kcj_m
 have c1 := B.c_Body
 have c2 := B.a_Body_blocks
 have h4 := S.few
 have h5 := zbd S.toSane
 have h6 := S.tiny
 have g_range := B.g_range
 have g_len := B.g_len
 have g_enumerate := B.g_enumerate
 have g_tuple := B.g_tuple
 refine zal.go [("body", zas zR zE lo sp), ("deref_kinds", .raw (.ref 462))] B.n_loans_of B.lim rfl rfl ⟨zaM hL hs, trivial, trivial⟩ ?hsw
 case hsw =>
  intro L cd Q0 hQ
  kd_p
  refine zaO 0 (zaG ?_)
  kd_p
  refine ⟨rfl, ?_⟩
  kd_p
  refine zbc (Rep w) (fun rem v m => v = ([("body", zas zR zE lo sp), ("deref_kinds", .raw (.ref 462)), ("found", .loc 0)] : zaf) ∧ ∃ b ≤ zR.length, rem = ((List.range zR.length).drop b).map (fun (n : Nat) => AV.int n) ∧ m = [(0, .list (zaS zR (zcu zR b 0)))]) ?_ ?_ ?_
  ·refine zaC ?_
   kd_p
   refine ⟨_, zbO (by simpa [h5] using (show zR.length < 1000 by kd_mem)), rfl, 0, Nat.zero_le _, by simp [h5], rfl⟩
  ·intro J hJ Q1 x rest hN
   rintro v m ⟨rfl, b, hb, hr, rfl⟩
   kcf_m
   obtain ⟨hlt, rfl, rfl⟩ := range_drop hr.symm
   kcj_m
   refine za8 ?_
   kd_p
   obtain ⟨row, e, hrow, he, hz, h1, h2, h3⟩ := zip_get S.toSane hlt
   refine zbc (zhX w) (fun rem v m => v = ([("body", zas zR zE lo sp), ("deref_kinds", .raw (.ref 462)), ("found", .loc 0), ("block", .int b)] : zaf) ∧ ∃ i ≤ row.length, rem = zaX i ((row.drop i).map Ev.line) ∧ m = [(0, .list (zaS zR (zcu zR b i)))]) ?_ ?_ ?_
   ·refine zmf (by kpf_c) g_enumerate ?_
    kd_p
    exact ⟨_, rfl, rfl, 0, Nat.zero_le _, rfl, rfl⟩
   ·intro J hJ Q1 x rest hN
    rintro v m ⟨rfl, i, hi, hr, rfl⟩
    have hil : i < row.length := by
     apply Nat.lt_of_not_le
     intro hle
     rw [List.drop_eq_nil_iff.mpr hle] at hr; simp [zaX] at hr
    rw [List.drop_eq_getElem_cons hil] at hr
    simp only [List.map_cons, zaX, List.cons.injEq] at hr
    obtain ⟨rfl, rfl⟩ := hr
    have hev : zaW zR (b, i) = some row[i] := by unfold zaW; rw [h2]; simp [hil]
    have hfew := zlm (zR := zR) (b := b) (i := i) hlt (by rw [h2]; kd_mem)
    have hlen := zf6 zR (zcu zR b i)
    have e1 : ((i : Nat) : Int) + 1 = ((i + 1 : Nat) : Int) := by simp
    have hpl := zfF hev
    have hst := S.stepsAt hev
    generalize hrow : row[i] = ev at hev hpl hst ⊢
    obtain ⟨k, p⟩ := ev
    have hpl : placeAt zR (b, i) = p := hpl
    have hst : p.steps.length < 1000 := hst
    refine zfR ?_ rfl rfl
    kd_p
    have no : k ≠ .lend → zaS zR (zcu zR b i) = zaS zR (zcu zR b (i + 1)) := by
     intro hk
     rw [zed]
     have : zct zR (b, i) = false := by unfold zct kindAt; rw [hev]; simpa using hk
     rw [this]; simp
    cases k <;> simp only [Ev.line]
    ·kd_p
     rw [zqc]
     kd_p
     refine (zn1 B p hst).callE B.n_law_derefs (by decide) ?_
     kd_p
     have hd := zg5 p
     refine zo3 rfl (by rw [List.length_map, zab]; kd_mem) ?_
     kd_p
     refine zfB (dx := .str "shared") (ds := (zbA p).map PyData.str) (b := true) rfl (.inr ?_) (by kpf_c) ?_ ?_ ?_
     ·show (ze2 _).pd = _
      rw [zmz]; rfl
     ·exact zcc (by have := (zbo (ziH (l := zbA p) fun x hx => by rw [(List.mem_replicate.mp hx).2]; exact zfd p)).1; simpa [zgi, PyData.canLay0] using this) (by rw [zdQ]; have := zcA (g := PyData.str) (n := 0) (fun V => Nat.le_refl _) (zbA p); kd_mem)
     ·have : ∀ y ∈ (zbA p).map PyData.str, PyData.eqv y (.str "shared") = false := by
       intro y hy
       obtain ⟨x, hx, rfl⟩ := List.mem_map.mp hy
       rw [(List.mem_replicate.mp hx).2]
       show (zbk p == Str.ofString "shared") = false
       simpa using ziX p
      rw [List.any_eq_false.mpr (fun y hy => by rw [this y hy]; simp)]; rfl
     kd_p
     refine za1 (zbe ?_)
     kd_p
     refine ⟨0, _, rfl, rfl, ?_⟩
     kd_p
     refine ⟨_, rfl, by rw [hlen, zab]; kd_mem, zat ?_⟩
     kd_p
     (refine hN _ _ _ ?_; refine zaj [("body", zas zR zE lo sp), ("deref_kinds", .raw (.ref 462)), ("found", .loc 0), ("block", .int b)] _ rfl (hJ _ _ _ ⟨rfl, i + 1, hil, by rw [e1], ?_⟩))
     rw [zed]
     have : zct zR (b, i) = true := by unfold zct kindAt; rw [hev]; simp
     rw [this, if_pos rfl, zln, hlen]
     simp only [zcU, hpl]
    all_goals
     kd_p
     (refine hN _ _ _ ?_; exact zaj [("body", zas zR zE lo sp), ("deref_kinds", .raw (.ref 462)), ("found", .loc 0), ("block", .int b)] _ rfl (hJ _ _ _ ⟨rfl, i + 1, hil, by rw [e1], by rw [no (by simp)]⟩))
   ·rintro v m ⟨rfl, i, hi, hr, rfl⟩
    have hin : i = row.length := by
     have : (zaX i ((row.drop i).map Ev.line)).length = 0 := by rw [← hr]; rfl
     rw [zbE] at this
     simp at this; kd_mem
    subst hin
    kd_p
    (refine hN _ _ _ ?_; exact zaj _ [_] rfl (hJ _ _ _ ⟨rfl, b + 1, hlt, rfl, by rw [← zkc, h2]⟩))
  ·rintro v m ⟨rfl, b, hb, hr, rfl⟩
   have := zaH hb hr.symm
   subst this
   kd_p
   (refine hQ _ _ _ ?_; exact zbl rfl (zdc _ _) ⟨by unfold zcu zae; simp [zbL, zag], rfl⟩)
end
noncomputable def zof (e : Ev) : Place → Bool := match e.kind with
 | .lend => za9 ⟨4, []⟩
 | .write => za9 e.place
 | .dead => fun q => q.loc == 1
 | .use => fun V => false
noncomputable def zdb (zR : Rows) (l : List Spot) (P : Spot → Bool) : List Int := (l.zipIdx.filter fun q => P q.1).map fun q => (q.2 : Int)
theorem zjb {zR : Rows} {l : List Spot} {P : Spot → Bool} {j : Int} : j ∈ zdb zR l P ↔ ∃ k : Nat, j = k ∧ ∃ s, l[k]? = some s ∧ P s = true := by
 unfold zdb
 rw [List.mem_map]
 constructor
 ·rintro ⟨⟨s, k⟩, h, rfl⟩
  obtain ⟨h1, h2⟩ := List.mem_filter.mp h
  exact ⟨k, rfl, s, List.mem_zipIdx_iff_getElem?.mp h1, h2⟩
 ·rintro ⟨k, rfl, s, h1, h2⟩
  exact ⟨(s, k), List.mem_filter.mpr ⟨List.mem_zipIdx_iff_getElem?.mpr h1, h2⟩, rfl⟩
theorem zew {zR : Rows} {l : List Spot} {P : Spot → Bool} (h : l.length ≤ 16) : ∀ n ∈ zdb zR l P, 0 ≤ n ∧ n < 16 := by
 intro n hn
 obtain ⟨k, rfl, s, hk, V⟩ := zjb.mp hn
 have := (List.getElem?_eq_some_iff.mp hk).1
 kd_mem
theorem zcv {zR : Rows} {zE : Ends} (S : zbm zR zE) : (zae zR).length ≤ 16 := Nat.le_trans (List.length_filter_le _ _) S.tiny
theorem zdl {zR : Rows} {zE : Ends} (S : zbm zR zE) (s : Spot) : (placeAt zR s).steps.length < 1000 := by have := zge S.toSane s; kd_mem
noncomputable def zk (zR : Rows) (e : Ev) : Fct := zbR (zdb zR (zae zR) fun s => zof e (placeAt zR s))
noncomputable def zlI (zR : Rows) (s : Spot) : Fct := zbR (zdb zR (zae zR) fun t => decide (t = s))
noncomputable def zcK (zR : Rows) (S : Fct) (s : Spot) : Fct := match zaW zR s with
 | some e => orF (fun j => S j && !zk zR e j) (zlI zR s)
 | none => fun j => S j && !noF j
noncomputable abbrev zlF (zR : Rows) (zE : Ends) (lo : AV) (lv : Fct) (num : Spot → Nat) (ks : List Str) (vs : List AV) : AV :=
 .obj 112 ("body" :: "loans" :: "values" :: "numbers" :: "after" :: ks) (bAV zR zE lo :: .lst (zaS zR (zae zR)) :: .dcti [4] [.fset lv] :: zcG (zag zR) (fun s => .int (num s)) :: .raw (.ref 191) :: vs)
theorem zmy {D : Nat → Bool} {zR : Rows} {zE : Ends} {lo : AV} (hL : lo.locs D) {lv : Fct} {num : Spot → Nat} {ks : List Str} {vs : List AV} (h : AV.locsL D vs) : (zlF zR zE lo lv num ks vs).locs D :=
 ⟨zaM hL trivial, zdc _ _, ⟨trivial, trivial⟩, zao (f := fun s : Spot => AV.int (num s)) (fun V => trivial) _, trivial, h⟩
section
variable {d : Nat} {mu : Mu}
theorem zjX (B : Facts w H) (zR : Rows) (zE : Ends) (S : zbm zR zE) (e : Ev) (he : e.place.steps.length < 1000) :
  zal w H 2 (.ref 59) [.lst (zaS zR (zae zR)), e.line] fun r => r = .fset (zk zR e) := by
 have hl := zcv S
 have g_frozenset := B.g_frozenset
 have g_is_prefix := B.g_is_prefix
 refine zal.go [("loans", .lst (zaS zR (zae zR))), ("statement", e.line)] B.n_killed_by B.lim rfl rfl ⟨zdc zR _, e.line_locs, trivial⟩ ?hsw
 case hsw =>
  intro L cd Q0 hQ
  obtain ⟨k, p⟩ := e
  have he : p.steps.length < 1000 := he
  cases k <;> simp only [Ev.line]
  ·kd_p
   refine zam (zaY [("statement", L + 1)] [("statement", .tup [.str "assign", .tup [.int 4, .tup []], .tup [.str "ref", .int 4, .str "shared", p.av]])] (zcU zR) (fun q => .int q.2) (fun q => za9 ⟨4, []⟩ (placeAt zR q.1)) ?_)
   ·refine zaC ?_
    kd_p
    refine ⟨_, zbj, (zae zR).zipIdx, rfl, by rw [List.length_zipIdx, zab]; kd_mem, fun C q V => ?_, ?_⟩
    ·refine zcq ?_
     kd_p
     refine (zgu B ⟨4, []⟩ (placeAt zR q.1) (by decide) (zdl S _)).callE B.n_is_prefix (by decide) ?_
     kd_p
     refine ⟨rfl, rfl, fun V => ?_⟩
     kd_p
     exact ⟨rfl, rfl⟩
    ·kd_p
     refine zfq (ns := zdb zR (zae zR) fun s => za9 ⟨4, []⟩ (placeAt zR s)) (by unfold zdb; exists List.map_map; rfl) (zew hl) ?_
     (refine hQ _ _ _ ?_; exact zaa trivial ⟨rfl, rfl⟩)
  ·kd_p
   refine zc9 ?_
   (refine hQ _ _ _ ?_; exact zaa trivial ⟨by delta zk zof zdb; congr 1; funext j; simp [zbR], rfl⟩)
  ·kd_p
   refine zam (zaY [("statement", L + 1)] [("statement", .tup [.str "assign", p.av, .tup [.str "use", .tup [.str "const", .tup [.str "int", .str "u8"], .int 1]]])] (zcU zR) (fun q => .int q.2) (fun q => za9 p (placeAt zR q.1)) ?_)
   ·refine zaC ?_
    kd_p
    refine ⟨_, zbj, (zae zR).zipIdx, rfl, by rw [List.length_zipIdx, zab]; kd_mem, fun C q V => ?_, ?_⟩
    ·refine zcq ?_
     kd_p
     refine (zgu B p (placeAt zR q.1) he (zdl S _)).callE B.n_is_prefix (by decide) ?_
     kd_p
     refine ⟨rfl, rfl, fun V => ?_⟩
     kd_p
     exact ⟨rfl, rfl⟩
    ·kd_p
     refine zfq (ns := zdb zR (zae zR) fun s => za9 p (placeAt zR s)) (by delta zdb; rw [List.map_map]; rfl) (zew hl) ?_
     (refine hQ _ _ _ ?_; exact zaa trivial ⟨rfl, rfl⟩)
  ·kd_p
   refine zam (zaY [("statement", L + 1)] [("statement", .tup [.str "dead", .int 1])] (zcU zR) (fun q => .int q.2) (fun q => (fun q : Place => q.loc == 1) (placeAt zR q.1)) ?_)
   ·refine zaC ?_
    kd_p
    refine ⟨_, zbj, (zae zR).zipIdx, rfl, by rw [List.length_zipIdx, zab]; kd_mem, fun C q V => ?_, ?_⟩
    ·refine zcq ?_
     kd_p
     refine ⟨rfl, rfl, fun V => ?_⟩
     kd_p
     exact ⟨rfl, rfl⟩
    ·kd_p
     refine zfq (ns := zdb zR (zae zR) fun s => (fun q : Place => q.loc == 1) (placeAt zR s)) (by unfold zdb; rw [List.map_map]; rfl) (zew hl) ?_
     (refine hQ _ _ _ ?_; exact zaa trivial ⟨rfl, rfl⟩)
theorem zgI (B : Facts w H) (zR : Rows) (e : End) : zal w H 1 (.ref 64) [.lst (zaS zR (zae zR)), e.av] fun r => r = .fset noF := by
 have g_frozenset := B.g_frozenset
 refine zal.go [("loans", .lst (zaS zR (zae zR))), ("terminator", e.av)] B.n_killed_at_end B.lim rfl rfl ⟨zdc zR _, e.locs, trivial⟩ ?hsw
 case hsw =>
  intro L cd Q0 hQ
  cases e <;> simp only [End.av]
  all_goals
   kd_p
   refine zc9 ?_
   (refine hQ _ _ _ ?_; exact zaa trivial ⟨rfl, rfl⟩)
end
theorem zpJ {l : List Int} {S : Fct} (h : ∀ i, i ∈ l ↔ S i = true) : zbR l = S := by
 funext j
 rw [Bool.eq_iff_iff]
 exact (show zbR l j = true ↔ j ∈ l from decide_eq_true_iff).trans (h j)
theorem zow : zbR [] = noF := by funext j; simp [zbR, noF]
section
variable {d : Nat} {mu : Mu}
theorem zlu {s t : Spot} {Q : QA} (q : Q (.bool (decide (s = t))) mu) : Op2 w H d (compareOp .Eq) (za s) (za t) mu Q :=
 zgA (da := za4 s) (db := za4 t) (c := decide (s = t)) rfl rfl (zc6 s) (zc6 t) (zhI s t) q
theorem zjY (B : Facts w H) (zR : Rows) (zE : Ends) (S : zbm zR zE) (lo : AV) (hL : lo.locs zaw) (lv : Fct) (num : Spot → Nat) (hnum : ∀ s ∈ zag zR, num s < 16) {ks : List Str} {vs : List AV} (hv : AV.locsL zaw vs)
  (some' : Fct) (hsome : ∀ j, some' j = true → 0 ≤ j ∧ j < (zae zR).length) (s : Spot) (hs : s ∈ zag zR) :
  zal w H 1 (.ref 83) [zlF zR zE lo lv num ks vs, .fset some', za s] fun r => r = .fset (if lv (num s) then some' else noF) := by
 have c1 := B.c_LoanScopes
 have c2 := B.a_LoanScopes_numbers
 have c3 := B.a_LoanScopes_values
 have c4 := B.a_LoanScopes_loans
 have hn := hnum s hs
 have hl := zcv S
 have g_frozenset := B.g_frozenset
 refine zal.go [("self", zlF zR zE lo lv num ks vs), ("some", .fset some'), ("point", za s)] B.m_LoanScopes_let_on B.lim rfl rfl ⟨zmy hL hv, trivial, zaA s, trivial⟩ ?hsw
 case hsw =>
  intro L cd Q0 hQ
  kd_p
  refine zdf rfl (zb1 (f := fun s => .int (num s)) hs) ?_
  kd_p
  have hc : (zdg (zbi 11 1) L 83 cd "LoanScopes.let_on").cells = [(("number" : Str), L + 1 + 1), (("self" : Str), L + 1)] := by kpf_c
  refine zam (zaY [("self", L + 1), ("number", L + 1 + 1)] [("self", zlF zR zE lo lv num ks vs), ("number", .int (num s))] AV.int AV.int (fun V => lv (num s)) ?_)
  ·refine zmg ?_
   kd_p
   refine ⟨some', rfl, fun l l1 l2 l3 => ⟨l, rfl, by rw [zab]; kd_mem, fun C j hj => ?_, ?_⟩⟩
   ·obtain ⟨j0, j1⟩ := hsome j ((l2 j).mp hj)
    obtain ⟨t, ht, V⟩ := zay (l := zae zR) (i := j.toNat) (by kd_mem)
    have hlo : (zaS zR (zae zR))[j.toNat]? = some (zcU zR (t, j.toNat)) := by
     unfold zaS
     rw [List.getElem?_map, List.getElem?_zipIdx, ht]; simp
    have hlen := zf6 zR (zae zR)
    refine zcq ?_
    kd_p
    refine zjP ?_
    kd_p
    refine ⟨⟨_, rfl⟩, ?_⟩
    kd_p
    refine zgU (x := zcU zR (t, j.toNat)) j0 hlo (by rw [hlen]; kd_mem) ?_
    kd_p
    refine zc9 ?_
    refine ⟨4, [4], [.fset lv], rfl, rfl, ?_⟩
    show Op2 w H 0 _ _ (.fset lv) _ _
    refine zoC ((Int.natCast_nonneg _)) ((Int.ofNat_lt.mpr ‹_›)) ?_
    kd_p
    refine ⟨rfl, rfl, fun V => ?_⟩
    kd_p
    exact ⟨rfl, rfl⟩
   ·kd_p
    refine zfq (ns := l.filter fun V => lv (num s)) rfl (fun n hn => by
     have := hsome n ((l2 n).mp (List.mem_filter.mp hn).1)
     kd_mem) ?_
    (refine hQ _ _ _ ?_; refine zaa trivial ⟨?_, rfl⟩)
    congr 1
    cases lv (num s)
    ·rw [List.filter_eq_nil_iff.mpr (by simp), if_neg (by simp)]; exact zow
    ·rw [List.filter_eq_self.mpr (by simp), if_pos rfl]; exact zpJ l2
theorem zgw (B : Facts w H) (zR : Rows) (zE : Ends) (S : zbm zR zE) (lo : AV) (hL : lo.locs zaw) (lv : Fct) (num : Spot → Nat) {ks : List Str} {vs : List AV} (hv : AV.locsL zaw vs)
  (some' : Fct) (s : Spot) (hs : s ∈ zag zR) :
  zal w H 3 (.ref 88) [zlF zR zE lo lv num ks vs, .fset some', za s] fun r => r = .fset (zcK zR some' s) := by
 have c1 := B.c_LoanScopes
 have c2 := B.a_LoanScopes_body
 have c3 := B.a_LoanScopes_loans
 have d1 := B.c_Body
 have d2 := B.a_Body_blocks
 have h4 := S.few
 have h5 := zbd S.toSane
 have hl := zcv S
 obtain ⟨row, en, hz, g1, g2, g3, g4, g5, g6⟩ := zdN S.toSane hs
 have g_frozenset := B.g_frozenset
 have g_len := B.g_len
 have g_killed_at_end := B.g_killed_at_end
 have g_killed_by := B.g_killed_by
 refine zal.go [("self", zlF zR zE lo lv num ks vs), ("some", .fset some'), ("point", za s)] B.m_LoanScopes_behind B.lim rfl rfl ⟨zmy hL hv, trivial, zaA s, trivial⟩ ?hsw
 case hsw =>
  intro L cd Q0 hQ
  kd_p
  refine ifk (fun hb => ?_) (fun hb => ?_)
  ·have hi : s.2 = row.length := by simp at hb; kd_mem
   have hev : zaW zR s = none := by rw [g5]; simp; exact Nat.le_of_eq (Eq.symm ‹_›)
   kd_p
   refine (zgI B zR en).callE B.n_killed_at_end (by decide) ?_
   kd_p
   (refine hQ _ _ _ ?_; exact zaa trivial ⟨by unfold zcK; rw [hev], rfl⟩)
  ·have hi : s.2 < row.length := by simp at hb; kd_mem
   kcf_m
   obtain ⟨e, he, V⟩ := zay hi
   kcj_m
   have hev : zaW zR s = some e := by rw [g5]; exact he
   kd_p
   refine (zjX B zR zE S e (S.stepsAt hev)).callE B.n_killed_by (by decide) ?_
   kd_p
   refine zam (zaY [("point", L + 1)] [("point", za s)] (zcU zR) (fun q => .int q.2) (fun q => decide (q.1 = s)) ?_)
   ·refine zaC ?_
    kd_p
    refine ⟨_, zbj, (zae zR).zipIdx, rfl, by rw [List.length_zipIdx, zab]; kd_mem, fun C q V => ?_, ?_⟩
    ·refine zcq ?_
     repeat (first | with_reducible refine zlu ?_ | x_close)
     refine ⟨rfl, rfl, fun V => ?_⟩
     kd_p
     exact ⟨rfl, rfl⟩
    ·kd_p
     refine zfq (ns := zdb zR (zae zR) fun t => decide (t = s)) (by unfold zdb; rw [List.map_map]; rfl) (zew hl) ?_
     kd_p
     (refine hQ _ _ _ ?_; exact zaa trivial ⟨by unfold zcK; rw [hev]; rfl, rfl⟩)
end
noncomputable def zkd (lp : Spot → Bool) (s : Spot) (S : Fct) : Fct := if lp s then S else noF
noncomputable def zms (zR : Rows) (lp : Spot → Bool) (s : Spot) (S : Fct) : Fct := zcK zR (zkd lp s S) s
noncomputable def ups (zR : Rows) (lp : Spot → Bool) (b : Nat) : Nat → Fct → Fct
 | 0, S => S
 | k + 1, S => zms zR lp (b, k) (ups zR lp b k S)
noncomputable def outF (zR : Rows) (lp : Spot → Bool) (b : Nat) (S : Fct) : Fct := ups zR lp b ((zR.getD b []).length + 1) S
def idS (zR : Rows) (S : Fct) : Prop := ∀ j, S j = true → 0 ≤ j ∧ j < (zae zR).length
theorem zlf {zR : Rows} : idS zR noF := fun j h => (zdu.mp h).elim
theorem zom {zR : Rows} {lp : Spot → Bool} {s : Spot} {S : Fct} (h : idS zR S) : idS zR (zkd lp s S) := by
 unfold zkd; refine iteInduction (fun V => ?_) (fun V => ?_)
 ·exact h
 ·exact zlf
theorem zfa {zR : Rows} {s : Spot} {e : Ev} (S : Fct) (h : zaW zR s = some e) : zcK zR S s = orF (fun j => S j && !zk zR e j) (zlI zR s) := by unfold zcK; rw [h]
theorem zf {zR : Rows} {s : Spot} (S : Fct) (h : zaW zR s = none) : zcK zR S s = fun j => S j && !noF j := by unfold zcK; rw [h]
theorem zmN {zR : Rows} {s : Spot} {S : Fct} (h : idS zR S) : idS zR (zcK zR S s) := by
 intro j hj
 cases he : zaW zR s with
 | some e =>
  rw [zfa _ he] at hj
  unfold orF at hj
  rw [Bool.or_eq_true, Bool.and_eq_true] at hj
  rcases hj with q | q
  ·exact h j q.1
  ·obtain ⟨k, rfl, t, hk, V⟩ := zjb.mp (of_decide_eq_true q)
   have := (List.getElem?_eq_some_iff.mp hk).1
   kd_mem
 | none =>
  rw [zf _ he] at hj
  rw [Bool.and_eq_true] at hj
  exact h j hj.1
theorem filter_le {α : Type} {p q : α → Bool} (h : ∀ x, q x = true → p x = true) : ∀ l : List α, (l.filter q).length ≤ (l.filter p).length
 | [] => Nat.le_refl _
 | y :: l => by
  have ih := filter_le h l
  (exists List.filter_cons; exists List.filter_cons)
  split
  ·rename_i hy; rw [if_pos (h _ hy)]; simpa using ih
  ·split
   ·simp; exact Nat.le_succ_of_le ‹_›
   ·exact ih
theorem zhT {zR : Rows} {lp : Spot → Bool} {b : Nat} {S : Fct} (h : idS zR S) : ∀ k, idS zR (ups zR lp b k S)
 | 0 => h
 | k + 1 => zmN (zom (zhT h k))
theorem zo {zR : Rows} {zE : Ends} (N : zbm zR zE) {S : Fct} (h : idS zR S) : zde S := fun j hj => by
 have := h j hj
 have := zcv N
 kd_mem
noncomputable def zkv (ks : List Nat) (g : Nat → Fct) (b : Nat) : Nat := if b ∈ ks then 16 - (za5 (g b)).length else 17
noncomputable def pot (n : Nat) (ks : List Nat) (g : Nat → Fct) : Nat := ((List.range n).map (zkv ks g)).sum
theorem zoW {f f' : Nat → Nat} (le : ∀ x, f' x ≤ f x) : ∀ l : List Nat, (l.map f').sum ≤ (l.map f).sum
 | [] => Nat.le_refl _
 | x :: l => by
  have := zoW le l
  have := le x
  simp only [List.map_cons, List.sum_cons]; kd_mem
theorem zoX {f f' : Nat → Nat} (le : ∀ x, f' x ≤ f x) {t : Nat} (h : f' t < f t) : ∀ {l : List Nat}, t ∈ l → (l.map f').sum < (l.map f).sum
 | x :: l, hm => by
  have h1 := zoW le l
  have h2 := le x
  simp only [List.map_cons, List.sum_cons]
  rcases List.mem_cons.mp hm with e | hm
  ·subst e; kd_mem
  ·have := zoX le h hm; kd_mem
noncomputable def putK (ks : List Nat) (t : Nat) : List Nat := if t ∈ ks then ks else ks ++ [t]
noncomputable def zeG (g : Nat → Fct) (t : Nat) (S : Fct) : Nat → Fct := fun b => if b = t then S else g b
theorem zbg {ks : List Nat} {t x : Nat} : x ∈ putK ks t ↔ x ∈ ks ∨ x = t := by
 unfold putK; split
 ·rename_i h; exact ⟨.inl, fun q => q.elim id fun e => e ▸ h⟩
 ·simp
structure LI (zR : Rows) (zE : Ends) (lp : Spot → Bool) (m : Nat) (ks : List Nat) (g : Nat → Fct) (left : List Nat) (b : Nat) (done : List Nat) (S0 : Fct) : Prop where
 zero : 0 ∈ ks
 nd : ks.Nodup
 lt : ∀ x ∈ ks, x < zR.length
 ids : ∀ x, idS zR (g x)
 inl : ∀ x ∈ left, x ∈ ks
 cur : b < zR.length → b ∉ left → g b = S0
 fix : ∀ c ∈ ks, c ∉ left → ∀ t ∈ (zE.getD c .panic).succs, (c = b → t ∈ done) → t ∈ ks ∧ leF (outF zR lp c (g c)) (g t)
 dn : b < zR.length → ∀ t ∈ done, t ∈ ks ∧ leF (outF zR lp b S0) (g t)
 least : ∀ (R : Nat → Prop) (G : Nat → Fct), R 0 → (∀ c, R c → ∀ t ∈ (zE.getD c .panic).succs, R t) → (∀ c S, R c → leF S (G c) → ∀ t ∈ (zE.getD c .panic).succs, leF (outF zR lp c S) (G t)) → ∀ c ∈ ks, R c ∧ leF (g c) (G c)
 fuel : 2 * pot zR.length ks g + left.length ≤ m
theorem LI.init {zR : Rows} {zE : Ends} (N : zbm zR zE) (lp : Spot → Bool) : ∃ m, LI zR zE lp m [0] (fun V => noF) [0] zR.length [] noF :=
 ⟨_, ⟨by decide, by trivial, fun x hx => by exists List.mem_singleton.mp hx; exact N.pos, fun V => zlf, fun x hx => hx, fun h => absurd h (Nat.lt_irrefl _), fun c hc hn => absurd hc hn, fun h => absurd h (Nat.lt_irrefl _),
  fun R G h0 V V c hc => by exists List.mem_singleton.mp hc; exact ⟨h0, fun j hj => (zdu.mp hj).elim⟩, Nat.le_refl _⟩⟩
theorem LI.pop {zR : Rows} {zE : Ends} {lp : Spot → Bool} {m : Nat} {ks : List Nat} {g : Nat → Fct} {init : List Nat} {b : Nat} (I : LI zR zE lp m ks g (init ++ [b]) zR.length [] noF) :
  ∃ m', m' < m ∧ LI zR zE lp m' ks g init b [] (g b) := by
 have hf := I.fuel
 rw [List.length_append, List.length_singleton] at hf
 refine ⟨2 * pot zR.length ks g + init.length, by assumption, ⟨I.zero, I.nd, I.lt, I.ids, fun x hx => I.inl x (by simp [hx]), fun V V => rfl, fun c hc hn t ht hd => ?_, fun V t ht => by simp at ht, I.least, Nat.le_refl _⟩⟩
 by_cases e : c = b
 ·exact absurd (hd e) (by simp)
 ·exact I.fix c hc (by simp [hn, e]) t ht fun q => absurd (I.lt c hc) (by exists q; exact Nat.lt_irrefl _)
theorem LI.skip {zR : Rows} {zE : Ends} {lp : Spot → Bool} {m : Nat} {ks : List Nat} {g : Nat → Fct} {left : List Nat} {b : Nat} {done : List Nat} {S0 : Fct} (hb : b < zR.length) (I : LI zR zE lp m ks g left b done S0) {t : Nat} (ht : t ∈ ks) (he : ∀ j, orF (g t) (outF zR lp b S0) j = g t j) :
  LI zR zE lp m ks g left b (done ++ [t]) S0 := by
 have le : leF (outF zR lp b S0) (g t) := fun j hj => by refine rwR (he j) ?_; unfold orF; rw [hj, Bool.or_true]
 refine ⟨I.zero, I.nd, I.lt, I.ids, I.inl, I.cur, fun c hc hn u hu hd => ?_, fun hb u hu => ?_, I.least, I.fuel⟩
 ·by_cases e : c = b
  ·subst e
   rcases List.mem_append.mp (hd rfl) with q | q
   ·exact I.fix c hc hn u hu fun V => q
   ·(exists List.mem_singleton.mp q; exists I.cur hb hn); exact ⟨ht, le⟩
  ·exact I.fix c hc hn u hu fun q => absurd q e
 ·rcases List.mem_append.mp hu with q | q
  ·exact I.dn hb u q
  ·exists List.mem_singleton.mp q; exact ⟨ht, le⟩
theorem LI.push {zR : Rows} {zE : Ends} (N : zbm zR zE) {lp : Spot → Bool} {m : Nat} {ks : List Nat} {g : Nat → Fct} {left : List Nat} {b : Nat} {done : List Nat} {S0 : Fct} (hb : b < zR.length) (hbk : b ∈ ks) (hS : idS zR S0)
  (hG : ∀ (R : Nat → Prop) (G : Nat → Fct), R 0 → (∀ c, R c → ∀ t ∈ (zE.getD c .panic).succs, R t) → (∀ c S, R c → leF S (G c) → ∀ t ∈ (zE.getD c .panic).succs, leF (outF zR lp c S) (G t)) → R b ∧ leF S0 (G b))
  (I : LI zR zE lp m ks g left b done S0) {t : Nat} (hts : t ∈ (zE.getD b .panic).succs) (htl : t < zR.length) {T : Fct} (hT : T = orF (if t ∈ ks then g t else noF) (outF zR lp b S0)) (hne : t ∉ ks ∨ ¬ ∀ j, T j = g t j) :
  LI zR zE lp m (putK ks t) (zeG g t T) (left ++ [t]) b (done ++ [t]) S0 := by
 have ho : leF (outF zR lp b S0) T := fun j hj => by exists hT; unfold orF; rw [hj, Bool.or_true]
 have hup : t ∈ ks → leF (g t) T := fun h j hj => by (exists hT; exists if_pos h); unfold orF; rw [hj, Bool.true_or]
 have hTi : idS zR T := by
  intro j hj
  rw [hT] at hj
  unfold orF at hj
  rw [Bool.or_eq_true] at hj
  rcases hj with q | q
  ·split at q
   ·exact I.ids t j q
   ·exact (zdu.mp q).elim
  ·exact zhT hS _ j q
 have same : ∀ c, c ≠ t → zeG g t T c = g c := fun c h => by unfold zeG; rw [if_neg h]
 have here : zeG g t T t = T := by unfold zeG; rw [if_pos rfl]
 have grow : ∀ u ∈ ks, leF (g u) (zeG g t T u) := fun u hu => by
  by_cases e : u = t
  ·cases e; exists here; exact hup hu
  ·exists same u e; exact leF.refl _
 refine ⟨zbg.mpr (.inl I.zero), ?_, fun x hx => ?_, fun x => ?_, fun x hx => ?_, fun hb hn => ?_, fun c hc hn u hu hd => ?_, fun hb u hu => ?_, fun R G h0 h1 h2 c hc => ?_, ?_⟩
 ·unfold putK; split
  ·exact I.nd
  ·rename_i h; rw [List.nodup_append]; exact ⟨I.nd, by simp, fun a ha b hb => by exists List.mem_singleton.mp hb; rintro rfl; exact h ha⟩
 ·rcases zbg.mp hx with q | q
  ·exact I.lt x q
  ·exists q; exact htl
 ·by_cases e : x = t
  ·subst e; exists here; exact hTi
  ·exists same x e; exact I.ids x
 ·rcases List.mem_append.mp hx with q | q
  ·exact zbg.mpr (.inl (I.inl x q))
  ·exact zbg.mpr (.inr (List.mem_singleton.mp q))
 ·rw [List.mem_append, not_or] at hn
  have : b ≠ t := fun e => hn.2 (by simp [e])
  exists same b this; exact I.cur hb hn.1
 ·rw [List.mem_append, not_or] at hn
  have hct : c ≠ t := fun e => hn.2 (by simp [e])
  have hck : c ∈ ks := (zbg.mp hc).resolve_right hct
  exists same c hct
  have old : u ∈ ks ∧ leF (outF zR lp c (g c)) (g u) → u ∈ putK ks t ∧ leF (outF zR lp c (g c)) (zeG g t T u) := fun ⟨q1, q2⟩ => ⟨zbg.mpr (.inl q1), leF.trans q2 (grow u q1)⟩
  by_cases e : c = b
  ·subst e
   rcases List.mem_append.mp (hd rfl) with q | q
   ·exact old (I.fix c hck hn.1 u hu fun _ => q)
   ·(exists List.mem_singleton.mp q; exists here; exists I.cur hb hn.1); exact ⟨zbg.mpr (.inr rfl), ho⟩
  ·exact old (I.fix c hck hn.1 u hu fun q => absurd q e)
 ·rcases List.mem_append.mp hu with q | q
  ·obtain ⟨q1, q2⟩ := I.dn hb u q
   exact ⟨zbg.mpr (.inl q1), leF.trans q2 (grow u q1)⟩
  ·(exists List.mem_singleton.mp q; exists here); exact ⟨zbg.mpr (.inr rfl), ho⟩
 ·obtain ⟨b1, b2⟩ := hG R G h0 h1 h2
  have hTG : leF T (G t) := fun j hj => by
   rw [hT] at hj
   unfold orF at hj
   rw [Bool.or_eq_true] at hj
   rcases hj with q | q
   ·split at q
    ·rename_i hk; exact (I.least R G h0 h1 h2 t hk).2 j q
    ·exact (zdu.mp q).elim
   ·exact h2 b S0 b1 b2 t hts j q
  by_cases e : c = t
  ·subst e; exists here; exact ⟨h1 b b1 c hts, hTG⟩
  ·exists same c e; exact I.least R G h0 h1 h2 c ((zbg.mp hc).resolve_right e)
 ·have hlt : pot zR.length (putK ks t) (zeG g t T) < pot zR.length ks g := by
   refine zoX (fun x => ?_) (t := t) ?_ (List.mem_range.mpr htl)
   ·unfold zkv
    by_cases e : x = t
    ·subst e
     (exists if_pos (zbg.mpr (.inr rfl)); exists here)
     split
     ·rename_i hk
      have := zij T
      have : (za5 (g x)).length ≤ (za5 T).length := by
       exact filter_le (fun y hy => hup hk _ hy) _
      kd_mem
     ·kd_mem
    ·exists same x e
     have : (x ∈ putK ks t) ↔ x ∈ ks := zbg.trans ⟨fun q => q.resolve_right e, .inl⟩
     by_cases hx : x ∈ ks
     ·(exists if_pos hx; exists if_pos (this.mpr hx)); exact Nat.le_refl _
     ·(exists if_neg hx; exists (if_neg (fun q => hx (this.mp q)))); exact Nat.le_refl _
   ·unfold zkv
    (exists if_pos (zbg.mpr (.inr rfl)); exists here)
    by_cases hk : t ∈ ks
    ·rw [if_pos hk]
     simpa [room] using (ziC (fs := [g t]) (b := 0) rfl (hup hk) (zo N hTi) (hne.resolve_left fun q => q hk))
    ·rw [if_neg hk]; kd_mem
  have := I.fuel
  (exists List.length_append; exists List.length_singleton); kd_mem
theorem LI.turned {zR : Rows} {zE : Ends} {lp : Spot → Bool} {m : Nat} {ks : List Nat} {g : Nat → Fct} {left : List Nat} {b : Nat} {S0 : Fct} (I : LI zR zE lp m ks g left b (zE.getD b .panic).succs S0) : LI zR zE lp m ks g left zR.length [] noF :=
 ⟨I.zero, I.nd, I.lt, I.ids, I.inl, fun h => absurd h (Nat.lt_irrefl _), fun c hc hn t ht V => I.fix c hc hn t ht fun e => e ▸ ht, fun h => absurd h (Nat.lt_irrefl _), I.least, I.fuel⟩
structure Led (zR : Rows) (zE : Ends) (lp : Spot → Bool) (ks : List Nat) (g : Nat → Fct) : Prop where
 zero : 0 ∈ ks
 nd : ks.Nodup
 lt : ∀ x ∈ ks, x < zR.length
 ids : ∀ x, idS zR (g x)
 fix : ∀ c ∈ ks, ∀ t ∈ (zE.getD c .panic).succs, t ∈ ks ∧ leF (outF zR lp c (g c)) (g t)
 least : ∀ (R : Nat → Prop) (G : Nat → Fct), R 0 → (∀ c, R c → ∀ t ∈ (zE.getD c .panic).succs, R t) → (∀ c S, R c → leF S (G c) → ∀ t ∈ (zE.getD c .panic).succs, leF (outF zR lp c S) (G t)) → ∀ c ∈ ks, R c ∧ leF (g c) (G c)
theorem LI.done {zR : Rows} {zE : Ends} {lp : Spot → Bool} {m : Nat} {ks : List Nat} {g : Nat → Fct} (I : LI zR zE lp m ks g [] zR.length [] noF) : Led zR zE lp ks g :=
 ⟨I.zero, I.nd, I.lt, I.ids, fun c hc t ht => I.fix c hc (by simp) t ht fun q => absurd (I.lt c hc) (by exists q; exact Nat.lt_irrefl _), I.least⟩
noncomputable abbrev ofN : Nat → Int := fun n => (n : Int)
noncomputable abbrev zfU (ks : List Nat) (g : Nat → Fct) : zb4 := .dcti (ks.map ofN) (ks.map fun b => .fset (g b))
noncomputable abbrev zfV (ks : List Nat) (g : Nat → Fct) : AV := .dcti (ks.map ofN) (ks.map fun b => .fset (g b))
theorem zg0 {ks : List Nat} {f : Nat → AV} {b : Nat} : ((ks.map ofN).zip (ks.map f)).lookup (b : Int) = if b ∈ ks then some (f b) else none := by
 induction ks with
 | nil => rfl
 | cons k ks ih =>
  rw [List.map_cons, List.map_cons, List.zip_cons_cons, List.lookup_cons]
  by_cases e : b = k
  ·subst e; simp
  ·rw [show ((b : Int) == ofN k) = false by simp only [beq_eq_false_iff_ne, ne_eq, ofN]; kd_mem, ih]
   simp [e]
theorem ziU {ks : List Nat} {g : Nat → Fct} {b : Nat} (h : b ∈ ks) : ((ks.map ofN).zip (ks.map fun b => AV.fset (g b))).lookup (b : Int) = some (.fset (g b)) := by
 rw [zg0 (f := fun b => AV.fset (g b)), if_pos h]
theorem znI {ks : List Nat} {g : Nat → Fct} {b : Nat} : (((ks.map ofN).zip (ks.map fun b => AV.fset (g b))).lookup (b : Int)).getD (.fset noF) = .fset (if b ∈ ks then g b else noF) := by
 exists (zg0 (f := fun b => AV.fset (g b)))
 split <;> rfl
theorem zlZ {ks : List Nat} {g : Nat → Fct} {t : Nat} {T : Fct} : (if (t : Int) ∈ ks.map ofN then zb4.dcti (ks.map ofN) (((ks.map ofN).zip (ks.map fun b => AV.fset (g b))).map fun p => if p.1 = (t : Int) then AV.fset T else p.2) else .dcti (ks.map ofN ++ [(t : Int)]) (ks.map (fun b => AV.fset (g b)) ++ [AV.fset T])) = zfU (putK ks t) (zeG g t T) := by
 have hm : (t : Int) ∈ ks.map ofN ↔ t ∈ ks := by
  rw [List.mem_map]
  exact ⟨fun ⟨x, hx, e⟩ => (Int.ofNat.inj e : x = t) ▸ hx, fun h => ⟨t, h, rfl⟩⟩
 have hn : ∀ l : List Nat, t ∉ l → l.map (fun b => AV.fset (zeG g t T b)) = l.map fun b => AV.fset (g b) := fun l h => List.map_congr_left fun x hx => by
  unfold zeG; rw [if_neg (show ¬ x = t from fun e => h (e ▸ hx))]
 by_cases h : t ∈ ks
 ·rw [if_pos (hm.mpr h)]
  unfold zfU putK
  (exists if_pos h; exists List.zip_map'; exists List.map_map)
  congr 1
  apply List.map_congr_left
  intro x V
  show (if ((x : Nat) : Int) = (t : Int) then AV.fset T else AV.fset (g x)) = AV.fset (zeG g t T x)
  unfold zeG
  by_cases e : x = t
  ·subst e; rw [if_pos rfl, if_pos rfl]
  ·rw [if_neg (by kd_mem), if_neg e]
 ·rw [if_neg (fun q => h (hm.mp q))]
  unfold zfU putK
  rw [if_neg h, List.map_append, List.map_append, hn ks h]
  simp [zeG]
noncomputable abbrev zoQ : List Str := ["body", "loans", "values", "numbers", "after", "begins", "kept"]
noncomputable abbrev zrg (zR : Rows) (kp : AV) : List AV := [.loc 2, .lst (zaS zR (zae zR)), .loc 11, .loc 10, .raw (.ref 191), .loc 14, kp]
noncomputable abbrev mB (zR : Rows) (zE : Ends) (lo : AV) (us ds : List Fct) (lv : Fct) (num : Spot → Nat) : Mu :=
 (11, .dcti [4] [.fset lv]) :: (10, zaJ (zag zR) fun s => .int (num s)) :: zoo zR zE lo us ds
noncomputable abbrev mS (zR : Rows) (zE : Ends) (lo : AV) (us ds : List Fct) (lv : Fct) (num : Spot → Nat) (bo : zb4) (kp : AV) : Mu :=
 (14, bo) :: (13, .inst 112 12) :: (12, .ns zoQ (zrg zR kp)) :: mB zR zE lo us ds lv num
theorem zmx {m : Mu} {zR : Rows} {zE : Ends} {lo : AV} (hL : lo.locs zaw) {lv : Fct} {num : Spot → Nat} {ks : List Nat} {g : Nat → Fct} {kp kpv : AV}
  (h13 : m.lookup 13 = some (.inst 112 12)) (h12 : m.lookup 12 = some (.ns zoQ (zrg zR kp))) (h11 : m.lookup 11 = some (.dcti [4] [.fset lv])) (h10 : m.lookup 10 = some (zaJ (zag zR) fun s => .int (num s)))
  (h2 : m.lookup 2 = some (.inst 177 1)) (h1 : m.lookup 1 = some (.ns zg2 [.str "b", .int 0, lo, zcO zR zE, .loc 0])) (h0 : m.lookup 0 = some (.dcti [] []))
  (h14 : Fr m (.loc 14) (zfV ks g)) (hk : Fr m kp kpv) : Fr m (.loc 13) (zlF zR zE lo lv num ["begins", "kept"] [zfV ks g, kpv]) :=
 .inst h13 h12 (.cons (zcp hL h2 h1 h0) (.cons (.same (zdc _ _)) (.cons (.dcti h11 (.cons (.same trivial) .nil)) (.cons (.dctp h10 (FrL.same (zao (f := fun s : Spot => AV.int (num s)) (fun V => trivial) _))) (.cons (.same trivial) (.cons h14 (.cons hk .nil)))))))
theorem zcN {D : Nat → Bool} (ks : List Nat) (g : Nat → Fct) : AV.locsL D (ks.map fun b => AV.fset (g b)) := zao (f := fun b : Nat => AV.fset (g b)) (fun V => trivial) ks
section
variable {d : Nat} {env : Env} {vars : zaf} {mu : Mu}
theorem zjO {o : Expr} {name : Str} {apos pos : Pos} {args : List Expr} {Q : QA}
  (h : EW w H d env (eval o env) vars mu fun a mu1 => Ex5 fun c ks vs x K => znA (zcs mu1 a = some (c, ks, vs)) (zdq H c K) (zbv K c name) ((ks.zip vs).lookup name = some x) (x.handed = true) (
   LW w H d env (spliced (backTo pos (starEach args env))) vars mu1 fun as mu2 => zaP w H d x as mu2 Q))
  (hp : autoParam ((backTo pos (starEach args env)).any (fun V => V.1) = false) aW)
  (he : autoParam (∀ pl : Sem Bool, eval (.Call (.Attribute o name apos) args [] pos) env = (do
   let ov ← eval o env
   standAt apos.atName
   let (f, first) ← holding [ov] (getMethod ov name (do return (← importBound o env).getD true))
   callWith pos f first (backTo pos (starEach args env)) (backToKw pos (keywordEach [] env)))) aW) :
  EW w H d env (eval (.Call (.Attribute o name apos) args [] pos) env) vars mu Q := fun A Y β s hA g vo => by
 refine methodCall_KW (h.run hA g vo fun va s1 β1 a mu1 g1 t1 vo1 ra hq9' => ?_) (he (pure true))
 obtain ⟨c, ks, vs, x, K, hi, hc, hm, hx, hh, q⟩ := hq9'
 obtain ⟨p, dx, us, rfl, h1, h2, h3⟩ := zgN g1 hi ra
 obtain ⟨es, n, I, en⟩ := zgO h1 h2
 obtain ⟨u, hu, ru⟩ := zek h3 hx
 refine method_usual (hc.X.keeps g1.base) I hc.ga hc.gt hm.no rfl ?_
 refine get_value (hc.X.keeps g1.base) I hc.ga (findObj_own (attr := none) hc.dict hm.no rfl (by rw [lookIn_dict, en.get, hu])) (zhD ru hh) ?_
 refine zcY hp (q.run hA (g1.toks (s1.toks + 1)) vo1 fun vs2 s2 β2 as mu2 g2 t2 vo2 ra2 q2 => ?_)
 obtain ⟨hk, hcl⟩ := q2 A Y β2 s2 u vs2 hA g2 (t2.rep ru) ra2
 exact ⟨hk, wpAny_mono hcl (by rintro v s' ⟨β', av, mu', g', t', r', q'⟩; exact ⟨β', av, mu', g', ((t1.trans .toks).trans t2).trans t', r', q'⟩) fun V V x => x⟩
theorem zoZ {t : Sem Flow} {k : Nat} {ks : List Int} {vs : List AV} {Q : QF} (hm : mu.lookup k = some (.dcti ks vs)) (h : ∀ o, zcM mu k (.dctx ks vs o) fun mu' => SW w H d env t vars mu' Q) : SW w H d env t vars mu Q :=
 SW.ghost fun Y β s g => by
  obtain ⟨a, eb⟩ : ∃ a, β k = some a := Option.isSome_iff_exists.mp (by rw [← g.store.dom, hm]; rfl)
  obtain ⟨sm, kvs, hd, hk, l⟩ := g.store.rep _ _ _ hm eb
  obtain ⟨o, es, ep, ho, r⟩ := id hd
  obtain ⟨mu', p, q⟩ := h o
  exact ⟨mu', g.swap p fun a' e' => by rw [eb] at e'; obtain rfl := Option.some.inj e'; exact ⟨sm, ho, kvs, hd, hk, l⟩, q⟩
theorem zlK {t : Sem Flow} {k : Nat} {ks : List Int} {vs : List AV} {o : Obj} {Q : QF} (hm : mu.lookup k = some (.dctx ks vs o)) (h : zcM mu k (.dcti ks vs) fun mu' => SW w H d env t vars mu' Q) : SW w H d env t vars mu Q :=
 SW.ghost fun Y β s g => by
  obtain ⟨a, eb⟩ : ∃ a, β k = some a := Option.isSome_iff_exists.mp (by rw [← g.store.dom, hm]; rfl)
  obtain ⟨sm, ho, kvs, hd, hk, l⟩ := g.store.rep _ _ _ hm eb
  obtain ⟨mu', p, q⟩ := h
  exact ⟨mu', g.swap p fun a' e' => by rw [eb] at e'; obtain rfl := Option.some.inj e'; exact ⟨sm, kvs, hd, hk, l⟩, q⟩
theorem zmY (B : Facts w H) (zR : Rows) (zE : Ends) (lo : AV) (us ds : List Fct) (lv : Fct) (num : Spot → Nat) :
  zar w H 1 (.ref 78) [.loc 13, .loc 2, .lst (zaS zR (zae zR)), .loc 11, .loc 10, .raw (.ref 191)] ((13, .inst 112 12) :: (12, .ns [] []) :: mB zR zE lo us ds lv num) fun r m => r = .none ∧ m = mS zR zE lo us ds lv num (zfU [0] fun V => noF) .none := by
 have c1 := B.c_LoanScopes
 have a1 := B.a_LoanScopes_body
 have a2 := B.a_LoanScopes_loans
 have a3 := B.a_LoanScopes_values
 have a4 := B.a_LoanScopes_numbers
 have a5 := B.a_LoanScopes_after
 have a6 := B.a_LoanScopes_begins
 have a7 := B.a_LoanScopes_kept
 have g_frozenset := B.g_frozenset
 refine zar.go [("self", .loc 13), ("body", .loc 2), ("loans", .lst (zaS zR (zae zR))), ("values", .loc 11), ("numbers", .loc 10), ("after", .raw (.ref 191))] B.m_LoanScopes_init__ B.lim rfl rfl ?hsw
 case hsw =>
  intro L cd Q0 hQ
  kd_p
  refine zbh ?_
  kd_p
  refine fl ?_
  kd_p
  refine zbh ?_
  kd_p
  refine fl ?_
  kd_p
  refine zbh ?_
  kd_p
  refine fl ?_
  kd_p
  refine zbh ?_
  kd_p
  refine fl ?_
  kd_p
  refine zbh ?_
  kd_p
  refine fl ?_
  kd_p
  refine zgs 14 B.sys ?_
  kd_p
  refine zc9 ?_
  refine ⟨0, rfl, rfl, ?_⟩
  kd_p
  refine zbh ?_
  kd_p
  refine fl ?_
  kd_p
  refine zbh ?_
  kd_p
  refine fl ?_
  kd_p
  (refine hQ _ _ _ ?_; exact zb7 ⟨rfl, rfl⟩)
end
noncomputable def keptAt (zR : Rows) (lp : Spot → Bool) (g : Nat → Fct) (s : Spot) : Fct := zkd lp s (ups zR lp s.1 s.2 (g s.1))
noncomputable def rowOf (b k : Nat) : List Spot := (List.range k).map fun i => (b, i)
noncomputable def za3 (zR : Rows) (ks : List Nat) : List Spot := ks.flatMap fun b => rowOf b ((zR.getD b []).length + 1)
theorem zlE (b k : Nat) : rowOf b (k + 1) = rowOf b k ++ [(b, k)] := by unfold rowOf; (exists List.range_succ; exists List.map_append); rfl
theorem zgb {b k : Nat} {s : Spot} : s ∈ rowOf b k ↔ s.1 = b ∧ s.2 < k := by
 obtain ⟨x, y⟩ := s
 simp only [rowOf, List.mem_map, List.mem_range, Prod.mk.injEq]
 exact ⟨fun ⟨i, h, e, e2⟩ => ⟨e.symm, e2 ▸ h⟩, fun ⟨e, h⟩ => ⟨y, h, e.symm, rfl⟩⟩
theorem zcC {zR : Rows} {ks : List Nat} {s : Spot} : s ∈ za3 zR ks ↔ s.1 ∈ ks ∧ s.2 ≤ (zR.getD s.1 []).length := by
 simp only [za3, List.mem_flatMap, zgb]
 exact ⟨fun ⟨b, h, e, h2⟩ => by subst e; exact ⟨h, (Nat.le_of_lt_succ ‹_›)⟩, fun ⟨h, h2⟩ => ⟨s.1, h, rfl, (Nat.lt_succ_of_le ‹_›)⟩⟩
theorem ziv {α : Type} [DecidableEq α] : ∀ {l m : List α}, l.Nodup → (∀ x ∈ l, x ∈ m) → l.length ≤ m.length
 | [], _, _, _ => Nat.zero_le _
 | x :: l, m, nd, h => by
  rw [List.nodup_cons] at nd
  have h1 := ziv (l := l) (m := m.erase x) nd.2 fun y hy => (List.mem_erase_of_ne (fun (e : y = x) => nd.1 (e ▸ hy))).mpr (h y (List.mem_cons_of_mem _ hy))
  have h2 := List.length_erase_of_mem (h x List.mem_cons_self)
  have h3 := List.length_pos_of_mem (h x List.mem_cons_self)
  exists List.length_cons; kd_mem
theorem zfu (zR : Rows) : ∀ {l : List Nat}, l.Nodup → (za3 zR l).Nodup
 | [], _ => List.nodup_nil
 | b :: l, h => by
  rw [List.nodup_cons] at h
  unfold za3
  rw [List.flatMap_cons, List.nodup_append]
  refine ⟨?_, zfu zR h.2, ?_⟩
  ·unfold rowOf
   rw [List.Nodup, List.pairwise_map]
   exact List.nodup_range.imp fun hab e => hab (Prod.mk.inj e).2
  ·intro x hx y hy e
   subst e
   have h1 := (zgb.mp hx).1
   have h2 := (zcC.mp (show x ∈ za3 zR l from hy)).1
   rw [h1] at h2; exact h.1 h2
theorem zgx (zR : Rows) (l : List Nat) (b : Nat) : za3 zR (l ++ [b]) = za3 zR l ++ rowOf b ((zR.getD b []).length + 1) := by unfold za3; simp
theorem zli {zR : Rows} {zE : Ends} (S : zbm zR zE) {l : List Nat} (h : l.Nodup) (hl : ∀ x ∈ l, x < zR.length) : (za3 zR l).length ≤ 16 :=
 Nat.le_trans (ziv (zfu zR h) fun s hs => zax.mpr ⟨hl _ (zcC.mp hs).1, (zcC.mp hs).2⟩) S.tiny
noncomputable abbrev mK (zR : Rows) (zE : Ends) (lo : AV) (us ds : List Fct) (lv : Fct) (num : Spot → Nat) (ks : List Nat) (g : Nat → Fct) : Mu :=
 (15, zaJ (za3 zR ks) fun s => .fset (keptAt zR (fun s => lv (num s)) g s)) :: (20, .list []) :: mS zR zE lo us ds lv num (zfU ks g) (.loc 15)
section
variable {d : Nat} {env : Env} {vars : zaf} {mu : Mu}
theorem zqW (B : Facts w H) (zR : Rows) (zE : Ends) (S : zbm zR zE) (lo : AV) (hL : lo.locs zaw) (us ds : List Fct) (lv : Fct) (num : Spot → Nat) (hnum : ∀ s ∈ zag zR, num s < 16) (ks : List Nat) (g : Nat → Fct) (D : Led zR zE (fun s => lv (num s)) ks g) :
  zar w H 4 (.ref 102) [.loc 13] ((20, .list []) :: mS zR zE lo us ds lv num (zfU ks g) .none) fun r m => r = .none ∧ m = mK zR zE lo us ds lv num ks g := by
 kcf_m
 kcj_m
 have c1 := B.c_LoanScopes
 have a1 := B.a_LoanScopes_body
 have a6 := B.a_LoanScopes_begins
 have a7 := B.a_LoanScopes_kept
 have d1 := B.c_Body
 have d2 := B.a_Body_blocks
 have k1 := B.k_LoanScopes_let_on
 have k2 := B.k_LoanScopes_behind
 have h4 := S.few
 have h5 := zbd S.toSane
 have h6 := S.tiny
 have g_range := B.g_range
 have g_len := B.g_len
 refine zar.go [("self", .loc 13)] B.m_LoanScopes_keep B.lim rfl rfl ?hsw
 case hsw =>
  intro L cd Q0 hQ
  kd_p
  refine zb6 15 B.sys rfl ?_
  kd_p
  refine zbh ?_
  kd_p
  refine fl ?_
  repeat (first | refine zat ?_ | refine zbT (by decide) ?_)
  repeat (first | with_reducible refine zkI ?_ | with_reducible refine zce ?_)
  refine zoZ (k := 14) rfl (fun o => ?_)
  repeat (first | refine zat ?_ | refine zbT (by decide) ?_)
  refine zfO (fun m => m.lookup 14 = some (.dctx (ks.map ofN) (ks.map fun b => .fset (g b)) o)) (fun V i => ((ks.map ofN)[i]?).map .int) (fun n i v m => zaF (n + i = ks.length) (v = ([("self", .loc 13)] : zaf)) (m = ((15, zaJ (za3 zR (ks.take i)) fun s => .fset (keptAt zR (fun s => lv (num s)) g s)) :: (20, .list []) :: mS zR zE lo us ds lv num (.dctx (ks.map ofN) (ks.map fun b => .fset (g b)) o) (.loc 15) : Mu))) ?_ ?_ ?_ ?_
  ·refine zop ?_
   kd_p
   exact ⟨rfl, rfl, ks.length, rfl, rfl, by simp [za3]⟩
  ·rintro n i v m ⟨V, V, rfl⟩; rfl
  ·rintro n i x v m ⟨hn, rfl, rfl⟩ hx
   intro Q1 hN
   rw [List.getElem?_map] at hx
   obtain ⟨bi, hbi, rfl⟩ := Option.map_eq_some_iff.mp hx
   obtain ⟨b, hb, rfl⟩ := Option.map_eq_some_iff.mp hbi
   have hbk : b ∈ ks := List.mem_of_getElem? hb
   have hbl := D.lt b hbk
   have hik := (List.getElem?_eq_some_iff.mp hb).1
   kcf_m
   kcf_m
   obtain ⟨row, e, hrow, he, hz, h1, h2, h3⟩ := zip_get S.toSane hbl
   kcj_m
   kcj_m
   have htake : ks.take (i + 1) = ks.take i ++ [b] := by rw [List.take_add_one, hb]; rfl
   have hfew := zli S (l := ks.take (i + 1)) (D.nd.sublist (List.take_sublist _ _)) fun x hx => D.lt x (List.mem_of_mem_take hx)
   have hbt : b ∉ ks.take i := by
    have := D.nd.sublist (List.take_sublist (i + 1) ks)
    rw [htake, List.nodup_append] at this
    exact fun q => this.2.2 b q b (by simp) rfl
   rw [htake, zgx, h2, List.length_append] at hfew
   have hro : ∀ k, (rowOf b k).length = k := fun k => by simp [rowOf]
   rw [hro] at hfew
   show UW _ _ _ _ _ (.int (b : Int)) _ _ _
   kd_p
   refine zhL rfl (ziU hbk) ?_
   kd_p
   refine zbc (Rep w) (fun rem v m => ∃ k ≤ row.length + 1, zaF (v = ([("self", .loc 13), ("block", .int b), ("some", .fset (ups zR (fun s => lv (num s)) b k (g b)))] : zaf)) (rem = ((List.range (row.length + 1)).drop k).map (fun (i : Nat) => AV.int i)) (m = ((15, zaJ (za3 zR (ks.take i) ++ rowOf b k) fun s => .fset (keptAt zR (fun s => lv (num s)) g s)) :: (20, .list []) :: mS zR zE lo us ds lv num (.dctx (ks.map ofN) (ks.map fun b => .fset (g b)) o) (.loc 15) : Mu))) ?_ ?_ ?_
   ·refine zaC ?_
    kd_p
    have e1 : (((row.map Ev.line).length : Nat) : Int) + 1 = ((row.length + 1 : Nat) : Int) := by simp
    rw [e1]
    exact ⟨_, zbO (by kd_mem), 0, Nat.zero_le _, rfl, rfl, by simp [rowOf]⟩
   ·intro J hJ Q1 x rest hN
    rintro v m ⟨k, hk, rfl, hr, rfl⟩
    obtain ⟨hlk, rfl, rfl⟩ := range_drop hr.symm
    have hsp : (b, k) ∈ zag zR := zax.mpr ⟨hbl, by show k ≤ _; rw [h2]; kd_mem⟩
    have hid := zhT (zR := zR) (lp := fun s => lv (num s)) (b := b) (D.ids b) k
    refine za8 ?_
    kd_p
    refine zaQ ?_
    kd_p
    refine zfy 1 rfl c1 k1 (by tb_start) B.m_LoanScopes_let_on (by decide) ?_
    kd_p
    refine ((zjY B zR zE S lo hL lv num hnum (ks := ["begins", "kept"]) (vs := [zfV ks g, zcG (za3 zR (ks.take i) ++ rowOf b k) fun s => AV.fset (keptAt zR (fun s => lv (num s)) g s)]) ⟨zcN ks g, zao (f := fun s => AV.fset (keptAt zR (fun s => lv (num s)) g s)) (fun V => trivial) (za3 zR (ks.take i) ++ rowOf b k), trivial⟩ _ hid (b, k) hsp).q ?_).methE (.cons (zmx hL rfl rfl rfl rfl rfl rfl rfl (.dctx rfl (FrL.same (zcN ks g))) (.dctp rfl (FrL.same (zao (f := fun s => AV.fset (keptAt zR (fun s => lv (num s)) g s)) (fun V => trivial) _)))) (.cons (.same trivial) (.cons (.same (zaA (b, k))) .nil))) ?_
    ·rintro r rfl; rfl
    kd_p
    refine zdy ?_
    kd_p
    refine zel (k := 15) (ks := (za3 zR (ks.take i) ++ rowOf b k).map key) (vs := (za3 zR (ks.take i) ++ rowOf b k).map fun s => .fset (keptAt zR (fun s => lv (num s)) g s)) rfl (by rw [List.length_map, List.length_append, hro]; kd_mem) ?_ (zat ?_)
    ·show key (b, k) ∉ _
     rw [zfv, List.mem_append, zcC, zgb]
     rintro (⟨q, V⟩ | ⟨V, q⟩)
     ·exact hbt q
     ·exact absurd q (Nat.lt_irrefl _)
    have hstore : (zaJ (za3 zR (ks.take i) ++ rowOf b (k + 1)) fun s => AV.fset (keptAt zR (fun s => lv (num s)) g s)) = .dctp ((za3 zR (ks.take i) ++ rowOf b k).map key ++ [key (b, k)]) ((za3 zR (ks.take i) ++ rowOf b k).map (fun s => AV.fset (keptAt zR (fun s => lv (num s)) g s)) ++ [AV.fset (if lv (num (b, k)) then ups zR (fun s => lv (num s)) b k (g b) else noF)]) := by
     rw [zlE]
     simp only [zaJ, List.map_append, List.map_cons, List.map_nil, List.append_assoc]
     rfl
    rw [show ([(b : Int), (k : Int)] : List Int) = key (b, k) from rfl, ← hstore]
    kd_p
    refine zaQ ?_
    kd_p
    refine zfy 3 rfl c1 k2 (by tb_start) B.m_LoanScopes_behind (by decide) ?_
    kd_p
    refine ((zgw B zR zE S lo hL lv num (ks := ["begins", "kept"]) (vs := [zfV ks g, zcG (za3 zR (ks.take i) ++ rowOf b (k + 1)) fun s => AV.fset (keptAt zR (fun s => lv (num s)) g s)]) ⟨zcN ks g, zao (f := fun s => AV.fset (keptAt zR (fun s => lv (num s)) g s)) (fun V => trivial) (za3 zR (ks.take i) ++ rowOf b (k + 1)), trivial⟩ _ (b, k) hsp).q ?_).methE (.cons (zmx hL rfl rfl rfl rfl rfl rfl rfl (.dctx rfl (FrL.same (zcN ks g))) (.dctp rfl (FrL.same (zao (f := fun s => AV.fset (keptAt zR (fun s => lv (num s)) g s)) (fun V => trivial) _)))) (.cons (.same trivial) (.cons (.same (zaA (b, k))) .nil))) ?_
    ·rintro r rfl; rfl
    kd_p
    (refine hN _ _ _ ?_; exact zaj [("self", .loc 13), ("block", .int b), ("some", .fset (ups zR (fun s => lv (num s)) b (k + 1) (g b)))] [_, _] rfl (hJ _ _ _ ⟨k + 1, hlk, rfl, rfl, rfl⟩))
   ·rintro v m ⟨k, hk, rfl, hr, rfl⟩
    have := zaH hk hr.symm
    subst this
    kd_p
    (refine hN _ _ _ ?_; exact zaj [("self", .loc 13)] [_, _] rfl ⟨n - 1, by kd_mem, by kd_mem, rfl, by rw [htake, zgx, h2]⟩)
  ·rintro n i v m ⟨hn, rfl, rfl⟩ hx
   have hik : ks.length ≤ i := by
    rw [List.getElem?_map] at hx
    simpa using hx
   refine zlK (k := 14) rfl ?_
   kd_p
   (refine hQ _ _ _ ?_; exact zb7 ⟨rfl, by rw [List.take_of_length_le hik]⟩)
end
theorem ziJ {f : Nat → Nat} {c : Nat} (h : ∀ x, f x ≤ c) : ∀ l : List Nat, (l.map f).sum ≤ c * l.length
 | [] => by simp
 | x :: l => by
  have := ziJ h l
  have := h x
  simp only [List.map_cons, List.sum_cons, List.length_cons, Nat.mul_succ]; kd_mem
theorem zp0 (n : Nat) (ks : List Nat) (g : Nat → Fct) : pot n ks g ≤ 17 * n := by
 have := ziJ (f := zkv ks g) (c := 17) (fun x => by unfold zkv; split <;> omega) (List.range n)
 simpa [pot] using this
theorem LI.tight {zR : Rows} {zE : Ends} {lp : Spot → Bool} {m : Nat} {ks : List Nat} {g : Nat → Fct} {left : List Nat} {b : Nat} {done : List Nat} {S0 : Fct} (I : LI zR zE lp m ks g left b done S0) : LI zR zE lp (2 * pot zR.length ks g + left.length) ks g left b done S0 :=
 ⟨I.zero, I.nd, I.lt, I.ids, I.inl, I.cur, I.fix, I.dn, I.least, Nat.le_refl _⟩
section
variable {d : Nat} {env : Env} {vars : zaf} {mu : Mu}
theorem zqX (B : Facts w H) (zR : Rows) (zE : Ends) (S : zbm zR zE) (lo : AV) (hL : lo.locs zaw) (us ds : List Fct) (lv : Fct) (num : Spot → Nat) (hnum : ∀ s ∈ zag zR, num s < 16) :
  zar w H 5 (.ref 95) [.loc 13] (mS zR zE lo us ds lv num (zfU [0] fun V => noF) .none) fun r m => r = .none ∧ Ex2 fun ks g => Led zR zE (fun s => lv (num s)) ks g ∧ m = mK zR zE lo us ds lv num ks g := by
 have c1 := B.c_LoanScopes
 have a1 := B.a_LoanScopes_body
 have a5 := B.a_LoanScopes_after
 have a6 := B.a_LoanScopes_begins
 have a7 := B.a_LoanScopes_kept
 have d1 := B.c_Body
 have d2 := B.a_Body_blocks
 have k1 := B.k_LoanScopes_let_on
 have k2 := B.k_LoanScopes_behind
 have k3 := B.k_LoanScopes_keep
 have h4 := S.few
 have h5 := zbd S.toSane
 have g_range := B.g_range
 have g_len := B.g_len
 have g_frozenset := B.g_frozenset
 refine zar.go [("self", .loc 13)] B.m_LoanScopes_lead B.lim rfl rfl ?hsw
 case hsw =>
  intro L cd Q0 hQ
  kd_p
  refine zaO 20 (zaG ?_)
  kd_p
  refine ⟨rfl, ?_⟩
  kd_p
  kcf_m
  obtain ⟨n1, I1⟩ := LI.init S (fun s => lv (num s))
  kcj_m
  have I0 := I1.tight
  have hpot := zp0 zR.length [0] (fun V => noF)
  have hn1 : 2 * pot zR.length [0] (fun V => noF) + [0].length ≤ 4000 := by simp; kd_mem
  generalize 2 * pot zR.length [0] (fun V => noF) + [0].length = n0 at I0 hn1
  clear I1 hpot
  refine zeC (fun n v m => n ≤ n0 ∧ Ex3 fun (ks : List Nat) (g : Nat → Fct) (left : List Nat) => zaF (v = ([("self", .loc 13), ("left", .loc 20)] : zaf)) (m = ((20, .list (left.map fun (n : Nat) => AV.int n)) :: mS zR zE lo us ds lv num (zfU ks g) .none : Mu)) (LI zR zE (fun s => lv (num s)) n ks g left zR.length [] noF)) n0 ⟨Nat.le_refl _, [0], fun V => noF, [0], rfl, rfl, I0⟩ ?_
  intro Q1 n hN
  rintro v m ⟨hn0, ks, g, left, rfl, rfl, I⟩
  kd_p
  refine zam (zaG ?_)
  kd_p
  refine zei (l := left) rfl ?_
  kd_p
  refine ifk (fun hb => ?_) (fun hb => ?_)
  rotate_left
  ·have : left = [] := by simpa using hb
   subst this
   kd_p
   refine za1 (zaQ ?_)
   kd_p
   refine zfy 4 rfl c1 k3 (by tb_start) B.m_LoanScopes_keep (by decide) ?_
   kd_p
   refine (zqW B zR zE S lo hL us ds lv num hnum ks g I.done).mono (Nat.le_refl _) ?_
   rintro r m ⟨rfl, rfl⟩
   kd_p
   (refine hQ _ _ _ ?_; exact zb7 ⟨rfl, ks, g, I.done, rfl⟩)
  obtain ⟨init, b, rfl⟩ := zd0 (l := left) (by simpa using hb)
  have hbk : b ∈ ks := I.inl b (by simp)
  have hbl := I.lt b hbk
  have hfu := I.fuel
  rw [List.length_append, List.length_singleton] at hfu
  have hleast := fun R G h0 h1 h2 => I.least R G h0 h1 h2 b hbk
  have hids := I.ids b
  obtain ⟨row, e, hrow, he, hz, h1, h2, h3⟩ := zip_get S.toSane hbl
  obtain ⟨n2, hn2, I2⟩ := I.pop
  kd_p
  refine zi3 ?_
  kd_p
  refine ⟨20, init.map (fun (n : Nat) => AV.int n), .int b, rfl, by rw [List.map_append]; rfl, by rw [List.length_map, zab]; kd_mem, zat ?_⟩
  kd_p
  refine zhL rfl (ziU hbk) ?_
  kd_p
  refine zbc (Rep w) (fun rem v m => ∃ k ≤ row.length + 1, zaF (v = ([("self", .loc 13), ("left", .loc 20), ("block", .int b), ("some", .fset (ups zR (fun s => lv (num s)) b k (g b)))] : zaf)) (rem = ((List.range (row.length + 1)).drop k).map (fun (i : Nat) => AV.int i)) (m = ((20, .list (init.map fun (n : Nat) => AV.int n)) :: mS zR zE lo us ds lv num (zfU ks g) .none : Mu))) ?_ ?_ ?_
  ·refine zaC ?_
   kd_p
   have e1 : (((row.map Ev.line).length : Nat) : Int) + 1 = ((row.length + 1 : Nat) : Int) := by simp
   rw [e1]
   exact ⟨_, zbO (by kd_mem), 0, Nat.zero_le _, rfl, rfl, rfl⟩
  ·intro J hJ Q1 x rest hN
   rintro v m ⟨k, hk, rfl, hr, rfl⟩
   obtain ⟨hlk, rfl, rfl⟩ := range_drop hr.symm
   have hsp : (b, k) ∈ zag zR := zax.mpr ⟨hbl, by show k ≤ _; rw [h2]; kd_mem⟩
   have hid := zhT (zR := zR) (lp := fun s => lv (num s)) (b := b) hids k
   refine za8 ?_
   kd_p
   refine zaQ ?_
   kd_p
   refine zfy 3 rfl c1 k2 (by tb_start) B.m_LoanScopes_behind (by decide) ?_
   kd_p
   refine zaQ ?_
   kd_p
   refine zfy 1 rfl c1 k1 (by tb_start) B.m_LoanScopes_let_on (by decide) ?_
   kd_p
   refine ((zjY B zR zE S lo hL lv num hnum (ks := ["begins", "kept"]) (vs := [zfV ks g, .none]) ⟨zcN ks g, trivial, trivial⟩ _ hid (b, k) hsp).q ?_).methE (.cons (zmx hL rfl rfl rfl rfl rfl rfl rfl (.dcti rfl (FrL.same (zcN ks g))) (.same trivial)) (.cons (.same trivial) (.cons (.same (zaA (b, k))) .nil))) ?_
   ·rintro r rfl; rfl
   kd_p
   refine ((zgw B zR zE S lo hL lv num (ks := ["begins", "kept"]) (vs := [zfV ks g, .none]) ⟨zcN ks g, trivial, trivial⟩ _ (b, k) hsp).q ?_).methE (.cons (zmx hL rfl rfl rfl rfl rfl rfl rfl (.dcti rfl (FrL.same (zcN ks g))) (.same trivial)) (.cons (.same trivial) (.cons (.same (zaA (b, k))) .nil))) ?_
   ·rintro r rfl; rfl
   kd_p
   (refine hN _ _ _ ?_; exact zaj [("self", .loc 13), ("left", .loc 20), ("block", .int b), ("some", .fset (ups zR (fun s => lv (num s)) b (k + 1) (g b)))] [_] rfl (hJ _ _ _ ⟨k + 1, hlk, rfl, rfl, rfl⟩))
  ·rintro v m ⟨k, hk, rfl, hr, rfl⟩
   have := zaH hk hr.symm
   subst this
   kd_p
   have hout : ups zR (fun s => lv (num s)) b (row.length + 1) (g b) = outF zR (fun s => lv (num s)) b (g b) := by unfold outF; rw [h2]
   rw [hout]
   refine zbc (Rep w) (fun rem v m => v = ([("self", .loc 13), ("left", .loc 20), ("block", .int b), ("some", .fset (outF zR (fun s => lv (num s)) b (g b)))] : zaf) ∧ ∃ (done rest : List Nat) (ks' : List Nat) (g' : Nat → Fct) (left' : List Nat), ze5 (done ++ rest = e.succs) (rem = rest.map (fun (n : Nat) => AV.int n)) (b ∈ ks') (m = ((20, .list (left'.map fun (n : Nat) => AV.int n)) :: mS zR zE lo us ds lv num (zfU ks' g') .none : Mu)) (LI zR zE (fun s => lv (num s)) n2 ks' g' left' b done (g b))) ?_ ?_ ?_
   ·refine zaC ?_
    kd_p
    refine zjO ?_
    kd_p
    refine ⟨112, _, _, .raw (.ref 191), Kf, rfl, c1, a5, by tb_start, rfl, ?_⟩
    kd_p
    refine (zdS B e).callE B.n_successors (by decide) ?_
    exact ⟨_, zbj, rfl, [], e.succs, ks, g, init, rfl, rfl, hbk, rfl, I2⟩
   ·intro J hJ Q1 x rest hN
    rintro v m ⟨rfl, done, rest', ks', g', left', hds, hr, hbk', rfl, I'⟩
    cases rest' with
    | nil => simp at hr
    | cons t rest' =>
     simp only [List.map_cons, List.cons.injEq] at hr
     obtain ⟨rfl, rfl⟩ := hr
     have hts : t ∈ e.succs := by rw [← hds]; simp
     have htl : t < zR.length := S.goal e (List.mem_of_getElem? he) t ((e.mem_succs t).mp hts)
     have hfu' := I'.fuel
     have hkl := zc3 I'.nd I'.lt
     refine za8 ?_
     kd_p
     refine zjP ?_
     kd_p
     refine ⟨⟨_, rfl⟩, ?_⟩
     kd_p
     refine zc9 ?_
     refine ⟨(t : Int), _, _, rfl, rfl, ?_⟩
     rw [show (AV.fset fun V => false) = .fset noF from rfl, znI]
     kd_p
     refine zlB rfl ?_
     have hsome : (((ks'.map ofN).zip (ks'.map fun b => AV.fset (g' b))).lookup (t : Int)).isSome = decide (t ∈ ks') := by
      rw [zg0 (f := fun b => AV.fset (g' b))]
      by_cases h : t ∈ ks'
      ·rw [if_pos h]; simp [h]
      ·rw [if_neg h]; simp [h]
     rw [hsome]
     kd_p
     refine ifb (fun hc => ?_) (fun hc => ?_)
     ·have hne : t ∉ ks' ∨ ¬ ∀ j, (orF (if t ∈ ks' then g' t else noF) (outF zR (fun s => lv (num s)) b (g b))) j = g' t j := .inl (by simpa using hc)
      kd_p
      refine zdy ?_
      kd_p
      refine zkJ (k := 14) rfl (by simp; kd_mem) ?_
      rw [zlZ]
      kd_p
      refine za1 (zbe ?_)
      kd_p
      refine ⟨20, _, rfl, rfl, ?_⟩
      kd_p
      refine ⟨_, rfl, by rw [List.length_map, zab]; kd_mem, zat ?_⟩
      kd_p
      (refine hN _ _ _ ?_; refine zaj [("self", .loc 13), ("left", .loc 20), ("block", .int b), ("some", .fset (outF zR (fun s => lv (num s)) b (g b)))] [_, _] rfl (hJ _ _ _ ⟨rfl, done ++ [t], rest', putK ks' t, zeG g' t (orF (if t ∈ ks' then g' t else noF) (outF zR (fun s => lv (num s)) b (g b))), left' ++ [t], by simp [hds], rfl, zbg.mpr (.inl hbk'), ?_, I'.push S hbl hbk' hids (fun R G h0 h1 h2 => hleast R G h0 h1 h2) (by rw [h3]; exact hts) htl rfl hne⟩))
      rw [List.map_append]; rfl
     have htk : t ∈ ks' := by simpa using hc
     kd_p
     refine zhL rfl (ziU htk) ?_
     refine zoD (fun c hcc => ?_)
     kd_p
     refine ifb (fun hc2 => ?_) (fun hc2 => ?_)
     ·have hne : t ∉ ks' ∨ ¬ ∀ j, (orF (if t ∈ ks' then g' t else noF) (outF zR (fun s => lv (num s)) b (g b))) j = g' t j := .inr (hcc.mp hc2)
      kd_p
      refine zdy ?_
      kd_p
      refine zkJ (k := 14) rfl (by simp; kd_mem) ?_
      rw [zlZ]
      kd_p
      refine za1 (zbe ?_)
      kd_p
      refine ⟨20, _, rfl, rfl, ?_⟩
      kd_p
      refine ⟨_, rfl, by rw [List.length_map, zab]; kd_mem, zat ?_⟩
      kd_p
      (refine hN _ _ _ ?_; refine zaj [("self", .loc 13), ("left", .loc 20), ("block", .int b), ("some", .fset (outF zR (fun s => lv (num s)) b (g b)))] [_, _] rfl (hJ _ _ _ ⟨rfl, done ++ [t], rest', putK ks' t, zeG g' t (orF (if t ∈ ks' then g' t else noF) (outF zR (fun s => lv (num s)) b (g b))), left' ++ [t], by simp [hds], rfl, zbg.mpr (.inl hbk'), ?_, I'.push S hbl hbk' hids (fun R G h0 h1 h2 => hleast R G h0 h1 h2) (by rw [h3]; exact hts) htl rfl hne⟩))
      rw [List.map_append]; rfl
     ·kd_p
      (refine hN _ _ _ ?_; refine zaj [("self", .loc 13), ("left", .loc 20), ("block", .int b), ("some", .fset (outF zR (fun s => lv (num s)) b (g b)))] [_, _] rfl (hJ _ _ _ ⟨rfl, done ++ [t], rest', ks', g', left', by simp [hds], rfl, hbk', rfl, I'.skip hbl htk ?_⟩))
      rw [hc2] at hcc
      intro j
      apply Classical.byContradiction
      intro q
      have := hcc.mpr (fun h => q (by have := h j; rw [if_pos htk] at this; exact this))
      cases this
   ·rintro v m ⟨rfl, done, rest', ks', g', left', hds, hr, hbk', rfl, I'⟩
    have : rest' = [] := by simpa using hr.symm
    subst this
    rw [List.append_nil] at hds
    subst hds
    kd_p
    rw [← h3] at I'
    (refine hN _ _ _ ?_; exact zaj [("self", .loc 13), ("left", .loc 20)] [_, _] rfl ⟨n2, hn2, by kd_mem, ks', g', left', rfl, rfl, I'.turned⟩)
end
noncomputable def atS (zR : Rows) (lp : Spot → Bool) (ks : List Nat) (g : Nat → Fct) (s : Spot) : Fct := if s.1 ∈ ks then keptAt zR lp g s else noF
theorem zj9 {zR : Rows} {lp : Spot → Bool} {ks : List Nat} {g : Nat → Fct} {s : Spot} (hs : s ∈ zag zR) : ((((za3 zR ks).map key).zip ((za3 zR ks).map fun s => AV.fset (keptAt zR lp g s))).lookup (key s)).getD (.fset noF) = .fset (atS zR lp ks g s) := by
 unfold atS
 by_cases h : s.1 ∈ ks
 ·rw [if_pos h, zb1 (f := fun s => AV.fset (keptAt zR lp g s)) (zcC.mpr ⟨h, ((zax.mp hs).2)⟩)]; rfl
 ·(exists if_neg h; exists (zhH (f := fun s => AV.fset (keptAt zR lp g s)) (fun q => h (zcC.mp q).1))); rfl
section
variable {d : Nat} {env : Env} {vars : zaf} {mu : Mu}
theorem zl (B : Facts w H) (zR : Rows) (zE : Ends) (S : zbm zR zE) (lo : AV) (hL : lo.locs zaw) (us ds : List Fct) (lv : Fct) (num : Spot → Nat) (hnum : ∀ s ∈ zag zR, num s < 16) (s : Spot) (hs : s ∈ zag zR) :
  zar w H 6 (.ref 109) [.loc 13, za s] (mS zR zE lo us ds lv num (zfU [0] fun V => noF) .none) fun r m => Ex2 fun ks g => zaF (Led zR zE (fun s => lv (num s)) ks g) (m = mK zR zE lo us ds lv num ks g) (r = .fset (atS zR (fun s => lv (num s)) ks g s)) := by
 kcf_m
 kcj_m
 have c1 := B.c_LoanScopes
 have a7 := B.a_LoanScopes_kept
 have k3 := B.k_LoanScopes_lead
 have g_frozenset := B.g_frozenset
 refine zar.go [("self", .loc 13), ("point", za s)] B.m_LoanScopes_at B.lim rfl rfl ?hsw
 case hsw =>
  intro L cd Q0 hQ
  kd_p
  refine za1 (zaQ ?_)
  kd_p
  refine zfy 5 rfl c1 k3 (by tb_start) B.m_LoanScopes_lead ((Nat.le_of_ble_eq_true rfl)) ?_
  kd_p
  refine (zqX B zR zE S lo hL us ds lv num hnum).mono (Nat.le_refl _) ?_
  rintro r m ⟨rfl, ks, g, D, rfl⟩
  kd_p
  refine zjQ ?_
  kd_p
  refine ⟨⟨_, rfl⟩, ?_⟩
  kd_p
  refine zc9 ?_
  refine ⟨(s.1 : Int), (s.2 : Int), _, _, rfl, rfl, ?_⟩
  rw [show (AV.fset fun V => false) = .fset noF from rfl, show ([(s.1 : Int), (s.2 : Int)] : List Int) = key s from rfl, zj9 hs]
  (refine hQ _ _ _ ?_; exact zbN ⟨ks, g, D, rfl, rfl⟩)
theorem zin (B : Facts w H) (zR : Rows) (zE : Ends) (lo : AV) (us ds : List Fct) (lv : Fct) (num : Spot → Nat) (ks : List Nat) (g : Nat → Fct) (pre : Mu) (hp : ∀ k, 12 ≤ k ∧ k ≤ 15 → pre.lookup k = none) (s : Spot) (hs : s ∈ zag zR) :
  zar w H 6 (.ref 109) [.loc 13, za s] (pre ++ mK zR zE lo us ds lv num ks g) fun r m => m = pre ++ mK zR zE lo us ds lv num ks g ∧ r = .fset (atS zR (fun s => lv (num s)) ks g s) := by
 have c1 := B.c_LoanScopes
 have a7 := B.a_LoanScopes_kept
 have look : ∀ k, 12 ≤ k ∧ k ≤ 15 → (pre ++ mK zR zE lo us ds lv num ks g).lookup k = (mK zR zE lo us ds lv num ks g).lookup k := fun k hk => by
  (exists List.lookup_append; exists hp k hk); rfl
 have hi : zcs (pre ++ mK zR zE lo us ds lv num ks g) (.loc 13) = some (112, zoQ, zrg zR (.loc 15)) := by
  show zob _ ((pre ++ mK zR zE lo us ds lv num ks g).lookup 13) = _
  exists (look 13 (by decide))
  show zoa 112 ((pre ++ mK zR zE lo us ds lv num ks g).lookup 12) = _
  exists (look 12 (by decide)); rfl
 have hd : zfY (pre ++ mK zR zE lo us ds lv num ks g) (.loc 15) = some ((za3 zR ks).map key, (za3 zR ks).map fun s => AV.fset (keptAt zR (fun s => lv (num s)) g s)) := by
  show zl2 ((pre ++ mK zR zE lo us ds lv num ks g).lookup 15) = _
  exists (look 15 (by decide)); rfl
 generalize (pre ++ mK zR zE lo us ds lv num ks g) = m0 at hi hd
 have g_frozenset := B.g_frozenset
 refine zar.go [("self", .loc 13), ("point", za s)] B.m_LoanScopes_at B.lim rfl rfl ?hsw
 case hsw =>
  intro L cd Q0 hQ
  kd_p
  refine zjQ ?_
  kd_p
  refine ⟨⟨_, hd⟩, ?_⟩
  kd_p
  refine zc9 ?_
  refine ⟨(s.1 : Int), (s.2 : Int), _, _, rfl, hd, ?_⟩
  rw [show (AV.fset fun V => false) = .fset noF from rfl, show ([(s.1 : Int), (s.2 : Int)] : List Int) = key s from rfl, zj9 hs]
  (refine hQ _ _ _ ?_; exact zbN ⟨rfl, rfl⟩)
inductive Reach (zE : Ends) : Nat → Prop
 | zero : Reach zE 0
 | step {b t} : Reach zE b → t ∈ (zE.getD b .panic).goals → Reach zE t
noncomputable def zdo (n : Nat) (l : List Nat) : Nat := ((List.range n).filter fun b => decide (b ∉ l)).length
structure zmK (zE : Ends) (n i : Nat) (l : List Nat) : Prop where
 zero : 0 ∈ l
 lt : ∀ x ∈ l, x < zE.length
 ok : ∀ x ∈ l, Reach zE x
 cl : ∀ j < i, ∀ b, l[j]? = some b → ∀ t ∈ (zE.getD b .panic).goals, t ∈ l
 fuel : 2 * zdo zE.length l + l.length ≤ n + i
 ile : i ≤ l.length
theorem zmK.done {zE : Ends} {n i : Nat} {l : List Nat} (I : zmK zE n i l) (h : l[i]? = none) : ∀ x, x ∈ l ↔ Reach zE x := by
 intro x
 refine ⟨I.ok x, fun h2 => ?_⟩
 have hi : l.length ≤ i := by simpa using h
 induction h2 with
 | zero => exact I.zero
 | step _ ht ih =>
  obtain ⟨j, hj⟩ := List.getElem?_of_mem ih
  have := (List.getElem?_eq_some_iff.mp hj).1
  exact I.cl j ((Nat.lt_of_lt_of_le ‹_› ‹_›)) _ hj _ ht
theorem zmK.next {zE : Ends} {n i : Nat} {l : List Nat} (I : zmK zE n i l) {b : Nat} (hb : l[i]? = some b) (hg : ∀ e ∈ zE, ∀ g ∈ e.goals, g < zE.length) : ∃ n', n' < n ∧ zmK zE n' (i + 1) (l ++ (zE.getD b .panic).goals.filter fun t => decide (t ∉ l)) := by
 have hil := (List.getElem?_eq_some_iff.mp hb).1
 have hbm : b ∈ l := List.mem_of_getElem? hb
 have hgl : ∀ t ∈ (zE.getD b .panic).goals, t < zE.length := fun t ht => by
  obtain ⟨e, he, hm⟩ := zay (I.lt b hbm)
  rw [getD_some he] at ht
  exact hg e hm t ht
 have hfu := I.fuel
 have hmem : ∀ x, x ∈ l ++ (zE.getD b .panic).goals.filter (fun t => decide (t ∉ l)) → x ∈ l ∨ (x ∈ (zE.getD b .panic).goals ∧ x ∉ l) := fun x hx => by
  rcases List.mem_append.mp hx with q | q
  ·exact .inl q
  ·obtain ⟨q1, q2⟩ := List.mem_filter.mp q; exact .inr ⟨q1, by exact of_decide_eq_true q2⟩
 have few : (zE.getD b .panic).goals.length ≤ 2 := by cases zE.getD b .panic <;> simp [End.goals]
 have fl := List.length_filter_le (fun t => decide (t ∉ l)) (zE.getD b .panic).goals
 have hun : 2 * zdo zE.length (l ++ (zE.getD b .panic).goals.filter fun t => decide (t ∉ l)) + ((zE.getD b .panic).goals.filter fun t => decide (t ∉ l)).length ≤ 2 * zdo zE.length l := by
  cases hf : (zE.getD b .panic).goals.filter fun t => decide (t ∉ l) with
  | nil => simp
  | cons t r =>
   have ht : t ∈ (zE.getD b .panic).goals.filter fun t => decide (t ∉ l) := by rw [hf]; simp
   obtain ⟨q1, q2⟩ := List.mem_filter.mp ht
   replace fl := (hf) ▸ fl
   have : zdo zE.length (l ++ (t :: r)) < zdo zE.length l := zdj (fun x hx => by simp at hx ⊢; exact hx.1) (a := t) (List.mem_range.mpr (hgl t q1)) q2 (by simp)
   kd_mem
 refine ⟨n - 1, ?_, ⟨List.mem_append_left _ I.zero, fun x hx => ?_, fun x hx => ?_, fun j hj c hc t ht => ?_, ?_, ?_⟩⟩
 ·kd_mem
 ·rcases hmem x hx with q | q
  ·exact I.lt x q
  ·exact hgl x q.1
 ·rcases hmem x hx with q | q
  ·exact I.ok x q
  ·exact .step (I.ok b hbm) q.1
 ·have hjl : j < l.length := by exact Nat.lt_of_lt_of_le ‹_› ‹_›
  replace hc := (List.getElem?_append_left hjl) ▸ hc
  by_cases e : j = i
  ·subst e
   rw [hb] at hc; obtain rfl := Option.some.inj hc
   by_cases q : t ∈ l
   ·exact List.mem_append_left _ q
   ·exact List.mem_append_right _ (List.mem_filter.mpr ⟨ht, by simpa using q⟩)
  ·exact List.mem_append_left _ (I.cl j (by kd_mem) c hc t ht)
 ·exists List.length_append; kd_mem
 ·rw [List.length_append]; exact Nat.le_trans ‹_› (Nat.le_add_right _ _)
end
section
variable {d : Nat} {env : Env} {vars : zaf} {mu : Mu}
theorem zmX (B : Facts w H) (zE : Ends) (hp : 0 < zE.length) (hf : zE.length < 100) (hg : ∀ e ∈ zE, ∀ g ∈ e.goals, g < zE.length) :
  zal w H 2 (.ref 457) [zbK zE] fun r => ∃ l, r = zbU l ∧ ∀ x, x ∈ l ↔ Reach zE x := by
 have g_law_goals := B.g_law_goals
 refine zal.go [("ends", zbK zE)] B.n_law_reached B.lim rfl rfl ⟨zdC zE, trivial⟩ ?hsw
 case hsw =>
  intro L cd Q0 hQ
  kd_p
  refine zaO 0 (zaG ?_)
  kd_p
  refine ⟨rfl, ?_⟩
  kd_p
  refine zfO (fun m => ∃ xs, m.lookup 0 = some (.list xs)) (fun m i => match m.lookup 0 with | some (.list xs) => xs[i]? | _ => none) (fun n i v m => zaF (n + i ≤ 1000) (v = ([("ends", zbK zE), ("found", .loc 0)] : zaf)) (∃ l : List Nat, m = [(0, .list (l.map fun (n : Nat) => AV.int n))] ∧ zmK zE n i l)) ?_ ?_ ?_ ?_
  ·refine zoq ?_
   kd_p
   have hu : zdo zE.length [0] ≤ 100 := by
    have := List.length_filter_le (fun b => decide (b ∉ [0])) (List.range zE.length)
    unfold zdo
    simp at this ⊢
    kd_mem
   exact ⟨rfl, ⟨_, rfl⟩, 2 * zdo zE.length [0] + 1, by kd_mem, rfl, [0], rfl, ⟨by simp, fun x hx => by exists List.mem_singleton.mp hx; exact hp, fun x hx => by rw [List.mem_singleton.mp hx]; exact .zero, fun j hj => absurd hj (Nat.not_lt_zero _), by simp, by simp⟩⟩
  ·rintro n i v m ⟨_, _, l, rfl, _⟩; exact ⟨_, rfl⟩
  ·rintro n i x v m ⟨hn, rfl, l, rfl, I⟩ hx
   intro Q1 hN
   replace hx : (l.map fun (n : Nat) => AV.int n)[i]? = some x := hx
   rw [List.getElem?_map] at hx
   obtain ⟨b, hb, rfl⟩ := Option.map_eq_some_iff.mp hx
   have hbl := I.lt b (List.mem_of_getElem? hb)
   obtain ⟨e, he, hme⟩ := zay hbl
   have hge : zE.getD b .panic = e := getD_some he
   kcf_m
   obtain ⟨n', hn', I'⟩ := I.next hb hg
   kcj_m
   have hfu := I'.fuel
   rw [hge] at I' hfu
   rw [List.length_append] at hfu
   kd_p
   refine za1 (zdE ?_)
   kd_p
   refine ⟨0, _, rfl, rfl, ?_⟩
   refine zam (zaY [("found", L + 1)] [("found", .loc 0)] (fun (n : Nat) => .int n) (fun (n : Nat) => .int n) (fun t => decide (t ∉ l)) ?_)
   ·refine zaC ?_
    kd_p
    refine (zl8 B e).callE B.n_law_goals (by decide) ?_
    refine ⟨_, zbj, e.goals, rfl, ?_, fun C t _ => ?_, ?_⟩
    ·as_aux_lemma =>
     cases e <;> simp [End.goals, zab]
    ·refine zcq ?_
     kd_p
     refine zdv (l := l) rfl ?_
     kd_p
     refine ⟨by simp, rfl, fun _ => ?_⟩
     kd_p
     exact ⟨rfl, rfl⟩
    ·refine ⟨_, _, rfl, rfl, ?_, zat ?_⟩
     ·rw [List.length_map, List.length_map, zab]; kd_mem
     kd_p
     (refine hN _ _ _ ?_; exact zaj [("ends", zbK zE), ("found", .loc 0)] [_] rfl ⟨n', hn', by kd_mem, rfl, _, by rw [List.map_append], I'⟩)
  ·rintro n i v m ⟨hn, rfl, l, rfl, I⟩ hx
   replace hx : (l.map fun (n : Nat) => AV.int n)[i]? = none := hx
   rw [List.getElem?_map, Option.map_eq_none_iff] at hx
   kd_p
   (refine hQ _ _ _ ?_; exact zbl rfl (zbZ _) ⟨⟨l, rfl, I.done hx⟩, rfl⟩)
end
section
variable {d : Nat} {env : Env} {vars : zaf} {mu : Mu}
theorem zjU (B : Facts w H) (zR : Rows) (zE : Ends) (los : List AV) (hl : los.length ≤ 16) :
  zar w H 1 (.ref 131) [.loc 2, .str "b", .int 0, .lst los, zcO zR zE, .loc 0] ((2, .inst 177 1) :: (1, .ns [] []) :: (0, .dcti [] []) :: []) fun r m => r = .none ∧ m = mu0 zR zE (.lst los) := by
 have c1 := B.c_Body
 have a1 := B.a_Body_name
 have a2 := B.a_Body_arg_count
 have a3 := B.a_Body_locals
 have a4 := B.a_Body_blocks
 have a5 := B.a_Body_spots
 have g_list := B.g_list
 refine zar.ofD [("self", .loc 2), ("name", .str "b"), ("arg_count", .int 0), ("locals_told", .lst los), ("blocks", zcO zR zE), ("spots", .loc 0)] B.m_Body_init__ B.lim (hb := rfl) (has := rfl) (nd := of_decide_eq_true (by kpf_c)) (hbind := fun V V V V => zrW 6 fun V => ⟨_, rfl, by kpf_c⟩) (hkind := by kpf_c) (hsw := ?hsw)
 case hsw =>
  intro L cd
  refine SW.gen ?_
  intro Q0 hQ
  kd_p
  refine zbh ?_
  kd_p
  refine ⟨_, _, _, _, _, Kf, _, _, rfl, rfl, rfl, by with_reducible assumption, by with_reducible assumption, (of_decide_eq_true rfl), by (repeat (first | with_reducible exact zds.nil | with_reducible exact zds.here | (with_reducible apply zds.there; decide +kernel))), ?_⟩
  kd_p
  refine zbh ?_
  kd_p
  refine fl ?_
  repeat (first | with_reducible refine zam (zcr ?_) | x_close)
  refine zpC rfl (by rw [zab]; kd_mem) ?_
  kd_p
  refine zbh ?_
  kd_p
  refine ⟨_, _, _, _, _, Kf, _, _, rfl, rfl, rfl, by with_reducible assumption, by with_reducible assumption, (of_decide_eq_true rfl), by (repeat (first | with_reducible exact zds.nil | with_reducible exact zds.here | (with_reducible apply zds.there; decide +kernel))), ?_⟩
  kd_p
  refine zbh ?_
  kd_p
  refine fl ?_
  kd_p
  refine zbh ?_
  kd_p
  refine ⟨_, _, _, _, _, Kf, _, _, rfl, rfl, rfl, by with_reducible assumption, by with_reducible assumption, (of_decide_eq_true rfl), by (repeat (first | with_reducible exact zds.nil | with_reducible exact zds.here | (with_reducible apply zds.there; decide +kernel))), ?_⟩
  kd_p
  (refine hQ _ _ _ ?_; exact zb7 ⟨rfl, rfl⟩)
end
noncomputable def zbq (zR : Rows) (zE : Ends) (s : Spot) : Bool := @decide (s ∈ zag zR ∧ zbw zR zE s) (Classical.propDecidable _)
theorem zbQ {zR : Rows} {zE : Ends} {s : Spot} : zbq zR zE s = true ↔ s ∈ zag zR ∧ zbw zR zE s := by
 unfold zbq; exact @decide_eq_true_iff _ (Classical.propDecidable _)
noncomputable def zaR (zR : Rows) (zE : Ends) : List Spot := (zag zR).filter (zbq zR zE)
theorem zbS {zR : Rows} {zE : Ends} {s : Spot} : s ∈ zaR zR zE ↔ s ∈ zag zR ∧ zbw zR zE s := by
 unfold zaR
 rw [List.mem_filter, zbQ]
 exact ⟨fun h => h.2, fun h => ⟨h.1, h⟩⟩
noncomputable def numOf (zR : Rows) (s : Spot) : Nat := (zag zR).idxOf s
theorem zgc {zR : Rows} {i : Nat} {s : Spot} (h : (zag zR)[i]? = some s) : numOf zR s = i := by
 obtain ⟨hi, rfl⟩ := List.getElem?_eq_some_iff.mp h
 exact (zem zR).idxOf_getElem i hi
theorem zhx {zR : Rows} {s : Spot} (h : s ∈ zag zR) : numOf zR s < (zag zR).length := List.idxOf_lt_length_of_mem h
theorem znc {zR : Rows} {s t : Spot} (hs : s ∈ zag zR) (h : numOf zR t = numOf zR s) : t = s := by
 obtain ⟨i, hi⟩ := List.getElem?_of_mem hs
 have e1 := zgc hi
 have hl := zhx hs
 have ht : t ∈ zag zR := by
  apply Classical.byContradiction
  intro q
  have := List.idxOf_eq_length q
  unfold numOf at h hl
  kd_mem
 obtain ⟨j, hj⟩ := List.getElem?_of_mem ht
 have e2 := zgc hj
 rw [h, e1] at e2
 subst e2
 rw [hi] at hj
 exact (Option.some.inj hj).symm
noncomputable def lvF (zR : Rows) (zE : Ends) : Fct := zbR ((zaR zR zE).map fun t => (numOf zR t : Int))
theorem zmk (zR : Rows) (zE : Ends) : (fun s => lvF zR zE (numOf zR s)) = zbq zR zE := by
 funext s
 rw [Bool.eq_iff_iff, zbQ, ← zbS]
 unfold lvF zbR
 rw [decide_eq_true_iff, List.mem_map]
 constructor
 ·rintro ⟨t, ht, e⟩
  rw [znc (zbS.mp ht).1 (by kd_mem : numOf zR s = numOf zR t)]; exact ht
 ·intro h
  exact ⟨s, h, rfl⟩
theorem zpI {zR : Rows} {zE : Ends} (S : zbm zR zE) : ∀ n ∈ (zaR zR zE).map (fun t => (numOf zR t : Int)), 0 ≤ n ∧ n < 16 := by
 intro n hn
 obtain ⟨t, ht, rfl⟩ := List.mem_map.mp hn
 have := zhx (zbS.mp ht).1
 have := S.tiny
 kd_mem
noncomputable abbrev zgT (q : Spot × Nat) : Int × Int × AV := ((q.1.1 : Int), (q.1.2 : Int), .int q.2)
theorem zkm (zR : Rows) : ((zag zR).zipIdx.map zgT).map (fun p => [p.1, p.2.1]) = (zag zR).map key := by
 rw [List.map_map]
 apply List.ext_getElem?
 intro i
 (exists List.getElem?_map; exists List.getElem?_map; exists List.getElem?_zipIdx)
 cases (zag zR)[i]? <;> rfl
theorem zoy (zR : Rows) : ((zag zR).zipIdx.map zgT).map (fun p => p.2.2) = (zag zR).map fun s => .int (numOf zR s) := by
 exists List.map_map
 apply List.ext_getElem?
 intro i
 (exists List.getElem?_map; exists List.getElem?_map; exists List.getElem?_zipIdx)
 cases h : (zag zR)[i]? with
 | none => rfl
 | some s =>
  show some (AV.int ((0 + i : Nat) : Int)) = some (.int (numOf zR s))
  rw [zgc h, Nat.zero_add]
theorem zm7 (zR : Rows) : ((zag zR).map key).Nodup := by
 rw [List.Nodup, List.pairwise_map]
 exact (zem zR).imp fun hab e => hab (zgQ e)
theorem zqK {zR : Rows} {zE : Ends} {lp : Spot → Bool} {ks : List Nat} {g : Nat → Fct} (D : Led zR zE lp ks g) (s : Spot) : idS zR (atS zR lp ks g s) := by
 delta atS keptAt
 refine iteInduction (fun V => ?_) (fun V => ?_)
 ·exact zom (zhT (D.ids _) _)
 ·exact zlf
theorem zjK {S : Fct} {n : Nat} (hn : n ≤ 16) (h : ∀ j : Nat, S j = true → j < n) : za5 S = (List.range n).filter fun (j : Nat) => S (j : Int) := by
 unfold za5
 have : List.range 16 = List.range n ++ (List.range (16 - n)).map (n + ·) := by
  rw [← List.range_add, show n + (16 - n) = 16 by kd_mem]
 rw [this, List.filter_append]
 have e : ((List.range (16 - n)).map (n + ·)).filter (fun k => S (Int.ofNat k)) = [] := by
  rw [List.filter_eq_nil_iff]
  intro x hx hS
  obtain ⟨y, V, rfl⟩ := List.mem_map.mp hx
  have := h _ hS
  kd_mem
 rw [e, List.append_nil]
 rfl
theorem Step.tame : ∀ s : Step, s.av.tame = true
 | .field _ => rfl
 | .deref => rfl
theorem zbY {x : AV} {l : List AV} (h : x.tame = true) (k : AV.tameL l = true) : AV.tameL (x :: l) = true := by
 unfold AV.tameL; (exists h; exists k); rfl
theorem Place.tame (p : Place) : p.av.tame = true :=
 show AV.tameL [.int p.loc, zbb p.steps] = true from zbY rfl (zbY (show AV.tameL _ = true from zcb Step.tame p.steps) rfl)
theorem zm9 (zR : Rows) (p : Spot × Nat) : (zcU zR p).tame = true :=
 show AV.tameL [.int p.2, (placeAt zR p.1).av, .str "shared", .int 4, za p.1, ze2 (zbA (placeAt zR p.1))] = true from
  zbY rfl (zbY (Place.tame _) (zbY rfl (zbY rfl (zbY rfl (zbY (show AV.tameL _ = true from zcb (f := AV.str) (fun V => rfl) _) rfl)))))
theorem zit {zR : Rows} {b : Spot} (h : b ∈ zae zR) : b ∈ zag zR := (List.mem_filter.mp h).1
section
variable {d : Nat} {env : Env} {vars : zaf} {mu : Mu}
abbrev zqE (vars : zaf) (P : Mu → Prop) (v : zaf) (m : Mu) : Prop := v = vars ∧ P m
theorem zmC (R : Heap → zau → zaq → AV → Value → Prop) {target iter body orelse pos} {Q : QF} (Inv : QL)
  (h : IW w H R target d env iter vars mu Inv)
  (turn : ∀ J : List AV → Mu → Prop, (∀ rem m, Inv rem m → J rem m) → ∀ (Q' : QF) x rest, znF (zqE vars (J rest)) Q Q' → ∀ m, Inv (x :: rest) m → UR w H R d env (fun u => assign target env u) x vars m (zqw w H d env body Q'))
  (done : ∀ m, Inv [] m → SW w H d env (execs orelse env) vars m Q)
  (hs : autoParam (∀ x, foldedSetIterable iter env x = pure x) aW) : SW w H d env (exec (.For target iter body orelse pos) env) vars mu Q :=
 zoY R (fun items => zqE vars (Inv items)) (IW.mono h fun items m q => ⟨rfl, q⟩) (fun x rest v m q => q.1 ▸ turn Inv (fun V V z => z) _ x rest (fun V V V z => z) m q.2) (fun v m q => q.1 ▸ done m q.2) hs
theorem zhP {α : Type} {elt iter : Expr} {t y : Str} {tp py spos : Pos} {ifs : List Expr} {scope : Scope} {pos : Pos} (cl : List (Str × Addr)) (cvars : zaf) {cv : AV → zaf} (f g : α → AV) (p : α → Bool) {Q : QF}
  (h : IW w H (Rep w) (.Name t tp) d env iter vars mu fun items mu1 => ∃ l : List α, zbI (items = l.map f) (l.length ≤ sizeLine) (
   (∀ C, ∀ x ∈ l, Elt w H d (compEnvC scope cl C env) ifs elt (cv (f x)) mu1 (p x) (g x))) (zgY vars y (.lst ((l.filter p).map g)) fun vars' => Q .next vars' mu1))
  (hcv : autoParam (∀ a, some (cv a) = ziS cvars t a) aI) (ok : autoParam (zgV scope env cl cvars vars) aQ) (hm : autoParam (true = zq4 scope t (cvars.map (fun V => V.1))) aK)
  (hsw : autoParam (swapsWith (.ListComp elt [⟨.Name t tp, iter, ifs, 0⟩] scope pos) (some (.Name y py)) spos.line env = pure true) aW) (hy : autoParam (true = bindB env y) aK)
  (hs : autoParam (∀ x, foldedSetIterable iter env x = pure x) aW) :
  SW w H d env (exec (.Assign [.Name y py] (.ListComp elt [⟨.Name t tp, iter, ifs, 0⟩] scope pos) spos) env) vars mu Q :=
 zcd (Rep w) cl cvars (zdr w H d env elt ifs scope cl cv f g p fun xs m => zgY vars y (.lst xs) fun vars' => Q .next vars' m) (zkg h) (zki (zgS hm).1 (zgS hm).2 (fun a => Option.some.inj ((hcv a).trans zlW))) (fun acc m i => let ⟨vars', hp, q⟩ := zkf i; ⟨.lst acc, m, vars', .frozen, hp, q⟩) ok hsw hy hs
theorem zkq {l r : List Spot} {Q : QA} (q : Q (.bool (!decide (l = r))) mu) : Op2 w H d (compareOp .NotEq) (.lst (l.map za)) (.lst (r.map za)) mu Q :=
 zeh (da := .list (l.map za4)) (db := .list (r.map za4)) (c := !decide (l = r)) (by show (AV.pdL _).map _ = _; rw [zcZ zfL]; rfl) (by show (AV.pdL _).map _ = _; rw [zcZ zfL]; rfl) (zcH l) (zcH r) (by show (!PyData.eqvAll _ _) = _; rw [zc8 zhI]) q
theorem zpK (a b : Nat) : PyData.eqv (zb8 a) (zb8 b) = decide (a = b) := by
 show ((a : Int) == (b : Int)) = _
 by_cases h : a = b
 ·simp [h]
 ·simp [h, Int.natCast_inj]
theorem zlz {l r : List Nat} {Q : QA} (q : Q (.bool (!decide (l = r))) mu) : Op2 w H d (compareOp .NotEq) (zbU l) (zbU r) mu Q :=
 zeh (da := .list (l.map zb8)) (db := .list (r.map zb8)) (c := !decide (l = r)) (by show (AV.pdL _).map _ = _; rw [zez]; rfl) (by show (AV.pdL _).map _ = _; rw [zez]; rfl) (zdI l) (zdI r) (by show (!PyData.eqvAll _ _) = _; rw [zc8 zpK]) q
theorem zlw {l : List Nat} {x : Nat} {Q : QA} (q : Q (.bool (decide (x ∈ l))) mu) : Op2 w H d (compareOp .In) (.int x) (zbU l) mu Q :=
 zkp (dx := zb8 x) (ds := l.map zb8) (b := decide (x ∈ l)) rfl (.inl (by show (AV.pdL _).map _ = _; rw [zez]; rfl)) (zkk x) (zdI l) (zkl l x) q
end
section
variable {d : Nat} {env : Env} {vars : zaf} {mu : Mu}
theorem zpw (B : Facts w H) (zR : Rows) (zE : Ends) (S : zbm zR zE)
  (h1 : ∀ us, zeR (zaV (zbt zR) (zaT zR)) zR zE us → ∀ s ∈ zag zR, zaZ (zaV (zbt zR) (zaT zR)) zR zE us s 4 = true ↔ zbw zR zE s)
  (h2 : ∀ ks g, Led zR zE (zbq zR zE) ks g → ∀ s ∈ zag zR, ∀ (k : Nat) b, (zae zR)[k]? = some b → (atS zR (zbq zR zE) ks g s k = true ↔ Reach zE b.1 ∧ Span zR zE (zaR zR zE) b s))
  (h3 : ∀ (k : Nat) b, (zae zR)[k]? = some b → ∀ s, kindAt zR s = some .write → zbx (placeAt zR b) (zbA (placeAt zR b)) (placeAt zR s) = zhh (placeAt zR b) (placeAt zR s)) :
  zal w H 7 (.ref 467) [zbW zR, zbK zE] fun r => r = .bool true := by
 have c1 := B.c_Body
 have c2 := B.c_LoanScopes
 have c3 := B.c_Liveness
 have k1 := B.k_Liveness_for_use
 have k2 := B.k_LoanScopes_at
 have h4 := S.few
 have h5 := zbd S.toSane
 have h6 := S.tiny
 have hsl := S.len
 have hsp : AV.locs zaw (.dcti [] []) := trivial
 have g_zip := B.g_zip
 have g_enumerate := B.g_enumerate
 have g_points := B.g_points
 have g_Body := B.g_Body
 have g_Liveness := B.g_Liveness
 have g_LoanScopes := B.g_LoanScopes
 have g_dict := B.g_dict
 have g_law_reached := B.g_law_reached
 have g_law_derefs := B.g_law_derefs
 have g_loans_of := B.g_loans_of
 have g_frozenset := B.g_frozenset
 have g_successors := B.g_successors
 have g_sorted := B.g_sorted
 have g_range := B.g_range
 have g_len := B.g_len
 have g_law_here := B.g_law_here
 have g_conflicts := B.g_conflicts
 have g_law_hurts := B.g_law_hurts
 have g_law_line := B.g_law_line
 have g_law_lives := B.g_law_lives
 have g_law_span := B.g_law_span
 refine zal.go [("rows", zbW zR), ("ends", zbK zE)] B.n_law_right B.lim rfl rfl ⟨zdL zR, zdC zE, trivial⟩ ?hsw
 case hsw =>
  intro L cd Q0 hQ
  kd_p
  refine za6 ?_
  kd_p
  refine zcd (zhX w) [] [] (fun rem acc m => m = [] ∧ ∃ i ≤ zR.length, rem = zipItems ((zR.drop i).map ziD) ((zE.drop i).map End.av) ∧ acc = ((zR.zip zE).take i).map zfc) ?_ ?_ ?_
  ·refine zlh (by kpf_c) g_zip ?_
   kd_p
   refine ⟨zR.map ziD, zE.map End.av, .inl ⟨rfl, rfl⟩, ?_, rfl, 0, Nat.zero_le _, rfl, rfl⟩
   unfold zipItems
   rw [List.length_map, List.length_zip, List.length_map, List.length_map, zab]; kd_mem
  ·rintro C x rest acc m ⟨rfl, i, hi, hr, rfl⟩
   have hil : i < zR.length := by
    apply Nat.lt_of_not_le
    intro hle
    rw [List.drop_eq_nil_iff.mpr hle] at hr; simp [zipItems] at hr
   have hie : i < zE.length := by kd_mem
   rw [List.drop_eq_getElem_cons hil, List.drop_eq_getElem_cons hie] at hr
   simp only [zipItems, List.map_cons, List.zip_cons_cons, List.cons.injEq] at hr
   obtain ⟨rfl, rfl⟩ := hr
   have hrw := S.row zR[i] (List.getElem_mem hil)
   have hget : (zR.zip zE)[i]? = some (zR[i], zE[i]) := by rw [List.getElem?_zip_eq_some]; simp [hil, hie]
   refine zfR ?_ rfl rfl
   kd_p
   refine ⟨⟨_, rfl⟩, ?_⟩
   show IfB true _ _
   kd_p
   refine za6 ?_
   refine zml (zam (zaY [] [] Ev.av Ev.line (fun _ => true) ?_))
   refine zaC ?_
   kd_p
   refine ⟨_, zbj, zR[i], rfl, by rw [zab]; kd_mem, fun C2 ev _ => ?_, ?_⟩
   ·refine zfe rfl ?_
    kd_p
    refine (zqY B ev).callE B.n_law_line (by decide) ?_
    exact ⟨rfl, rfl⟩
   ·kd_p
    refine ⟨rfl, i + 1, hil, rfl, ?_⟩
    rw [filter_tt, List.take_add_one, List.map_append, hget]; rfl
  ·rintro acc m ⟨rfl, i, hi, hr, rfl⟩
   have hin : i = zR.length := by
    have : (zipItems ((zR.drop i).map ziD) ((zE.drop i).map End.av)).length = 0 := by rw [← hr]; rfl
    unfold zipItems at this
    rw [List.length_map, List.length_zip, List.length_map, List.length_map, List.length_drop, List.length_drop] at this
    kd_mem
   subst hin
   rw [List.take_of_length_le (by rw [h5]; exact Nat.le_refl _)]
   refine ⟨.lst _, [], _, .frozen, by tb_start, ?_⟩
   kd_p
   refine zam (zaY [] [] (fun a => a) (fun a => .tup [a, .bool true, .str "n"]) (fun _ => true) ?_)
   refine zaC ?_
   kd_p
   refine ⟨_, zbj, _, (List.map_id' _).symm, by decide +kernel, fun C a _ => ?_, ?_⟩
   ·refine zfe rfl ?_
    kd_p
    exact ⟨rfl, rfl⟩
   kd_p
   refine zhZ 0 B.sys rfl ?_
   kd_p
   refine zht 2 1 c1 B.i_Body B.f_Body rfl rfl ?_
   rw [filter_tt]
   refine (zjU B zR zE _ (by decide +kernel)).mono (Nat.le_of_ble_eq_true rfl) ?_
   rintro r m ⟨rfl, rfl⟩
   refine ⟨rfl, ?_⟩
   generalize hlo : AV.lst (List.map (fun a => AV.tup [a, AV.bool true, AV.str "n"]) _) = lo
   have hL : lo.locs zaw := by rw [← hlo]; repeat' first | exact trivial | refine And.intro ?_ ?_
   clear hlo
   kd_p
   refine ((zj1 B zR zE S.toSane lo (.dcti [] []) hL hsp).q ?_).callE B.n_points (by decide) (.cons (zcp hL rfl rfl rfl) .nil) ?_
   ·rintro r rfl; exact zcb (f := za) (fun _ => rfl) _
   kd_p
   refine (zmX B zE (by rw [hsl]; exact S.pos) (by kd_mem) (by rw [hsl]; exact S.goal)).call B.n_law_reached (by decide) ?_
   rintro r ⟨rl, rfl, hrl⟩
   kd_p
   refine zam (zaY [("rows", L + 1), ("ends", L + 1 + 1)] [("ends", zbK zE), ("rows", zbW zR)] (za) (za) (zbq zR zE) ?_)
   ·refine zaC ?_
    kd_p
    refine ⟨_, zbj, zag zR, rfl, by rw [zab]; kd_mem, fun C s hs => ?_, ?_⟩
    ·refine zcq ?_
     kd_p
     refine (zpu B zR zE S.toSane s hs).call B.n_law_lives (by decide) ?_
     rintro r ⟨b, rfl, hb⟩
     kd_p
     refine ⟨by rw [Bool.eq_iff_iff, hb, zbQ]; exact ⟨fun q => ⟨hs, q⟩, fun q => q.2⟩, rfl, fun _ => ?_⟩
     kd_p
     exact ⟨rfl, rfl⟩
    rw [show ((zag zR).filter (zbq zR zE)).map za = (zaR zR zE).map za from rfl]
    kd_p
    refine zht 4 3 c3 B.i_Liveness B.f_Liveness rfl rfl ?_
    refine (zjZ B zR zE S lo hL).mono (Nat.le_of_ble_eq_true rfl) ?_
    rintro r m ⟨rfl, us, ds, sol, rfl⟩
    refine ⟨rfl, ?_⟩
    kd_p
    refine zam (zdF (zhX w) [] [] (fun rem acc m => m = zoo zR zE lo us ds ∧ ∃ i ≤ (zag zR).length, rem = zaX i (((zag zR).drop i).map za) ∧ acc = ((zag zR).zipIdx.take i).map (fun q => zlC (zgT q))) ?_ ?_ ?_)
    ·refine zmf (by kpf_c) g_enumerate ?_
     kd_p
     exact ⟨_, rfl, by rw [zbE, List.length_map, zab]; kd_mem, rfl, 0, Nat.zero_le _, rfl, by simp⟩
    ·rintro C x rest acc m ⟨rfl, i, hi, hr, rfl⟩
     have hil : i < (zag zR).length := by
      apply Nat.lt_of_not_le
      intro hle
      rw [List.drop_eq_nil_iff.mpr hle] at hr; simp [zaX] at hr
     rw [List.drop_eq_getElem_cons hil] at hr
     simp only [List.map_cons, zaX, List.cons.injEq] at hr
     obtain ⟨rfl, rfl⟩ := hr
     have e1 : ((i : Nat) : Int) + 1 = ((i + 1 : Nat) : Int) := by simp
     refine zfR ?_ rfl rfl
     kd_p
     refine ⟨⟨_, rfl⟩, ?_⟩
     show IfB true _ _
     kd_p
     refine ⟨rfl, i + 1, hil, by rw [e1], ?_⟩
     rw [List.take_add_one, List.map_append, List.getElem?_zipIdx]
     simp [hil]
    rintro acc m ⟨rfl, i, hi, hr, rfl⟩
    have hin : i = (zag zR).length := by
     have : (zaX i (((zag zR).drop i).map za)).length = 0 := by rw [← hr]; rfl
     rw [zbE] at this
     simp at this; kd_mem
    subst hin
    rw [List.take_of_length_le (by simp)]
    clear hr hi
    kd_p
    refine zk4 (l := (zag zR).zipIdx.map zgT) 10 B.sys (by rw [List.map_map]; rfl) (by simp; kd_mem) (by rw [zkm]; exact zm7 zR) rfl ?_
    rw [zkm, zoy]
    kd_p
    refine zam (zaY [("liveness", L + 1 + 1 + 1 + 1 + 1 + 1)] [("liveness", .loc 4)] (za) (za) (fun s => zaZ (zaV (zbt zR) (zaT zR)) zR zE us s 4) ?_)
    ·refine zaC ?_
     kd_p
     refine ⟨_, zbj, zag zR, rfl, by rw [zab]; kd_mem, fun C s hs => ?_, ?_⟩
     ·refine zcq ?_
      kd_p
      refine zaQ ?_
      kd_p
      refine zfy 1 rfl c3 k1 (by tb_start) B.m_Liveness_for_use (by decide) ?_
      kd_p
      refine (zmW B (f := zaZ (zaV (zbt zR) (zaT zR)) zR zE us) (l := zb5 zR zR.length) (x := .loc 8) rfl (by tb_start) rfl rfl s (zhr.mpr (zax.mp hs))).mono (Nat.le_refl _) ?_
      rintro r m ⟨rfl, rfl⟩
      refine zoC (by decide) (by decide) ?_
      kd_p
      refine ⟨rfl, rfl, fun _ => ?_⟩
      kd_p
      exact ⟨rfl, rfl⟩
     kd_p
     have heq : (zag zR).filter (fun s => zaZ (zaV (zbt zR) (zaT zR)) zR zE us s 4) = zaR zR zE := List.filter_congr fun s hs => by
      rw [Bool.eq_iff_iff, h1 us sol s hs, zbQ]
      exact ⟨fun q => ⟨hs, q⟩, fun q => q.2⟩
     rw [heq]
     refine zkq ?_
     rw [show (!decide (zaR zR zE = zaR zR zE)) = false by simp]
     kd_p
     refine ((zla B zR zE S lo (.dcti [] []) hL hsp).q ?_).callE B.n_loans_of (by decide) (.cons (zcp hL rfl rfl rfl) (.cons (.same trivial) .nil)) ?_
     ·rintro r rfl; exact zcb (zm9 zR) _
     kd_p
     refine zgs 11 B.sys ?_
     kd_p
     refine zam (zaY [("numbers", L + 1 + 1 + 1 + 1 + 1 + 1 + 1)] [("numbers", .loc 10)] (za) (fun s => .int (numOf zR s)) (fun _ => true) ?_)
     ·refine zaC ?_
      kd_p
      refine ⟨_, zbj, zaR zR zE, rfl, by have := List.length_filter_le (zbq zR zE) (zag zR); rw [zab]; unfold zaR; kd_mem, fun C s hs => ?_, ?_⟩
      ·refine zfe rfl ?_
       kd_p
       refine zdf rfl (zb1 (f := fun s => .int (numOf zR s)) (zbS.mp hs).1) ?_
       exact ⟨rfl, rfl⟩
      kd_p
      rw [filter_tt]
      refine zfq (ns := (zaR zR zE).map fun t => (numOf zR t : Int)) (by rw [List.map_map]; rfl) (zpI S) ?_
      refine ⟨4, rfl, rfl, ?_⟩
      kd_p
      refine zht 13 12 c2 B.i_LoanScopes B.f_LoanScopes rfl rfl ?_
      refine (zmY B zR zE lo us ds (lvF zR zE) (numOf zR)).mono (Nat.le_of_ble_eq_true rfl) ?_
      rintro r m ⟨rfl, rfl⟩
      refine ⟨rfl, ?_⟩
      kd_p
      refine zhP [("rows", L + 1)] [("rows", zbW zR)] (za) (za) (zct zR) ?_
      ·refine zaC ?_
       kd_p
       refine ⟨_, zbj, zag zR, rfl, by rw [zab]; kd_mem, fun C s hs => ?_, ?_⟩
       ·refine zcq ?_
        kd_p
        refine (zhb B zR zE S.toSane s (zax.mp hs).1).callE B.n_law_here (by decide) ?_
        rw [zgM]
        have hok := zjs zR s
        kd_p
        refine ⟨?_, rfl, fun _ => ?_⟩
        ·unfold zct; rw [decide_eq_decide]; exact zny zR s
        kd_p
        exact ⟨rfl, rfl⟩
       rw [show ((zag zR).filter (zct zR)).map za = (zae zR).map za from rfl]
       have hll := zcv S
       kd_p
       refine zam (zdF (Rep w) [("rows", L + 1), ("reached", L + 1 + 1 + 1), ("lives", L + 1 + 1 + 1 + 1 + 1), ("ends", L + 1 + 1)] [("ends", zbK zE), ("lives", .lst ((zaR zR zE).map za)), ("reached", zbU rl), ("rows", zbW zR)] (fun rem acc m => m = mS zR zE lo us ds (lvF zR zE) (numOf zR) (zfU [0] fun _ => noF) .none ∧ ∃ i ≤ (zae zR).length, rem = ((zae zR).drop i).map za ∧ ∃ mets : List (List Spot), zaF (acc = mets.map (fun l => .lst (l.map za))) (mets.length = i) (∀ (j : Nat) b ml, (zae zR)[j]? = some b → mets[j]? = some ml → ∀ t, t ∈ ml ↔ Reach zE b.1 ∧ Span zR zE (zaR zR zE) b t)) ?_ ?_ ?_)
       ·refine zaC ?_
        kd_p
        exact ⟨_, zbj, by rw [List.length_map, zab]; kd_mem, rfl, 0, Nat.zero_le _, rfl, [], rfl, rfl, fun j b ml _ h => by simp at h⟩
       ·rintro C x rest acc m ⟨rfl, i, hi, hr, mets, rfl, hml, hme⟩
        have hil : i < (zae zR).length := by
         apply Nat.lt_of_not_le
         intro hle
         rw [List.drop_eq_nil_iff.mpr hle] at hr; simp at hr
        rw [List.drop_eq_getElem_cons hil] at hr
        simp only [List.map_cons, List.cons.injEq] at hr
        obtain ⟨rfl, rfl⟩ := hr
        have hb : (zae zR)[i]? = some (zae zR)[i] := by simp [hil]
        have hbs := zit (List.mem_of_getElem? hb)
        generalize (zae zR)[i] = b at hb hbs ⊢
        have next : ∀ ml : List Spot, (∀ t, t ∈ ml ↔ Reach zE b.1 ∧ Span zR zE (zaR zR zE) b t) → ∃ i' ≤ (zae zR).length, ((zae zR).drop (i + 1)).map za = ((zae zR).drop i').map za ∧ ∃ mets' : List (List Spot), zaF (mets.map (fun l => AV.lst (l.map za)) ++ [.lst (ml.map za)] = mets'.map (fun l => .lst (l.map za))) (mets'.length = i') (∀ (j : Nat) b ml, (zae zR)[j]? = some b → mets'[j]? = some ml → ∀ t, t ∈ ml ↔ Reach zE b.1 ∧ Span zR zE (zaR zR zE) b t) := by
         intro ml hml2
         refine ⟨i + 1, hil, rfl, mets ++ [ml], by simp, by simp [hml], fun j b' ml' h1 h2 => ?_⟩
         by_cases e : j < mets.length
         ·rw [List.getElem?_append_left e] at h2
          exact hme j b' ml' h1 h2
         ·have hj : j = i := by
           have := (List.getElem?_eq_some_iff.mp h2).1
           simp at this; kd_mem
          subst hj
          rw [hb] at h1; cases h1
          rw [List.getElem?_append_right (by kd_mem), hml, Nat.sub_self] at h2
          cases h2
          exact hml2
        refine za8 ?_
        kd_p
        refine ⟨⟨_, rfl⟩, ?_⟩
        show IfB true _ _
        kd_p
        refine zlw ?_
        kd_p
        refine ifk (fun hb2 => ?_) (fun hb2 => ?_)
        ·have hrb : Reach zE b.1 := (hrl _).mp (of_decide_eq_true hb2)
         kd_p
         refine (zq0 B zR zE S.toSane b hbs (zaR zR zE)).call B.n_law_span (by decide) ?_
         rintro r ⟨met, rfl, hmet⟩
         exact ⟨rfl, next met fun t => (hmet t).trans ⟨fun q => ⟨hrb, q⟩, fun q => q.2⟩⟩
        ·have hrb : ¬ Reach zE b.1 := fun q => of_decide_eq_false hb2 ((hrl _).mpr q)
         refine za6 ?_
         kd_p
         exact ⟨rfl, next [] fun t => by simp [hrb]⟩
       ·rintro acc m ⟨rfl, i, hi, hr, mets, rfl, hml, hme⟩
        have hin : i = (zae zR).length := by
         have := hr.symm
         rw [List.map_eq_nil_iff, List.drop_eq_nil_iff] at this
         kd_mem
        subst hin
        clear hr hi
        have hlen := zf6 zR (zae zR)
        have hnum : ∀ s ∈ zag zR, numOf zR s < 16 := fun s hs => by have := zhx hs; kd_mem
        kd_p
        refine zmC (Rep w) (fun rem m => (∃ rest : List Spot, rem = rest.map za ∧ ∀ s ∈ rest, s ∈ zag zR) ∧ (m = mS zR zE lo us ds (lvF zR zE) (numOf zR) (zfU [0] fun _ => noF) .none ∨ Ex2 fun ks g => Led zR zE (fun s => lvF zR zE (numOf zR s)) ks g ∧ m = mK zR zE lo us ds (lvF zR zE) (numOf zR) ks g)) ?_ ?_ ?_
        ·refine zaC ?_
         kd_p
         exact ⟨_, zbj, ⟨zag zR, rfl, fun s hs => hs⟩, .inl rfl⟩
        ·intro J hJ Q1 x rest hN
         rintro m ⟨⟨rest', hr, hrs⟩, hm⟩
         cases rest' with
         | nil => simp at hr
         | cons s rest' =>
         simp only [List.map_cons, List.cons.injEq] at hr
         obtain ⟨rfl, rfl⟩ := hr
         have hs := hrs s List.mem_cons_self
         have hrest : ∀ s ∈ rest', s ∈ zag zR := fun t ht => hrs t (List.mem_cons_of_mem _ ht)
         have hI : ∃ vs, zcs m (.loc 13) = some (112, zoQ, vs) ∧ (zoQ.zip vs).lookup ("at" : Str) = none := by
          rcases hm with rfl | ⟨ks, g, D, rfl⟩
          ·exact ⟨_, rfl, by tb_start⟩
          ·exact ⟨_, rfl, by tb_start⟩
         have hF : zar w H 6 (.ref 109) [.loc 13, za s] m fun r m' => Ex2 fun ks g => zaF (Led zR zE (fun s => lvF zR zE (numOf zR s)) ks g) (m' = mK zR zE lo us ds (lvF zR zE) (numOf zR) ks g) (r = .fset (atS zR (fun s => lvF zR zE (numOf zR s)) ks g s)) := by
          rcases hm with rfl | ⟨ks, g, D, rfl⟩
          ·exact zl B zR zE S lo hL us ds (lvF zR zE) (numOf zR) hnum s hs
          ·exact (zin B zR zE lo us ds (lvF zR zE) (numOf zR) ks g [] (fun _ _ => rfl) s hs).mono (Nat.le_refl _) fun r m' ⟨e1, e2⟩ => ⟨ks, g, D, e1, e2⟩
         clear hm
         obtain ⟨vs, hI1, hI2⟩ := hI
         refine za8 ?_
         repeat (first | with_reducible refine zam (zcr ?_) | x_close)
         refine zaQ ?_
         kd_p
         refine zfy 6 hI1 c2 k2 hI2 B.m_LoanScopes_at (by decide) ?_
         kd_p
         refine hF.mono (Nat.le_refl _) ?_
         rintro r m' ⟨ks, g, D, rfl, rfl⟩
         have DL : Led zR zE (zbq zR zE) ks g := zmk zR zE ▸ D
         have hid := zqK D s
         have hat : ∀ (k : Nat) b ml, (zae zR)[k]? = some b → mets[k]? = some ml → (atS zR (fun s => lvF zR zE (numOf zR s)) ks g s k = true ↔ s ∈ ml) := fun k b ml hb hm => by
          rw [zmk, h2 ks g DL s hs k b hb, hme k b ml hb hm]
         kd_p
         refine zkM ?_
         kd_p
         refine zam (zaY [("spot", L + 1 + 1 + 1 + 1), ("spans", L + 1 + 1 + 1 + 1 + 1 + 1 + 1 + 1)] [("spans", .lst (mets.map fun l => .lst (l.map za))), ("spot", za s)] (fun (n : Nat) => .int n) (fun (n : Nat) => .int n) (fun j => decide (s ∈ mets.getD j [])) ?_)
         ·refine zaC ?_
          kd_p
          rw [hlen]
          refine ⟨_, zbO (by kd_mem), List.range (zae zR).length, rfl, by rw [List.length_range, zab]; kd_mem, fun C j hj => ?_, ?_⟩
          ·have hjl := List.mem_range.mp hj
           obtain ⟨ml, hml2, _⟩ := zay (l := mets) (i := j) (by kd_mem)
           have hmz : mets.length < 1000 := by kd_mem
           refine zcq ?_
           kd_p
           refine znh ?_
           kd_p
           refine ⟨by rw [getD_some hml2], rfl, fun _ => ?_⟩
           kd_p
           exact ⟨rfl, rfl⟩
          have heq2 : za5 (atS zR (fun s => lvF zR zE (numOf zR s)) ks g s) = (List.range (zae zR).length).filter fun j => decide (s ∈ mets.getD j []) := by
           rw [zjK hll fun j hj => by have := (hid j hj).2; kd_mem]
           refine List.filter_congr fun j hj => ?_
           have hjl := List.mem_range.mp hj
           obtain ⟨b, hb, _⟩ := zay hjl
           obtain ⟨ml, hml2, _⟩ := zay (l := mets) (i := j) (by kd_mem)
           rw [Bool.eq_iff_iff, hat j b ml hb hml2, getD_some hml2, decide_eq_true_iff]
          rw [heq2]
          refine zlz ?_
          rw [show ∀ l : List Nat, (!decide (l = l)) = false from fun l => by simp]
          kd_p
          refine (zhb B zR zE S.toSane s (zax.mp hs).1).callE B.n_law_here (by decide) ?_
          rw [zgM]
          have hok := zjs zR s
          kd_p
          refine zmC (Rep w) (fun rem m => (∀ x ∈ rem, ∃ k : Nat, ∃ b, x = .int k ∧ (zae zR)[k]? = some b) ∧ m = mK zR zE lo us ds (lvF zR zE) (numOf zR) ks g) ?_ ?_ ?_
          ·refine zmg ?_
           refine zaQ ?_
           kd_p
           refine zfy 6 rfl c2 k2 (by tb_start) B.m_LoanScopes_at (by decide) ?_
           kd_p
           refine (zin B zR zE lo us ds (lvF zR zE) (numOf zR) ks g [] (fun _ _ => rfl) s hs).mono (Nat.le_refl _) ?_
           rintro r m' ⟨rfl, rfl⟩
           refine ⟨_, rfl, fun l l1 l2 l3 => ⟨fun x hx => ?_, rfl⟩⟩
           obtain ⟨j, hj, rfl⟩ := List.mem_map.mp hx
           obtain ⟨j0, j1⟩ := hid j ((l2 j).mp hj)
           obtain ⟨b, hb, _⟩ := zay (l := zae zR) (i := j.toNat) (by kd_mem)
           exact ⟨j.toNat, b, by congr 1; kd_mem, hb⟩
          ·intro J hJ Q1 x rest hN
           rintro m ⟨hx, rfl⟩
           obtain ⟨k, b, rfl, hb⟩ := hx x List.mem_cons_self
           have hkl := (List.getElem?_eq_some_iff.mp hb).1
           have hlo : (zaS zR (zae zR))[k]? = some (zcU zR (b, k)) := by
            unfold zaS
            rw [List.getElem?_map, List.getElem?_zipIdx, hb]; simp
           refine za8 ?_
           kd_p
           refine zdn hlo (by kd_mem) ?_
           kd_p
           refine ifb (fun hw => ?_) (fun hw => ?_)
           ·have hk : kindAt zR s = some .write := (ze3 zR s).mp (of_decide_eq_true hw)
            have hd := zg5 (placeAt zR b)
            have p1 := zdl S b
            have p2 := zdl S s
            kd_p
            refine zdn hlo (by kd_mem) ?_
            kd_p
            refine (zjV B (placeAt zR b) (placeAt zR s) (zbA (placeAt zR b)) p1 p2 (by kd_mem) (fun x hx => by rw [(List.mem_replicate.mp hx).2]; exact zfd _)).callE B.n_conflicts (by decide) ?_
            kd_p
            refine (zpt B (placeAt zR b) (placeAt zR s) p1 p2).callE B.n_law_hurts (by decide) ?_
            rw [h3 k b hb s hk]
            kd_p
            refine ifb (fun hq => ?_) (fun hq => ?_)
            ·simp at hq
            kd_p
            (refine hN _ _ _ ?_; exact zaj _ [_, _] rfl ⟨rfl, hJ _ _ ⟨fun x hx2 => hx x (List.mem_cons_of_mem _ hx2), rfl⟩⟩)
           ·kd_p
            (refine hN _ _ _ ?_; exact zaj _ [_, _] rfl ⟨rfl, hJ _ _ ⟨fun x hx2 => hx x (List.mem_cons_of_mem _ hx2), rfl⟩⟩)
          ·rintro m ⟨_, rfl⟩
           kd_p
           (refine hN _ _ _ ?_; exact zaj _ [_, _, _] rfl ⟨rfl, hJ _ _ ⟨⟨rest', rfl, hrest⟩, .inr ⟨ks, g, D, rfl⟩⟩⟩)
        ·rintro m _
         kd_p
         (refine hQ _ _ _ ?_; exact zaa trivial ⟨rfl, rfl⟩)
end
noncomputable def zd6 : List Place := [⟨1, []⟩, ⟨1, [.field 0]⟩, ⟨1, [.field 1]⟩, ⟨2, []⟩, ⟨2, [.deref]⟩, ⟨2, [.deref, .field 0]⟩, ⟨3, []⟩, ⟨3, [.deref]⟩, ⟨3, [.deref, .field 1]⟩]
theorem zoL : ∀ p ∈ zd6, ∀ q ∈ zd6, zbx p (zbA p) q = zhh p q := by decide +kernel
def zgX (zR : Rows) : Prop := ∀ r ∈ zR, ∀ e ∈ r, e.place ∈ zd6
theorem zmv {zR : Rows} (P : zgX zR) {s : Spot} {k : Kind} (h : kindAt zR s = some k) : placeAt zR s ∈ zd6 := by
 unfold kindAt at h
 cases he : zaW zR s with
 | none => replace h := (he) ▸ h; contradiction
 | some e =>
  obtain ⟨r, hr, hm⟩ := zfZ he
  exists zfF he
  exact P r hr e hm
theorem zgK {zR : Rows} (P : zgX zR) : ∀ (k : Nat) b, (zae zR)[k]? = some b → ∀ s, kindAt zR s = some .write → zbx (placeAt zR b) (zbA (placeAt zR b)) (placeAt zR s) = zhh (placeAt zR b) (placeAt zR s) := by
 intro k b hb s hs
 have h1 := (List.mem_filter.mp (List.mem_of_getElem? hb)).2
 exact zoL _ (zmv P (of_decide_eq_true h1)) _ (zmv P hs)
theorem zpx {zR : Rows} {s : Spot} {e : Ev} (h : zaW zR s = some e) : kindAt zR s = some e.kind := by unfold kindAt; rw [h]; rfl
theorem zso {zR : Rows} {zE : Ends} (S : zbm zR zE) (s : Spot) : zaT zR s 4 = true ↔ kindAt zR s = some .use := by
 delta zaT zbR
 rw [decide_eq_true_iff]
 cases h : zaW zR s with
 | none => simp [zcn, ziL, kindAt, h]
 | some e =>
  obtain ⟨r, hr, hm⟩ := zfZ h
  have hl := S.loc r hr e hm
  obtain ⟨k, p⟩ := e
  have hl : p.loc = 1 ∨ p.loc = 2 ∨ p.loc = 3 := hl
  cases k <;> simp [zcn, ziL, kindAt, h]
  ·kd_mem
  ·intro V; kd_mem
theorem put4 {zR : Rows} {zE : Ends} (S : zbm zR zE) (s : Spot) : zbt zR s 4 = true ↔ kindAt zR s = some .lend := by
 unfold zbt zbR
 rw [decide_eq_true_iff]
 cases h : zaW zR s with
 | none => simp [putL, zky, kindAt, h]
 | some e =>
  obtain ⟨r, hr, hm⟩ := zfZ h
  have hl := S.loc r hr e hm
  obtain ⟨k, p⟩ := e
  have hl : p.loc = 1 ∨ p.loc = 2 ∨ p.loc = 3 := hl
  cases k <;> simp [putL, zky, kindAt, h]
  intro V; kd_mem
theorem zhK {zR : Rows} {zE : Ends} (S : zbm zR zE) (T : Fct) (s : Spot) : zaV (zbt zR) (zaT zR) T s 4 = true ↔ kindAt zR s = some .use ∨ (kindAt zR s ≠ some .lend ∧ T 4 = true) := by
 unfold zaV
 rw [Bool.or_eq_true, Bool.and_eq_true, zso S, Bool.not_eq_true', ← Bool.not_eq_true, put4 S]
 constructor
 ·rintro (⟨a, b⟩ | a)
  ·exact .inr ⟨b, a⟩
  ·exact .inl a
 ·rintro (a | ⟨a, b⟩)
  ·exact .inr a
  ·exact .inl ⟨b, a⟩
theorem zhm {zR : Rows} {zE : Ends} {s : Spot} : zbw zR zE s ↔ kindAt zR s = some .use ∨ (kindAt zR s ≠ some .lend ∧ ∃ t ∈ later zR zE s, zbw zR zE t) := by
 constructor
 ·intro h
  cases h with
  | use h => exact .inl h
  | step h ht hl => exact .inr ⟨h, _, ht, hl⟩
 ·rintro (h | ⟨h, t, ht, hl⟩)
  ·exact .use h
  ·exact .step h ht hl
theorem ziV {zE : Ends} {fs : List Fct} {b : Nat} : zba fs (zE.getD b .panic).succs noF 4 = true ↔ ∃ g ∈ (zE.getD b .panic).goals, fs.getD g noF 4 = true := by
 rw [zcz]
 constructor
 ·rintro (h | ⟨t, ht, h⟩)
  ·exact (zdu.mp h).elim
  ·exact ⟨t, ((zE.getD b .panic).mem_succs t).mp ht, h⟩
 ·rintro ⟨t, ht, h⟩
  exact .inr ⟨t, ((zE.getD b .panic).mem_succs t).mpr ht, h⟩
theorem znN {zR : Rows} {zE : Ends} (S : zbm zR zE) {b : Nat} {T : Fct} (P : Prop) (hT : T 4 = true ↔ P) (hP : P ↔ ∃ g ∈ (zE.getD b .panic).goals, zbw zR zE (g, 0)) :
  ∀ k, k ≤ (zR.getD b []).length → (downs (zaV (zbt zR) (zaT zR)) b (zR.getD b []).length (k + 1) T 4 = true ↔ zbw zR zE (b, (zR.getD b []).length - k))
 | 0, _ => by
  show zaV _ _ T (b, (zR.getD b []).length - 0) 4 = true ↔ _
  rw [Nat.sub_zero, zhK S, zhm, hT, hP]
  have : later zR zE (b, (zR.getD b []).length) = (zE.getD b .panic).goals.map fun g => (g, 0) := by
   unfold later; rw [if_neg (Nat.lt_irrefl _)]
  exists this
  simp only [List.mem_map]
  constructor
  ·rintro (h | ⟨h, g, hg, hl⟩)
   ·exact .inl h
   ·exact .inr ⟨h, _, ⟨g, hg, rfl⟩, hl⟩
  ·rintro (h | ⟨h, V, ⟨g, hg, rfl⟩, hl⟩)
   ·exact .inl h
   ·exact .inr ⟨h, g, hg, hl⟩
 | k + 1, hk => by
  show zaV _ _ (downs (zaV (zbt zR) (zaT zR)) b (zR.getD b []).length (k + 1) T) (b, (zR.getD b []).length - (k + 1)) 4 = true ↔ _
  rw [zhK S, zhm, (znN S P hT hP k ((Nat.le_of_lt ‹_›)))]
  have : later zR zE (b, (zR.getD b []).length - (k + 1)) = [(b, (zR.getD b []).length - k)] := by
   unfold later
   rw [if_pos (show (zR.getD b []).length - (k + 1) < (zR.getD b []).length by omega)]
   show [((b : Nat), (zR.getD b []).length - (k + 1) + 1)] = _
   rw [show (zR.getD b []).length - (k + 1) + 1 = (zR.getD b []).length - k by kd_mem]
  exists this
  simp
theorem zii {zR : Rows} {zE : Ends} (S : zbm zR zE) {b n : Nat} {T T' : Fct} (h : T 4 = true → T' 4 = true) : ∀ k, downs (zaV (zbt zR) (zaT zR)) b n k T 4 = true → downs (zaV (zbt zR) (zaT zR)) b n k T' 4 = true
 | 0, q => h q
 | k + 1, q => by
  have q : zaV (zbt zR) (zaT zR) (downs (zaV (zbt zR) (zaT zR)) b n k T) (b, n - k) 4 = true := q
  show zaV (zbt zR) (zaT zR) (downs (zaV (zbt zR) (zaT zR)) b n k T') (b, n - k) 4 = true
  rw [zhK S] at q ⊢
  exact q.imp id fun ⟨a, c⟩ => ⟨a, zii S h k c⟩
theorem zg7 {zR : Rows} {zE : Ends} (S : zbm zR zE) {b : Nat} {T : Fct} (hT : T 4 = true → ∃ g ∈ (zE.getD b .panic).goals, zbw zR zE (g, 0)) (k : Nat) (hk : k ≤ (zR.getD b []).length)
  (q : downs (zaV (zbt zR) (zaT zR)) b (zR.getD b []).length (k + 1) T 4 = true) : zbw zR zE (b, (zR.getD b []).length - k) := by
 let P := ∃ g ∈ (zE.getD b .panic).goals, zbw zR zE (g, 0)
 let T' : Fct := fun V => @decide P (Classical.propDecidable _)
 have hT' : T' 4 = true ↔ P := @decide_eq_true_iff _ (Classical.propDecidable _)
 exact (znN S P hT' Iff.rfl k hk).mp (zii S (fun h => hT'.mpr (hT h)) _ q)
theorem zjn {zR : Rows} {zE : Ends} (S : zbm zR zE) {us : List Fct} (D : zeR (zaV (zbt zR) (zaT zR)) zR zE us) (g : Nat) (h : us.getD g noF 4 = true) : zbw zR zE (g, 0) := by
 let G : Nat → Fct := fun b j => @decide (j ≠ 4 ∨ zbw zR zE (b, 0)) (Classical.propDecidable _)
 have hG : ∀ b j, G b j = true ↔ (j ≠ 4 ∨ zbw zR zE (b, 0)) := fun b j => @decide_eq_true_iff _ (Classical.propDecidable _)
 have := D.least G (fun gs hgs b hb j hj => by
  rw [hG]
  by_cases e : j = 4
  ·subst e
   right
   have hq : zbw zR zE (b, (zR.getD b []).length - (zR.getD b []).length) := zg7 S (T := zba gs (zE.getD b .panic).succs noF) (fun h => by
    obtain ⟨t, ht, hx⟩ := ziV.mp h
    exact ⟨t, ht, ((hG t 4).mp (hgs t 4 hx)).resolve_left (by simp)⟩) _ (Nat.le_refl _) hj
   rwa [Nat.sub_self] at hq
  ·exact .inl e) g 4 h
 exact ((hG g 4).mp this).resolve_left (by simp)
theorem zio {F : Fct → Spot → Fct} {zR : Rows} {zE : Ends} {fs : List Fct} {b i : Nat} (h : i < (zR.getD b []).length) : zaZ F zR zE fs (b, i) = F (zaZ F zR zE fs (b, i + 1)) (b, i) := by
 unfold zaZ
 simp only []
 rw [show (zR.getD b []).length - i + 1 = ((zR.getD b []).length - (i + 1) + 1) + 1 by kd_mem]
 show F (downs F b (zR.getD b []).length ((zR.getD b []).length - (i + 1) + 1) _) (b, (zR.getD b []).length - ((zR.getD b []).length - (i + 1) + 1)) = _
 rw [show (zR.getD b []).length - ((zR.getD b []).length - (i + 1) + 1) = i by omega]
theorem zhd {F : Fct → Spot → Fct} {zR : Rows} {zE : Ends} {fs : List Fct} {b : Nat} : zaZ F zR zE fs (b, (zR.getD b []).length) = F (zba fs (zE.getD b .panic).succs noF) (b, (zR.getD b []).length) := by
 unfold zaZ
 simp only []
 rw [Nat.sub_self]
 show F (zba fs (zE.getD b .panic).succs noF) (b, (zR.getD b []).length - 0) = _
 rw [Nat.sub_zero]
theorem zj4 {F : Fct → Spot → Fct} {zR : Rows} {zE : Ends} {fs : List Fct} {b : Nat} : zaZ F zR zE fs (b, 0) = trans F zR zE fs b := by
 unfold zaZ trans
 simp only [Nat.sub_zero]
theorem zku {zR : Rows} {zE : Ends} (S : zbm zR zE) : ∀ us, zeR (zaV (zbt zR) (zaT zR)) zR zE us → ∀ s ∈ zag zR, zaZ (zaV (zbt zR) (zaT zR)) zR zE us s 4 = true ↔ zbw zR zE s := by
 intro us D s hs
 obtain ⟨hs1, hs2⟩ := zax.mp hs
 constructor
 ·intro h
  have := zg7 S (b := s.1) (T := zba us (zE.getD s.1 .panic).succs noF) (fun h => by
   obtain ⟨t, ht, hx⟩ := ziV.mp h
   exact ⟨t, ht, zjn S D t hx⟩) ((zR.getD s.1 []).length - s.2) ((Nat.sub_le _ _)) h
  rwa [show (zR.getD s.1 []).length - ((zR.getD s.1 []).length - s.2) = s.2 by omega] at this
 ·intro h
  have key : ∀ {s}, zbw zR zE s → s ∈ zag zR → zaZ (zaV (zbt zR) (zaT zR)) zR zE us s 4 = true := by as_aux_lemma =>
   intro s h
   induction h with
   | @use s h =>
    intro hs
    obtain ⟨b, i⟩ := s
    obtain ⟨h1, h2⟩ := zax.mp hs
    by_cases e : i < (zR.getD b []).length
    ·rw [zio e, zhK S]; exact .inl h
    ·have e2 : i = (zR.getD b []).length := by have : i ≤ (zR.getD b []).length := h2; kd_mem
     subst e2
     rw [zhd, zhK S]; exact .inl h
   | @step s t h ht hl ih =>
    intro hs
    have htm := zdH S.toSane hs ht
    have iht := ih htm
    obtain ⟨b, i⟩ := s
    obtain ⟨h1, h2⟩ := zax.mp hs
    by_cases e : i < (zR.getD b []).length
    ·rw [(by unfold later; rw [if_pos (show i < (zR.getD b []).length from e)] : later zR zE (b, i) = [(b, i + 1)])] at ht
     rw [List.mem_singleton.mp ht] at iht
     rw [zio e, zhK S]; exact .inr ⟨h, iht⟩
    ·have e2 : i = (zR.getD b []).length := by have : i ≤ (zR.getD b []).length := h2; kd_mem
     subst e2
     replace ht := ((by unfold later; rw [if_neg (Nat.lt_irrefl _)] : later zR zE (b, (zR.getD b []).length) = (zE.getD b .panic).goals.map fun g => (g, 0))) ▸ ht
     obtain ⟨g, hg, rfl⟩ := List.mem_map.mp ht
     have hgl := (zax.mp htm).1
     rw [zj4] at iht
     rw [zhd, zhK S]
     refine .inr ⟨h, ziV.mpr ⟨g, hg, ?_⟩⟩
     rw [D.fix g hgl 4]; exact iht
  exact key h hs
theorem zkx {p q : Place} : za9 p q = zec q p := by
 unfold za9 zec
 have h1 : (p.loc == q.loc) = (q.loc == p.loc) := by
  rw [Bool.eq_iff_iff, beq_iff_eq, beq_iff_eq]; exact eq_comm
 have h2 : p.steps.isPrefixOf q.steps = decide (q.steps.take p.steps.length = p.steps) := by
  rw [Bool.eq_iff_iff, decide_eq_true_iff, List.isPrefixOf_iff_prefix, List.prefix_iff_eq_take]
  exact eq_comm
 rw [h1, h2]
theorem zlj {zR : Rows} {zE : Ends} (S : zbm zR zE) {b s : Spot} (hb : b ∈ zae zR) {e : Ev} (h : zaW zR s = some e) : zof e (placeAt zR b) = zcm zR (placeAt zR b) s := by
 have hp := zfF h
 unfold zcm
 (exists (zpx h); exists hp)
 obtain ⟨k, p⟩ := e
 cases k
 ·as_aux_lemma =>
  show za9 ⟨4, []⟩ _ = _
  have hkb : kindAt zR b = some .lend := of_decide_eq_true (List.mem_filter.mp hb).2
  unfold kindAt at hkb
  cases hbe : zaW zR b with
  | none => rw [hbe] at hkb; contradiction
  | some eb =>
   obtain ⟨r, hr, hm⟩ := zfZ hbe
   have := S.loc r hr eb hm
   exists zfF hbe
   have hne : ((4 : Int) == eb.place.loc) = false := by
    rw [beq_eq_false_iff_ne]; kd_mem
   unfold za9
   simp [hne]
 ·rfl
 ·show za9 p _ = _
  exists zkx; simp
 ·show ((placeAt zR b).loc == 1) = _
  rfl
theorem zfW {zR : Rows} {zE : Ends} (S : zbm zR zE) {k : Nat} {b : Spot} (hb : (zae zR)[k]? = some b) (T : Fct) (s : Spot) : zcK zR T s k = true ↔ (T k = true ∧ zcm zR (placeAt zR b) s = false) ∨ b = s := by
 have hbm := List.mem_of_getElem? hb
 have hkb : kindAt zR b = some .lend := of_decide_eq_true (List.mem_filter.mp hbm).2
 have at_k : ∀ P : Spot → Bool, zbR (zdb zR (zae zR) P) (k : Int) = P b := fun P => by
  rw [Bool.eq_iff_iff]
  unfold zbR
  rw [decide_eq_true_iff, zjb]
  constructor
  ·rintro ⟨k', e, t, ht, hp⟩
   have : k' = k := by kd_mem
   subst this
   replace ht := (hb) ▸ ht; obtain rfl := Option.some.inj ht; exact hp
  ·exact fun h => ⟨k, rfl, b, hb, h⟩
 cases he : zaW zR s with
 | some e =>
  rw [zfa _ he]
  delta orF zk zlI
  rw [Bool.or_eq_true, Bool.and_eq_true, at_k, at_k, zlj S hbm he, Bool.not_eq_true', decide_eq_true_iff]
 | none =>
  exists zf _ he
  have h1 : kindAt zR s = none := by unfold kindAt; exists he; rfl
  have h3 : b ≠ s := fun e => by rw [e, h1] at hkb; contradiction
  exists ((by unfold zcm; refine rwL h1 ?_; rfl : zcm zR (placeAt zR b) s = false))
  simp [noF, h3]
def En (zR : Rows) (zE : Ends) (lv : List Spot) (b s : Spot) : Prop := Reach zE b.1 ∧ ∃ u, s ∈ later zR zE u ∧ (u = b ∨ (Span zR zE lv b u ∧ zcm zR (placeAt zR b) u = false))
theorem zl6 {zR : Rows} {zE : Ends} {lv : List Spot} {b s : Spot} (h : En zR zE lv b s) (hs : s ∈ lv) : Span zR zE lv b s := by
 obtain ⟨V, u, hu, rfl | ⟨q, hst⟩⟩ := h
 ·exact .first hu hs
 ·exact .step q hst hu hs
theorem zmt {zR : Rows} {zE : Ends} (S : zbm zR zE) {k : Nat} {b : Spot} (hb : (zae zR)[k]? = some b) {T : Fct} {s : Spot} (hR : Reach zE s.1) (hT : T k = true → En zR zE (zaR zR zE) b s) (h : zms zR (zbq zR zE) s T k = true) {t : Spot} (ht : t ∈ later zR zE s) : En zR zE (zaR zR zE) b t := by
 unfold zms at h
 rcases (zfW S hb _ s).mp h with ⟨q, hst⟩ | e
 ·unfold zkd at q
  split at q
  ·rename_i hl
   have hsl : s ∈ zaR zR zE := zbS.mpr (zbQ.mp hl)
   exact ⟨(hT q).1, s, ht, .inr ⟨zl6 (hT q) hsl, hst⟩⟩
  ·exact (zdu.mp q).elim
 ·subst e; exact ⟨hR, b, ht, .inl rfl⟩
theorem zjq {zR : Rows} {zE : Ends} (S : zbm zR zE) {k : Nat} {b : Spot} (hb : (zae zR)[k]? = some b) {T : Fct} {c : Nat} (hR : Reach zE c) (hT : T k = true → En zR zE (zaR zR zE) b (c, 0)) :
  ∀ i, i ≤ (zR.getD c []).length → ups zR (zbq zR zE) c i T k = true → En zR zE (zaR zR zE) b (c, i)
 | 0, _, h => hT h
 | i + 1, hi, h => by
  refine zmt S hb (s := (c, i)) hR (fun q => zjq S hb hR hT i ((Nat.le_of_lt ‹_›)) q) h ?_
  unfold later
  rw [if_pos (show i < (zR.getD c []).length by assumption)]
  exact List.mem_singleton.mpr rfl
theorem zra {zR : Rows} {zE : Ends} (S : zbm zR zE) {k : Nat} {b : Spot} (hb : (zae zR)[k]? = some b) {T : Fct} {c : Nat} (hR : Reach zE c) (hT : T k = true → En zR zE (zaR zR zE) b (c, 0)) (h : outF zR (zbq zR zE) c T k = true) {t : Nat} (ht : t ∈ (zE.getD c .panic).succs) : En zR zE (zaR zR zE) b (t, 0) := by
 refine zmt S hb (s := (c, (zR.getD c []).length)) hR (fun q => zjq S hb hR hT _ (Nat.le_refl _) q) h ?_
 unfold later
 exists if_neg (Nat.lt_irrefl _)
 exact List.mem_map.mpr ⟨t, (End.mem_succs _ t).mp ht, rfl⟩
theorem zjh {zR : Rows} {zE : Ends} (S : zbm zR zE) : ∀ ks g, Led zR zE (zbq zR zE) ks g → ∀ s ∈ zag zR, ∀ (k : Nat) b, (zae zR)[k]? = some b → (atS zR (zbq zR zE) ks g s k = true ↔ Reach zE b.1 ∧ Span zR zE (zaR zR zE) b s) := by
 intro ks g D s hs k b hb
 have hbm := List.mem_of_getElem? hb
 let G : Nat → Fct := fun c j => @decide (j ≠ (k : Int) ∨ En zR zE (zaR zR zE) b (c, 0)) (Classical.propDecidable _)
 have hG : ∀ c j, G c j = true ↔ (j ≠ (k : Int) ∨ En zR zE (zaR zR zE) b (c, 0)) := fun c j => @decide_eq_true_iff _ (Classical.propDecidable _)
 have hGk : ∀ {c}, G c k = true → En zR zE (zaR zR zE) b (c, 0) := fun {c} h => ((hG c k).mp h).resolve_left (by simp)
 have L := D.least (Reach zE) G .zero (fun c hc t ht => .step hc ((End.mem_succs _ t).mp ht)) (fun c T hc hT t ht j hj => by
  rw [hG]
  by_cases e : j = (k : Int)
  ·subst e
   exact .inr (zra S hb hc (fun q => hGk (hT _ q)) hj ht)
  ·exact .inl e)
 have hks : ∀ {c}, Reach zE c → c ∈ ks := by
  intro c h
  induction h with
  | zero => exact D.zero
  | step _ ht ih => exact (D.fix _ ih _ ((End.mem_succs _ _).mpr ht)).1
 constructor
 ·intro h
  unfold atS at h
  split at h
  ·rename_i hk
   obtain ⟨hR, hle⟩ := L s.1 hk
   unfold keptAt zkd at h
   split at h
   ·rename_i hl
    exact ⟨(zjq S hb hR (fun q => hGk (hle _ q)) s.2 (zax.mp hs).2 h).1, zl6 (zjq S hb hR (fun q => hGk (hle _ q)) s.2 (zax.mp hs).2 h) (zbS.mpr (zbQ.mp hl))⟩
   ·exact (zdu.mp h).elim
  ·exact (zdu.mp h).elim
 ·rintro ⟨hR, hsp⟩
  have flow : ∀ {u t : Spot}, u ∈ zag zR → u.1 ∈ ks → zms zR (zbq zR zE) u (ups zR (zbq zR zE) u.1 u.2 (g u.1)) k = true → t ∈ later zR zE u → zaF (t ∈ zag zR) (t.1 ∈ ks) (ups zR (zbq zR zE) t.1 t.2 (g t.1) k = true) := by
   rintro ⟨c, i⟩ t hu hk hp ht
   refine And.elim (fun a b => ⟨zdH S.toSane hu ht, a, b⟩) ?_
   by_cases e : i < (zR.getD c []).length
   ·have et : later zR zE (c, i) = [(c, i + 1)] := by unfold later; rw [if_pos (show i < (zR.getD c []).length from e)]
    rw [et] at ht
    exists List.mem_singleton.mp ht
    exact ⟨hk, hp⟩
   ·have e2 : i = (zR.getD c []).length := by have : i ≤ (zR.getD c []).length := (zax.mp hu).2; kd_mem
    subst e2
    have et : later zR zE (c, (zR.getD c []).length) = (zE.getD c .panic).goals.map fun g => (g, 0) := by unfold later; rw [if_neg (Nat.lt_irrefl _)]
    replace ht := (et) ▸ ht
    obtain ⟨t', ht', rfl⟩ := List.mem_map.mp ht
    obtain ⟨q1, q2⟩ := D.fix c hk t' ((End.mem_succs _ t').mpr ht')
    exact ⟨q1, q2 _ hp⟩
  have key : ∀ {t}, Span zR zE (zaR zR zE) b t → zbI (t ∈ zag zR) (t.1 ∈ ks) (ups zR (zbq zR zE) t.1 t.2 (g t.1) k = true) (zbq zR zE t = true) := by
   intro t h
   induction h with
   | @first t ht hl =>
    obtain ⟨a1, a2, a3⟩ := flow (zit hbm) (hks hR) ((zfW S hb _ b).mpr (.inr rfl)) ht
    exact ⟨a1, a2, a3, zbQ.mpr (zbS.mp hl)⟩
   | @step u t hu hst ht hl ih =>
    obtain ⟨b1, b2, b3, b4⟩ := ih
    obtain ⟨a1, a2, a3⟩ := flow b1 b2 ((zfW S hb _ u).mpr (.inl ⟨by unfold zkd; exists if_pos b4; exact b3, hst⟩)) ht
    exact ⟨a1, a2, a3, zbQ.mpr (zbS.mp hl)⟩
  obtain ⟨a1, a2, a3, a4⟩ := key hsp
  delta atS keptAt zkd
  (exists if_pos a2; exists if_pos a4)
  exact a3
section
variable {d : Nat}
theorem zj2 (B : Facts w H) (zR : Rows) (zE : Ends) (S : zbm zR zE) (P : zgX zR) : zal w H 7 (.ref 467) [zbW zR, zbK zE] fun r => r = .bool true :=
 zpw B zR zE S (zku S) (zjh S) (zgK P)
end
theorem zck {a b : Int} (hb : 0 < b) : 0 ≤ a.fmod b ∧ a.fmod b < b := ⟨Int.fmod_nonneg_of_pos a hb, Int.fmod_lt_of_pos a hb⟩
theorem zcD {a b : Int} (h1 : -(2 ^ 64) < b) (h2 : b < 2 ^ 64) : IntMulOk a b := .of_right (intBits_le_64 h1 h2)
section
variable {d : Nat} {env : Env} {vars : zaf} {mu : Mu}
theorem zoH {Q : QA} (h : Q (.int (10 ^ 18)) mu) : Op2 w H d (binaryOp .Pow) (.int 10) (.int 18) mu Q := fun A Y β s va vb hA g hq8' hq9' => by
 kcf_m
 obtain ⟨t, ra⟩ := hq8'
 obtain ⟨u, rb⟩ := hq9'
 kcj_m
 subst ra rb; exact PyProof.Rows.pow_int_small (by decide) (by decide) ((Nat.le_of_ble_eq_true rfl)) ⟨β, .int _, mu, g.toks _, .toks, ⟨_, rfl⟩, h⟩
def ziP (o : zb4) : Prop := ∃ a b : Int, zbI (0 ≤ a) (0 ≤ b) (b < 2147483647) (o = .list [.int a, .int b])
theorem zqZ (B : Facts w H) (xs : List Int) (hl : xs.length ≤ 1000) : zju w H 1 (.ref 363) [.lst (xs.map .int), .int 0] ziP := by
 have g_len := B.g_len
 have g_max := B.g_max
 have g_int := B.g_int
 refine zar.frameN ?_ (by rintro o ⟨a, b, V, V, V, rfl⟩; exact ⟨_, .list, rfl, trivial, trivial, trivial⟩)
 refine zar.go [("script", .lst (xs.map .int)), ("k", .int 0)] B.n_law_pool B.lim rfl rfl ?hsw
 case hsw =>
  intro L cd Q0 hQ
  have tail : ∀ c : Int, SW w H 0 (zdg (top 38) L 363 cd "_law_pool") (execs ((top 38).body.drop 2) (zdg (top 38) L 363 cd "_law_pool")) [("script", .lst (xs.map .int)), ("k", .int 0), ("cell", .int c)] [] Q0 := by
   intro c
   show SW w H 0 _ (execs [_, _, _] _) _ _ _
   kd_p
   refine int_int ?_
   kd_p
   refine zi2 ?_
   kd_p
   refine ⟨1, rfl, ?_⟩
   kd_p
   refine int_int ?_
   kd_p
   refine zlo ?_
   kd_p
   have hbig : 0 ≤ max c (-1 - c) := by omega
   rw [show max c (-(1 : Int) - c) = max c (-1 - c) from rfl]
   generalize max c (-1 - c) = big at hbig ⊢
   refine int_int ?_
   kd_p
   refine zeA (by decide) ?_
   kd_p
   have h1 := zck (a := big) (b := 2147483629) (by decide)
   refine zeY (zcD (by decide) (by decide)) ?_
   kd_p
   refine zeY (zcD (by decide) (by decide)) ?_
   kd_p
   refine zeY (zcD (by decide) (by decide)) ?_
   kd_p
   refine zeY (zcD (by decide) (by decide)) ?_
   kd_p
   refine int_int ?_
   kd_p
   refine zeA (by decide) ?_
   kd_p
   refine zaO 0 (zaG ?_)
   kd_p
   refine zoH ?_
   kd_p
   refine int_bool ?_
   refine zeY (zcD (by split <;> decide) (by split <;> decide)) ?_
   kd_p
   refine ⟨rfl, ?_⟩
   (refine hQ _ _ _ ?_; exact zjS rfl ⟨trivial, trivial, trivial⟩ ⟨rfl, _, ⟨_, _, by split <;> kd_mem, (zck (a := (big.fmod 2147483629 + 7919 * 0 * 0 + 31 * 0 + 17) * 48271) (b := 2147483647) (by decide)).1, (zck (a := (big.fmod 2147483629 + 7919 * 0 * 0 + 31 * 0 + 17) * 48271) (b := 2147483647) (by decide)).2, rfl⟩, rfl⟩)
  kd_p
  refine ifk (fun hb => ?_) (fun hb => ?_)
  ·have h0 : 0 < xs.length := by simp at hb; omega
   obtain ⟨x, hx, V⟩ := zay h0
   kd_p
   refine zgU (x := .int x) (by decide) (by rw [List.getElem?_map]; show Option.map _ xs[0]? = _; rw [hx]; rfl) (by rw [(by simp : (xs.map AV.int).length = xs.length)]; kd_mem) ?_
   repeat (first | exact tail x | x_close)
  ·repeat (first | exact tail 0 | x_close)
theorem zq1 (B : Facts w H) {k : Nat} {a b : Int} {t : Nat} (hm : mu.lookup k = some (.list [.int a, .int b])) (ha : 0 ≤ a) (hb : 0 ≤ b ∧ b < 2147483647) (ht : 0 < t) (ht2 : t < 1000) :
  zar w H 1 (.ref 370) [.loc k, .int t] mu fun r m => ∃ n : Nat, zaF (r = .int n) (n < t) (∃ o, ziP o ∧ zeQ mu k o m) := by
 have t0 : (t : Int) ≠ 0 := by kd_mem
 have g_int := B.g_int
 refine zar.go [("source", .loc k), ("top", .int t)] B.n_law_take B.lim rfl rfl ?hsw
 case hsw =>
  intro L cd Q0 hQ
  kd_p
  refine zd2 hm (by decide) rfl (by simp) ?_
  kd_p
  refine ifk (fun hc => ?_) (fun hc => ?_)
  ·kd_p
   refine zd2 hm (by decide) rfl (by simp) ?_
   kd_p
   refine int_int ?_
   kd_p
   refine zeA t0 ?_
   kd_p
   refine zd2 hm (by decide) rfl (by simp) ?_
   kd_p
   refine zmp t0 (.inl (by omega)) ?_
   kd_p
   refine zdy ?_
   kd_p
   obtain ⟨m1, p1⟩ := zdU hm (.list ([AV.int a, .int b].set 0 (.int (a.fdiv t))))
   refine zjl (i := 0) hm (by simp) (by simp) ⟨m1, p1, ?_⟩
   kd_p
   have h1 := zck (a := a) (b := t) (by kd_mem)
   (refine hQ _ _ _ ?_; refine zbN ⟨(a.fmod t).toNat, by congr 1; omega, by omega, _, ⟨a.fdiv t, b, Int.fdiv_nonneg ha (by kd_mem), hb.1, hb.2, rfl⟩, p1⟩)
  ·kd_p
   refine zd2 hm (by decide) rfl (by simp) ?_
   kd_p
   refine zeY (zcD (by decide) (by decide)) ?_
   kd_p
   refine int_int ?_
   kd_p
   refine zeA (by decide) ?_
   have h1 := zck (a := b * 39373 + 7) (b := 2147483647) (by decide)
   kd_p
   refine zdy ?_
   kd_p
   obtain ⟨m1, p1⟩ := zdU hm (.list ([AV.int a, .int b].set 1 (.int ((b * 39373 + 7).fmod 2147483647))))
   refine zjl (i := 1) hm (by simp) (by simp) ⟨m1, p1, ?_⟩
   have hm1 : m1.lookup k = some (.list [.int a, .int ((b * 39373 + 7).fmod 2147483647)]) := by rw [p1.2, if_pos rfl]; rfl
   generalize (b * 39373 + 7).fmod 2147483647 = c at *
   kd_p
   refine zd2 hm1 (by decide) rfl (by simp) ?_
   kd_p
   refine zd2 hm1 (by decide) rfl (by simp) ?_
   refine zeY (zcD (by kd_mem) (by kd_mem)) ?_
   kd_p
   refine int_int ?_
   kd_p
   refine zeA (by decide) ?_
   kd_p
   refine zmp (by decide) (.inl (by decide)) ?_
   kd_p
   refine int_int ?_
   kd_p
   refine zeA t0 ?_
   have h2 := zck (a := ((c * c).fmod 2147483629).fdiv 32) (b := t) (by kd_mem)
   (refine hQ _ _ _ ?_; refine zbN ⟨((((c * c).fmod 2147483629).fdiv 32).fmod t).toNat, by congr 1; omega, by omega, _, ⟨a, c, ha, h1.1, h1.2, rfl⟩, p1⟩)
end
def zbs (k : Nat) (m : Mu) : Prop := ∃ o, ziP o ∧ m.lookup k = some o
theorem zna {k : Nat} {o : zb4} {m m' : Mu} (ho : ziP o) (p : zeQ m k o m') : zbs k m' := ⟨o, ho, by rw [p.2, if_pos rfl]⟩
def ziQ (k : Nat) (m m' : Mu) : Prop := ∀ j, j ≠ k → m'.lookup j = m.lookup j
theorem ziQ.trans {k : Nat} {a b c : Mu} (h : ziQ k a b) (g : ziQ k b c) : ziQ k a c := fun j hj => (g j hj).trans (h j hj)
theorem znb {k : Nat} {o : zb4} {m m' : Mu} (p : zeQ m k o m') : ziQ k m m' := fun j hj => by rw [p.2, if_neg hj]
noncomputable def zq3 : List Kind := [.lend, .lend, .use, .use, .write, .write, .dead]
section
variable {d : Nat} {env : Env} {vars : zaf} {mu : Mu}
theorem zev (B : Facts w H) {k : Nat} {t : Nat} (hm : zbs k mu) (ht : 0 < t) (ht2 : t < 1000) :
  zar w H 1 (.ref 370) [.loc k, .int t] mu fun r m => ∃ n : Nat, zbI (r = .int n) (n < t) (zbs k m) (ziQ k mu m) := by
 kcf_m
 obtain ⟨o, ⟨a, b, ha, hb1, hb2, rfl⟩, hl⟩ := hm
 kcj_m
 exact (zq1 B hl ha ⟨hb1, hb2⟩ ht ht2).mono (Nat.le_refl _) fun r m ⟨n, h1, h2, o, ho, p⟩ => ⟨n, h1, h2, zna ho p, znb p⟩
theorem zqz (B : Facts w H) {k : Nat} {xs : List AV} (hm : zbs k mu) (hx : xs ≠ []) (hz : xs.length < 1000) :
  zar w H 2 (.ref 377) [.loc k, .lst xs] mu fun r m => zaF (r ∈ xs) (zbs k m) (ziQ k mu m) := by
 have g_law_take := B.g_law_take
 have g_len := B.g_len
 refine zar.go [("source", .loc k), ("things", .lst xs)] B.n_law_one B.lim rfl rfl ?hsw
 case hsw =>
  intro L cd Q0 hQ
  kd_p
  refine zaU B.n_law_take ((zev B hm (List.length_pos_iff.mpr hx) hz).mono (Nat.le_refl _) ?_) (by decide)
  rintro r m ⟨n, rfl, hn, hp, hs⟩
  obtain ⟨x, hx, hxm⟩ := zay hn
  refine zdn hx (by kd_mem) ?_
  (refine hQ _ _ _ ?_; exact zbN ⟨hxm, hp, hs⟩)
theorem zn3 (B : Facts w H) : zal w H 1 (.ref 384) [] fun r => r = .lst (zd6.map Place.av) := by
 refine zar.frame ?_ trivial
 refine zar.go [] B.n_law_places B.lim rfl rfl ?hsw
 case hsw =>
  intro L cd Q0 hQ
  kd_p
  refine za6 ?_
  repeat (first | with_reducible refine zb2 (zam (zeu ?_)) | x_close)
  refine za6 ?_
  kd_p
  refine ⟨_, _, rfl, rfl, by trivial, ?_⟩
  (refine hQ _ _ _ ?_; exact zaa (zao Place.locs zd6) ⟨rfl, rfl⟩)
theorem zps (B : Facts w H) {k : Nat} (hm : zbs k mu) :
  zar w H 3 (.ref 391) [.loc k] mu fun r m => zaF ((∃ e : Ev, r = e.av ∧ e.place ∈ zd6)) (zbs k m) (ziQ k mu m) := by
 have g_law_one := B.g_law_one
 have g_law_places := B.g_law_places
 refine zar.go [("source", .loc k)] B.n_law_event B.lim rfl rfl ?hsw
 case hsw =>
  intro L cd Q0 hQ
  kd_p
  refine za6 ?_
  kd_p
  refine zaU B.n_law_one ((zqz B hm (xs := zq3.map fun k => .str k.str) (by decide) ((Nat.le_of_ble_eq_true rfl))).mono (Nat.le_refl _) ?_) (by decide)
  rintro r m1 ⟨hr, hp1, hs1⟩
  obtain ⟨kd, V, rfl⟩ := List.mem_map.mp hr
  kd_p
  refine (zn3 B).callE B.n_law_places (by decide) ?_
  kd_p
  refine zaU B.n_law_one ((zqz B hp1 (xs := zd6.map Place.av) (by decide) ((Nat.le_of_ble_eq_true rfl))).mono (Nat.le_refl _) ?_) (by decide)
  rintro r m2 ⟨hr, hp2, hs2⟩
  obtain ⟨p, hpm, rfl⟩ := List.mem_map.mp hr
  kd_p
  (refine hQ _ _ _ ?_; exact zbN ⟨⟨⟨kd, p⟩, rfl, hpm⟩, hp2, hs1.trans hs2⟩)
theorem zrT (B : Facts w H) {k n : Nat} (hm : zbs k mu) (hn : 0 < n) (hn2 : n < 1000) :
  zar w H 2 (.ref 412) [.loc k, .int n] mu fun r m => zaF ((∃ e : End, r = e.av ∧ ∀ g ∈ e.goals, g < n)) (zbs k m) (ziQ k mu m) := by
 have g_law_take := B.g_law_take
 refine zar.go [("source", .loc k), ("many", .int n)] B.n_law_end B.lim rfl rfl ?hsw
 case hsw =>
  intro L cd Q0 hQ
  refine zce (zfP ["way", "goal", "other"] ?_ ?_ (by with_unfolding_all rfl))
  ·kd_p
   refine zaU B.n_law_take ((zev B hm (t := 5) (by decide) (by decide)).mono (Nat.le_refl _) ?_) (by decide)
   rintro r m1 ⟨wy, rfl, hw, hp1, hs1⟩
   kd_p
   refine zaU B.n_law_take ((zev B hp1 hn hn2).mono (Nat.le_refl _) ?_) (by decide)
   rintro r m2 ⟨g, rfl, hg, hp2, hs2⟩
   kd_p
   refine zaU B.n_law_take ((zev B hp2 hn hn2).mono (Nat.le_refl _) ?_) (by decide)
   rintro r m3 ⟨o, rfl, ho, hp3, hs3⟩
   have hs := (hs1.trans hs2).trans hs3
   kd_p
   refine ⟨_, rfl, rfl, za7 ?_⟩
   kd_p
   refine za7 ?_
   kd_p
   refine za7 ?_
   kd_p
   refine zdK ?_
   kd_p
   refine ifk (fun hb => ?_) (fun hb => ?_)
   ·kd_p
    (refine hQ _ _ _ ?_; exact zbN ⟨⟨.panic, rfl, fun g hg => by simp [End.goals] at hg⟩, hp3, hs⟩)
   kd_p
   refine ifk (fun hb => ?_) (fun hb => ?_)
   ·kd_p
    (refine hQ _ _ _ ?_; exact zbN ⟨⟨.goto g, rfl, fun x hx => by simp [End.goals] at hx; kd_mem⟩, hp3, hs⟩)
   ·kd_p
    (refine hQ _ _ _ ?_; exact zbN ⟨⟨.switch g o, rfl, fun x hx => by simp [End.goals] at hx; kd_mem⟩, hp3, hs⟩)
  ·intro x hx
   simp at hx
   rcases hx with rfl | rfl | rfl <;> tb_start
end
noncomputable def zhf : List Ev := [⟨.lend, ⟨1, [.field 0]⟩⟩, ⟨.write, ⟨1, [.field 0]⟩⟩, ⟨.use, ⟨1, []⟩⟩]
theorem zgB : ∀ p ∈ zd6, (p.loc = 1 ∨ p.loc = 2 ∨ p.loc = 3) ∧ p.steps.length < 100 := by decide +kernel
theorem zmm {zR : Rows} {zE : Ends} (h1 : zE.length = zR.length) (h2 : 0 < zR.length) (h3 : zR.length ≤ 4) (h4 : ∀ r ∈ zR, r.length < 4 ∧ ∀ e ∈ r, e.place ∈ zd6) (h5 : ∀ e ∈ zE, ∀ g ∈ e.goals, g < zR.length) : zbm zR zE ∧ zgX zR := by
 refine ⟨⟨⟨h1, by kd_mem, fun r hr => by have := (h4 r hr).1; kd_mem, h5, fun r hr e he => (zgB _ ((h4 r hr).2 e he)).2⟩, ?_, h2, fun r hr e he => (zgB _ ((h4 r hr).2 e he)).1⟩, fun r hr e he => (h4 r hr).2 e he⟩
 have : (zag zR).length ≤ 4 * (List.range zR.length).length := zfo fun b hb => by
  obtain ⟨r, hr, hm⟩ := zay (List.mem_range.mp hb)
  rw [getD_some hr, List.length_map, List.length_range]
  have := (h4 r hm).1
  assumption
 rw [List.length_range] at this
 kd_mem
theorem zhs : zbm [zhf] [.panic] ∧ zgX [zhf] := zmm rfl (by decide) (by decide) (by decide +kernel) (by intro e he g hg; rw [List.mem_singleton.mp he] at hg; simp [End.goals] at hg)
section
variable {d : Nat} {env : Env} {vars : zaf} {mu : Mu}
theorem zrU (B : Facts w H) {la : Addr} (F : zaE H la (top 55) "law") (xs : List Int) (hl : xs.length ≤ 1000) : zar w H 8 (.ref la) [.lst (xs.map .int)] [] fun r m => r = .bool true ∧ m = [] := by
 have g_law_right := B.g_law_right
 have g_law_pool := B.g_law_pool
 have g_law_take := B.g_law_take
 have g_law_event := B.g_law_event
 have g_law_end := B.g_law_end
 have g_range := B.g_range
 refine zar.go [("script", .lst (xs.map .int))] F B.lim rfl rfl ?hsw
 case hsw =>
  intro L cd Q0 hQ
  kd_p
  refine za6 ?_
  kd_p
  refine za6 ?_
  kd_p
  refine za6 ?_
  kd_p
  refine (zj2 B [zhf] [.panic] zhs.1 zhs.2).callE B.n_law_right (by decide) ?_
  kd_p
  refine ifk (fun hb => absurd hb (by simp)) (fun V => ?_)
  kd_p
  refine (zqZ B xs hl).call 0 B.n_law_pool (by decide) (FrL.same ⟨zao (f := AV.int) (fun V => trivial) xs, trivial, trivial⟩) rfl ?_
  rintro o ho
  have hp0 : zbs 0 [(0, o)] := ⟨o, ho, rfl⟩
  kd_p
  refine zaU B.n_law_take ((zev B hp0 (t := 3) (by decide) (by decide)).mono (Nat.le_refl _) ?_) (by decide)
  rintro r m1 ⟨n0, rfl, hn0, hp1, V⟩
  kd_p
  rw [show (2 : Int) + (n0 : Int) = ((2 + n0 : Nat) : Int) by simp]
  have hmany : 2 ≤ 2 + n0 ∧ 2 + n0 ≤ 4 := by kd_mem
  generalize 2 + n0 = many at hmany ⊢
  refine zcd (Rep w) [("source", L + 1)] [("source", .loc 0)] (fun rem acc m => ∃ i ≤ many, rem = ((List.range many).drop i).map (fun (n : Nat) => AV.int n) ∧ ∃ zR : Rows, zbI (acc = zR.map ziD) (zR.length = i) ((∀ r ∈ zR, r.length < 4 ∧ ∀ e ∈ r, e.place ∈ zd6)) (zbs 0 m)) ?_ ?_ ?_
  ·refine zaC ?_
   kd_p
   exact ⟨_, zbO (by kd_mem), by rw [List.length_map, List.length_range, zab]; kd_mem, 0, Nat.zero_le _, rfl, [], rfl, rfl, by simp, hp1⟩
  ·rintro C x rest acc m ⟨i, hi, hr, zR, rfl, hrl, hrs, hp⟩
   obtain ⟨hlt, rfl, rfl⟩ := range_drop hr.symm
   refine za8 ?_
   kd_p
   refine ⟨⟨_, rfl⟩, ?_⟩
   show IfB true _ _
   kd_p
   refine zam (zdF (Rep w) [("source", L + 1)] [("source", .loc 0)] (fun rem acc m => ∃ n2 < 4, ∃ j ≤ n2, rem = ((List.range n2).drop j).map (fun (n : Nat) => AV.int n) ∧ ∃ r : List Ev, zbI (acc = r.map Ev.av) (r.length = j) ((∀ e ∈ r, e.place ∈ zd6)) (zbs 0 m)) ?_ ?_ ?_)
   ·refine zaC ?_
    kd_p
    refine zaU B.n_law_take ((zev B hp (t := 4) (by decide) (by decide)).mono (Nat.le_refl _) ?_) (by decide)
    rintro r m2 ⟨n2, rfl, hn2, hp2, V⟩
    kd_p
    exact ⟨_, zbO (by kd_mem), by rw [List.length_map, List.length_range, zab]; kd_mem, n2, hn2, 0, Nat.zero_le _, rfl, [], rfl, rfl, by simp, hp2⟩
   ·intro C2 x rest acc m hq5'
    kcf_m
    obtain ⟨n2, hn2, j, hj, hr, r, rfl, hrj, hre, hp⟩ := hq5'
    kcj_m
    obtain ⟨hlt2, rfl, rfl⟩ := range_drop hr.symm
    refine za8 ?_
    kd_p
    refine ⟨⟨_, rfl⟩, ?_⟩
    show IfB true _ _
    kd_p
    refine zaU B.n_law_event ((zps B hp).mono (Nat.le_refl _) ?_) (by decide)
    rintro rr m3 ⟨⟨e, rfl, he⟩, hp3, V⟩
    refine ⟨n2, hn2, j + 1, hlt2, rfl, r ++ [e], by rw [List.map_append]; rfl, by simp [hrj], fun e' he' => ?_, hp3⟩
    rcases List.mem_append.mp he' with q | q
    ·exact hre e' q
    ·rw [List.mem_singleton.mp q]; exact he
   ·rintro acc m ⟨n2, hn2, j, hj, hr, r, rfl, hrj, hre, hp⟩
    have := zaH hj hr.symm
    subst this
    refine ⟨i + 1, hlt, rfl, zR ++ [r], by rw [List.map_append]; rfl, by simp [hrl], fun r' hr' => ?_, hp⟩
    rcases List.mem_append.mp hr' with q | q
    ·exact hrs r' q
    ·rw [List.mem_singleton.mp q]; exact ⟨by kd_mem, hre⟩
  ·rintro acc m ⟨i, hi, hr, zR, rfl, hrl, hrs, hp⟩
   have := zaH hi hr.symm
   subst this
   refine ⟨.lst _, m, _, .frozen, by tb_start, ?_⟩
   kd_p
   refine zam (zdF (Rep w) [("source", L + 1), ("many", L + 1 + 1)] [("many", .int i), ("source", .loc 0)] (fun rem acc m => ∃ j ≤ i, rem = ((List.range i).drop j).map (fun (n : Nat) => AV.int n) ∧ ∃ zE : Ends, zbI (acc = zE.map End.av) (zE.length = j) ((∀ e ∈ zE, ∀ g ∈ e.goals, g < i)) (zbs 0 m)) ?_ ?_ ?_)
   ·refine zaC ?_
    kd_p
    exact ⟨_, zbO (by kd_mem), by rw [List.length_map, List.length_range, zab]; kd_mem, 0, Nat.zero_le _, rfl, [], rfl, rfl, by simp, hp⟩
   ·rintro C x rest acc m ⟨j, hj, hr, zE, rfl, hej, hes, hp⟩
    obtain ⟨hlt2, rfl, rfl⟩ := range_drop hr.symm
    refine za8 ?_
    kd_p
    refine ⟨⟨_, rfl⟩, ?_⟩
    show IfB true _ _
    kd_p
    refine zaU B.n_law_end ((zrT B hp (n := i) (by kd_mem) (by kd_mem)).mono (Nat.le_refl _) ?_) (by decide)
    rintro rr m3 ⟨⟨e, rfl, he⟩, hp3, V⟩
    refine ⟨j + 1, hlt2, rfl, zE ++ [e], by rw [List.map_append]; rfl, by simp [hej], fun e' he' => ?_, hp3⟩
    rcases List.mem_append.mp he' with q | q
    ·exact hes e' q
    ·rw [List.mem_singleton.mp q]; exact he
   ·rintro acc m ⟨j, hj, hr, zE, rfl, hej, hes, hp⟩
    have := zaH hj hr.symm
    subst this
    obtain ⟨N, P⟩ := zmm (zR := zR) (zE := zE) (by kd_mem) (by kd_mem) (by kd_mem) hrs (by rw [hrl]; exact hes)
    kd_p
    refine (zj2 B zR zE N P).callE B.n_law_right (by decide) ?_
    (refine hQ _ _ _ ?_; exact zaa trivial ⟨rfl, rfl⟩)
end
theorem zoi {w : World} {s₁ : Shared} (S : ziN w s₁.heap) {ns : List Int} (hn : ns.length ≤ 63) {vals : List Value} (hv : zan w s₁.heap (fun V => False) noB [.lst (ns.map .int)] vals) :
  wpAny (model pw w) callerA (PySem.call (.ref 472) vals) (fun v s' => zbI (v = .bool true) ((∀ b o, s₁.heap.get? b = some o → s'.heap.get? b = some o)) (s'.os = s₁.os) (s'.gens = s₁.gens)) (fun V V => False) s₁ := by
 have g : GS w s₁.heap (fun V => False) noB [] s₁ := ⟨fun b o e => e, fun k a e => (nomatch e), fun a y => y.elim, fun a y => y.elim,
  ⟨fun V => rfl, fun V V V e => (nomatch e), fun V V V e => (nomatch e), fun V V e => (nomatch e), fun V V e => (nomatch e)⟩⟩
 have R : zbz callerA 8 := ⟨rfl, by show 1 + claimMargin + 10 * 8 ≤ 600; decide +kernel, by show 4 + 200 * 8 ≤ 8000; decide⟩
 refine wpAny_call (codeAny_mono (S ns (by kd_mem) callerA (fun V => False) noB s₁ vals R g hv) fun r s' ⟨β', av, v, mu', e, g', t', r', hav, hm⟩ => ?_)
 subst e hav
 exact ⟨r', fun b o e => t'.keep b o e fun k q => (nomatch q), t'.os, t'.gens⟩
theorem ints_rep {w : World} {h : Heap} {Y : zau} {β : zaq} {vs : List Value} {ns : List Int} (I : IntsAre vs ns) : zan w h Y β (ns.map AV.int) vs := by
 induction I with
 | nil => rfl
 | cons n t _ ih => exact ⟨_, _, rfl, ⟨t, rfl⟩, ih⟩
theorem zn6 {w : World} {H : Heap} {x : Str} {a : Addr} {mg : Str → Option Value} {v : Value} (n : H.Ns mainGlobals mg) (e : mg x = some v) (g : zac w H x (.raw (.ref a))) : v = .ref a := by
 obtain ⟨u, g, r⟩ := g
 have r : u = .ref a := r
 subst r
 rcases g with ⟨mg', n', e'⟩ | ⟨mg', mb, n', e', nb, eb⟩
 ·rw [n.agree n'] at e; rw [e] at e'; exact Option.some.inj e'
 ·rw [n.agree n'] at e; rw [e] at e'; cases e'
theorem zoj (w' : World) (H' : Heap) {s : Shared} (Y : zkn s = zkT w') (k : Keeps s.heap H') : ziN w' H' := by
 have good : ¬ Bad wH := fun qz => qz.2 fun xs hl => zrU qz.1 ((zoh qz.1.1).1.keeps qz.1.2) xs hl
 apply Classical.byContradiction
 intro n
 exact good (@Classical.epsilon_spec _ Bad ⟨(w', H', s), ⟨Y, k⟩, n⟩)
set_option maxHeartbeats 8000000 in
theorem the_law : PySem.Challenge.rw_pf0166_01.Holds := by
 refine holds_law ws fun said => ?_
 refine holds_openX (q := qv) (loose := lsv) (Xt := xtv) (XP := XL qv []) (Yf := zkn) (Ya := zkT) (N := 5440) zrV (fun s e => xl_of s (Bool.and_eq_true_iff.mp e).1) XL.keeps (by rfl) (by rfl) (by rfl) (fun s e => recFacts_of (Bool.and_eq_true_iff.mp e).2) (by rfl) (by assumption) (by decide +kernel) ⟨rfl, rfl, rfl, rfl, rfl, by decide +kernel⟩ ?hw ?hc
 case hw => w_witness2
 intro w s₀ s₁ mg mb G Y a o pm cd doc dV kV ho hd hcd hD hmg hg args vals as L hpre hlay hrd hwl hlo
 clear ho hd hcd hD
 have ns := G.T.g
 obtain ⟨lawF, lawG⟩ := zoh Y
 have ea := zn6 ns hmg (lawG.keeps L.keeps)
 cases ea
 have S := zoj _ _ Y L.keeps
 clear hmg ns G lawG lawF
 wrow_args hpre hlay hrd hwl hlo
 rename_i ns h1 h2 h3 h4 h5 b1 b2 la xs b3 hL h6 h7 h8 hI h9 hc h10
 have hn : ns.length ≤ 63 := by kd_mem
 have ho := X.script_obj L hL
 refine wpAny_mono (zoi S hn (vals := [.ref la]) ⟨_, _, rfl, ⟨la, xs.toArray, _, rfl, ho, ⟨id, nofun⟩, by simpa using ints_rep hI⟩, rfl⟩) (fun v s' ⟨e, k, os, gs⟩ => ?_) fun _ _ x => x.elim
 subst e
 exact ⟨.inl ⟨.bool true, .bool true, [], rfl, fun _ => rfl, ReadsW.bool _, by kpf_c, fun _ => ⟨.nil, nofun⟩⟩, .of_keep k, os, .of_eq (gs.trans hg)⟩
end
end Mine
theorem PySem.Challenge.cw_pf0166_01_holds : PySem.Challenge.rw_pf0166_01.Holds :=
 Mine.the_law
