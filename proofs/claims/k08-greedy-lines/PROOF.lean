import PyProof.Rows.All
import Wide.All
import OpenK.AllK
import Wide.FinOn
import HandS.ForMost
import HandS.Evl
import HandS.IsInst
import HandS.Strs
import HandS.Conv
import HandS.SortInts
import HandS.SortRule
import HandS.Deep
import HandS.Walk
import PySem.Challenge.RW_steadyroom_k08_greedy_lines
set_option Elab.async false
set_option linter.all false
set_option maxRecDepth 100000
set_option maxHeartbeats 4000000
namespace M
open PySem PySem.Spec PyProof.Rows L2 Evl

/-! ### a dict that is a record of draws, seen as one thing that never changes -/
section
variable {P : Program} {w : World} {K : PySem.W.Frag} {mg : Str → Option Value} {base : Heap}
def StR (P : Program) (w : World) (d : Addr) (G : List (Key × V) → Prop) (h : Heap) : Prop := ∃ kvs, G kvs ∧ ObjOk P w (fun _ => none) h d (.dK kvs)
def StO (P : Program) (w : World) (d : Addr) (G : List (Key × V) → Prop) : HO := .ext (StR P w d G)
theorem view_in {H : Hp} {h : Heap} {d : Addr} {G : List (Key × V) → Prop} (ok : HOk P w H h) (hd : H d = some (StO P w d G)) : ∃ kvs, G kvs ∧ HOk P w (upd H d (.dK kvs)) h := by
  obtain ⟨⟨kvs, g, o⟩, _, _⟩ := (show ObjOk P w H h d (.ext (StR P w d G)) from ok d _ hd)
  refine ⟨kvs, g, fun a u e => ?_⟩
  by_cases ha : a = d
  · subst ha
    rw [upd_same] at e
    cases e
    exact o
  · rw [upd_ne ha] at e
    refine (ok a u e).stay (fun _ _ _ q => q) (fun b q => ?_) fun b xs q => ?_
    · have : b ≠ d := ne_of q hd (by intro z; cases z)
      rw [upd_ne this]; exact q
    · have : b ≠ d := ne_of q hd (by intro z; cases z)
      rw [upd_ne this]; exact q
theorem view_out {H : Hp} {h : Heap} {d : Addr} {G : List (Key × V) → Prop} {kvs : List (Key × V)} (ok : HOk P w H h) (hd : H d = some (.dK kvs)) (g : G kvs) : HOk P w (upd H d (StO P w d G)) h := fun a u e => by
  by_cases ha : a = d
  · subst ha
    rw [upd_same] at e
    cases e
    have o := ok a _ hd
    refine ⟨⟨kvs, g, o⟩, ?_, ?_⟩
    · obtain ⟨_, _, _, _, ob, _, _, e, _⟩ := o
      exact ⟨ob, e⟩
    · rintro h1 h2 ⟨kvs1, g1, o1⟩ k
      exact ⟨kvs1, g1, o1.stay (fun b u hb q => by
        rcases hb with rfl | hb
        · exact k _ q
        · cases hb) (fun _ q => nomatch q) fun _ _ q => nomatch q⟩
  · rw [upd_ne ha] at e
    refine (ok a u e).stay (fun _ _ _ q => q) (fun b q => ?_) fun b xs q => ?_
    · have : b ≠ d := ne_of q hd (by intro z; cases z)
      rw [upd_ne this]; exact q
    · have : b ≠ d := ne_of q hd (by intro z; cases z)
      rw [upd_ne this]; exact q
theorem un_view {fs : List Addr} {H H' : Hp} {h h' : Heap} {d : Addr} {G : List (Key × V) → Prop} {kvs kvs' : List (Key × V)} (hd : H d = some (StO P w d G)) (hd' : H' d = some (.dK kvs')) (u : Un fs [] (upd H d (.dK kvs)) H' h h') :
    Un fs [] H (upd H' d (StO P w d G)) h h' where
  keep := fun b o q n hf hx => u.keep b o q (by rw [upd_ne (ne_of_none hd n).symm]; exact n) hf hx
  slot := fun b o q n hf hx => u.slot b o q (by rw [upd_ne (ne_of_none hd n).symm]; exact n) hf hx
  free := fun b o q n hx => by
    have nd := (ne_of_none hd n).symm
    rw [upd_ne nd]
    exact u.free b o q (by rw [upd_ne nd]; exact n) hx
  there := fun b o q hx => u.there b o q hx
  tups := fun b xs q => by
    have nd : b ≠ d := ne_of q hd (by intro z; cases z)
    rw [upd_ne nd]
    exact u.tups b xs (by rw [upd_ne nd]; exact q)
  frzs := fun b o v q => by
    have nd : b ≠ d := ne_of q hd (by intro z; cases z)
    rw [upd_ne nd]
    exact u.frzs b o v (by rw [upd_ne nd]; exact q)
  tbls := fun b ps q => by
    have nd : b ≠ d := ne_of q hd (by intro z; cases z)
    rw [upd_ne nd]
    exact u.tbls b ps (by rw [upd_ne nd]; exact q)
/-- a def that works on the record is one that leaves it as it is, seen from without -/
theorem fn_view {k : Nat} {f : Addr} {fd : FuncData} {ps : List Str} {sp : Sp} (F : FnOk P w K mg base CX0 k f fd ps sp) :
    FnOk P w K mg base CX0 k f fd ps (fun vs H Q E => vs.length = ps.length ∧ ∃ d G, H d = some (StO P w d G) ∧ ∀ kvs, G kvs → sp vs (upd H d (.dK kvs)) (fun v H' => ∃ kvs', G kvs' ∧ H' d = some (.dK kvs') ∧ Q v (upd H' d (StO P w d G))) E) := by
  refine ⟨fun vs H Q E h => h.1, fun A outer s H args us vs Q E hr e hb hv hs => ?_⟩
  obtain ⟨_, d, G, hd, hs⟩ := hs
  obtain ⟨kvs, g, ok⟩ := view_in e.hok hd
  have e' : Env0 P w K mg base A outer s (upd H d (.dK kvs)) := ⟨e.frames, e.mod, fun b o q => ⟨(e.bs b o q).1, by
    rw [upd_ne (ne_of_none hd (e.bs b o q).2).symm]; exact (e.bs b o q).2⟩, e.bsz, e.funs, fun b hb => by
    rw [upd_ne (ne_of_none hd (e.frf b hb)).symm]; exact e.frf b hb, ok, e.bare⟩
  refine codeAny_mono (F.run A outer s _ args us vs _ E hr e' hb hv (hs kvs g)) fun r s' c => ?_
  cases r with
  | error x => exact c
  | ok r =>
    cases r with
    | ret u =>
      obtain ⟨v, H', os, bare, un, hok, rv, kvs', g', hd', q⟩ := c
      exact ⟨v, _, os, bare, un_view hd hd' un, view_out hok hd' g', rv, q⟩
    | _ => exact c
/-- a def that gives out a new record -/
theorem fn_give {k : Nat} {f : Addr} {fd : FuncData} {ps : List Str} {sp : Sp} (F : FnOk P w K mg base CX0 k f fd ps sp) :
    FnOk P w K mg base CX0 k f fd ps (fun vs H Q E => sp vs H (fun v H' => ∃ d G kvs', H d = none ∧ G kvs' ∧ H' d = some (.dK kvs') ∧ Q v (upd H' d (StO P w d G))) E) := by
  refine ⟨fun vs H Q E h => F.len _ _ _ _ h, fun A outer s H args us vs Q E hr e hb hv hs => ?_⟩
  refine codeAny_mono (F.run A outer s _ args us vs _ E hr e hb hv hs) fun r s' c => ?_
  cases r with
  | error x => exact c
  | ok r =>
    cases r with
    | ret u =>
      obtain ⟨v, H', os, bare, un, hok, rv, d, G, kvs', hn, g', hd', q⟩ := c
      refine ⟨v, _, os, bare, ⟨un.keep, un.slot, fun b o e n hx => ?_, un.there, fun b xs e => ?_, fun b o x e => ?_, fun b ps e => ?_⟩, view_out hok hd' g', rv, q⟩
      · have := un.free b o e n hx
        rw [upd_ne (ne_of_none hd' this).symm]; exact this
      · have nd : b ≠ d := ne_of_none e hn
        rw [upd_ne nd]; exact un.tups b xs e
      · have nd : b ≠ d := ne_of_none e hn
        rw [upd_ne nd]; exact un.frzs b o x e
      · have nd : b ≠ d := ne_of_none e hn
        rw [upd_ne nd]; exact un.tbls b ps e
    | _ => exact c
end

/-! ### a def that is called by its name -/
structure Cal (P : Program) (w : World) (K : PySem.W.Frag) (mg : Str → Option Value) (base : Heap) (CX : CXT) (x : Str) (j : Nat) (ps : List Str) (sp : Sp) : Prop where
  ex : ∃ f fd, FnOk P w K mg base CX j f fd ps sp ∧ mg x = some (.ref f) ∧ PySem.W.keepIn K (.ref f) = true ∧ Binds K fd ps []
/-- what the top has left of a def -/
structure Dn (K : PySem.W.Frag) (mg : Str → Option Value) (x : Str) (st : Stmt) (ps : List Str) (f : Addr) (fd : FuncData) : Prop where
  fn : Fun K x x st f fd
  mg : mg x = some (.ref f)
  bn : Binds K fd ps []
theorem dn_mk {K : PySem.W.Frag} {mg : Str → Option Value} {h : Heap} {x : Str} {st : Stmt} {ps : List Str} {f : Addr} {oc : Value} {od an : Option Addr} {osl : Array (Option Value)} {kV doc pm cdv ct : Value}
    (X : K.In h) (G : h.Ns mainGlobals mg)
    (a : PySem.W.nsIn K mainGlobals x = some (some (.ref f))) (l : K.lookup f = some ⟨oc, od, .func (PySem.W.fnOf x x (defArgs st) (defBody st) (defScope st) .none kV doc pm an cdv ct), osl⟩)
    (c : PySem.W.codeIn K cdv x = true) (k : PySem.W.keepIn K (.ref f) = true)
    (b : ∀ (kV doc pm : Value) (an : Option Addr) (cdv ct : Value) (us : List Value), us.length = ps.length → bindArgs (PySem.W.fnOf x x (defArgs st) (defBody st) (defScope st) .none kV doc pm an cdv ct) ⟨us, []⟩ = pure (ps.zip us)) :
    ∃ f fd, Dn K mg x st ps f fd :=
  have F := fun_mk (x := x) (qual := x) (st := st) l c k
  ⟨f, _, ⟨F, PySem.W.mg_of X G a, F.binds b⟩⟩
theorem Dn.cal {P : Program} {w : World} {K : PySem.W.Frag} {mg : Str → Option Value} {base : Heap} {CX : CXT} {x : Str} {j : Nat} {ps : List Str} {sp : Sp} {st : Stmt} {f : Addr} {fd : FuncData} (D : Dn K mg x st ps f fd)
    (F : FnOk P w K mg base CX j f fd ps sp) : Cal P w K mg base CX x j ps sp := ⟨f, fd, F, D.mg, D.fn.kp, D.bn⟩
theorem dn_of {K : PySem.W.Frag} {mg : Str → Option Value} {h : Heap} {x : Str} {st : Stmt} {ps : List Str} {f : Addr} {oc : Value} {od an : Option Addr} {osl : Array (Option Value)} {kV doc pm cdv ct : Value}
    (X : K.In h) (G : h.Ns mainGlobals mg)
    (a : PySem.W.nsIn K mainGlobals x = some (some (.ref f))) (l : K.lookup f = some ⟨oc, od, .func (PySem.W.fnOf x x (defArgs st) (defBody st) (defScope st) .none kV doc pm an cdv ct), osl⟩)
    (c : PySem.W.codeIn K cdv x = true) (k : PySem.W.keepIn K (.ref f) = true)
    (b : ∀ (kV doc pm : Value) (an : Option Addr) (cdv ct : Value) (us : List Value), us.length = ps.length → bindArgs (PySem.W.fnOf x x (defArgs st) (defBody st) (defScope st) .none kV doc pm an cdv ct) ⟨us, []⟩ = pure (ps.zip us)) :
    Dn K mg x st ps f (PySem.W.fnOf x x (defArgs st) (defBody st) (defScope st) .none kV doc pm an cdv ct) :=
  have F := fun_mk (x := x) (qual := x) (st := st) l c k
  ⟨F, PySem.W.mg_of X G a, F.binds b⟩
def spLaw (K : PySem.W.Frag) : Sp := fun vs H Q _ => ∃ (a : Addr) (ns : List Int), vs = [.ref a] ∧ SqL K H a (ns.map V.int) ∧ ns.length ≤ 63 ∧ ∀ H', Q (.bl true) H'
theorem walk {l : PySem.W.OpenLaw} {q : Program} {loose : List Str} {XP : (Str → Option Value) → Heap → Prop} {YP : World → Heap → Prop} {d : DefRec} {K : Params → PySem.W.Frag} {k : Nat} (hn : l.most = some 63) (hdf : d.params.defaults = []) (hr : Room k callerA)
    (hY : ∀ (w : World) (h : Heap), YP w h → (K w.params).In h)
    (F : ∀ (w : World) (mg : Str → Option Value) (fa : Addr) (h : Heap), (K w.params).In h → h.Ns mainGlobals mg → mg d.name = some (.ref fa) →
      ∃ fd : FuncData, (∀ (s : Shared) (u : Value), BindsTo s fd ⟨[u], []⟩ [("script", u)]) ∧ ∀ base : Heap, (K w.params).In base → base.Ns mainGlobals mg → FnOk l.prog w (K w.params) mg base CX0 k fa fd ["script"] (spLaw (K w.params))) :
    PySem.W.WalkO q loose XP YP l.row.toRowW d [] (fun f vs => PySem.call f vs) :=
  L2.walk_of (n := 63) (k := k) (x := "script") (CX := fun _ => CX0) (sp := fun w => spLaw (K w.params)) hn (by decide) hdf hr hY F (fun _ _ a ns hl _ hS => ⟨a, ns, rfl, hS, hl, fun _ => rfl⟩) fun _ _ _ _ _ z => z
def tOwn (sp : Sp) (t : TA) : TE := fun σ H Q => t σ H fun vs H1 => sp vs H1 Q E0
section
variable {X : Cx} {j k : Nat} {ps : List Str} {sp : Sp} {x : Str} {p pos : Pos} {e : Expr} {es : List Expr} {t : TA}
theorem pe_own (C : Cal X.prog X.w X.K X.mg X.base CX0 x j ps sp) (hr : Room k X.A) (hj : j ≤ k) (hg : Gl X x) (ha : PA X (e :: es) t) (hdb : (x == ("__debug__" : Str)) = false := by decide)
    (he : starEach (e :: es) X.env = (false, eval e X.env) :: starEach es X.env := by rfl) (hpl : (backTo pos (starEach es X.env)).any (·.1) = false := by rfl) :
    PE X (.Call (.Name x p) (e :: es) [] pos) (tOwn sp t) := by
  obtain ⟨f, fd, F, m, kp, b⟩ := C.ex
  have q := pe_call (pos := pos) (p := p) F (hr.mono hj) hg m kp b .nil pass0 ha hdb he hpl
  have e0 : tCall sp [] E0 t = tOwn sp t := by
    funext σ H Q
    unfold tCall tOwn
    simp only [List.append_nil]
  rw [e0] at q
  exact q
theorem pe_own0 (C : Cal X.prog X.w X.K X.mg X.base CX0 x j ps sp) (hr : Room k X.A) (hj : j ≤ k) (hg : Gl X x) (hdb : (x == ("__debug__" : Str)) = false := by decide) :
    PE X (.Call (.Name x p) [] [] pos) (tOwn sp tNil) := by
  obtain ⟨f, fd, F, m, kp, b⟩ := C.ex
  have q := pe_call0 (pos := pos) (p := p) F (hr.mono hj) hg m kp b .nil pass0 hdb
  exact q
end
/-- the names of the language that the text uses -/
structure Bl (mg : Str → Option Value) : Prop where
  len : mg "len" = none
  int : mg "int" = none
  abs : mg "abs" = none
  list : mg "list" = none
  tuple : mg "tuple" = none
  range : mg "range" = none
  max : mg "max" = none
  min : mg "min" = none
  isinstance : mg "isinstance" = none
  str : mg "str" = none
  bool : mg "bool" = none
  zip : mg "zip" = none
  enumerate : mg "enumerate" = none
  reversed : mg "reversed" = none
  sorted : mg "sorted" = none
  set : mg "set" = none
  dict : mg "dict" = none
  sum : mg "sum" = none
  any : mg "any" = none
  all : mg "all" = none
theorem bt_len : bootBuiltins "len" = some (.builtin "len") := by decide +kernel
theorem bt_abs : bootBuiltins "abs" = some (.builtin "abs") := by decide +kernel
theorem bt_max : bootBuiltins "max" = some (.builtin "max") := by decide +kernel
theorem bt_min : bootBuiltins "min" = some (.builtin "min") := by decide +kernel
theorem bt_isinstance : bootBuiltins "isinstance" = some (.builtin "isinstance") := by decide +kernel
theorem bt_sorted : bootBuiltins "sorted" = some (.builtin "sorted") := by decide +kernel
theorem bt_sum : bootBuiltins "sum" = some (.builtin "sum") := by decide +kernel
theorem bt_any : bootBuiltins "any" = some (.builtin "any") := by decide +kernel
theorem bt_all : bootBuiltins "all" = some (.builtin "all") := by decide +kernel
theorem bt_ord : bootBuiltins "ord" = some (.builtin "ord") := by decide +kernel
theorem bt_chr : bootBuiltins "chr" = some (.builtin "chr") := by decide +kernel
theorem bt_int : bootBuiltins "int" = some (.type "int") := by decide +kernel
theorem bt_list : bootBuiltins "list" = some (.type "list") := by decide +kernel
theorem bt_tuple : bootBuiltins "tuple" = some (.type "tuple") := by decide +kernel
theorem bt_range : bootBuiltins "range" = some (.type "range") := by decide +kernel
theorem bt_str : bootBuiltins "str" = some (.type "str") := by decide +kernel
theorem bt_bool : bootBuiltins "bool" = some (.type "bool") := by decide +kernel
theorem bt_zip : bootBuiltins "zip" = some (.type "zip") := by decide +kernel
theorem bt_enumerate : bootBuiltins "enumerate" = some (.type "enumerate") := by decide +kernel
theorem bt_reversed : bootBuiltins "reversed" = some (.type "reversed") := by decide +kernel
theorem bt_set : bootBuiltins "set" = some (.type "set") := by decide +kernel
theorem bt_dict : bootBuiltins "dict" = some (.type "dict") := by decide +kernel
/-! ### new things -/
theorem newO {H : Hp} {o : HO} {Q : VK} (k : ∀ p H1, H p = none → Ex H H1 → H1 p = some o → Q (.ref p) H1) : ∀ p, H p = none → Q (.ref p) (upd H p o) := fun p n => k p _ n (Ex.new n) upd_same
/-! ### going on behind a known value -/
section
variable {σ : L2.St} {H : Hp} {te : TE} {tt : TT}
theorem goV {v : V} {Q : VK} (h : Ev te σ H v) (k : ∀ H1, Ex H H1 → Q v H1) : te σ H Q := h H (Ex.refl H) Q k
theorem goL {xs : List V} {Q : VK} (h : EvL te σ H xs) (k : ∀ p H1, H p = none → Ex H H1 → H1 p = some (.lst xs) → Q (.ref p) H1) : te σ H Q := h H (Ex.refl H) Q k
theorem goU {xs : List V} {Q : VK} (h : EvU te σ H xs) (k : ∀ p H1, H p = none → Ex H H1 → H1 p = some (.tup xs) → Q (.ref p) H1) : te σ H Q := h H (Ex.refl H) Q k
theorem goT {b : Bool} {Q : Bool → Hp → Prop} (h : EvT tt σ H b) (k : ∀ H1, Ex H H1 → Q b H1) : tt σ H Q := h H (Ex.refl H) Q k
end
theorem goCB {σ : L2.St} {H : Hp} {ta : TE} {r : List V → Hp → VK → Prop} {xs : List V} {Q : VK} (h : EvL ta σ H xs) (k : ∀ p H1, H p = none → Ex H H1 → H1 p = some (.lst xs) → r [.ref p] H1 Q) : tCB r (tCons ta tNil) σ H Q := h H (Ex.refl H) _ k
theorem nodup_len {α : Type} [DecidableEq α] : ∀ (ms ns : List α), ms.Nodup → (∀ x ∈ ms, x ∈ ns) → ms.length ≤ ns.length
  | [], _, _, _ => Nat.zero_le _
  | x :: ms, ns, nd, hs => by
    obtain ⟨h1, h2⟩ := List.nodup_cons.mp nd
    have hx : x ∈ ns := hs x List.mem_cons_self
    have ih := nodup_len ms (ns.erase x) h2 fun y hy => (List.mem_erase_of_ne (fun e : y = x => h1 (by rw [← e]; exact hy))).mpr (hs y (List.mem_cons_of_mem _ hy))
    rw [List.length_erase_of_mem hx] at ih
    have := List.length_pos_of_mem hx
    rw [List.length_cons]
    omega
/-! ### comprehensions of known items -/
section
variable {K : PySem.W.Frag} {σ : L2.St} {H : Hp} {te tl : TE} {t : TT} {ta : TA} {j : Nat} {vs : List Nat}
theorem given_map {α : Type} [Inhabited α] (ys : List α) (p : α → Bool) (g : α → V) : given ys.length (fun i => p (ys.getD i default)) (fun i => g (ys.getD i default)) = (ys.filter p).map g := by
  unfold given
  have h1 : (ys.filter p).map g = ((List.range ys.length).map (fun i => ys.getD i default) |>.filter p).map g := by
    congr 2
    apply List.ext_getElem (by simp)
    intro i a b
    simp at a b ⊢
    rw [List.getElem?_eq_getElem a]
    rfl
  rw [h1, List.filter_map, List.map_map]
  rfl
/-- [e for x in l if t], the items of l being c of the ys -/
theorem el_fC {α : Type} [Inhabited α] {a : Addr} (c : α → V) (ys : List α) (p : α → Bool) (g : α → V) (h : Ev tl σ H (.ref a)) (hx : SqL K H a (ys.map c)) (hz : ys.length ≤ 40000)
    (ht : ∀ x ∈ ys, ∀ H1, Ex H H1 → EvT t ((wipe σ vs).set j (some (c x))) H1 (p x)) (he : ∀ x ∈ ys, p x = true → ∀ H1, Ex H H1 → Ev te ((wipe σ vs).set j (some (c x))) H1 (g x)) (hw : ∀ x, wipe ((wipe σ vs).set j (some x)) vs = wipe σ vs := by intro _; rfl) :
    EvL (tLc (iList K tl) (gName j) t te vs) σ H ((ys.filter p).map g) := by
  rw [← given_map]
  have gd : ∀ (i : Nat) (v : V), (ys.map c)[i]? = some v → ∃ x ∈ ys, ys.getD i default = x ∧ v = c x := fun i v e => by
    rw [List.getElem?_map] at e
    cases q : ys[i]? with
    | none => rw [q] at e; cases e
    | some x =>
      rw [q] at e
      exact ⟨x, List.mem_of_getElem? q, by rw [List.getD_eq_getElem?_getD, q]; rfl, (Option.some.inj e).symm⟩
  have q := el_lcL (K := K) (te := te) (t := t) (fun i => p (ys.getD i default)) (fun i => g (ys.getD i default)) h hx (by rw [List.length_map]; exact hz) hw (fun i v H1 e hi => by
    obtain ⟨x, hm, e1, rfl⟩ := gd i v hi
    rw [e1]
    exact ht x hm H1 e) (fun i v H1 e hi hp => by
    obtain ⟨x, hm, e1, rfl⟩ := gd i v hi
    rw [e1] at hp ⊢
    exact he x hm hp H1 e)
  rw [List.length_map] at q
  exact q
theorem el_fN {α : Type} [Inhabited α] (c : α → V) (ys : List α) (p : α → Bool) (g : α → V) (h : EvL tl σ H (ys.map c)) (hz : ys.length ≤ 40000)
    (ht : ∀ x ∈ ys, ∀ H1, Ex H H1 → EvT t ((wipe σ vs).set j (some (c x))) H1 (p x)) (he : ∀ x ∈ ys, p x = true → ∀ H1, Ex H H1 → Ev te ((wipe σ vs).set j (some (c x))) H1 (g x)) (hw : ∀ x, wipe ((wipe σ vs).set j (some x)) vs = wipe σ vs := by intro _; rfl) :
    EvL (tLc (iList K tl) (gName j) t te vs) σ H ((ys.filter p).map g) := by
  rw [← given_map]
  have gd : ∀ (i : Nat) (v : V), (ys.map c)[i]? = some v → ∃ x ∈ ys, ys.getD i default = x ∧ v = c x := fun i v e => by
    rw [List.getElem?_map] at e
    cases q : ys[i]? with
    | none => rw [q] at e; cases e
    | some x =>
      rw [q] at e
      exact ⟨x, List.mem_of_getElem? q, by rw [List.getD_eq_getElem?_getD, q]; rfl, (Option.some.inj e).symm⟩
  have q := el_lcNL (K := K) (te := te) (t := t) (fun i => p (ys.getD i default)) (fun i => g (ys.getD i default)) h (by rw [List.length_map]; exact hz) hw (fun i v H1 e hi => by
    obtain ⟨x, hm, e1, rfl⟩ := gd i v hi
    rw [e1]
    exact ht x hm H1 e) (fun i v H1 e hi hp => by
    obtain ⟨x, hm, e1, rfl⟩ := gd i v hi
    rw [e1] at hp ⊢
    exact he x hm hp H1 e)
  rw [List.length_map] at q
  exact q
theorem et_yes : EvT tYes σ H true := fun H1 _ _ q => q H1 (Ex.refl H1)
theorem el_mC {α : Type} [Inhabited α] {a : Addr} (c : α → V) (ys : List α) (g : α → V) (h : Ev tl σ H (.ref a)) (hx : SqL K H a (ys.map c)) (hz : ys.length ≤ 40000)
    (he : ∀ x ∈ ys, ∀ H1, Ex H H1 → Ev te ((wipe σ vs).set j (some (c x))) H1 (g x)) (hw : ∀ x, wipe ((wipe σ vs).set j (some x)) vs = wipe σ vs := by intro _; rfl) : EvL (tLc (iList K tl) (gName j) tYes te vs) σ H (ys.map g) := by
  have q := el_fC (K := K) (t := tYes) (te := te) c ys (fun _ => true) g h hx hz (fun _ _ _ _ => et_yes) (fun x hx _ H1 e => he x hx H1 e) hw
  rw [List.filter_eq_self.mpr (fun _ _ => rfl)] at q
  exact q
theorem el_mN {α : Type} [Inhabited α] (c : α → V) (ys : List α) (g : α → V) (h : EvL tl σ H (ys.map c)) (hz : ys.length ≤ 40000)
    (he : ∀ x ∈ ys, ∀ H1, Ex H H1 → Ev te ((wipe σ vs).set j (some (c x))) H1 (g x)) (hw : ∀ x, wipe ((wipe σ vs).set j (some x)) vs = wipe σ vs := by intro _; rfl) : EvL (tLc (iList K tl) (gName j) tYes te vs) σ H (ys.map g) := by
  have q := el_fN (K := K) (t := tYes) (te := te) c ys (fun _ => true) g h hz (fun _ _ _ _ => et_yes) (fun x hx _ H1 e => he x hx H1 e) hw
  rw [List.filter_eq_self.mpr (fun _ _ => rfl)] at q
  exact q
instance : Inhabited V := ⟨.non⟩
theorem el_mapN {xs : List V} (g : V → V) (h : EvL tl σ H xs) (hz : xs.length ≤ 40000)
    (he : ∀ x ∈ xs, ∀ H1, Ex H H1 → Ev te ((wipe σ vs).set j (some x)) H1 (g x)) (hw : ∀ x, wipe ((wipe σ vs).set j (some x)) vs = wipe σ vs := by intro _; rfl) : EvL (tLc (iList K tl) (gName j) tYes te vs) σ H (xs.map g) :=
  el_mN (K := K) (te := te) (fun v => v) xs g (by rw [List.map_id']; exact h) hz he hw
theorem el_filterR1 {n : Int} (p : Nat → Bool) (g : Nat → V) (h : EvA ta σ H [.int n]) (hn : 0 ≤ n ∧ n ≤ 40000)
    (ht : ∀ (i : Nat), (i : Int) < n → ∀ H1, Ex H H1 → EvT t ((wipe σ vs).set j (some (.int (i : Int)))) H1 (p i)) (he : ∀ (i : Nat), (i : Int) < n → p i = true → ∀ H1, Ex H H1 → Ev te ((wipe σ vs).set j (some (.int (i : Int)))) H1 (g i)) (hw : ∀ x, wipe ((wipe σ vs).set j (some x)) vs = wipe σ vs := by intro _; rfl) :
    EvL (tLc (iRng1 ta) (gName j) t te vs) σ H (((List.range n.toNat).filter p).map g) :=
  el_lcR1 p g h hn hw (fun i H1 e hi => ht i hi H1 e) (fun i H1 e hi hp => he i hi hp H1 e)
theorem el_mapR1 {n : Int} (g : Nat → V) (h : EvA ta σ H [.int n]) (hn : 0 ≤ n ∧ n ≤ 40000)
    (he : ∀ (i : Nat), (i : Int) < n → ∀ H1, Ex H H1 → Ev te ((wipe σ vs).set j (some (.int (i : Int)))) H1 (g i)) (hw : ∀ x, wipe ((wipe σ vs).set j (some x)) vs = wipe σ vs := by intro _; rfl) :
    EvL (tLc (iRng1 ta) (gName j) tYes te vs) σ H ((List.range n.toNat).map g) := by
  have q := el_filterR1 (t := tYes) (fun _ => true) g h hn (fun _ _ _ _ => et_yes) (fun i hi _ H1 e => he i hi H1 e) hw
  rw [List.filter_eq_self.mpr (fun _ _ => rfl)] at q
  exact q
end
/-! ### built-in calls as values -/
section
variable {K : PySem.W.Frag} {σ : L2.St} {H : Hp} {ta tb : TE}
def rInt1 : List V → Hp → VK → Prop := fun xs H Q => (∃ i, xs = [.int i] ∧ Q (.int i) H) ∨ ∃ k, xs = [.bl k] ∧ Q (.int (if k then 1 else 0)) H
theorem ev_int1 {i : Int} (ha : Ev ta σ H (.int i)) : Ev (tCB rInt1 (tCons ta tNil)) σ H (.int i) := ev_cb (ea_cons ha ea_nil) fun H1 _ Q q => .inl ⟨i, rfl, q H1 (Ex.refl H1)⟩
end
theorem newH {H : Hp} {p : Addr} (n : H p = none) (o : HO) : ∃ H1, upd H p o = H1 ∧ Ex H H1 ∧ H1 p = some o := ⟨_, rfl, Ex.new n, upd_same⟩
theorem getD_at {α : Type} {xs : List α} {i : Nat} (h : i < xs.length) (d : α) : xs[i]? = some (xs.getD i d) := by rw [List.getD_eq_getElem?_getD, List.getElem?_eq_getElem h]; rfl
theorem iv_at {ns : List Int} {i : Nat} (h : i < ns.length) : (ns.map V.int)[i]? = some (.int (ns.getD i 0)) := by rw [List.getElem?_map, getD_at h 0]; rfl
theorem iv_mem {ns : List Int} {i : Nat} {v : V} (h : (ns.map V.int)[i]? = some v) : i < ns.length ∧ v = .int (ns.getD i 0) := by
  have hi : i < ns.length := by have := (List.getElem?_eq_some_iff.mp h).1; rwa [List.length_map] at this
  rw [iv_at hi] at h
  exact ⟨hi, (Option.some.inj h).symm⟩
theorem take_succ_getD {ns : List Int} {i : Nat} (h : i < ns.length) : ns.take (i + 1) = ns.take i ++ [ns.getD i 0] := by rw [List.take_add_one, getD_at h 0]; rfl
abbrev iv (ns : List Int) : List V := ns.map V.int
def irange (n : Int) : List Int := (List.range n.toNat).map fun i : Nat => (i : Int)
theorem mem_irange {n k : Int} : k ∈ irange n ↔ 0 ≤ k ∧ k < n := by
  unfold irange
  rw [List.mem_map]
  constructor
  · rintro ⟨i, hi, rfl⟩
    have := List.mem_range.mp hi
    omega
  · rintro ⟨h0, h1⟩
    exact ⟨k.toNat, List.mem_range.mpr (by omega), by omega⟩
theorem irange_len (n : Int) : (irange n).length = n.toNat := by unfold irange; rw [List.length_map, List.length_range]
theorem irange_succ (i : Nat) : irange ((i + 1 : Nat) : Int) = irange (i : Int) ++ [(i : Int)] := by
  unfold irange
  have e1 : ((i + 1 : Nat) : Int).toNat = i + 1 := by omega
  have e2 : ((i : Nat) : Int).toNat = i := by omega
  rw [e1, e2, List.range_succ, List.map_append]
  rfl
theorem irange_sorted (n : Int) : (irange n).Pairwise (· < ·) := by
  unfold irange
  rw [List.pairwise_map]
  exact List.pairwise_lt_range.imp fun h => by omega
theorem irange_zero : irange 0 = [] := rfl
theorem rgV_irange (n : Int) : rgV 0 n = iv (irange n) := by
  unfold rgV irange iv
  rw [List.map_map, Int.sub_zero]
  refine List.map_congr_left fun i _ => ?_
  show V.int (0 + (i : Int)) = V.int (i : Int)
  rw [Int.zero_add]
theorem inV_int (k : Int) (ns : List Int) : inV (.int k) (iv ns) = decide (k ∈ ns) := by
  unfold inV iv
  rw [List.any_map, Bool.eq_iff_iff, List.any_eq_true, decide_eq_true_iff]
  constructor
  · rintro ⟨x, hx, e⟩
    have : x = k := by simpa [eqV] using e
    rwa [← this]
  · exact fun h => ⟨k, h, by simp [eqV]⟩
theorem flat_iv (ns : List Int) : (iv ns).all flatV = true := by unfold iv; rw [List.all_map, List.all_eq_true]; intro _ _; rfl
def maxI (ns : List Int) : Int := ns.max?.getD 0
theorem max_is {ns : List Int} {m : Int} (h : m ∈ ns) (h2 : ∀ y ∈ ns, y ≤ m) : maxI ns = m := by
  unfold maxI
  rw [List.max?_eq_some_iff.mpr ⟨h, h2⟩]
  rfl
section
variable {K : PySem.W.Frag} {σ : L2.St} {H : Hp} {ta tb : TE} {tA : TA}
theorem ev_inI {k : Int} {p : Addr} {ns : List Int} (ha : Ev ta σ H (.int k)) (hb : Ev tb σ H (.ref p)) (h : SqL K H p (iv ns)) : Ev (tOp (rIn K false) ta tb) σ H (.bl (decide (k ∈ ns))) := by
  rw [← inV_int]
  exact ev_op ha hb (rv_isL h rfl (flat_iv ns))
theorem ev_niI {k : Int} {p : Addr} {ns : List Int} (ha : Ev ta σ H (.int k)) (hb : Ev tb σ H (.ref p)) (h : SqL K H p (iv ns)) : Ev (tOp (rIn K true) ta tb) σ H (.bl (!decide (k ∈ ns))) := by
  rw [← inV_int]
  exact ev_op ha hb (rv_niL h rfl (flat_iv ns))
theorem el_catNN {xs ys : List V} (ha : EvL ta σ H xs) (hb : EvL tb σ H ys) (hz : xs.length + ys.length ≤ 100000) : EvL (tOp rCat ta tb) σ H (xs ++ ys) := fun H1 e Q q =>
  ha H1 e _ fun p H2 hp e2 h2 => hb H2 (e.trans e2) _ fun b H3 hb3 e3 h3 => ⟨p, b, xs, ys, rfl, rfl, e3 _ _ h2, h3, sz_of hz, fun r hr =>
    q r _ (fresh_back (e2.trans e3) hr) ((e2.trans e3).trans (Ex.new hr)) upd_same⟩
theorem el_catVN {a : Addr} {xs ys : List V} (ha : Ev ta σ H (.ref a)) (h : H a = some (.lst xs)) (hb : EvL tb σ H ys) (hz : xs.length + ys.length ≤ 100000) : EvL (tOp rCat ta tb) σ H (xs ++ ys) := fun H1 e Q q =>
  ha H1 e _ fun H2 e2 => hb H2 (e.trans e2) _ fun b H3 hb3 e3 h3 => ⟨a, b, xs, ys, rfl, rfl, e3 _ _ (e2 _ _ (e _ _ h)), h3, sz_of hz, fun r hr =>
    q r _ (fresh_back (e2.trans e3) hr) ((e2.trans e3).trans (Ex.new hr)) upd_same⟩
theorem el_catNV {b : Addr} {xs ys : List V} (ha : EvL ta σ H xs) (hb : ∀ H1, Ex H H1 → Ev tb σ H1 (.ref b)) (h : H b = some (.lst ys)) (hz : xs.length + ys.length ≤ 100000) : EvL (tOp rCat ta tb) σ H (xs ++ ys) := fun H1 e Q q =>
  ha H1 e _ fun p H2 hp e2 h2 => hb H2 (e.trans e2) H2 (Ex.refl H2) _ fun H3 e3 => ⟨p, b, xs, ys, rfl, rfl, e3 _ _ h2, e3 _ _ (e2 _ _ (e _ _ h)), sz_of hz, fun r hr =>
    q r _ (fresh_back (e2.trans e3) hr) ((e2.trans e3).trans (Ex.new hr)) upd_same⟩
theorem el_catVV {a b : Addr} {xs ys : List V} (ha : Ev ta σ H (.ref a)) (h1 : H a = some (.lst xs)) (hb : Ev tb σ H (.ref b)) (h2 : H b = some (.lst ys)) (hz : xs.length + ys.length ≤ 100000) : EvL (tOp rCat ta tb) σ H (xs ++ ys) := fun H1 e Q q =>
  ha H1 e _ fun H2 e2 => hb H2 (e.trans e2) _ fun H3 e3 => ⟨a, b, xs, ys, rfl, rfl, e3 _ _ (e2 _ _ (e _ _ h1)), e3 _ _ (e2 _ _ (e _ _ h2)), sz_of hz, fun r hr =>
    q r _ (fresh_back (e2.trans e3) hr) ((e2.trans e3).trans (Ex.new hr)) upd_same⟩
theorem el_is' {xs ys : List V} (h : EvL ta σ H xs) (e : xs = ys) : EvL ta σ H ys := e ▸ h
theorem el_listR1 {n : Int} (ha : Ev ta σ H (.int n)) (hn : 0 ≤ n ∧ n ≤ 100000) : EvL (tLstRg (tRg1 ta)) σ H (iv (irange n)) := fun H1 e Q q =>
  ha H1 e _ fun H2 e2 => ⟨n, rfl, RgOk.of_le (by decide) (by omega) (by decide) (by omega), fun r hr => by
    rw [rgV_irange]
    exact q r _ (fresh_back e2 hr) (e2.trans (Ex.new hr)) upd_same⟩
theorem ev_maxN {ns : List Int} (ha : EvL ta σ H (iv ns)) (h0 : 0 < ns.length) : Ev (tCB (rMax K) (tCons ta tNil)) σ H (.int (maxI ns)) := fun H1 e Q q =>
  ha H1 e _ fun p H2 hp e2 h2 => ⟨p, ns, rfl, sq_of h2, h0, fun m hm hle => by
    rw [← max_is hm hle]
    exact q H2 e2⟩
theorem ev_max2' {i j : Int} (ha : Ev ta σ H (.int i)) (hb : Ev tb σ H (.int j)) : Ev (tCB rMax2 (tCons ta (tCons tb tNil))) σ H (.int (max i j)) := by
  have e : max i j = (if j > i then j else i) := by split <;> omega
  rw [e]
  exact ev_max2 ha hb
def rMin2 : List V → Hp → VK → Prop := fun xs H Q => ∃ i j, xs = [.int i, .int j] ∧ Q (.int (if j < i then j else i)) H
theorem ev_min2 {i j : Int} (ha : Ev ta σ H (.int i)) (hb : Ev tb σ H (.int j)) : Ev (tCB rMin2 (tCons ta (tCons tb tNil))) σ H (.int (min i j)) := by
  have e : min i j = (if j < i then j else i) := by split <;> omega
  rw [e]
  exact ev_cb (ea_cons ha (ea_cons hb ea_nil)) fun H1 _ Q q => ⟨i, j, rfl, q H1 (Ex.refl H1)⟩
theorem ev_own {sp : Sp} {vs : List V} {z : V} (h : EvA tA σ H vs) (hs : SpV sp vs H z) : Ev (tOwn sp tA) σ H z := fun H1 e Q q =>
  h H1 e _ fun H2 e2 => hs H2 (e.trans e2) Q (fun H3 e3 => q H3 (e2.trans e3)) E0
theorem el_own {sp : Sp} {vs xs : List V} (h : EvA tA σ H vs) (hs : SpL sp vs H xs) : EvL (tOwn sp tA) σ H xs := fun H1 e Q q =>
  h H1 e _ fun H2 e2 => hs H2 (e.trans e2) Q (fun p H3 hp e3 h3 => q p H3 (fresh_back e2 hp) (e2.trans e3) h3) E0
theorem ev_ixI {p : Addr} {ns : List Int} {i : Int} (ha : Ev ta σ H (.ref p)) (hb : Ev tb σ H (.int i)) (h : SqL K H p (iv ns)) (h0 : 0 ≤ i) (h1 : i < ns.length) : Ev (tOp (rIxL K) ta tb) σ H (.int (ns.getD i.toNat 0)) :=
  ev_op ha hb (rv_ixL h (at_of (j := i.toNat) (by omega) (iv_at (by omega))))
end
theorem len_flatMap_le {α β : Type} {f : α → List β} {n : Nat} (h : ∀ x, (f x).length ≤ n) : ∀ l : List α, (l.flatMap f).length ≤ l.length * n
  | [] => by simp
  | x :: l => by
    have a := len_flatMap_le h l
    have b := h x
    rw [List.flatMap_cons, List.length_append, List.length_cons, Nat.add_mul]
    omega
/-! ### the rules with the written part by its own name -/
def rTupS (K : PySem.W.Frag) : List V → Hp → VK → Prop := fun xs H Q => ∃ p ys, xs = [.ref p] ∧ ((SqL K H p ys ∧ ∀ l, H l = none → Q (.ref l) (upd H l (.tup ys))) ∨ (SqT K H p ys ∧ Q (.ref p) H))
section
variable {X : Cx} {K : PySem.W.Frag}
theorem ix_listK (k : X.K = K)  : IxR X (rIxL K) := by
  subst k
  exact ix_list
theorem ix_tupK (k : X.K = K)  : IxR X (rIxT K) := by
  subst k
  exact ix_tup
theorem ix_seqK (k : X.K = K)  : IxR X (rIx K) := by
  subst k
  exact ix_seq
theorem op_in_seqK (k : X.K = K)  : OpR X (compareOp .In) (rIn K false) := by
  subst k
  exact op_in_seq
theorem op_notIn_seqK (k : X.K = K)  : OpR X (compareOp .NotIn) (rIn K true) := by
  subst k
  exact op_notIn_seq
theorem op_eqDK (k : X.K = K) (hu : X.A.units + 64 < cLine) : OpR X (compareOp .Eq) (rEqD K) := by
  subst k
  exact op_eqD hu
theorem op_neDK (k : X.K = K) (hu : X.A.units + 64 < cLine) : OpR X (compareOp .NotEq) (rNeD K) := by
  subst k
  exact op_neD hu
theorem call_len_seqK (k : X.K = K)  : CallR X (.builtin "len") (rLenS K) := by
  subst k
  exact call_len_seq
theorem call_list_ofK (k : X.K = K)  : CallR X (.type "list") (rListS K) := by
  subst k
  exact call_list_of
theorem call_tuple_ofK (k : X.K = K)  : CallR X (.type "tuple") (rTupS K) := by
  subst k
  exact call_tuple_of
theorem cr_maxK (k : X.K = K) (hc : X.calm = true) : CallR X (.builtin "max") (rMax K) := by
  subst k
  exact cr_max hc
theorem cr_minK (k : X.K = K) (hc : X.calm = true) : CallR X (.builtin "min") (rMin K) := by
  subst k
  exact cr_min hc
theorem cr_sumK (k : X.K = K) (hc : X.calm = true) : CallR X (.builtin "sum") (rSum K) := by
  subst k
  exact cr_sum hc
theorem cr_anyK (k : X.K = K) (hc : X.calm = true) : CallR X (.builtin "any") (rAny K) := by
  subst k
  exact cr_any hc
theorem cr_allK (k : X.K = K) (hc : X.calm = true) : CallR X (.builtin "all") (rAll K) := by
  subst k
  exact cr_all hc
theorem sl_listK (k : X.K = K)  : SlR X (rSlL K) := by
  subst k
  exact sl_list
theorem sl_tupK (k : X.K = K)  : SlR X (rSlT K) := by
  subst k
  exact sl_tup
theorem mt_indexK (k : X.K = K)  : MtR X "list.index" (rIndex K) := by
  subst k
  exact mt_index
theorem cr_sortedK (k : X.K = K)  : CallR X (.builtin "sorted") (rSorted K) := by
  subst k
  exact cr_sorted
theorem op_catTK (k : X.K = K)  : OpR X (binaryOp .Add) (rCatT K) := by
  subst k
  exact op_catT
theorem op_ltTK (k : X.K = K) (hu : X.A.units < cLine) : OpR X (compareOp .Lt) (rLtT K) := by
  subst k
  exact op_ltT hu
theorem call_isiK (k : X.K = K)  : CallR X (.builtin "isinstance") (rIsi K) := by
  subst k
  exact call_isi
theorem pi_listK {tg l : Expr} {tl : TE} (k : X.K = K) (hl : PE X l tl) : PI X tg l (iList K tl) := by
  subst k
  exact pi_list hl
theorem pi_tupK {tg l : Expr} {tl : TE} (k : X.K = K) (hl : PE X l tl) : PI X tg l (iTup K tl) := by
  subst k
  exact pi_tup hl
end
def lastI (ns : List Int) : Int := ns.getLastD 0
theorem iv_last {ns : List Int} (h : 0 < ns.length) : atI (iv ns) (-1) = some (.int (lastI ns)) := by
  rcases List.eq_nil_or_concat ns with rfl | ⟨l, v, rfl⟩
  · cases h
  · have e : iv (l.concat v) = iv l ++ [V.int v] := by unfold iv; rw [List.concat_eq_append, List.map_append]; rfl
    rw [e, atI_last]
    unfold lastI
    simp
/-- lists of whole numbers at addresses -/
def LLs (K : PySem.W.Frag) (H : Hp) (as : List Addr) (wss : List (List Int)) : Prop := as.length = wss.length ∧ ∀ i, i < wss.length → SqL K H (as.getD i 0) (iv (wss.getD i []))
theorem LLs.ex {K : PySem.W.Frag} {H H' : Hp} {as : List Addr} {wss : List (List Int)} (h : LLs K H as wss) (e : Ex H H') : LLs K H' as wss := ⟨h.1, fun i hi => ex_l e (h.2 i hi)⟩
theorem getD_last (ns : List Int) : ns.getD (ns.length - 1) 0 = lastI ns := by
  rcases List.eq_nil_or_concat ns with rfl | ⟨l, v, rfl⟩
  · rfl
  · unfold lastI
    simp [List.getD_eq_getElem?_getD]
theorem ref_at {as : List Addr} {i : Nat} (h : i < as.length) : (as.map V.ref)[i]? = some (.ref (as.getD i 0)) := by rw [List.getElem?_map, getD_at h 0]; rfl
theorem ref_mem {as : List Addr} {i : Nat} {v : V} (h : (as.map V.ref)[i]? = some v) : i < as.length ∧ v = .ref (as.getD i 0) := by
  have hi : i < as.length := by have := (List.getElem?_eq_some_iff.mp h).1; rwa [List.length_map] at this
  rw [ref_at hi] at h
  exact ⟨hi, (Option.some.inj h).symm⟩
theorem take_succ_D {α : Type} {ns : List α} {i : Nat} (h : i < ns.length) (d : α) : ns.take (i + 1) = ns.take i ++ [ns.getD i d] := by rw [List.take_add_one, getD_at h d]; rfl
theorem putK_len {κ : Type} [DecidableEq κ] (kvs : List (κ × V)) (k : κ) (v : V) : (putK kvs k v).length ≤ kvs.length + 1 := by
  unfold putK
  split
  · rw [List.length_map]; omega
  · rw [List.length_append]; exact Nat.le_refl _
theorem et_din {K : PySem.W.Frag} {σ : L2.St} {H : Hp} {ty td : TE} {k : Int} {d : Addr} {kvs : List (Key × V)} (h1 : Ev ty σ H (.int k)) (h2 : Ev td σ H (.ref d)) (h : H d = some (.dK kvs)) : EvT (tB (tDIn ty td)) σ H (valV kvs (.inl k : Key)).isSome := fun H1 e Q q =>
  h1 H1 e _ fun H2 e2 => h2 H2 (e.trans e2) _ fun H3 e3 => ⟨d, _, rfl, DGet.k (k := Sum.inl k) (e3 _ _ (e2 _ _ (e _ _ h))), _, rfl, q H3 (e2.trans e3)⟩
/-! ### new lists of whole numbers, each at its own place -/
structure Nw (H0 : Hp) (rs : List (Addr × List Int)) (H : Hp) : Prop where
  ex : Ex H0 H
  at_ : ∀ p ∈ rs, H p.1 = some (.lst (iv p.2))
  nd : (rs.map (·.1)).Nodup
  nw : ∀ p ∈ rs, H0 p.1 = none
theorem Nw.nil {H : Hp} : Nw H [] H := ⟨Ex.refl H, fun _ h => (nomatch h), List.nodup_nil, fun _ h => (nomatch h)⟩
theorem Nw.go {H0 H H1 : Hp} {rs : List (Addr × List Int)} (n : Nw H0 rs H) (e : Ex H H1) : Nw H0 rs H1 := ⟨n.ex.trans e, fun p hp => e _ _ (n.at_ p hp), n.nd, n.nw⟩
theorem Nw.add {H0 H H1 : Hp} {rs : List (Addr × List Int)} {r : Addr} {xs : List Int} (n : Nw H0 rs H) (hr : H r = none) (e : Ex H H1) (h : H1 r = some (.lst (iv xs))) : Nw H0 (rs ++ [(r, xs)]) H1 := by
  refine ⟨n.ex.trans e, fun p hp => ?_, ?_, fun p hp => ?_⟩
  · rcases List.mem_append.mp hp with hp | hp
    · exact e _ _ (n.at_ p hp)
    · rw [List.mem_singleton.mp hp]; exact h
  · rw [List.map_append]
    refine nd_snoc n.nd fun hm => ?_
    obtain ⟨p, hp, e1⟩ := List.mem_map.mp hm
    have := n.at_ p hp
    rw [e1, hr] at this
    cases this
  · rcases List.mem_append.mp hp with hp | hp
    · exact n.nw p hp
    · rw [List.mem_singleton.mp hp]; exact fresh_back n.ex hr
theorem Nw.mut {H0 H : Hp} {rs : List (Addr × List Int)} {l : Addr} {o : HO} (n : Nw H0 rs H) (hl : H0 l = none) (hn : ∀ p ∈ rs, p.1 ≠ l) : Nw H0 rs (upd H l o) :=
  ⟨Ex.mut n.ex hl, fun p hp => by rw [upd_ne (hn p hp)]; exact n.at_ p hp, n.nd, n.nw⟩
theorem Nw.perm {H0 H : Hp} {rs rs' : List (Addr × List Int)} (n : Nw H0 rs H) (h : rs'.Perm rs) : Nw H0 rs' H :=
  ⟨n.ex, fun p hp => n.at_ p (h.mem_iff.mp hp), (h.map (·.1)).nodup_iff.mpr n.nd, fun p hp => n.nw p (h.mem_iff.mp hp)⟩
theorem LLs.of {K : PySem.W.Frag} {H : Hp} {ps : List (Addr × List Int)} (h : ∀ p ∈ ps, SqL K H p.1 (iv p.2)) : LLs K H (ps.map (·.1)) (ps.map (·.2)) := by
  refine ⟨by rw [List.length_map, List.length_map], fun i hi => ?_⟩
  rw [List.length_map] at hi
  have e1 : (ps.map (·.1)).getD i 0 = ps[i].1 := by rw [List.getD_eq_getElem?_getD, List.getElem?_map, List.getElem?_eq_getElem hi]; rfl
  have e2 : (ps.map (·.2)).getD i [] = ps[i].2 := by rw [List.getD_eq_getElem?_getD, List.getElem?_map, List.getElem?_eq_getElem hi]; rfl
  rw [e1, e2]
  exact h _ (List.getElem_mem hi)
/-! ### isinstance, is None, == of flat values -/
theorem tyOf_ex {K : PySem.W.Frag} {H H' : Hp} {x : V} {t : Value} (h : TyOf K H x t) (e : Ex H H') : TyOf K H' x t := by
  cases h with
  | non => exact .non
  | bl x => exact .bl x
  | int x => exact .int x
  | str x => exact .str x
  | flt x => exact .flt x
  | lst h => exact .lst (e _ _ h)
  | frz h => exact .frz (e _ _ h)
  | tup h => exact .tup (e _ _ h)
  | dK h => exact .dK (e _ _ h)
  | dT h => exact .dT (e _ _ h)
  | ins h a b c d f => exact .ins (e _ _ h) a b c d f
section
variable {K : PySem.W.Frag} {σ : L2.St} {H : Hp} {ta tb : TE} {x : V}
theorem ev_isi {A B : String} {r : Bool} (ha : Ev ta σ H x) (ht : TyOf K H x (.type A)) (hb : kitB A B = some r) : Ev (tCB (rIsi K) (tCons ta (tCons (tC (.ty B)) tNil))) σ H (.bl r) :=
  ev_cb (ea_cons ha (ea_cons ev_c ea_nil)) fun H1 e Q q => ⟨x, .ty B, .type A, .type B, r, rfl, .ty B, .base (tyOf_ex ht e), kit_ty hb, q H1 (Ex.refl H1)⟩
def rIsNon : R2 := fun x y H Q => y = .non ∧ Q (.bl (decide (x = .non))) H
theorem rv_isN : RV rIsNon x .non H (.bl (decide (x = .non))) := fun H1 _ Q q => ⟨rfl, q H1 (Ex.refl H1)⟩
def rNotNon : R2 := fun x y H Q => y = .non ∧ Q (.bl (!decide (x = .non))) H
theorem rv_notN : RV rNotNon x .non H (.bl (!decide (x = .non))) := fun H1 _ Q q => ⟨rfl, q H1 (Ex.refl H1)⟩
end
theorem kb_list_list : kitB "list" "list" = some true := by decide +kernel
theorem kb_list_tuple : kitB "list" "tuple" = some false := by decide +kernel
theorem kb_list_int : kitB "list" "int" = some false := by decide +kernel
theorem kb_list_str : kitB "list" "str" = some false := by decide +kernel
theorem kb_list_bool : kitB "list" "bool" = some false := by decide +kernel
theorem kb_list_dict : kitB "list" "dict" = some false := by decide +kernel
theorem kb_tuple_list : kitB "tuple" "list" = some false := by decide +kernel
theorem kb_tuple_tuple : kitB "tuple" "tuple" = some true := by decide +kernel
theorem kb_tuple_int : kitB "tuple" "int" = some false := by decide +kernel
theorem kb_tuple_str : kitB "tuple" "str" = some false := by decide +kernel
theorem kb_tuple_bool : kitB "tuple" "bool" = some false := by decide +kernel
theorem kb_tuple_dict : kitB "tuple" "dict" = some false := by decide +kernel
theorem kb_int_list : kitB "int" "list" = some false := by decide +kernel
theorem kb_int_tuple : kitB "int" "tuple" = some false := by decide +kernel
theorem kb_int_int : kitB "int" "int" = some true := by decide +kernel
theorem kb_int_str : kitB "int" "str" = some false := by decide +kernel
theorem kb_int_bool : kitB "int" "bool" = some false := by decide +kernel
theorem kb_int_dict : kitB "int" "dict" = some false := by decide +kernel
theorem kb_str_list : kitB "str" "list" = some false := by decide +kernel
theorem kb_str_tuple : kitB "str" "tuple" = some false := by decide +kernel
theorem kb_str_int : kitB "str" "int" = some false := by decide +kernel
theorem kb_str_str : kitB "str" "str" = some true := by decide +kernel
theorem kb_str_bool : kitB "str" "bool" = some false := by decide +kernel
theorem kb_str_dict : kitB "str" "dict" = some false := by decide +kernel
theorem kb_bool_list : kitB "bool" "list" = some false := by decide +kernel
theorem kb_bool_tuple : kitB "bool" "tuple" = some false := by decide +kernel
theorem kb_bool_int : kitB "bool" "int" = some true := by decide +kernel
theorem kb_bool_str : kitB "bool" "str" = some false := by decide +kernel
theorem kb_bool_bool : kitB "bool" "bool" = some true := by decide +kernel
theorem kb_bool_dict : kitB "bool" "dict" = some false := by decide +kernel
theorem kb_NoneType_list : kitB "NoneType" "list" = some false := by decide +kernel
theorem kb_NoneType_tuple : kitB "NoneType" "tuple" = some false := by decide +kernel
theorem kb_NoneType_int : kitB "NoneType" "int" = some false := by decide +kernel
theorem kb_NoneType_str : kitB "NoneType" "str" = some false := by decide +kernel
theorem kb_NoneType_bool : kitB "NoneType" "bool" = some false := by decide +kernel
theorem kb_NoneType_dict : kitB "NoneType" "dict" = some false := by decide +kernel
theorem kb_dict_list : kitB "dict" "list" = some false := by decide +kernel
theorem kb_dict_tuple : kitB "dict" "tuple" = some false := by decide +kernel
theorem kb_dict_int : kitB "dict" "int" = some false := by decide +kernel
theorem kb_dict_str : kitB "dict" "str" = some false := by decide +kernel
theorem kb_dict_bool : kitB "dict" "bool" = some false := by decide +kernel
theorem kb_dict_dict : kitB "dict" "dict" = some true := by decide +kernel
theorem pos_mod {n : Int} (h : 0 < n) (i : Int) : (fun (_ j : Int) => 0 < j) i n := h
theorem p_2147483647 : (0 : Int) < 2147483647 := by decide
theorem p_2305843009213693951 : (0 : Int) < 2305843009213693951 := by decide
theorem p_2147483629 : (0 : Int) < 2147483629 := by decide
/-! ### the record of draws -/
def StG (c : Addr) (n : Nat) (kvs : List (Key × V)) : Prop := ∃ at_ left turn salt seed : Int, 0 ≤ at_ ∧ at_ ≤ n ∧
  kvs = [(.inr "cells", .ref c), (.inr "at", .int at_), (.inr "left", .int left), (.inr "turn", .int turn), (.inr "salt", .int salt), (.inr "seed", .int seed)]
def StoreAt (P : Program) (w : World) (H : Hp) (d : Addr) : Prop := ∃ (c : Addr) (ns : List Int), H d = some (StO P w d (StG c ns.length)) ∧ H c = some (.lst (ns.map V.int))
theorem StoreAt.ex {P : Program} {w : World} {H H' : Hp} {d : Addr} (s : StoreAt P w H d) (e : Ex H H') : StoreAt P w H' d := by
  obtain ⟨c, ns, h1, h2⟩ := s
  exact ⟨c, ns, e _ _ h1, e _ _ h2⟩
theorem upd_self {H : Hp} {d : Addr} {o : HO} (h : H d = some o) : upd H d o = H := by
  funext b
  unfold upd
  split
  · rename_i e
    rw [e, h]
  · rfl
section
variable {c : Addr} {n : Nat} {at_ left turn salt seed z : Int} 
abbrev stK (c : Addr) (at_ left turn salt seed : Int) : List (Key × V) := [(.inr "cells", .ref c), (.inr "at", .int at_), (.inr "left", .int left), (.inr "turn", .int turn), (.inr "salt", .int salt), (.inr "seed", .int seed)]
variable {H : Hp} {d : Addr}
theorem sg_cells (h : H d = some (.dK (stK c at_ left turn salt seed))) : DGet H d (.str "cells") (some (.ref c)) := DGet.k (k := Sum.inr "cells") h
theorem sg_at (h : H d = some (.dK (stK c at_ left turn salt seed))) : DGet H d (.str "at") (some (.int at_)) := DGet.k (k := Sum.inr "at") h
theorem sg_left (h : H d = some (.dK (stK c at_ left turn salt seed))) : DGet H d (.str "left") (some (.int left)) := DGet.k (k := Sum.inr "left") h
theorem sg_turn (h : H d = some (.dK (stK c at_ left turn salt seed))) : DGet H d (.str "turn") (some (.int turn)) := DGet.k (k := Sum.inr "turn") h
theorem sg_salt (h : H d = some (.dK (stK c at_ left turn salt seed))) : DGet H d (.str "salt") (some (.int salt)) := DGet.k (k := Sum.inr "salt") h
theorem sg_seed (h : H d = some (.dK (stK c at_ left turn salt seed))) : DGet H d (.str "seed") (some (.int seed)) := DGet.k (k := Sum.inr "seed") h
theorem sp_at (h : H d = some (.dK (stK c at_ left turn salt seed))) : DPut H d (.str "at") (.int z) (upd H d (.dK (stK c z left turn salt seed))) := DPut.k (k := Sum.inr "at") h (by show 6 < sizeLine; decide)
theorem sp_left (h : H d = some (.dK (stK c at_ left turn salt seed))) : DPut H d (.str "left") (.int z) (upd H d (.dK (stK c at_ z turn salt seed))) := DPut.k (k := Sum.inr "left") h (by show 6 < sizeLine; decide)
theorem sp_turn (h : H d = some (.dK (stK c at_ left turn salt seed))) : DPut H d (.str "turn") (.int z) (upd H d (.dK (stK c at_ left z salt seed))) := DPut.k (k := Sum.inr "turn") h (by show 6 < sizeLine; decide)
end
theorem iteD {p A B : Prop} [Decidable p] (h1 : p → A) (h2 : ¬ p → B) : if decide p = true then A else B := by
  by_cases h : p
  · rw [decide_eq_true h, if_pos rfl]; exact h1 h
  · rw [decide_eq_false h, if_neg Bool.false_ne_true]; exact h2 h
theorem iteN {p A B : Prop} [Decidable p] (h1 : ¬ p → A) (h2 : p → B) : if (!decide p) = true then A else B := by
  by_cases h : p
  · rw [decide_eq_true h]; exact iteF (h2 h)
  · rw [decide_eq_false h]; exact iteT (h1 h)
theorem iteB {b : Bool} {A B : Prop} (h1 : b = true → A) (h2 : b = false → B) : if b = true then A else B := by
  cases b with
  | true => exact iteT (h1 rfl)
  | false => exact iteF (h2 rfl)
theorem pInt_1e18 : (0 : Int) ≤ 18 ∧ (18 : Int) ≤ 1000000 ∧ (10 : Int).natAbs < 2 ^ 64 := by decide
theorem int_inj {a b : Int} (h : V.int a = V.int b) : a = b := by injection h
end M
namespace M
open PySem PySem.Spec PyProof.Rows L2 Evl
theorem u65 {k : Nat} {A : Around} (r : Room k A) : A.units + 65 < cLine := by have := r.un; omega
/-! ### a list (true) or a tuple (false) -/
def SqB (K : PySem.W.Frag) (b : Bool) (H : Hp) (p : Addr) (xs : List V) : Prop := match b with
  | true => SqL K H p xs
  | false => SqT K H p xs
theorem SqB.ex {K : PySem.W.Frag} {b : Bool} {H H' : Hp} {p : Addr} {xs : List V} (h : SqB K b H p xs) (e : Ex H H') : SqB K b H' p xs := by
  cases b with
  | true => exact ex_l e h
  | false => exact ex_t e h
theorem SqB.or {K : PySem.W.Frag} {b : Bool} {H : Hp} {p : Addr} {xs : List V} (h : SqB K b H p xs) : SqL K H p xs ∨ SqT K H p xs := by
  cases b with
  | true => exact .inl h
  | false => exact .inr h
theorem SqB.l {K : PySem.W.Frag} {H : Hp} {p : Addr} {xs : List V} (h : H p = some (.lst xs)) : SqB K true H p xs := sq_of h
theorem SqB.t {K : PySem.W.Frag} {H : Hp} {p : Addr} {xs : List V} (h : H p = some (.tup xs)) : SqB K false H p xs := st_of h
def iSeq (K : PySem.W.Frag) (tl : TE) : TI := fun σ H R => tl σ H fun x H1 => ∃ a, x = .ref a ∧ (((∃ xs, SqL K H1 a xs) ∧ R (Itl K a) H1) ∨ ((∃ xs, SqT K H1 a xs) ∧ R (Itt K a) H1))
def rSlS (K : PySem.W.Frag) : V → Option Int → Option Int → Hp → VK → Prop := fun x lo hi H Q => rSlL K x lo hi H Q ∨ rSlT K x lo hi H Q
def rLenG (K : PySem.W.Frag) : List V → Hp → VK → Prop := fun xs H Q => ∃ x n, xs = [x] ∧ LenV K x H n ∧ Q (.int n) H
section
variable {X : Cx} {K : PySem.W.Frag} {tg l : Expr} {tl : TE}
theorem pi_seqK (k : X.K = K) (hl : PE X l tl) : PI X tg l (iSeq K tl) := by
  subst k
  refine ⟨fun pins s σ H R I h => ?_⟩
  refine thn (hl.run pins s σ H _ I h) fun v s1 ⟨x, H1, I1, r1, q1⟩ => ?_
  obtain ⟨a, e, ⟨⟨xs, hq⟩, q⟩ | ⟨⟨xs, hq⟩, q⟩⟩ := q1
  · subst e
    cases r1
    obtain ⟨its, rv, p, hz⟩ := I1.list hq
    refine wpAny_pyIter_list p.isList ?_
    refine ⟨s1.heap.objs.size, [s1.heap.objs.size], _, _, H1, rfl, I1.kept (t' := s1.toks) fun b o e => Heap.get?_push_of_some _ e, turn_list a _, ⟨_, Heap.get?_push_size _ rfl, rfl, rfl⟩, fun b hb => ?_, q⟩
    have e : b = s1.heap.objs.size := by simpa using hb
    subst e
    exact I1.fpOk (Nat.le_refl _) (I1.hok.fresh (Nat.le_refl _))
  · subst e
    cases r1
    obtain ⟨its, rv, p, hz⟩ := I1.tuple hq
    refine wpAny_pyIter_tuple (show s1.heap.IsTuple a its.toArray from p) ?_
    refine ⟨s1.heap.objs.size, [s1.heap.objs.size], _, _, H1, rfl, I1.kept (t' := s1.toks) fun b o e => Heap.get?_push_of_some _ e, turn_tuple a _, ⟨_, Heap.get?_push_size _ rfl, rfl, rfl⟩, fun b hb => ?_, q⟩
    have e : b = s1.heap.objs.size := by simpa using hb
    subst e
    exact I1.fpOk (Nat.le_refl _) (I1.hok.fresh (Nat.le_refl _))
theorem sl_seqK (k : X.K = K) : SlR X (rSlS K) := by
  subst k
  exact sl_list.or sl_tup
theorem call_lenK (k : X.K = K) : CallR X (.builtin "len") (rLenG K) := by
  subst k
  exact call_len
theorem op_inDK (k : X.K = K) (hu : X.A.units + 65 < cLine) : OpR X (compareOp .In) (rInD K) := by
  subst k
  exact op_inD hu
theorem op_notInDK (k : X.K = K) (hu : X.A.units + 65 < cLine) : OpR X (compareOp .NotIn) (rNotInD K) := by
  subst k
  exact op_notInD hu
theorem pi_zipK {e e2 : Expr} {ta : TA} {p pos tpos : Pos} {elts : List Expr} {kk : Nat} (k : X.K = K) (hg : Gl X "zip") (hm : X.mg "zip" = none) (ha : PA X [e, e2] ta)
    (hs : starEach [e, e2] X.env = (false, eval e X.env) :: starEach [e2] X.env := by rfl) (hpl : (backTo pos (starEach [e2] X.env)).any (·.1) = false := by rfl) : PI X (.Tuple elts kk tpos) (.Call (.Name "zip" p) [e, e2] [] pos) (iZip K ta) := by
  subst k
  exact pi_zip hg hm ha hs hpl
end
/-- some list or tuple of xs, known or new -/
def EvS (K : PySem.W.Frag) (te : TE) (σ : L2.St) (H : Hp) (xs : List V) : Prop := ∀ H1, Ex H H1 → ∀ Q : VK, (∀ b p H2, Ex H1 H2 → SqB K b H2 p xs → Q (.ref p) H2) → te σ H1 Q
section
variable {K : PySem.W.Frag} {σ : L2.St} {H : Hp} {te tl : TE} {t : TT} {ta tb : TE} {j : Nat} {vs : List Nat} {xs : List V}
theorem es_var {b : Bool} {p : Addr} (h : Ev te σ H (.ref p)) (hq : SqB K b H p xs) : EvS K te σ H xs := fun H1 e Q q => h H1 e Q fun H2 e2 => q b p H2 e2 (hq.ex (e.trans e2))
theorem es_L (h : EvL te σ H xs) : EvS K te σ H xs := fun H1 e Q q => h H1 e Q fun p H2 _ e2 hp => q true p H2 e2 (SqB.l hp)
theorem es_U (h : EvU te σ H xs) : EvS K te σ H xs := fun H1 e Q q => h H1 e Q fun p H2 _ e2 hp => q false p H2 e2 (SqB.t hp)
theorem es_sl {tlo thi : TO} {lo hi : Option Int} (h : EvS K te σ H xs) (h1 : EvO tlo σ H lo) (h2 : EvO thi σ H hi) (hn : ¬ (HT.sIx xs.length 0 lo = 0 ∧ HT.sIx xs.length xs.length hi = xs.length)) : EvS K (tSl (rSlS K) te tlo thi) σ H (cutV xs lo hi) := fun H1 e Q q =>
  h H1 e _ fun b p H2 e2 hp => h1 H2 (e.trans e2) _ fun H3 e3 => h2 H3 ((e.trans e2).trans e3) _ fun H4 e4 => by
    cases b with
    | true => exact .inl ⟨p, xs, rfl, (hp.ex (e3.trans e4) : SqB K true H4 p xs), fun r hr => q true r _ (((e2.trans e3).trans e4).trans (Ex.new hr)) (SqB.l upd_same)⟩
    | false => exact .inr ⟨p, xs, rfl, (hp.ex (e3.trans e4) : SqB K false H4 p xs), hn, fun r hr => q false r _ (((e2.trans e3).trans e4).trans (Ex.new hr)) (SqB.t upd_same)⟩
theorem ev_lenS (h : EvS K te σ H xs) : Ev (tCB (rLenS K) (tCons te tNil)) σ H (.int (xs.length : Int)) := fun H1 e Q q =>
  h H1 e _ fun b p H2 e2 hp => ⟨p, xs, rfl, hp.or, q H2 e2⟩
theorem el_listS (h : EvS K te σ H xs) : EvL (tCB (rListS K) (tCons te tNil)) σ H xs := fun H1 e Q q =>
  h H1 e _ fun b p H2 e2 hp => ⟨p, xs, rfl, hp.or, fun l hl => q l _ (fresh_back e2 hl) (e2.trans (Ex.new hl)) upd_same⟩
theorem ev_ixS {i : Int} {v : V} (h : EvS K ta σ H xs) (hb : Ev tb σ H (.int i)) (hv : atI xs i = some v) : Ev (tOp (rIx K) ta tb) σ H v := fun H1 e Q q =>
  h H1 e _ fun b p H2 e2 hp => hb H2 (e.trans e2) _ fun H3 e3 => by
    cases b with
    | true => exact .inl ⟨p, xs, i, v, rfl, rfl, (hp.ex e3 : SqB K true H3 p xs), hv, q H3 (e2.trans e3)⟩
    | false => exact .inr (.inl ⟨p, xs, i, v, rfl, rfl, (hp.ex e3 : SqB K false H3 p xs), hv, q H3 (e2.trans e3)⟩)
theorem lc_seq {Q : VK} {g : TG} {a : Addr} {b : Bool} {H1 : Hp} (hx : SqB K b H1 a xs) (h : ∀ J, (J = Itl K a ∧ b = true ∨ J = Itt K a ∧ b = false) → ∀ D, H1 D = none → ∃ W : Nat → Nat → Hp → Prop, (∃ m, W 0 m (upd H1 D (.lst []))) ∧ ∀ i m H, W i m H →
      (J.stop i H ∧ Q (.ref D) H) ∨ (J.go i H ∧ ∃ Nx : Hp → Prop, (∀ H', Nx H' → ∃ m', m' < m ∧ W (i + 1) m' H') ∧ ∀ x H', J.yld i H x H' → g x (wipe σ vs) H' fun σ2 H2 => wipe σ2 vs = wipe σ vs ∧ t σ2 H2 fun b H3 =>
        if b = true then te σ2 H3 fun y H4 => ∃ acc, H4 D = some (.lst acc) ∧ acc.length < sizeLine ∧ Nx (upd H4 D (.lst (acc ++ [y]))) else Nx H3)) :
    ∃ a', V.ref a = .ref a' ∧ (((∃ xs, SqL K H1 a' xs) ∧ (fun (J : It) H1 => ∀ D, H1 D = none → ∃ W : Nat → Nat → Hp → Prop, (∃ m, W 0 m (upd H1 D (.lst []))) ∧ ∀ i m H, W i m H →
      (J.stop i H ∧ Q (.ref D) H) ∨ (J.go i H ∧ ∃ Nx : Hp → Prop, (∀ H', Nx H' → ∃ m', m' < m ∧ W (i + 1) m' H') ∧ ∀ x H', J.yld i H x H' → g x (wipe σ vs) H' fun σ2 H2 => wipe σ2 vs = wipe σ vs ∧ t σ2 H2 fun b H3 =>
        if b = true then te σ2 H3 fun y H4 => ∃ acc, H4 D = some (.lst acc) ∧ acc.length < sizeLine ∧ Nx (upd H4 D (.lst (acc ++ [y]))) else Nx H3)) (Itl K a') H1) ∨ ((∃ xs, SqT K H1 a' xs) ∧ (fun (J : It) H1 => ∀ D, H1 D = none → ∃ W : Nat → Nat → Hp → Prop, (∃ m, W 0 m (upd H1 D (.lst []))) ∧ ∀ i m H, W i m H →
      (J.stop i H ∧ Q (.ref D) H) ∨ (J.go i H ∧ ∃ Nx : Hp → Prop, (∀ H', Nx H' → ∃ m', m' < m ∧ W (i + 1) m' H') ∧ ∀ x H', J.yld i H x H' → g x (wipe σ vs) H' fun σ2 H2 => wipe σ2 vs = wipe σ vs ∧ t σ2 H2 fun b H3 =>
        if b = true then te σ2 H3 fun y H4 => ∃ acc, H4 D = some (.lst acc) ∧ acc.length < sizeLine ∧ Nx (upd H4 D (.lst (acc ++ [y]))) else Nx H3)) (Itt K a') H1)) := by
  cases b with
  | true => exact ⟨a, rfl, .inl ⟨⟨xs, hx⟩, h _ (.inl ⟨rfl, rfl⟩)⟩⟩
  | false => exact ⟨a, rfl, .inr ⟨⟨xs, hx⟩, h _ (.inr ⟨rfl, rfl⟩)⟩⟩
theorem walk_seq {a : Addr} {b : Bool} {J : It} (h : J = Itl K a ∧ b = true ∨ J = Itt K a ∧ b = false) : Walk J xs.length (fun H => SqB K b H a xs) (YAt xs) := by
  rcases h with ⟨rfl, rfl⟩ | ⟨rfl, rfl⟩
  · exact walk_list
  · exact walk_tup
theorem el_lcS (f : Nat → Bool) (v : Nat → V) (h : EvS K tl σ H xs) (hz : xs.length ≤ 40000) (hw : ∀ x, wipe ((wipe σ vs).set j (some x)) vs = wipe σ vs)
    (ht : ∀ (i : Nat) (x : V) H1, Ex H H1 → xs[i]? = some x → EvT t ((wipe σ vs).set j (some x)) H1 (f i)) (he : ∀ (i : Nat) (x : V) H1, Ex H H1 → xs[i]? = some x → f i = true → Ev te ((wipe σ vs).set j (some x)) H1 (v i)) :
    EvL (tLc (iSeq K tl) (gName j) t te vs) σ H (given xs.length f v) := fun H0 e Q q => h H0 e _ fun b a H1 e1 hx => lc_seq hx fun J hJ Dl hD =>
  lc_it (walk_seq (xs := xs) hJ) (Cw H1 f v Dl) ⟨hD, Ex.new hD, upd_same⟩ (fun i H' _ p => hx.ex p.2.1) (fun i x H' H'' hi p y => by
    obtain ⟨rfl, hx⟩ := y
    exact ⟨hw x, cw_turn p (by omega) (ht i x H1 (e.trans e1) hx) (fun hf => he i x H1 (e.trans e1) hx hf)⟩)
    (fun H' p => q Dl H' (fresh_back e1 p.1) (e1.trans p.2.1) p.2.2)
theorem el_fS {α : Type} [Inhabited α] (c : α → V) (ys : List α) (p : α → Bool) (g : α → V) (h : EvS K tl σ H (ys.map c)) (hz : ys.length ≤ 40000)
    (ht : ∀ x ∈ ys, ∀ H1, Ex H H1 → EvT t ((wipe σ vs).set j (some (c x))) H1 (p x)) (he : ∀ x ∈ ys, p x = true → ∀ H1, Ex H H1 → Ev te ((wipe σ vs).set j (some (c x))) H1 (g x)) (hw : ∀ x, wipe ((wipe σ vs).set j (some x)) vs = wipe σ vs := by intro _; rfl) :
    EvL (tLc (iSeq K tl) (gName j) t te vs) σ H ((ys.filter p).map g) := by
  rw [← given_map]
  have gd : ∀ (i : Nat) (v : V), (ys.map c)[i]? = some v → ∃ x ∈ ys, ys.getD i default = x ∧ v = c x := fun i v e => by
    rw [List.getElem?_map] at e
    cases q : ys[i]? with
    | none => rw [q] at e; cases e
    | some x =>
      rw [q] at e
      exact ⟨x, List.mem_of_getElem? q, by rw [List.getD_eq_getElem?_getD, q]; rfl, (Option.some.inj e).symm⟩
  have q := el_lcS (K := K) (te := te) (t := t) (fun i => p (ys.getD i default)) (fun i => g (ys.getD i default)) h (by rw [List.length_map]; exact hz) hw (fun i v H1 e hi => by
    obtain ⟨x, hm, e1, rfl⟩ := gd i v hi
    rw [e1]
    exact ht x hm H1 e) (fun i v H1 e hi hp => by
    obtain ⟨x, hm, e1, rfl⟩ := gd i v hi
    rw [e1] at hp ⊢
    exact he x hm hp H1 e)
  rw [List.length_map] at q
  exact q
theorem el_mS {α : Type} [Inhabited α] (c : α → V) (ys : List α) (g : α → V) (h : EvS K tl σ H (ys.map c)) (hz : ys.length ≤ 40000)
    (he : ∀ x ∈ ys, ∀ H1, Ex H H1 → Ev te ((wipe σ vs).set j (some (c x))) H1 (g x)) (hw : ∀ x, wipe ((wipe σ vs).set j (some x)) vs = wipe σ vs := by intro _; rfl) : EvL (tLc (iSeq K tl) (gName j) tYes te vs) σ H (ys.map g) := by
  have q := el_fS (K := K) (t := tYes) (te := te) c ys (fun _ => true) g h hz (fun _ _ _ _ => et_yes) (fun x hx _ H1 e => he x hx H1 e) hw
  rw [List.filter_eq_self.mpr (fun _ _ => rfl)] at q
  exact q
variable {D : Ends} {tu tz : TS} {g : TG}
theorem s_forS (h : EvS K tl σ H xs) (Pv : Bool → Addr → Nat → L2.St → Hp → Prop) (h0 : ∀ b p H1, Ex H H1 → SqB K b H1 p xs → Pv b p 0 σ H1) (hl : ∀ b p i σ' H', i ≤ xs.length → Pv b p i σ' H' → SqB K b H' p xs)
    (hs : ∀ b p i x σ' H', xs[i]? = some x → Pv b p i σ' H' → g x σ' H' fun σ2 H2 => tu { D with nx := Pv b p (i + 1), ct := Pv b p (i + 1), bk := D.nx } σ2 H2) (hd : ∀ b p σ' H', Pv b p xs.length σ' H' → D.nx σ' H') : tFor (iSeq K tl) g tu D σ H :=
  h H (Ex.refl H) _ fun b p H1 e h1 => by
    have key : ∀ J, (J = Itl K p ∧ b = true ∨ J = Itt K p ∧ b = false) → ∃ W : Nat → Nat → L2.St → Hp → Prop, (∃ m, W 0 m σ H1) ∧ ∀ i m σ H, W i m σ H →
      (J.stop i H ∧ D.nx σ H) ∨ (J.go i H ∧ ∃ N : L2.St → Hp → Prop, (∀ σ' H', N σ' H' → ∃ m', m' < m ∧ W (i + 1) m' σ' H') ∧ ∀ x H', J.yld i H x H' → g x σ H' fun σ2 H2 => tu { D with nx := N, ct := N, bk := D.nx } σ2 H2) := fun J hJ =>
        for_it (walk_seq (xs := xs) hJ) (Pv b p) (h0 b p H1 e h1) (hl b p) (fun i x σ' H' H'' hi q y => by
          obtain ⟨rfl, hx⟩ := y
          exact hs b p i x σ' _ hx q) (hd b p)
    cases b with
    | true => exact ⟨p, rfl, .inl ⟨⟨xs, h1⟩, key _ (.inl ⟨rfl, rfl⟩)⟩⟩
    | false => exact ⟨p, rfl, .inr ⟨⟨xs, h1⟩, key _ (.inr ⟨rfl, rfl⟩)⟩⟩
theorem q_forS (h : EvS K tl σ H xs) (Pv : Bool → Addr → Nat → L2.St → Hp → Prop) (h0 : ∀ b p H1, Ex H H1 → SqB K b H1 p xs → Pv b p 0 σ H1) (hl : ∀ b p i σ' H', i ≤ xs.length → Pv b p i σ' H' → SqB K b H' p xs)
    (hs : ∀ b p i x σ' H', xs[i]? = some x → Pv b p i σ' H' → g x σ' H' fun σ2 H2 => tu { D with nx := Pv b p (i + 1), ct := Pv b p (i + 1), bk := tz D } σ2 H2) (hd : ∀ b p σ' H', Pv b p xs.length σ' H' → tz D σ' H') : tSeq (tFor (iSeq K tl) g tu) tz D σ H :=
  s_forS (D := { D with nx := tz D }) h Pv h0 hl hs hd
def sqO (b : Bool) (xs : List V) : HO := match b with
  | true => .lst xs
  | false => .tup xs
theorem sqO_b {K : PySem.W.Frag} {b : Bool} {H : Hp} {p : Addr} {xs : List V} (h : H p = some (sqO b xs)) : SqB K b H p xs := by
  cases b with
  | true => exact SqB.l h
  | false => exact SqB.t h
/-- a new list or tuple of xs -/
def EvSN (te : TE) (σ : L2.St) (H : Hp) (xs : List V) : Prop := ∀ H1, Ex H H1 → ∀ Q : VK, (∀ b p H2, H1 p = none → Ex H1 H2 → H2 p = some (sqO b xs) → Q (.ref p) H2) → te σ H1 Q
theorem esn_sl {tlo thi : TO} {lo hi : Option Int} (h : EvS K te σ H xs) (h1 : EvO tlo σ H lo) (h2 : EvO thi σ H hi) (hn : ¬ (HT.sIx xs.length 0 lo = 0 ∧ HT.sIx xs.length xs.length hi = xs.length)) : EvSN (tSl (rSlS K) te tlo thi) σ H (cutV xs lo hi) := fun H1 e Q q =>
  h H1 e _ fun b p H2 e2 hp => h1 H2 (e.trans e2) _ fun H3 e3 => h2 H3 ((e.trans e2).trans e3) _ fun H4 e4 => by
    cases b with
    | true => exact .inl ⟨p, xs, rfl, (hp.ex (e3.trans e4) : SqB K true H4 p xs), fun r hr => q true r _ (fresh_back ((e2.trans e3).trans e4) hr) (((e2.trans e3).trans e4).trans (Ex.new hr)) upd_same⟩
    | false => exact .inr ⟨p, xs, rfl, (hp.ex (e3.trans e4) : SqB K false H4 p xs), hn, fun r hr => q false r _ (fresh_back ((e2.trans e3).trans e4) hr) (((e2.trans e3).trans e4).trans (Ex.new hr)) upd_same⟩
theorem s_forSN (h : EvSN tl σ H xs) (Pv : Bool → Addr → Nat → L2.St → Hp → Prop) (h0 : ∀ b p H1, H p = none → Ex H H1 → H1 p = some (sqO b xs) → Pv b p 0 σ H1) (hl : ∀ b p i σ' H', i ≤ xs.length → Pv b p i σ' H' → H' p = some (sqO b xs))
    (hs : ∀ b p i x σ' H', xs[i]? = some x → Pv b p i σ' H' → g x σ' H' fun σ2 H2 => tu { D with nx := Pv b p (i + 1), ct := Pv b p (i + 1), bk := D.nx } σ2 H2) (hd : ∀ b p σ' H', Pv b p xs.length σ' H' → D.nx σ' H') : tFor (iSeq K tl) g tu D σ H :=
  h H (Ex.refl H) _ fun b p H1 hn e h1 => by
    have key : ∀ J, (J = Itl K p ∧ b = true ∨ J = Itt K p ∧ b = false) → ∃ W : Nat → Nat → L2.St → Hp → Prop, (∃ m, W 0 m σ H1) ∧ ∀ i m σ H, W i m σ H →
      (J.stop i H ∧ D.nx σ H) ∨ (J.go i H ∧ ∃ N : L2.St → Hp → Prop, (∀ σ' H', N σ' H' → ∃ m', m' < m ∧ W (i + 1) m' σ' H') ∧ ∀ x H', J.yld i H x H' → g x σ H' fun σ2 H2 => tu { D with nx := N, ct := N, bk := D.nx } σ2 H2) := fun J hJ =>
        for_it (walk_seq (xs := xs) hJ) (Pv b p) (h0 b p H1 hn e h1) (fun i σ' H' hi q => sqO_b (hl b p i σ' H' hi q)) (fun i x σ' H' H'' hi q y => by
          obtain ⟨rfl, hx⟩ := y
          exact hs b p i x σ' _ hx q) (hd b p)
    cases b with
    | true => exact ⟨p, rfl, .inl ⟨⟨xs, sq_of h1⟩, key _ (.inl ⟨rfl, rfl⟩)⟩⟩
    | false => exact ⟨p, rfl, .inr ⟨⟨xs, st_of h1⟩, key _ (.inr ⟨rfl, rfl⟩)⟩⟩
theorem q_forSN (h : EvSN tl σ H xs) (Pv : Bool → Addr → Nat → L2.St → Hp → Prop) (h0 : ∀ b p H1, H p = none → Ex H H1 → H1 p = some (sqO b xs) → Pv b p 0 σ H1) (hl : ∀ b p i σ' H', i ≤ xs.length → Pv b p i σ' H' → H' p = some (sqO b xs))
    (hs : ∀ b p i x σ' H', xs[i]? = some x → Pv b p i σ' H' → g x σ' H' fun σ2 H2 => tu { D with nx := Pv b p (i + 1), ct := Pv b p (i + 1), bk := tz D } σ2 H2) (hd : ∀ b p σ' H', Pv b p xs.length σ' H' → tz D σ' H') : tSeq (tFor (iSeq K tl) g tu) tz D σ H :=
  s_forSN (D := { D with nx := tz D }) h Pv h0 hl hs hd
/-- the left part of an operation, first -/
theorem q_opL {i : Nat} {r : R2} {xs : List V} (h : EvL ta σ H xs) (k : ∀ p H1, H p = none → Ex H H1 → H1 p = some (.lst xs) → tb σ H1 fun y H2 => r (.ref p) y H2 fun v H3 => tz D (σ.set i (some v)) H3) : tSeq (tAsg (tOp r ta tb) (gName i)) tz D σ H := h H (Ex.refl H) _ fun p H1 hp e h1 => k p H1 hp e h1
/-! ### texts as values -/
def rLenStr : List V → Hp → VK → Prop := fun xs H Q => ∃ z : Str, xs = [.str z] ∧ z.length ≤ sizeLine ∧ Q (.int z.length) H
theorem ev_lenStr {z : Str} (h : Ev te σ H (.str z)) (hz : z.length ≤ 100000) : Ev (tCB rLenStr (tCons te tNil)) σ H (.int (z.length : Int)) := ev_cb (ea_cons h ea_nil) fun H1 _ Q q => ⟨z, rfl, sz_of hz, q H1 (Ex.refl H1)⟩
def rAddS : R2 := fun x y H Q => ∃ i j : Str, x = .str i ∧ y = .str j ∧ i.length + j.length ≤ sizeLine ∧ Q (.str (i ++ j)) H
theorem rv_addS {a b : Str} (hz : a.length + b.length ≤ 100000) : RV rAddS (.str a) (.str b) H (.str (a ++ b)) := fun H1 _ Q q => ⟨a, b, rfl, rfl, sz_of hz, q H1 (Ex.refl H1)⟩
def rJoin (K : PySem.W.Frag) : V → List V → Hp → VK → Prop := fun x xs H Q => ∃ a p, ∃ ys : List Str, x = .str a ∧ xs = [.ref p] ∧ (SqL K H p (ys.map V.str) ∨ SqT K H p (ys.map V.str)) ∧ (ys.map (·.length)).sum + ys.length * a.length ≤ 16777216 ∧ Q (.str (Txt.join a ys)) H
theorem ev_join {a : Str} {ys : List Str} (ha : Ev ta σ H (.str a)) (h : EvS K tb σ H (ys.map V.str)) (hz : (ys.map (·.length)).sum + ys.length * a.length ≤ 16777216) : Ev (tM1 (rJoin K) ta tb) σ H (.str (Str.join a ys)) := fun H1 e Q q =>
  ha H1 e _ fun H2 e2 => ⟨⟨a, rfl⟩, h H2 (e.trans e2) _ fun b p H3 e3 hp => ⟨a, p, ys, rfl, rfl, hp.or, hz, by rw [TL.join_eq]; exact q H3 (e2.trans e3)⟩⟩
def rSplit : V → List V → Hp → VK → Prop := fun x xs H Q => ∃ a b, x = .str a ∧ xs = [.str b] ∧ (b.length == 0) = false ∧ a.length + 2 ≤ sizeLine ∧ rNewStrs (Txt.split a b) H Q
theorem el_split {a b : Str} (ha : Ev ta σ H (.str a)) (hb : Ev tb σ H (.str b)) (h0 : (b.length == 0) = false) (hz : a.length ≤ 10000) : EvL (tM1 rSplit ta tb) σ H ((Txt.split a b).map V.str) := fun H1 e Q q =>
  ha H1 e _ fun H2 e2 => ⟨⟨a, rfl⟩, hb H2 (e.trans e2) _ fun H3 e3 => ⟨a, b, rfl, rfl, h0, sz_of (by omega), fun p np => q p _ (fresh_back (e2.trans e3) np) ((e2.trans e3).trans (Ex.new np)) upd_same⟩⟩
theorem ev_ixN0 {v : V} {vs : List V} (ha : EvL ta σ H (v :: vs)) : Ev (tOp (rIxL K) ta (tC (.int 0))) σ H v := ev_opL1 ha (fun _ _ => ev_c) fun p H1 h e => rv_ixL (sq_of h) (atI_nat (j := 0) rfl)
end
section
variable {X : Cx} {K : PySem.W.Frag} {o e : Expr} {to te : TE}
theorem pe_joinK {apos pos : Pos} (k : X.K = K) (ho : PE X o to) (he : PE X e te) (hs : starEach [e] X.env = [(false, eval e X.env)] := by rfl) (hbase : attributeBase o "join" X.env (eval o X.env) = eval o X.env := by rfl) (hline : (apos.endLine == pos.line) = true := by rfl) :
    PE X (.Call (.Attribute o "join" apos) [e] [] pos) (tM1 (rJoin K) to te) := by
  subst k
  exact pe_join ho he hs hbase hline
end
/-! ### chains of comparisons; calls with a new list -/
section
variable {σ : L2.St} {H : Hp} {ta tb tc : TE} {r r' : R2} {x y z v : V}
theorem ev_chain {k k' : Bool} (ha : Ev ta σ H x) (hb : Ev tb σ H y) (hr : RV r x y H (.bl k)) (hc : k = true → Ev tc σ H z) (hr' : k = true → RV r' y z H (.bl k')) : Ev (tChain r r' ta tb tc) σ H (.bl (k && k')) := fun H1 e Q q =>
  ha H1 e _ fun H2 e2 => hb H2 (e.trans e2) _ fun H3 e3 => hr H3 ((e.trans e2).trans e3) _ fun H4 e4 => ⟨k, rfl, by
    cases k with
    | true => exact hc rfl H4 (((e.trans e2).trans e3).trans e4) _ fun H5 e5 => hr' rfl H5 ((((e.trans e2).trans e3).trans e4).trans e5) Q fun H6 e6 => q H6 ((((e2.trans e3).trans e4).trans e5).trans e6)
    | false => exact q H4 ((e2.trans e3).trans e4)⟩
theorem ev_ownL {sp : Sp} {te : TE} {tr : TA} {xs vs : List V} (h : EvL te σ H xs) (hr : ∀ p H1, H1 p = some (.lst xs) → Ex H H1 → EvA tr σ H1 vs) (hs : ∀ p H1, H1 p = some (.lst xs) → Ex H H1 → SpV sp (.ref p :: vs) H1 z) : Ev (tOwn sp (tCons te tr)) σ H z := fun H1 e Q q =>
  h H1 e _ fun p H2 _ e2 hp => hr p H2 hp (e.trans e2) H2 (Ex.refl H2) _ fun H3 e3 => hs p H3 (e3 _ _ hp) ((e.trans e2).trans e3) H3 (Ex.refl H3) Q (fun H4 e4 => q H4 ((e2.trans e3).trans e4)) E0
end
/-! ### tests of which nothing is told -/
def EvB (tt : TT) (σ : L2.St) (H : Hp) : Prop := ∀ H1, Ex H H1 → ∀ Q : Bool → Hp → Prop, (∀ b H2, Ex H1 H2 → Q b H2) → tt σ H1 Q
section
variable {σ : L2.St} {H : Hp} {t u : TT}
theorem eb_of {b : Bool} (h : EvT t σ H b) : EvB t σ H := fun H1 e Q q => h H1 e Q fun H2 e2 => q b H2 e2
theorem eb_and (h1 : EvB t σ H) (h2 : EvB u σ H) : EvB (tAnd t u) σ H := fun H1 e Q q => h1 H1 e _ fun b H2 e2 => by
  cases b with
  | true => exact h2 H2 (e.trans e2) _ fun b H3 e3 => q b H3 (e2.trans e3)
  | false => exact q false H2 e2
theorem eb_or (h1 : EvB t σ H) (h2 : EvB u σ H) : EvB (tOr t u) σ H := fun H1 e Q q => h1 H1 e _ fun b H2 e2 => by
  cases b with
  | true => exact q true H2 e2
  | false => exact h2 H2 (e.trans e2) _ fun b H3 e3 => q b H3 (e2.trans e3)
theorem eb_not (h1 : EvB t σ H) : EvB (tNot t) σ H := fun H1 e Q q => h1 H1 e _ fun b H2 e2 => q _ H2 e2
theorem goB {Q : Bool → Hp → Prop} (h : EvB t σ H) (k : ∀ b H1, Ex H H1 → Q b H1) : t σ H Q := h H (Ex.refl H) Q k
end
theorem goAnd {σ : L2.St} {H : Hp} {t u : TT} {b0 : Bool} {Q : Bool → Hp → Prop} (h1 : EvT t σ H b0) (h2 : EvB u σ H) (k : ∀ b H1, (b = true → b0 = true) → Ex H H1 → Q b H1) : tAnd t u σ H Q := h1 H (Ex.refl H) _ fun H2 e2 => by
  cases b0 with
  | true => exact h2 H2 e2 _ fun b H3 e3 => k b H3 (fun _ => rfl) (e2.trans e3)
  | false => exact k false H2 (fun h => h) e2
/-! ### greedy lines, as lists of words -/
def sp : Str := " "
theorem sp_len : sp.length = 1 := by decide
theorem join_cons2 (a x y : Str) (r : List Str) : Str.join a (x :: y :: r) = x ++ a ++ Str.join a (y :: r) := rfl
theorem join_snoc (a w : Str) : ∀ (xs : List Str), xs ≠ [] → Str.join a (xs ++ [w]) = Str.join a xs ++ a ++ w
  | [], h => absurd rfl h
  | [x], _ => rfl
  | x :: y :: r, _ => by
    show x ++ a ++ Str.join a (y :: (r ++ [w])) = x ++ a ++ Str.join a (y :: r) ++ a ++ w
    have := join_snoc a w (y :: r) (by simp)
    rw [List.cons_append] at this
    rw [this]
    simp only [Str.append_assoc]
def lsum (xs : List Str) : Nat := (xs.map (·.length)).sum
theorem join_len (a : Str) : ∀ xs : List Str, (Str.join a xs).length = lsum xs + (xs.length - 1) * a.length
  | [] => by show (0 : Nat) = 0 + (0 - 1) * _; rw [Nat.zero_sub, Nat.zero_mul]
  | [x] => by show x.length = x.length + 0 + (1 - 1) * _; rw [Nat.sub_self, Nat.zero_mul]; rfl
  | x :: y :: r => by
    rw [join_cons2, Str.length_append, Str.length_append, join_len a (y :: r)]
    have : lsum (x :: y :: r) = x.length + lsum (y :: r) := by unfold lsum; simp
    rw [this]
    simp only [List.length_cons, Nat.add_sub_cancel]
    rw [Nat.add_mul (r.length) 1 a.length]
    omega
end M
namespace M
open PySem PySem.Spec PyProof.Rows L2 Evl
/-! ### plain data -/
mutual
theorem Dp.ex {K : PySem.W.Frag} {H H' : Hp} (e : Ex H H') : ∀ (d : PyData) (v : V), Dp K H v d → Dp K H' v d
  | .none, _, h => by cases h; exact .non
  | .bool b, _, h => by cases h; exact .bl b
  | .int i, _, h => by cases h; exact .int i
  | .str x, _, h => by cases h; exact .str x
  | .list ds, _, h => by
    cases h with
    | lst hs ha => exact .lst (ex_l e hs) (DpAll.ex e ds _ ha)
  | .tuple ds, _, h => by
    cases h with
    | tup hs ha => exact .tup (ex_t e hs) (DpAll.ex e ds _ ha)
  | .dict _, _, h => by cases h
theorem DpAll.ex {K : PySem.W.Frag} {H H' : Hp} (e : Ex H H') : ∀ (ds : List PyData) (vs : List V), DpAll K H vs ds → DpAll K H' vs ds
  | [], _, h => by cases h; exact .nil
  | d :: ds, _, h => by
    cases h with
    | cons h1 h2 => exact .cons (Dp.ex e d _ h1) (DpAll.ex e ds _ h2)
end
theorem dpAll_map {α : Type} {K : PySem.W.Frag} {H : Hp} (f : α → V) (g : α → PyData) : ∀ (l : List α), (∀ x ∈ l, Dp K H (f x) (g x)) → DpAll K H (l.map f) (l.map g)
  | [], _ => .nil
  | x :: l, h => .cons (h x List.mem_cons_self) (dpAll_map f g l fun y hy => h y (List.mem_cons_of_mem _ hy))
theorem dpAll_of {K : PySem.W.Frag} {H : Hp} : ∀ (vs : List V) (ds : List PyData), vs.length = ds.length → (∀ i, i < ds.length → Dp K H (vs.getD i .non) (ds.getD i .none)) → DpAll K H vs ds
  | [], [], _, _ => .nil
  | v :: vs, d :: ds, hl, h => .cons (h 0 (Nat.succ_pos _)) (dpAll_of vs ds (Nat.succ.inj hl) fun i hi => h (i + 1) (Nat.succ_lt_succ hi))
/-! no truth values and no dicts within -/
mutual
def good : PyData → Bool
  | .none | .int _ => true
  | .str x => PyData.canLay0 (.str x)
  | .list xs | .tuple xs => goodAll xs
  | .bool _ | .dict _ => false
def goodAll : List PyData → Bool
  | [] => true
  | x :: xs => good x && goodAll xs
end
mutual
theorem good_lay : ∀ d : PyData, good d = true → d.canLay0 = true
  | .none, _ => by simp [PyData.canLay0]
  | .int _, _ => by simp [PyData.canLay0]
  | .str _, h => by simpa [good] using h
  | .list xs, h => by simp only [PyData.canLay0]; exact goodAll_lay xs (by simpa [good] using h)
  | .tuple xs, h => by simp only [PyData.canLay0]; exact goodAll_lay xs (by simpa [good] using h)
theorem goodAll_lay : ∀ ds : List PyData, goodAll ds = true → PyData.canLayAll0 ds = true
  | [], _ => by simp [PyData.canLayAll0]
  | d :: ds, h => by
    simp only [goodAll, Bool.and_eq_true] at h
    simp only [PyData.canLayAll0, Bool.and_eq_true]
    exact ⟨good_lay d h.1, goodAll_lay ds h.2⟩
end
mutual
theorem eqv_good : ∀ d e : PyData, good d = true → good e = true → (PyData.eqv d e = true ↔ d = e)
  | .none, e, _, he => by cases e <;> simp [PyData.eqv, good] at he ⊢
  | .int i, e, _, he => by cases e <;> simp [PyData.eqv, good] at he ⊢
  | .str x, e, _, he => by cases e <;> simp [PyData.eqv, good] at he ⊢
  | .list xs, e, hd, he => by
    cases e with
    | list ys =>
      simp only [PyData.eqv, PyData.list.injEq]
      exact eqvAll_good xs ys (by simpa [good] using hd) (by simpa [good] using he)
    | _ => simp [PyData.eqv]
  | .tuple xs, e, hd, he => by
    cases e with
    | tuple ys =>
      simp only [PyData.eqv, PyData.tuple.injEq]
      exact eqvAll_good xs ys (by simpa [good] using hd) (by simpa [good] using he)
    | _ => simp [PyData.eqv]
theorem eqvAll_good : ∀ ds es : List PyData, goodAll ds = true → goodAll es = true → (PyData.eqvAll ds es = true ↔ ds = es)
  | [], [], _, _ => by simp [PyData.eqvAll]
  | [], _ :: _, _, _ => by simp [PyData.eqvAll]
  | _ :: _, [], _, _ => by simp [PyData.eqvAll]
  | d :: ds, e :: es, h1, h2 => by
    simp only [goodAll, Bool.and_eq_true] at h1 h2
    simp only [PyData.eqvAll, Bool.and_eq_true, List.cons.injEq]
    rw [eqv_good d e h1.1 h2.1, eqvAll_good ds es h1.2 h2.2]
end
theorem goodAll_of : ∀ {ds : List PyData}, (∀ d ∈ ds, good d = true) → goodAll ds = true
  | [], _ => by simp [goodAll]
  | d :: ds, h => by
    simp only [goodAll, Bool.and_eq_true]
    exact ⟨h d List.mem_cons_self, goodAll_of fun x hx => h x (List.mem_cons_of_mem _ hx)⟩
theorem depthAll_of {n : Nat} : ∀ {ds : List PyData}, (∀ d ∈ ds, d.depth ≤ n) → PyData.depthAll ds ≤ n
  | [], _ => by simp [PyData.depthAll]
  | d :: ds, h => by
    simp only [PyData.depthAll]
    have h1 := h d List.mem_cons_self
    have h2 := depthAll_of fun x hx => h x (List.mem_cons_of_mem _ hx)
    omega
/-- good data, not deep -/
structure Gd (n : Nat) (d : PyData) : Prop where
  g : good d = true
  dp : d.depth ≤ n
theorem Gd.shaped {n : Nat} {d : PyData} (h : Gd n d) (hn : n ≤ 64) : SeqAt.shaped d = true := by
  show (d.canLay0 && decide (d.depth ≤ 64)) = true
  rw [Bool.and_eq_true]
  exact ⟨good_lay d h.g, decide_eq_true (by have := h.dp; omega)⟩
theorem gd_int {n : Nat} (i : Int) : Gd n (.int i) := ⟨by simp [good], by simp [PyData.depth]⟩
theorem gd_non {n : Nat} : Gd n .none := ⟨by simp [good], by simp [PyData.depth]⟩
theorem gd_str {n : Nat} {x : Str} (h : PyData.canLay0 (.str x) = true) : Gd n (.str x) := ⟨by simpa [good] using h, by simp [PyData.depth]⟩
theorem gd_lst {n : Nat} {ds : List PyData} (h : ∀ d ∈ ds, Gd n d) : Gd (n + 1) (.list ds) := ⟨by simp only [good]; exact goodAll_of fun d hd => (h d hd).g, by simp only [PyData.depth]; have := depthAll_of fun d hd => (h d hd).dp; omega⟩
theorem gd_tup {n : Nat} {ds : List PyData} (h : ∀ d ∈ ds, Gd n d) : Gd (n + 1) (.tuple ds) := ⟨by simp only [good]; exact goodAll_of fun d hd => (h d hd).g, by simp only [PyData.depth]; have := depthAll_of fun d hd => (h d hd).dp; omega⟩
theorem gd_lstM {α : Type} {n : Nat} {g : α → PyData} {l : List α} (h : ∀ x ∈ l, Gd n (g x)) : Gd (n + 1) (.list (l.map g)) := gd_lst fun d hd => by
  obtain ⟨x, hx, rfl⟩ := List.mem_map.mp hd
  exact h x hx
theorem gd_tupM {α : Type} {n : Nat} {g : α → PyData} {l : List α} (h : ∀ x ∈ l, Gd n (g x)) : Gd (n + 1) (.tuple (l.map g)) := gd_tup fun d hd => by
  obtain ⟨x, hx, rfl⟩ := List.mem_map.mp hd
  exact h x hx
theorem eqv_dec {n m : Nat} {d e : PyData} {p : Prop} [Decidable p] (hd : Gd n d) (he : Gd m e) (h : d = e ↔ p) : PyData.eqv d e = decide p := by
  rw [Bool.eq_iff_iff, eqv_good d e hd.g he.g, h, decide_eq_true_iff]
theorem eqv_same {n : Nat} {d : PyData} (hd : Gd n d) : PyData.eqv d d = true := (eqv_good d d hd.g hd.g).mpr rfl
section
variable {K : PySem.W.Frag} {σ : L2.St} {H : Hp} {ta tb : TE} {x y : V} {d e : PyData} {ds : List PyData} {n m : Nat}
theorem rv_eqD (hx : Dp K H x d) (hy : Dp K H y e) (gd : Gd n d) (ge : Gd m e) (hn : n ≤ 64 := by decide) (hm : m ≤ 64 := by decide) : RV (rEqD K) x y H (.bl (PyData.eqv d e)) := fun H1 a Q q =>
  ⟨d, e, Dp.ex a d _ hx, Dp.ex a e _ hy, gd.shaped hn, ge.shaped hm, q H1 (Ex.refl H1)⟩
theorem rv_neD (hx : Dp K H x d) (hy : Dp K H y e) (gd : Gd n d) (ge : Gd m e) (hn : n ≤ 64 := by decide) (hm : m ≤ 64 := by decide) : RV (rNeD K) x y H (.bl (!PyData.eqv d e)) := fun H1 a Q q =>
  ⟨d, e, Dp.ex a d _ hx, Dp.ex a e _ hy, gd.shaped hn, ge.shaped hm, q H1 (Ex.refl H1)⟩
theorem rv_inD (hx : Dp K H x d) (hy : Dp K H y (.list ds)) (gd : Gd n d) (ge : Gd m (.list ds)) (hn : n ≤ 64 := by decide) (hm : m ≤ 64 := by decide) : RV (rInD K) x y H (.bl (ds.any fun z => PyData.eqv z d)) := fun H1 a Q q =>
  ⟨d, ds, Dp.ex a d _ hx, Dp.ex a (.list ds) _ hy, gd.shaped hn, ge.shaped hm, q H1 (Ex.refl H1)⟩
theorem rv_niD (hx : Dp K H x d) (hy : Dp K H y (.list ds)) (gd : Gd n d) (ge : Gd m (.list ds)) (hn : n ≤ 64 := by decide) (hm : m ≤ 64 := by decide) : RV (rNotInD K) x y H (.bl (!ds.any fun z => PyData.eqv z d)) := fun H1 a Q q =>
  ⟨d, ds, Dp.ex a d _ hx, Dp.ex a (.list ds) _ hy, gd.shaped hn, ge.shaped hm, q H1 (Ex.refl H1)⟩
/-- not equal to the empty list -/
theorem rv_neNil {a : Addr} (hx : Dp K H (.ref a) (.list ds)) (gd : Gd n (.list ds)) (hn : n ≤ 64 := by decide) {b : Addr} (hb : H b = some (.lst [])) : RV (rNeD K) (.ref a) (.ref b) H (.bl (!decide (ds = []))) := by
  have h0 : Gd 1 (.list []) := gd_lst fun _ h => nomatch h
  have e : PyData.eqv (.list ds) (.list []) = decide (ds = []) := eqv_dec gd h0 (by rw [PyData.list.injEq])
  rw [← e]
  exact rv_neD hx (.lst (sq_of hb) .nil) gd h0 hn
end
/-- pairs of whole numbers -/
def ipD (z : Int × Int) : PyData := .tuple [.int z.1, .int z.2]
theorem ipD_gd (z : Int × Int) : Gd 1 (ipD z) := gd_tup fun d hd => by
  rcases List.mem_cons.mp hd with rfl | hd
  · exact gd_int _
  · rw [List.mem_singleton.mp hd]; exact gd_int _
theorem ipD_inj {z w : Int × Int} : ipD z = ipD w ↔ z = w := by
  unfold ipD
  obtain ⟨a, b⟩ := z
  obtain ⟨c, d⟩ := w
  simp
theorem dp_ip {K : PySem.W.Frag} {H : Hp} {t : Addr} {z : Int × Int} (h : H t = some (.tup [.int z.1, .int z.2])) : Dp K H (.ref t) (ipD z) := .tup (st_of h) (.cons (.int _) (.cons (.int _) .nil))
theorem map_inj {α β : Type} {f : α → β} (h : ∀ x y, f x = f y → x = y) : ∀ {l l' : List α}, l.map f = l'.map f ↔ l = l'
  | [], [] => by simp
  | [], _ :: _ => by simp
  | _ :: _, [] => by simp
  | a :: l, b :: l' => by
    rw [List.map_cons, List.map_cons, List.cons.injEq, List.cons.injEq, map_inj h]
    exact ⟨fun ⟨x, y⟩ => ⟨h _ _ x, y⟩, fun ⟨x, y⟩ => ⟨by rw [x], y⟩⟩
theorem strD_inj {xs ys : List Str} : xs.map PyData.str = ys.map PyData.str ↔ xs = ys := map_inj fun x y h => by injection h
theorem dp_strs {K : PySem.W.Frag} {H : Hp} {p : Addr} {xs : List Str} (h : SqL K H p (xs.map V.str)) : Dp K H (.ref p) (.list (xs.map PyData.str)) := .lst h (dpAll_map _ _ _ fun x _ => .str x)
theorem dp_strsT {K : PySem.W.Frag} {H : Hp} {p : Addr} {xs : List Str} (h : SqT K H p (xs.map V.str)) : Dp K H (.ref p) (.tuple (xs.map PyData.str)) := .tup h (dpAll_map _ _ _ fun x _ => .str x)
theorem dp_ints {K : PySem.W.Frag} {H : Hp} {p : Addr} {xs : List Int} (h : SqL K H p (xs.map V.int)) : Dp K H (.ref p) (.list (xs.map PyData.int)) := .lst h (dpAll_map _ _ _ fun x _ => .int x)
theorem intD_inj {xs ys : List Int} : xs.map PyData.int = ys.map PyData.int ↔ xs = ys := map_inj fun x y h => by injection h
end M
namespace M
open PySem PySem.Spec PyProof.Rows L2 Evl
def ln (w : Str) : Int := (w.length : Int)
theorem ln_nonneg (w : Str) : 0 ≤ ln w := by unfold ln; omega
def txt (g : List Str) : Str := Str.join sp g
def L (g : List Str) : Int := ln (txt g)
theorem L_one (w : Str) : L [w] = ln w := rfl
theorem txt_snoc (g : List Str) (w : Str) (h : g ≠ []) : txt (g ++ [w]) = txt g ++ sp ++ w := join_snoc sp w g h
theorem L_snoc (g : List Str) (w : Str) (h : g ≠ []) : L (g ++ [w]) = L g + 1 + ln w := by
  unfold L ln
  rw [txt_snoc g w h, Str.length_append, Str.length_append, sp_len]
  omega
theorem L_nonneg (g : List Str) : 0 ≤ L g := ln_nonneg _
theorem L_pre (g : List Str) (h : g ≠ []) : ∀ s, L g ≤ L (g ++ s)
  | [] => by rw [List.append_nil]; exact Int.le_refl _
  | w :: s => by
    have := L_pre (g ++ [w]) (by simp) s
    rw [List.append_assoc, List.singleton_append] at this
    rw [L_snoc g w h] at this
    have := ln_nonneg w
    omega
def gg (m : Int) : List Str → List Str → List (List Str)
  | cur, [] => [cur]
  | cur, w :: ws => if L cur + 1 + ln w ≤ m then gg m (cur ++ [w]) ws else cur :: gg m [w] ws
theorem gg_nil (m : Int) (cur : List Str) : gg m cur [] = [cur] := rfl
theorem gg_join {m : Int} {cur ws : List Str} {w : Str} (h : L cur + 1 + ln w ≤ m) : gg m cur (w :: ws) = gg m (cur ++ [w]) ws := by
  show (if _ then _ else _) = _
  rw [if_pos h]
theorem gg_break {m : Int} {cur ws : List Str} {w : Str} (h : ¬ L cur + 1 + ln w ≤ m) : gg m cur (w :: ws) = cur :: gg m [w] ws := by
  show (if _ then _ else _) = _
  rw [if_neg h]
def gstep (m : Int) (st : List (List Str) × List Str) (w : Str) : List (List Str) × List Str := if L st.2 + 1 + ln w ≤ m then (st.1, st.2 ++ [w]) else (st.1 ++ [st.2], [w])
theorem gfold (m : Int) : ∀ (ws : List Str) (ls : List (List Str)) (cur : List Str), (ws.foldl (gstep m) (ls, cur)).1 ++ [(ws.foldl (gstep m) (ls, cur)).2] = ls ++ gg m cur ws
  | [], ls, cur => rfl
  | w :: ws, ls, cur => by
    rw [List.foldl_cons]
    by_cases h : L cur + 1 + ln w ≤ m
    · rw [show gstep m (ls, cur) w = (ls, cur ++ [w]) from if_pos h, gg_join h]
      exact gfold m ws ls _
    · rw [show gstep m (ls, cur) w = (ls ++ [cur], [w]) from if_neg h, gg_break h, gfold m ws _ _, List.append_assoc]
      rfl
theorem gfold_ne (m : Int) : ∀ (ws : List Str) (st : List (List Str) × List Str), st.2 ≠ [] → (ws.foldl (gstep m) st).2 ≠ []
  | [], st, h => h
  | w :: ws, st, h => by
    rw [List.foldl_cons]
    refine gfold_ne m ws _ ?_
    unfold gstep
    split <;> simp
theorem gg_head (m : Int) : ∀ (ws cur : List Str), ∃ s r, gg m cur ws = (cur ++ s) :: r
  | [], cur => ⟨[], [], by rw [List.append_nil]; rfl⟩
  | w :: ws, cur => by
    by_cases h : L cur + 1 + ln w ≤ m
    · obtain ⟨s, r, e⟩ := gg_head m ws (cur ++ [w])
      exact ⟨w :: s, r, by rw [gg_join h, e, List.append_assoc]; rfl⟩
    · exact ⟨[], gg m [w] ws, by rw [gg_break h, List.append_nil]⟩
theorem gg_flat (m : Int) : ∀ (ws cur : List Str), (gg m cur ws).flatten = cur ++ ws
  | [], cur => by simp [gg_nil]
  | w :: ws, cur => by
    by_cases h : L cur + 1 + ln w ≤ m
    · rw [gg_join h, gg_flat m ws, List.append_assoc]; rfl
    · rw [gg_break h, List.flatten_cons, gg_flat m ws]; rfl
theorem gg_ne (m : Int) : ∀ (ws cur : List Str), cur ≠ [] → ∀ g ∈ gg m cur ws, g ≠ []
  | [], cur, h, g, hg => by rw [gg_nil, List.mem_singleton] at hg; rw [hg]; exact h
  | w :: ws, cur, h, g, hg => by
    by_cases hj : L cur + 1 + ln w ≤ m
    · rw [gg_join hj] at hg; exact gg_ne m ws _ (by simp) g hg
    · rw [gg_break hj] at hg
      rcases List.mem_cons.mp hg with rfl | hg
      · exact h
      · exact gg_ne m ws _ (by simp) g hg
theorem gg_pos (m : Int) (ws cur : List Str) : 0 < (gg m cur ws).length := by
  obtain ⟨s, r, e⟩ := gg_head m ws cur
  rw [e, List.length_cons]; omega
theorem gg_len (m : Int) : ∀ (ws cur : List Str), (gg m cur ws).length ≤ ws.length + 1
  | [], cur => Nat.le_refl _
  | w :: ws, cur => by
    by_cases h : L cur + 1 + ln w ≤ m
    · rw [gg_join h]; have := gg_len m ws (cur ++ [w]); rw [List.length_cons]; omega
    · rw [gg_break h]; have := gg_len m ws [w]; rw [List.length_cons, List.length_cons]; omega
theorem gg_le (m : Int) : ∀ (ws cur : List Str), cur ≠ [] → L cur ≤ m → (∀ w ∈ ws, ln w ≤ m) → ∀ g ∈ gg m cur ws, L g ≤ m
  | [], cur, _, h, _, g, hg => by rw [gg_nil, List.mem_singleton] at hg; rw [hg]; exact h
  | w :: ws, cur, hc, h, hw, g, hg => by
    by_cases hj : L cur + 1 + ln w ≤ m
    · rw [gg_join hj] at hg; exact gg_le m ws _ (by simp) (by rw [L_snoc _ _ hc]; exact hj) (fun x hx => hw x (List.mem_cons_of_mem _ hx)) g hg
    · rw [gg_break hj] at hg
      rcases List.mem_cons.mp hg with rfl | hg
      · exact h
      · exact gg_le m ws [w] (by simp) (hw w List.mem_cons_self) (fun x hx => hw x (List.mem_cons_of_mem _ hx)) g hg
/-- each word stands in a line -/
theorem gg_word (m : Int) : ∀ (ws cur : List Str), cur ≠ [] → (∀ w ∈ ws, ∃ g ∈ gg m cur ws, ln w ≤ L g)
  | [], cur, _, w, hw => nomatch hw
  | x :: ws, cur, hc, w, hw => by
    by_cases hj : L cur + 1 + ln x ≤ m
    · rw [gg_join hj]
      rcases List.mem_cons.mp hw with rfl | hw
      · obtain ⟨s, r, e⟩ := gg_head m ws (cur ++ [w])
        refine ⟨_, by rw [e]; exact List.mem_cons_self, ?_⟩
        have h1 := L_pre (cur ++ [w]) (by simp) s
        rw [L_snoc _ _ hc] at h1
        have := L_nonneg cur
        omega
      · exact gg_word m ws _ (by simp) w hw
    · rw [gg_break hj]
      rcases List.mem_cons.mp hw with rfl | hw
      · obtain ⟨s, r, e⟩ := gg_head m ws [w]
        exact ⟨_, List.mem_cons_of_mem _ (by rw [e]; exact List.mem_cons_self), by have := L_pre [w] (by simp) s; rw [L_one] at this; exact this⟩
      · obtain ⟨g, hg, h⟩ := gg_word m ws [x] (by simp) w hw
        exact ⟨g, List.mem_cons_of_mem _ hg, h⟩
theorem gg_cur (m : Int) (ws cur : List Str) (hc : cur ≠ []) : ∃ g ∈ gg m cur ws, L cur ≤ L g := by
  obtain ⟨s, r, e⟩ := gg_head m ws cur
  exact ⟨_, by rw [e]; exact List.mem_cons_self, L_pre cur hc s⟩
/-- one more: the same lines, or one that is so long -/
theorem gg_step (v : Int) : ∀ (ws cur : List Str), cur ≠ [] → gg (v + 1) cur ws = gg v cur ws ∨ ∃ g ∈ gg (v + 1) cur ws, v + 1 ≤ L g
  | [], cur, _ => .inl rfl
  | w :: ws, cur, hc => by
    by_cases h1 : L cur + 1 + ln w ≤ v
    · rw [gg_join h1, gg_join (by omega : L cur + 1 + ln w ≤ v + 1)]
      exact gg_step v ws _ (by simp)
    · by_cases h2 : L cur + 1 + ln w ≤ v + 1
      · rw [gg_join h2]
        obtain ⟨g, hg, h⟩ := gg_cur (v + 1) ws (cur ++ [w]) (by simp)
        rw [L_snoc _ _ hc] at h
        exact .inr ⟨g, hg, by omega⟩
      · rw [gg_break h1, gg_break h2]
        rcases gg_step v ws [w] (by simp) with e | ⟨g, hg, h⟩
        · exact .inl (by rw [e])
        · exact .inr ⟨g, List.mem_cons_of_mem _ hg, h⟩
/-- what the lines want more, each for the next line's first word -/
def brk (gs : List (List Str)) : List Int := List.zipWith (fun g h => L g + 1 + ln (h.headD Str.empty)) gs gs.tail
theorem brk_cons (g h : List Str) (r : List (List Str)) : brk (g :: h :: r) = (L g + 1 + ln (h.headD Str.empty)) :: brk (h :: r) := rfl
theorem brk_gg (m : Int) (cur : List Str) (w : Str) (ws : List Str) : brk (cur :: gg m [w] ws) = (L cur + 1 + ln w) :: brk (gg m [w] ws) := by
  obtain ⟨s, r, e⟩ := gg_head m ws [w]
  rw [e, brk_cons]
  rfl
theorem brk_gt (v : Int) : ∀ (ws cur : List Str), ∀ b ∈ brk (gg v cur ws), v < b
  | [], cur, b, hb => nomatch hb
  | w :: ws, cur, b, hb => by
    by_cases h : L cur + 1 + ln w ≤ v
    · rw [gg_join h] at hb; exact brk_gt v ws _ b hb
    · rw [gg_break h, brk_gg] at hb
      rcases List.mem_cons.mp hb with rfl | hb
      · omega
      · exact brk_gt v ws _ b hb
theorem gg_same (v u : Int) (hu : v ≤ u) : ∀ (ws cur : List Str), (∀ b ∈ brk (gg v cur ws), u < b) → gg u cur ws = gg v cur ws
  | [], cur, _ => rfl
  | w :: ws, cur, hb => by
    by_cases h : L cur + 1 + ln w ≤ v
    · rw [gg_join h] at hb ⊢
      rw [gg_join (by omega : L cur + 1 + ln w ≤ u)]
      exact gg_same v u hu ws _ hb
    · rw [gg_break h, brk_gg] at hb
      have := hb _ List.mem_cons_self
      rw [gg_break h, gg_break (by omega : ¬ L cur + 1 + ln w ≤ u), gg_same v u hu ws [w] fun b h => hb b (List.mem_cons_of_mem _ h)]
theorem gg_next (v b : Int) (hv : v < b) : ∀ (ws cur : List Str), cur ≠ [] → b ∈ brk (gg v cur ws) → (∀ c ∈ brk (gg v cur ws), b ≤ c) → ∃ g ∈ gg b cur ws, b ≤ L g
  | [], cur, _, hb, _ => nomatch hb
  | w :: ws, cur, hc, hb, ha => by
    by_cases h : L cur + 1 + ln w ≤ v
    · rw [gg_join h] at hb ha
      rw [gg_join (by omega : L cur + 1 + ln w ≤ b)]
      exact gg_next v b hv ws _ (by simp) hb ha
    · rw [gg_break h, brk_gg] at hb ha
      have h0 := ha _ List.mem_cons_self
      by_cases h2 : L cur + 1 + ln w ≤ b
      · rw [gg_join h2]
        obtain ⟨g, hg, h3⟩ := gg_cur b ws (cur ++ [w]) (by simp)
        rw [L_snoc _ _ hc] at h3
        exact ⟨g, hg, by omega⟩
      · rcases List.mem_cons.mp hb with hb | hb
        · omega
        · obtain ⟨g, hg, h3⟩ := gg_next v b hv ws [w] (by simp) hb fun c hc => ha c (List.mem_cons_of_mem _ hc)
          rw [gg_break h2]
          exact ⟨g, List.mem_cons_of_mem _ hg, h3⟩
/-! ### rows of words -/
def grd (m : Int) : List Str → List (List Str)
  | [] => []
  | w :: ws => gg m [w] ws
def lens (ws : List Str) : List Int := ws.map ln
def longI (ws : List Str) : Int := maxI (lens ws)
theorem maxI_le {ns : List Int} {m : Int} (h0 : ns ≠ []) (h : ∀ y ∈ ns, y ≤ m) : maxI ns ≤ m := by
  unfold maxI
  cases e : ns.max? with
  | none => exact absurd (List.max?_eq_none_iff.mp e) h0
  | some k => exact h k (List.max?_eq_some_iff.mp e).1
theorem le_maxI {ns : List Int} {y : Int} (h : y ∈ ns) : y ≤ maxI ns := by
  unfold maxI
  cases e : ns.max? with
  | none => rw [List.max?_eq_none_iff.mp e] at h; cases h
  | some k => exact (List.max?_eq_some_iff.mp e).2 y h
theorem maxI_mem {ns : List Int} (h : ns ≠ []) : maxI ns ∈ ns := by
  unfold maxI
  cases e : ns.max? with
  | none => exact absurd (List.max?_eq_none_iff.mp e) h
  | some k => exact (List.max?_eq_some_iff.mp e).1
def most (gs : List (List Str)) : Int := maxI (gs.map L)
def pr (m : Int) (ws : List Str) : Int × Int := (most (grd m ws), ((grd m ws).length : Int))
section
variable {ws : List Str} {m v : Int}
theorem longI_le (h : longI ws ≤ m) {w : Str} (hw : w ∈ ws) : ln w ≤ m := Int.le_trans (le_maxI (List.mem_map.mpr ⟨w, hw, rfl⟩)) h
theorem grd_le (h : longI ws ≤ m) : ∀ g ∈ grd m ws, L g ≤ m := by
  cases ws with
  | nil => exact fun _ h => nomatch h
  | cons w ws => exact gg_le m ws [w] (by simp) (longI_le h List.mem_cons_self) (fun x hx => longI_le h (List.mem_cons_of_mem _ hx))
theorem grd_ne (h : ws ≠ []) : grd m ws ≠ [] := by
  cases ws with
  | nil => exact absurd rfl h
  | cons w ws => exact List.ne_nil_of_length_pos (gg_pos m ws [w])
theorem grd_lines (h : ws ≠ []) : ∀ g ∈ grd m ws, g ≠ [] := by
  cases ws with
  | nil => exact absurd rfl h
  | cons w ws => exact gg_ne m ws [w] (by simp)
theorem grd_flat : (grd m ws).flatten = ws := by
  cases ws with
  | nil => rfl
  | cons w ws => exact gg_flat m ws [w]
theorem grd_len : (grd m ws).length ≤ ws.length := by
  cases ws with
  | nil => exact Nat.le_refl _
  | cons w ws => exact gg_len m ws [w]
theorem most_le (h0 : ws ≠ []) (h : longI ws ≤ m) : most (grd m ws) ≤ m := maxI_le (fun e => grd_ne h0 (List.map_eq_nil_iff.mp e)) fun y hy => by
  obtain ⟨g, hg, rfl⟩ := List.mem_map.mp hy
  exact grd_le h g hg
theorem most_ge {g : List Str} {gs : List (List Str)} (h : g ∈ gs) : L g ≤ most gs := le_maxI (List.mem_map.mpr ⟨g, h, rfl⟩)
theorem most_long (h0 : ws ≠ []) : longI ws ≤ most (grd m ws) := by
  obtain ⟨w, hw, e⟩ := List.mem_map.mp (maxI_mem (ns := lens ws) fun e => h0 (List.map_eq_nil_iff.mp e))
  have : ∃ g ∈ grd m ws, ln w ≤ L g := by
    cases ws with
    | nil => cases hw
    | cons x ws =>
      rcases List.mem_cons.mp hw with rfl | hw
      · exact gg_cur m ws [w] (by simp)
      · exact gg_word m ws [x] (by simp) w hw
  obtain ⟨g, hg, h⟩ := this
  show maxI (lens ws) ≤ _
  rw [← e]
  exact Int.le_trans h (most_ge hg)
theorem pr_step (h0 : ws ≠ []) (h : longI ws ≤ v) : pr (v + 1) ws = pr v ws ∨ (pr (v + 1) ws).1 = v + 1 := by
  cases ws with
  | nil => exact absurd rfl h0
  | cons w r =>
    rcases gg_step v r [w] (by simp) with e | ⟨g, hg, h1⟩
    · left
      show (most (gg (v + 1) [w] r), ((gg (v + 1) [w] r).length : Int)) = (most (gg v [w] r), ((gg v [w] r).length : Int))
      rw [e]
    · right
      have a := most_ge (gs := grd (v + 1) (w :: r)) hg
      have b := most_le h0 (show longI (w :: r) ≤ v + 1 by omega)
      show most (grd (v + 1) (w :: r)) = v + 1
      omega
theorem grd_same {u : Int} (hu : v ≤ u) (hb : ∀ b ∈ brk (grd v ws), u < b) : grd u ws = grd v ws := by
  cases ws with
  | nil => rfl
  | cons w r => exact gg_same v u hu r [w] hb
theorem grd_brk_gt : ∀ b ∈ brk (grd v ws), v < b := by
  cases ws with
  | nil => exact fun _ h => nomatch h
  | cons w r => exact brk_gt v r [w]
theorem grd_next {b : Int} (h0 : ws ≠ []) (h : longI ws ≤ v) (hb : b ∈ brk (grd v ws)) (ha : ∀ c ∈ brk (grd v ws), b ≤ c) : (pr b ws).1 = b := by
  have hv := grd_brk_gt b hb
  cases ws with
  | nil => exact absurd rfl h0
  | cons w r =>
    obtain ⟨g, hg, h1⟩ := gg_next v b hv r [w] (by simp) hb ha
    have a := most_ge (gs := grd b (w :: r)) hg
    have b' := most_le h0 (show longI (w :: r) ≤ b by omega)
    show most (grd b (w :: r)) = b
    omega
theorem brk_len (gs : List (List Str)) : (brk gs).length = gs.length - 1 := by
  unfold brk
  rw [List.length_zipWith, List.length_tail]
  omega
theorem grd_one (h0 : ws ≠ []) (h : (grd v ws).length = 1) : grd v ws = [ws] := by
  have e := grd_flat (m := v) (ws := ws)
  match hg : grd v ws, h with
  | [g], _ =>
    rw [hg] at e
    simp at e
    rw [e]
theorem pr_one (h0 : ws ≠ []) (h : (grd v ws).length = 1) : pr v ws = (L ws, 1) := by
  unfold pr
  rw [grd_one h0 h]
  rfl
theorem grd_whole (h0 : ws ≠ []) (h : L ws ≤ v) : grd v ws = [ws] := by
  have key : ∀ (r cur : List Str), cur ≠ [] → L (cur ++ r) ≤ v → gg v cur r = [cur ++ r] := by
    intro r
    induction r with
    | nil => intro cur _ _; rw [List.append_nil]; rfl
    | cons w r ih =>
      intro cur hc hl
      have e : cur ++ w :: r = (cur ++ [w]) ++ r := by simp
      rw [e] at hl ⊢
      have := L_pre (cur ++ [w]) (by simp) r
      rw [L_snoc _ _ hc] at this
      rw [gg_join (by omega), ih _ (by simp) hl]
  cases ws with
  | nil => exact absurd rfl h0
  | cons w r => exact key r [w] (by simp) h
end
/-! ### what the law fills -/
def fstep (m : Int) (st : Int × Int × Int) (size : Int) : Int × Int × Int :=
  let many := if m < st.2.2 + 1 + size then st.2.1 + 1 else st.2.1
  let len := (if m < st.2.2 + 1 + size then 0 - 1 else st.2.2) + 1 + size
  (max st.1 len, many, len)
def ffold (m : Int) (ns : List Int) : Int × Int × Int := ns.foldl (fstep m) (0, 1, 0 - 1)
theorem ffold_gg (m : Int) : ∀ (ws cur : List Str) (mo ma : Int), cur ≠ [] → L cur ≤ mo →
    ∃ r len, (lens ws).foldl (fstep m) (mo, ma, L cur) = (r, ma - 1 + (gg m cur ws).length, len) ∧ mo ≤ r ∧ (∀ g ∈ gg m cur ws, L g ≤ r) ∧ (r = mo ∨ ∃ g ∈ gg m cur ws, L g = r)
  | [], cur, mo, ma, _, h => ⟨mo, L cur, by show (mo, ma, L cur) = (mo, ma - 1 + ((1 : Nat) : Int), L cur); rw [show ma - 1 + ((1 : Nat) : Int) = ma by omega], Int.le_refl _, fun g hg => by rw [gg_nil, List.mem_singleton] at hg; rw [hg]; exact h, .inl rfl⟩
  | w :: ws, cur, mo, ma, hc, h => by
    show ∃ r len, (lens ws).foldl (fstep m) (fstep m (mo, ma, L cur) (ln w)) = _ ∧ _
    by_cases hj : L cur + 1 + ln w ≤ m
    · have e : fstep m (mo, ma, L cur) (ln w) = (max mo (L (cur ++ [w])), ma, L (cur ++ [w])) := by
        unfold fstep
        have h1 : ¬ m < L cur + 1 + ln w := by omega
        simp only [h1, if_false]
        rw [L_snoc _ _ hc]
      obtain ⟨r, len, e1, h1, h2, h3⟩ := ffold_gg m ws (cur ++ [w]) (max mo (L (cur ++ [w]))) ma (by simp) (by omega)
      rw [e, gg_join hj]
      refine ⟨r, len, e1, by omega, h2, ?_⟩
      rcases h3 with h3 | h3
      · by_cases hm : L (cur ++ [w]) ≤ mo
        · left; omega
        · right
          obtain ⟨g, hg, h4⟩ := gg_cur m ws (cur ++ [w]) (by simp)
          have := h2 g hg
          exact ⟨g, hg, by omega⟩
      · exact .inr h3
    · have e : fstep m (mo, ma, L cur) (ln w) = (max mo (L [w]), ma + 1, L [w]) := by
        unfold fstep
        have h1 : m < L cur + 1 + ln w := by omega
        simp only [h1, if_true]
        rw [L_one]
        simp
      obtain ⟨r, len, e1, h1, h2, h3⟩ := ffold_gg m ws [w] (max mo (L [w])) (ma + 1) (by simp) (by omega)
      rw [e, gg_break hj]
      refine ⟨r, len, by rw [e1, List.length_cons]; congr 2; omega, by omega, fun g hg => ?_, ?_⟩
      · rcases List.mem_cons.mp hg with rfl | hg
        · omega
        · exact h2 g hg
      · rcases h3 with h3 | ⟨g, hg, h3⟩
        · by_cases hm : L [w] ≤ mo
          · left; omega
          · right
            obtain ⟨g, hg, h4⟩ := gg_cur m ws [w] (by simp)
            have := h2 g hg
            exact ⟨g, List.mem_cons_of_mem _ hg, by omega⟩
        · exact .inr ⟨g, List.mem_cons_of_mem _ hg, h3⟩
theorem ffold_pr {m : Int} {ws : List Str} (h0 : ws ≠ []) (h : longI ws ≤ m) : ((ffold m (lens ws)).1, (ffold m (lens ws)).2.1) = pr m ws := by
  cases ws with
  | nil => exact absurd rfl h0
  | cons w ws =>
    have hw := longI_le h List.mem_cons_self
    have e : fstep m (0, 1, 0 - 1) (ln w) = (L [w], 1, L [w]) := by
      have hn := ln_nonneg w
      unfold fstep
      have h1 : ¬ m < (0 - 1 : Int) + 1 + ln w := by omega
      simp only [h1, if_false]
      rw [L_one]
      rw [show (0 - 1 : Int) + 1 + ln w = ln w by omega, Int.max_eq_right hn]
    obtain ⟨r, len, e1, h1, h2, h3⟩ := ffold_gg m ws [w] (L [w]) 1 (by simp) (Int.le_refl _)
    have e2 : ffold m (lens (w :: ws)) = (r, 1 - 1 + ((gg m [w] ws).length : Int), len) := by
      unfold ffold lens
      rw [List.map_cons, List.foldl_cons, e]
      exact e1
    rw [e2]
    unfold pr
    have e3 : most (gg m [w] ws) = r := by
      refine max_is ?_ fun y hy => ?_
      · rcases h3 with h3 | ⟨g, hg, h3⟩
        · obtain ⟨g, hg, h4⟩ := gg_cur m ws [w] (by simp)
          have := h2 g hg
          exact List.mem_map.mpr ⟨g, hg, by omega⟩
        · exact List.mem_map.mpr ⟨g, hg, h3⟩
      · obtain ⟨g, hg, rfl⟩ := List.mem_map.mp hy
        exact h2 g hg
    show (r, 1 - 1 + ((gg m [w] ws).length : Int)) = (most (gg m [w] ws), ((gg m [w] ws).length : Int))
    rw [e3, show (1 : Int) - 1 + ((gg m [w] ws).length : Int) = ((gg m [w] ws).length : Int) by omega]
/-! ### pairs, each once -/
def dd (f : Nat → Int × Int) : Nat → List (Int × Int)
  | 0 => [f 0]
  | n + 1 => if f (n + 1) = f n then dd f n else dd f n ++ [f (n + 1)]
theorem dd_last (f : Nat → Int × Int) : ∀ n, ∃ l, dd f n = l ++ [f n]
  | 0 => ⟨[], rfl⟩
  | n + 1 => by
    obtain ⟨l, e⟩ := dd_last f n
    by_cases h : f (n + 1) = f n
    · exact ⟨l, by rw [h, ← e]; exact if_pos h⟩
    · exact ⟨dd f n, if_neg h⟩
theorem dd_len (f : Nat → Int × Int) : ∀ n, (dd f n).length ≤ n + 1
  | 0 => Nat.le_refl _
  | n + 1 => by
    have := dd_len f n
    show (if _ then _ else _ : List (Int × Int)).length ≤ _
    split
    · omega
    · rw [List.length_append, List.length_singleton]; omega
theorem dd_const (f : Nat → Int × Int) (a : Nat) : ∀ k, (∀ i, i < k → f (a + i + 1) = f (a + i)) → dd f (a + k) = dd f a
  | 0, _ => rfl
  | k + 1, h => by
    rw [← dd_const f a k fun i hi => h i (by omega)]
    exact if_pos (h k (by omega))
theorem dd_jump (f : Nat → Int × Int) {a b : Nat} (hab : a < b) (h : ∀ i, a ≤ i → i < b → f i = f a) (hb : f b ≠ f a) : dd f b = dd f a ++ [f b] := by
  obtain ⟨k, rfl⟩ : ∃ k, b = a + k + 1 := ⟨b - a - 1, by omega⟩
  rw [← dd_const f a k fun i hi => (h _ (by omega) (by omega)).trans (h _ (by omega) (by omega)).symm]
  refine if_neg fun e => hb ?_
  rw [e]
  exact h _ (by omega) (by omega)
/-- what each pair tells -/
structure Told (p : Int → Int × Int) (D : List (Int × Int)) : Prop where
  own : ∀ i, i < D.length → p (D.getD i (0, 0)).1 = D.getD i (0, 0)
  next : ∀ i, i + 1 < D.length → p ((D.getD (i + 1) (0, 0)).1 - 1) = D.getD i (0, 0)
theorem getD_app {α : Type} (l : List α) (x d : α) : ∀ i, (l ++ [x]).getD i d = if i < l.length then l.getD i d else if i = l.length then x else d := fun i => by
  by_cases h : i < l.length
  · rw [if_pos h, List.getD_eq_getElem?_getD, List.getD_eq_getElem?_getD, List.getElem?_append_left h]
  · rw [if_neg h, List.getD_eq_getElem?_getD, List.getElem?_append_right (by omega)]
    by_cases h2 : i = l.length
    · rw [if_pos h2, h2, Nat.sub_self]; rfl
    · rw [if_neg h2, List.getElem?_eq_none (by rw [List.length_singleton]; omega)]; rfl
theorem told_dd {ws : List Str} (h0 : ws ≠ []) : ∀ n : Nat, Told (fun v => pr v ws) (dd (fun i => pr (longI ws + (i : Int)) ws) n)
  | 0 => by
    have h1 : most (grd (longI ws) ws) = longI ws := by
      have a := most_long (m := longI ws) h0
      have b := most_le (m := longI ws) h0 (Int.le_refl _)
      omega
    have e : dd (fun i => pr (longI ws + (i : Int)) ws) 0 = [pr (longI ws) ws] := by
      show [pr (longI ws + ((0 : Nat) : Int)) ws] = _
      rw [show longI ws + ((0 : Nat) : Int) = longI ws by omega]
    rw [e]
    refine ⟨fun i hi => ?_, fun i hi => ?_⟩
    · have : i = 0 := by rw [List.length_singleton] at hi; omega
      subst this
      show pr (most (grd (longI ws) ws)) ws = pr (longI ws) ws
      rw [h1]
    · rw [List.length_singleton] at hi; omega
  | n + 1 => by
    have ih := told_dd h0 n
    by_cases h : pr (longI ws + ((n + 1 : Nat) : Int)) ws = pr (longI ws + (n : Int)) ws
    · have e : dd (fun i => pr (longI ws + (i : Int)) ws) (n + 1) = dd (fun i => pr (longI ws + (i : Int)) ws) n := if_pos h
      rw [e]
      exact ih
    · have e : dd (fun i => pr (longI ws + (i : Int)) ws) (n + 1) = dd (fun i => pr (longI ws + (i : Int)) ws) n ++ [pr (longI ws + ((n + 1 : Nat) : Int)) ws] := if_neg h
      have hn : (pr (longI ws + ((n + 1 : Nat) : Int)) ws).1 = longI ws + ((n + 1 : Nat) : Int) := by
        rcases pr_step (v := longI ws + (n : Int)) h0 (by omega) with h1 | h1
        · exact absurd (by rw [show longI ws + ((n + 1 : Nat) : Int) = longI ws + (n : Int) + 1 by omega]; exact h1) h
        · rw [show longI ws + ((n + 1 : Nat) : Int) = longI ws + (n : Int) + 1 by omega]; exact h1
      obtain ⟨l, el⟩ := dd_last (fun i => pr (longI ws + (i : Int)) ws) n
      rw [e]
      refine ⟨fun i hi => ?_, fun i hi => ?_⟩
      · rw [List.length_append, List.length_singleton] at hi
        rw [getD_app]
        by_cases h1 : i < (dd (fun i => pr (longI ws + (i : Int)) ws) n).length
        · rw [if_pos h1]; exact ih.own i h1
        · rw [if_neg h1, if_pos (by omega)]
          show pr (pr (longI ws + ((n + 1 : Nat) : Int)) ws).1 ws = _
          rw [hn]
      · rw [List.length_append, List.length_singleton] at hi
        rw [getD_app, getD_app]
        by_cases h1 : i + 1 < (dd (fun i => pr (longI ws + (i : Int)) ws) n).length
        · rw [if_pos h1, if_pos (by omega)]; exact ih.next i h1
        · rw [if_neg h1, if_pos (by omega), if_pos (by omega)]
          show pr ((pr (longI ws + ((n + 1 : Nat) : Int)) ws).1 - 1) ws = _
          rw [hn, el, getD_app]
          have hl : (dd (fun i => pr (longI ws + (i : Int)) ws) n).length = l.length + 1 := by rw [el, List.length_append]; rfl
          rw [if_neg (by omega), if_pos (by omega)]
          congr 1
          omega
end M
namespace M
open PySem PySem.Spec PyProof.Rows L2 Evl
theorem gg_mono (m m' : Int) (hm : m ≤ m') : ∀ (ws : List Str), (∀ cur cur' : List Str, cur ≠ [] → cur' ≠ [] → L cur' ≤ L cur → (gg m' cur' ws).length ≤ (gg m cur ws).length) ∧ (∀ cur cur' : List Str, cur ≠ [] → cur' ≠ [] → (gg m' cur' ws).length ≤ (gg m cur ws).length + 1)
  | [] => ⟨fun _ _ _ _ _ => Nat.le_refl _, fun _ _ _ _ => by show 1 ≤ 1 + 1; decide⟩
  | w :: ws => by
    obtain ⟨A, B⟩ := gg_mono m m' hm ws
    refine ⟨fun cur cur' hc hc' hl => ?_, fun cur cur' hc hc' => ?_⟩
    · by_cases h : L cur + 1 + ln w ≤ m
      · rw [gg_join h, gg_join (by omega : L cur' + 1 + ln w ≤ m')]
        exact A _ _ (by simp) (by simp) (by rw [L_snoc _ _ hc, L_snoc _ _ hc']; omega)
      · rw [gg_break h]
        by_cases h' : L cur' + 1 + ln w ≤ m'
        · rw [gg_join h']
          exact B _ _ (by simp) (by simp)
        · rw [gg_break h']
          have := A [w] [w] (by simp) (by simp) (Int.le_refl _)
          rw [List.length_cons, List.length_cons]
          omega
    · by_cases h : L cur + 1 + ln w ≤ m
      · rw [gg_join h]
        by_cases h' : L cur' + 1 + ln w ≤ m'
        · rw [gg_join h']
          exact B _ _ (by simp) (by simp)
        · rw [gg_break h']
          have := A (cur ++ [w]) [w] (by simp) (by simp) (by rw [L_snoc _ _ hc, L_one]; have := L_nonneg cur; omega)
          rw [List.length_cons]
          omega
      · rw [gg_break h]
        by_cases h' : L cur' + 1 + ln w ≤ m'
        · rw [gg_join h']
          have := B [w] (cur' ++ [w]) (by simp) (by simp)
          rw [List.length_cons]
          omega
        · rw [gg_break h']
          have := A [w] [w] (by simp) (by simp) (Int.le_refl _)
          rw [List.length_cons, List.length_cons]
          omega
/-- how many lines -/
def cnt (m : Int) (ws : List Str) : Nat := (grd m ws).length
theorem cnt_mono {m m' : Int} (hm : m ≤ m') (ws : List Str) : cnt m' ws ≤ cnt m ws := by
  cases ws with
  | nil => exact Nat.le_refl _
  | cons w ws => exact (gg_mono m m' hm ws).1 [w] [w] (by simp) (by simp) (Int.le_refl _)
theorem join_app (a : Str) : ∀ (xs ys : List Str), xs ≠ [] → ys ≠ [] → Str.join a (xs ++ ys) = Str.join a xs ++ a ++ Str.join a ys
  | [], _, h, _ => absurd rfl h
  | [x], [], _, h => absurd rfl h
  | [x], y :: ys, _, _ => rfl
  | x :: x2 :: xs, ys, _, h => by
    show x ++ a ++ Str.join a (x2 :: (xs ++ ys)) = x ++ a ++ Str.join a (x2 :: xs) ++ a ++ Str.join a ys
    have := join_app a (x2 :: xs) ys (by simp) h
    rw [List.cons_append] at this
    rw [this]
    simp only [Str.append_assoc]
theorem join_flat : ∀ (gs : List (List Str)), (∀ g ∈ gs, g ≠ []) → Str.join sp (gs.map txt) = txt gs.flatten
  | [], _ => rfl
  | [g], _ => by rw [List.map_cons, List.map_nil, List.flatten_cons, List.flatten_nil, List.append_nil]; rfl
  | g :: h :: r, hg => by
    have ih := join_flat (h :: r) fun x hx => hg x (List.mem_cons_of_mem _ hx)
    rw [List.map_cons, List.map_cons, join_cons2, List.flatten_cons]
    rw [List.map_cons] at ih
    rw [ih]
    have hne : (h :: r).flatten ≠ [] := by
      rw [List.flatten_cons]
      intro e
      exact hg h (List.mem_cons_of_mem _ List.mem_cons_self) (List.append_eq_nil_iff.mp e).1
    exact (join_app sp g _ (hg g List.mem_cons_self) hne).symm
theorem join_grd {m : Int} {ws : List Str} (h : ws ≠ []) : Str.join sp ((grd m ws).map txt) = Str.join sp ws := by
  rw [join_flat _ (grd_lines h), grd_flat]
  rfl
/-- the rest of a line under way -/
theorem cnt_drop {m : Int} {ws : List Str} {at_ : Nat} (h : at_ < ws.length) : cnt m (ws.drop at_) = (gg m [ws.getD at_ Str.empty] (ws.drop (at_ + 1))).length := by
  have e : ws.drop at_ = ws.getD at_ Str.empty :: ws.drop (at_ + 1) := by
    rw [List.drop_eq_getElem_cons h]
    congr 1
    rw [List.getD_eq_getElem?_getD, List.getElem?_eq_getElem h]
    rfl
  rw [e]
  rfl
theorem drop_cons {ws : List Str} {k : Nat} (h : k < ws.length) : ws.drop k = ws.getD k Str.empty :: ws.drop (k + 1) := by
  rw [List.drop_eq_getElem_cons h]
  congr 1
  rw [List.getD_eq_getElem?_getD, List.getElem?_eq_getElem h]
  rfl
theorem txt_pos {g : List Str} (h0 : g ≠ []) (h : ∀ x ∈ g, 1 ≤ x.length) : 0 < (txt g).length := by
  cases g with
  | nil => exact absurd rfl h0
  | cons x r =>
    have h1 := L_pre [x] (by simp) r
    rw [L_one] at h1
    have h2 := h x List.mem_cons_self
    have h1 : ln x ≤ ((txt (x :: r)).length : Int) := h1
    unfold ln at h1
    omega
end M
namespace M
open PySem PySem.Spec PyProof.Rows L2 Evl
def topS (i : Nat) : Stmt := PySem.Challenge.pw_steadyroom_k08_greedy_lines.main.body.getD i (.Pass ⟨0, 0, 0, 0⟩)
/-! ### the draws -/
section
variable {P : Program} {w : World} {K : PySem.W.Frag} {mg : Str → Option Value} {base : Heap}
abbrev s__law_mix : Stmt := topS 5
abbrev n__law_mix : List Str := ["first", "second", "number"]
theorem sc__law_mix : FnScope n__law_mix ["first", "second"] (defScope s__law_mix) := ⟨rfl, rfl, rfl, by decide +kernel, rfl, by decide +kernel, by decide +kernel⟩
def spMix : Sp := fun vs H Q _ => ∃ a b : Int, vs = [.int a, .int b] ∧ ∀ r : Int, 0 ≤ r → r < 2147483647 → Q (.int r) H
theorem ok_mix {f fd} (D : Dn K mg "_law_mix" s__law_mix ["first", "second"] f fd) (B : Bl mg) : FnOk P w K mg base CX0 1 f fd ["first", "second"] spMix := by
  refine D.fn.ok sc__law_mix (fun vs H Q E h => ?_) (fun cdv A outer s H vs Q E hr h => ?_)
  · obtain ⟨a, b, rfl, _⟩ := h
    rfl
  · obtain ⟨a, b, rfl, q⟩ := h
    refine ⟨_, (pss_cons (ps_set (i := 2) sc__law_mix.nd rfl (.inl rfl) (pe_op op_mod (pe_callTy call_int1 (by rfl) B.int bt_int (pa_cons (pe_op op_add (pe_op op_add (pe_op op_mul (pv 0) pe_int) (pe_op op_mul (pv 1) pe_int)) pe_int) pa_nil)) pe_int))
      (pss_cons (ps_set (i := 2) sc__law_mix.nd rfl (.inl rfl) (pe_op op_mod (pe_callTy call_int1 (by rfl) B.int bt_int (pa_cons (pe_op op_add (pe_op op_add (pe_op op_add (pe_op op_mul (pv 2) (pv 2)) (pe_op op_mul pe_int (pv 2))) (pv 1)) pe_int) pa_nil)) pe_int))
      (pss_one (ps_ret (pe_op op_mod (pe_callTy call_int1 (by rfl) B.int bt_int (pa_cons (pe_op op_add (pe_op op_mul (pe_op op_add (pe_op op_fdiv (pv 2) pe_int) (pe_op op_mul pe_int (pv 2))) pe_int) pe_int) pa_nil)) pe_int))))), ?_⟩
    refine ⟨_, rfl, _, _, rfl, rfl, .inr ⟨by decide, by decide⟩, _, rfl, _, _, rfl, rfl, .inr ⟨by decide, by decide⟩, _, _, rfl, rfl, _, _, rfl, rfl, .inl ⟨_, rfl, ?_⟩⟩
    refine ⟨_, _, rfl, rfl, p_2147483647, ?_⟩
    generalize hx : (a * 1103515245 + b * 69621 + 12345) % 2147483647 = x
    have hx0 : 0 ≤ x := by rw [← hx]; exact Int.emod_nonneg _ (by decide)
    have hx1 : x < 2147483647 := by rw [← hx]; exact Int.emod_lt_of_pos _ (by decide)
    refine ⟨_, rfl, _, rfl, _, _, rfl, rfl, .inl ⟨by omega, by omega⟩, _, rfl, _, _, rfl, rfl, .inl ⟨by decide, by decide⟩, _, _, rfl, rfl, _, rfl, _, _, rfl, rfl, _, _, rfl, rfl, .inl ⟨_, rfl, ?_⟩⟩
    refine ⟨_, _, rfl, rfl, p_2147483629, ?_⟩
    generalize hy : (x * x + 48271 * x + b + 1) % 2147483629 = y
    have hy0 : 0 ≤ y := by rw [← hy]; exact Int.emod_nonneg _ (by decide)
    have hy1 : y < 2147483629 := by rw [← hy]; exact Int.emod_lt_of_pos _ (by decide)
    refine ⟨_, rfl, _, _, rfl, rfl, ⟨by decide, by decide⟩, _, rfl, _, _, rfl, rfl, .inl ⟨by decide, by decide⟩, _, _, rfl, rfl, _, _, rfl, rfl, .inr ⟨by decide, by decide⟩, _, _, rfl, rfl, .inl ⟨_, rfl, ?_⟩⟩
    exact ⟨_, _, rfl, rfl, p_2147483647, q _ (Int.emod_nonneg _ (by decide)) (Int.emod_lt_of_pos _ (by decide))⟩
abbrev s__law_take : Stmt := topS 7
abbrev n__law_take : List Str := ["store", "many", "number", "cell", "low"]
theorem sc__law_take : FnScope n__law_take ["store", "many"] (defScope s__law_take) := ⟨rfl, rfl, rfl, by decide +kernel, rfl, by decide +kernel, by decide +kernel⟩
def spTake0 : Sp := fun vs H Q _ => ∃ (d c : Addr) (ns : List Int) (kvs : List (Key × V)) (many : Int), vs = [.ref d, .int many] ∧ H d = some (.dK kvs) ∧ StG c ns.length kvs ∧ H c = some (.lst (ns.map V.int)) ∧ many < 1073741824 ∧
  ∀ (r : Int) (kvs' : List (Key × V)), 0 ≤ r → (r < many ∨ r = 0) → StG c ns.length kvs' → Q (.int r) (upd H d (.dK kvs'))
theorem ok_take0 {f fd} (D : Dn K mg "_law_take" s__law_take ["store", "many"] f fd) (B : Bl mg) (C__law_mix : Cal P w K mg base CX0 "_law_mix" 1 ["first", "second"] spMix) : FnOk P w K mg base CX0 2 f fd ["store", "many"] spTake0 := by
  refine D.fn.ok sc__law_take (fun vs H Q E h => ?_) (fun cdv A outer s H vs Q E hr h => ?_)
  · obtain ⟨d, c, ns, kvs, many, rfl, _⟩ := h
    rfl
  · obtain ⟨d, c, ns, _, many, rfl, hd, ⟨at_, left, turn, salt, seed, h0, h1, rfl⟩, hc, hm, q⟩ := h
    refine ⟨_, (pss_cons (ps_dput (hu_of hr) (pv 0) pe_str (pe_op op_add (pe_dget (hu_of hr) (pv 0) pe_str (fun _ _ => rfl)) pe_int) rfl)
      (pss_cons (ps_if (pt_cmpR op_lt (pv 1) pe_int (nomark _)) (pss_one (ps_ret pe_int)) pss_nil)
      (pss_cons (ps_set (i := 2) sc__law_take.nd rfl (.inl rfl) (pe_dget (hu_of hr) (pv 0) pe_str (fun _ _ => rfl)))
      (pss_cut (ps_if (PW.pt (pw_and (pt_cmpR op_eq (pv 2) pe_int (nomark _)) (pw_and1 (pt_cmpR op_lt (pe_dget (hu_of hr) (pv 0) pe_str (fun _ _ => rfl)) (pe_callB (call_len_seqK (K := K) rfl) (by rfl) B.len bt_len (pa_cons (pe_dget (hu_of hr) (pv 0) pe_str (fun _ _ => rfl)) pa_nil)) (nomark _))))) (pss_cons (ps_set (i := 3) sc__law_take.nd rfl (.inl rfl) (pe_ix (ix_listK (K := K) rfl) (pe_dget (hu_of hr) (pv 0) pe_str (fun _ _ => rfl)) (pe_dget (hu_of hr) (pv 0) pe_str (fun _ _ => rfl)) (fun _ _ => rfl)))
      (pss_cons (ps_dput (hu_of hr) (pv 0) pe_str (pe_op op_add (pe_dget (hu_of hr) (pv 0) pe_str (fun _ _ => rfl)) pe_int) rfl)
      (pss_cons (ps_if (pt_cmpR op_lt (pe_callB call_abs (by rfl) B.abs bt_abs (pa_cons (pv 3) pa_nil)) (pe_op op_pow pe_int pe_int) (nomark _)) (pss_cons (ps_set (i := 4) sc__law_take.nd rfl (.inl rfl) (pe_own C__law_mix hr (by omega) (by rfl) (pa_cons (pe_op op_add (pv 3) (pe_dget (hu_of hr) (pv 0) pe_str (fun _ _ => rfl))) (pa_cons (pe_dget (hu_of hr) (pv 0) pe_str (fun _ _ => rfl)) pa_nil))))
      (pss_one (ps_ret (pe_op op_mod (pe_callTy call_int1 (by rfl) B.int bt_int (pa_cons (pe_op op_add (pe_op op_mul (pe_own C__law_mix hr (by omega) (by rfl) (pa_cons (pv 4) (pa_cons (pe_op op_add (pe_dget (hu_of hr) (pv 0) pe_str (fun _ _ => rfl)) pe_int) pa_nil))) pe_int) (pv 4)) pa_nil)) (pv 1))))) pss_nil)
      (pss_one (ps_set (i := 2) sc__law_take.nd rfl (.inl rfl) (pe_callB call_abs (by rfl) B.abs bt_abs (pa_cons (pv 3) pa_nil))))))) pss_nil)
      (pss_cons (ps_if (pt_cmpR op_eq (pv 2) pe_int (nomark _)) (pss_cons (ps_set (i := 4) sc__law_take.nd rfl (.inl rfl) (pe_own C__law_mix hr (by omega) (by rfl) (pa_cons (pe_dget (hu_of hr) (pv 0) pe_str (fun _ _ => rfl)) (pa_cons (pe_dget (hu_of hr) (pv 0) pe_str (fun _ _ => rfl)) pa_nil))))
      (pss_one (ps_ret (pe_op op_mod (pe_callTy call_int1 (by rfl) B.int bt_int (pa_cons (pe_op op_add (pe_op op_mul (pe_own C__law_mix hr (by omega) (by rfl) (pa_cons (pv 4) (pa_cons (pe_op op_add (pe_dget (hu_of hr) (pv 0) pe_str (fun _ _ => rfl)) pe_int) pa_nil))) pe_int) (pv 4)) pa_nil)) (pv 1))))) pss_nil)
      (pss_cons (ps_dput (hu_of hr) (pv 0) pe_str (pe_op op_fdiv (pv 2) (pv 1)) rfl)
      (pss_one (ps_ret (pe_op op_mod (pe_callTy call_int1 (by rfl) B.int bt_int (pa_cons (pv 2) pa_nil)) (pv 1)))))))))), ?_⟩
    have ncd : c ≠ d := ne_of hc hd (by intro z; cases z)
    -- store['turn'] = store['turn'] + 1
    refine ⟨_, rfl, _, _, rfl, sg_turn hd, _, _, rfl, rfl, _, rfl, d, _, rfl, sp_turn hd, ?_⟩
    generalize turn + 1 = turn1
    generalize hH1 : upd H d (.dK (stK c at_ left turn1 salt seed)) = H1
    have hd1 : H1 d = some (.dK (stK c at_ left turn1 salt seed)) := by rw [← hH1]; exact upd_same
    have hc1 : H1 c = some (.lst (ns.map V.int)) := by rw [← hH1, upd_ne ncd]; exact hc
    have q1 : ∀ (r : Int) (kvs' : List (Key × V)), 0 ≤ r → (r < many ∨ r = 0) → StG c ns.length kvs' → Q (.int r) (upd H1 d (.dK kvs')) := fun r kvs' a b g => by
      rw [← hH1, upd_upd]; exact q r kvs' a b g
    -- if many < 2: return 0
    refine ⟨_, rfl, _, _, rfl, rfl, _, rfl, iteD (fun hm2 => ?_) (fun hm2 => ?_)⟩
    · have := q 0 (stK c at_ left turn1 salt seed) (by decide) (.inr rfl) ⟨at_, left, turn1, salt, seed, h0, h1, rfl⟩
      rw [hH1] at this
      exact this
    have hm2' : 2 ≤ many := by omega
    -- number = store['left']
    refine ⟨_, rfl, d, _, rfl, sg_left hd1, ?_⟩
    have fin0 : ∀ (z : Int) (H2 : Hp), H2 = H1 ∨ (∃ kvs', StG c ns.length kvs' ∧ H2 = upd H1 d (.dK kvs')) → Q (.int (z % many)) H2 := fun z H2 h => by
      have z0 : 0 ≤ z % many := Int.emod_nonneg _ (by omega)
      have z1 : z % many < many := Int.emod_lt_of_pos _ (by omega)
      rcases h with rfl | ⟨kvs', g, rfl⟩
      · have := q1 _ _ z0 (.inl z1) ⟨at_, left, turn1, salt, seed, h0, h1, rfl⟩
        rw [upd_self hd1] at this
        exact this
      · exact q1 _ _ z0 (.inl z1) g
    -- the first if, and what stands behind it
    refine ⟨fun σ' H2 => ∃ (number at2 turn2 seed2 : Int) (cell : Option V), σ' = [some (.ref d), some (.int many), some (.int number), cell, none] ∧ 0 ≤ at2 ∧ at2 ≤ ns.length ∧ H2 = upd H1 d (.dK (stK c at2 left turn1 salt seed)), ?_, ?_⟩
    · refine ⟨_, rfl, rfl, _, rfl, iteD (fun hz => ?_) (fun hz => ?_)⟩
      · refine ⟨_, rfl, d, _, rfl, sg_at hd1, _, rfl, d, _, rfl, sg_cells hd1, c, _, rfl, .inl (sq_of hc1), _, _, rfl, rfl, _, rfl, iteD (fun hl => ?_) (fun hl => ?_)⟩
        · rw [List.length_map] at hl
          have hat : at_ = ((at_.toNat : Nat) : Int) := by omega
          have hlt : at_.toNat < ns.length := by omega
          have hget : (ns.map V.int)[at_.toNat]? = some (.int ns[at_.toNat]) := by
            rw [List.getElem?_map, List.getElem?_eq_getElem hlt]
            rfl
          generalize ns[at_.toNat] = cell at hget
          -- cell = store['cells'][store['at']]
          refine ⟨_, rfl, d, _, rfl, sg_cells hd1, _, rfl, d, _, rfl, sg_at hd1, c, _, _, _, rfl, rfl, sq_of hc1, at_of hat hget, ?_⟩
          -- store['at'] = store['at'] + 1
          refine ⟨_, rfl, _, _, rfl, sg_at hd1, _, _, rfl, rfl, _, rfl, d, _, rfl, sp_at hd1, ?_⟩
          generalize hH2 : upd H1 d (.dK (stK c (at_ + 1) left turn1 salt seed)) = H2
          have hd2 : H2 d = some (.dK (stK c (at_ + 1) left turn1 salt seed)) := by rw [← hH2]; exact upd_same
          -- if abs(cell) < 10 ** 18
          refine ⟨_, rfl, _, rfl, _, _, rfl, rfl, pInt_1e18, _, _, rfl, rfl, _, rfl, iteD (fun hs => ?_) (fun hs => ?_)⟩
          · -- low = _law_mix(cell + store['salt'], store['turn'])
            refine ⟨_, rfl, _, rfl, d, _, rfl, sg_salt hd2, _, _, rfl, rfl, _, rfl, d, _, rfl, sg_turn hd2, _, _, rfl, fun low l0 l1 => ?_⟩
            refine ⟨_, rfl, _, rfl, d, _, rfl, sg_turn hd2, _, _, rfl, rfl, _, _, rfl, fun lo2 m0 m1 => ?_⟩
            refine ⟨_, _, rfl, rfl, .inr ⟨by decide, by decide⟩, _, rfl, _, _, rfl, rfl, .inl ⟨_, rfl, _, rfl, _, _, rfl, rfl, by show 0 < many; omega, ?_⟩⟩
            exact fin0 _ _ (.inr ⟨_, ⟨at_ + 1, left, turn1, salt, seed, by omega, by omega, rfl⟩, hH2.symm⟩)
          · -- number = abs(cell)
            refine ⟨_, rfl, _, rfl, ?_⟩
            exact ⟨_, at_ + 1, 0, 0, _, rfl, by omega, by omega, hH2.symm⟩
        · exact ⟨_, at_, 0, 0, _, rfl, h0, h1, (upd_self hd1).symm⟩
      · exact ⟨_, at_, 0, 0, _, rfl, h0, h1, (upd_self hd1).symm⟩
    · rintro σ' H2 ⟨number, at2, _, _, cell, rfl, h20, h21, hH2⟩
      have hd2 : H2 d = some (.dK (stK c at2 left turn1 salt seed)) := by rw [hH2]; exact upd_same
      have g2 : StG c ns.length (stK c at2 left turn1 salt seed) := ⟨at2, left, turn1, salt, seed, h20, h21, rfl⟩
      refine ⟨_, rfl, rfl, _, rfl, iteD (fun hz => ?_) (fun hz => ?_)⟩
      · refine ⟨_, rfl, d, _, rfl, sg_seed hd2, _, rfl, d, _, rfl, sg_turn hd2, _, _, rfl, fun low l0 l1 => ?_⟩
        refine ⟨_, rfl, _, rfl, d, _, rfl, sg_seed hd2, _, _, rfl, rfl, _, _, rfl, fun lo2 m0 m1 => ?_⟩
        refine ⟨_, _, rfl, rfl, .inr ⟨by decide, by decide⟩, _, rfl, _, _, rfl, rfl, .inl ⟨_, rfl, _, rfl, _, _, rfl, rfl, by show 0 < many; omega, ?_⟩⟩
        exact fin0 _ _ (.inr ⟨_, g2, hH2⟩)
      · -- store['left'] = number // many
        refine ⟨_, rfl, _, rfl, _, _, rfl, rfl, ⟨by omega, by omega⟩, _, rfl, d, _, rfl, sp_left hd2, ?_⟩
        refine ⟨_, rfl, .inl ⟨_, rfl, _, rfl, _, _, rfl, rfl, by show 0 < many; omega, ?_⟩⟩
        exact fin0 _ _ (.inr ⟨_, ⟨at2, _, turn1, salt, seed, h20, h21, rfl⟩, by rw [hH2, upd_upd]⟩)
def spTake (P : Program) (w : World) : Sp := fun vs H Q _ => ∃ (d : Addr) (many : Int), vs = [.ref d, .int many] ∧ StoreAt P w H d ∧ many < 1073741824 ∧ ∀ r : Int, 0 ≤ r → (r < many ∨ r = 0) → Q (.int r) H
theorem ok_take {f fd} (D : Dn K mg "_law_take" s__law_take ["store", "many"] f fd) (B : Bl mg) (C__law_mix : Cal P w K mg base CX0 "_law_mix" 1 ["first", "second"] spMix) : FnOk P w K mg base CX0 2 f fd ["store", "many"] (spTake P w) :=
  (fn_view (ok_take0 D B C__law_mix)).imp fun vs H Q E h => by
    obtain ⟨d, many, rfl, ⟨c, ns, h1, h2⟩, hm, q⟩ := h
    have ncd : c ≠ d := ne_of h2 h1 (by intro z; unfold StO at z; cases z)
    refine ⟨rfl, d, StG c ns.length, h1, fun kvs g => ?_⟩
    refine ⟨d, c, ns, kvs, many, rfl, upd_same, g, by rw [upd_ne ncd]; exact h2, hm, fun r kvs' a b g' => ⟨kvs', g', upd_same, ?_⟩⟩
    rw [upd_upd, upd_upd, upd_self h1]
    exact q r a b
abbrev s__law_chance : Stmt := topS 8
abbrev n__law_chance : List Str := ["store", "many"]
theorem sc__law_chance : FnScope n__law_chance ["store", "many"] (defScope s__law_chance) := ⟨rfl, rfl, rfl, by decide +kernel, rfl, by decide +kernel, by decide +kernel⟩
def spChance (P : Program) (w : World) : Sp := fun vs H Q _ => ∃ (d : Addr) (many : Int), vs = [.ref d, .int many] ∧ StoreAt P w H d ∧ many < 1073741824 ∧ ∀ b : Bool, Q (.bl b) H
theorem ok_chance {f fd} (D : Dn K mg "_law_chance" s__law_chance ["store", "many"] f fd) (C__law_take : Cal P w K mg base CX0 "_law_take" 2 ["store", "many"] (spTake P w)) : FnOk P w K mg base CX0 3 f fd ["store", "many"] (spChance P w) := by
  refine D.fn.ok sc__law_chance (fun vs H Q E h => ?_) (fun cdv A outer s H vs Q E hr h => ?_)
  · obtain ⟨d, many, rfl, _⟩ := h
    rfl
  · obtain ⟨d, many, rfl, hs, hm, q⟩ := h
    refine ⟨_, (pss_one (ps_ret (pe_cmpR op_eq (pe_own C__law_take hr (by omega) (by rfl) (pa_cons (pv 0) (pa_cons (pv 1) pa_nil))) pe_int (nomark _)))), ?_⟩
    exact ⟨_, rfl, _, rfl, d, many, rfl, hs, hm, fun r h0 h1 => ⟨rfl, q _⟩⟩
abbrev s__law_pick : Stmt := topS 9
abbrev n__law_pick : List Str := ["store", "items"]
theorem sc__law_pick : FnScope n__law_pick ["store", "items"] (defScope s__law_pick) := ⟨rfl, rfl, rfl, by decide +kernel, rfl, by decide +kernel, by decide +kernel⟩
/-- of a list, a tuple or a text -/
def spPickT (P : Program) (w : World) (K : PySem.W.Frag) : Sp := fun vs H Q _ => ∃ (d : Addr) (x : V), vs = [.ref d, x] ∧ StoreAt P w H d ∧
  ((∃ (b : Bool) (a : Addr) (xs : List V), x = .ref a ∧ SqB K b H a xs ∧ 0 < xs.length ∧ xs.length < 1073741824 ∧ ∀ y ∈ xs, Q y H) ∨
   (∃ z : Str, x = .str z ∧ 0 < z.length ∧ z.length ≤ 100000 ∧ ∀ c ∈ z.cps.toList, Q (.str ⟨#[c]⟩) H))
theorem ok_pickT {f fd} (D : Dn K mg "_law_pick" s__law_pick ["store", "items"] f fd) (B : Bl mg) (C__law_take : Cal P w K mg base CX0 "_law_take" 2 ["store", "many"] (spTake P w)) : FnOk P w K mg base CX0 3 f fd ["store", "items"] (spPickT P w K) := by
  refine D.fn.ok sc__law_pick (fun vs H Q E h => ?_) (fun cdv A outer s H vs Q E hr h => ?_)
  · obtain ⟨d, x, rfl, _⟩ := h
    rfl
  · obtain ⟨d, x, rfl, hs, h⟩ := h
    refine ⟨_, (pss_one (ps_ret (pe_ix (ix_seqK (K := K) rfl) (pv 1) (pe_own C__law_take hr (by omega) (by rfl) (pa_cons (pv 0) (pa_cons (pe_callB (call_lenK (K := K) rfl) (by rfl) B.len bt_len (pa_cons (pv 1) pa_nil)) pa_nil))) (fun _ _ => rfl)))), ?_⟩
    rcases h with ⟨b, a, xs, rfl, ha, h0, h1, q⟩ | ⟨z, rfl, h0, h1, q⟩
    · refine ⟨_, rfl, _, rfl, _, rfl, _, xs.length, rfl, ?_, d, _, rfl, hs, by omega, fun r r0 r1 => ?_⟩
      · cases b with
        | true => exact .inl ⟨xs, ha, rfl⟩
        | false => exact .inr ⟨xs, ha, rfl⟩
      have hr1 : r = ((r.toNat : Nat) : Int) := by omega
      have hr2 : r.toNat < xs.length := by omega
      cases b with
      | true => exact .inl ⟨a, xs, _, _, rfl, rfl, ha, at_of hr1 (List.getElem?_eq_getElem hr2), q _ (List.getElem_mem hr2)⟩
      | false => exact .inr (.inl ⟨a, xs, _, _, rfl, rfl, ha, at_of hr1 (List.getElem?_eq_getElem hr2), q _ (List.getElem_mem hr2)⟩)
    · refine ⟨_, rfl, _, rfl, _, rfl, _, z.length, rfl, ⟨sz_of h1, rfl⟩, d, _, rfl, hs, by omega, fun r r0 r1 => ?_⟩
      have hr1 : r = ((r.toNat : Nat) : Int) := by omega
      have hr2 : r.toNat < z.cps.toList.length := by
        show _ < z.cps.size
        have : z.length = z.cps.size := rfl
        omega
      exact .inr (.inr ⟨z, _, _, rfl, rfl, sz_of h1, by have := atI_nat (List.getElem?_eq_getElem hr2); rw [← hr1] at this; exact this, q _ (List.getElem_mem hr2)⟩)
abbrev s__law_range : Stmt := topS 10
abbrev n__law_range : List Str := ["store", "low", "high", "way"]
theorem sc__law_range : FnScope n__law_range ["store", "low", "high"] (defScope s__law_range) := ⟨rfl, rfl, rfl, by decide +kernel, rfl, by decide +kernel, by decide +kernel⟩
def spRange (P : Program) (w : World) : Sp := fun vs H Q _ => ∃ (d : Addr) (low high : Int), vs = [.ref d, .int low, .int high] ∧ StoreAt P w H d ∧ -1000000 ≤ low ∧ low ≤ high ∧ high ≤ 1000000 ∧ ∀ r : Int, low ≤ r → r ≤ high → Q (.int r) H
theorem ok_range {f fd} (D : Dn K mg "_law_range" s__law_range ["store", "low", "high"] f fd) (B : Bl mg) (C__law_take : Cal P w K mg base CX0 "_law_take" 2 ["store", "many"] (spTake P w)) : FnOk P w K mg base CX0 3 f fd ["store", "low", "high"] (spRange P w) := by
  refine D.fn.ok sc__law_range (fun vs H Q E h => ?_) (fun cdv A outer s H vs Q E hr h => ?_)
  · obtain ⟨d, low, high, rfl, _⟩ := h
    rfl
  · obtain ⟨d, low, high, rfl, hs, b0, b1, b2, q⟩ := h
    refine ⟨_, (pss_cons (ps_set (i := 2) sc__law_range.nd rfl (.inl rfl) (pe_callB (call_max2 rfl) (by rfl) B.max bt_max (pa_cons (pv 1) (pa_cons (pv 2) pa_nil))))
      (pss_cons (ps_set (i := 3) sc__law_range.nd rfl (.inl rfl) (pe_own C__law_take hr (by omega) (by rfl) (pa_cons (pv 0) (pa_cons pe_int pa_nil))))
      (pss_cons (ps_if (pt_cmpR op_eq (pv 3) pe_int (nomark _)) (pss_one (ps_ret (pv 1))) pss_nil)
      (pss_cons (ps_if (pt_cmpR op_eq (pv 3) pe_int (nomark _)) (pss_one (ps_ret (pv 2))) pss_nil)
      (pss_cons (ps_if (pt_cmpR op_eq (pv 3) pe_int (nomark _)) (pss_one (ps_ret (pe_op op_add (pv 1) (pe_callB (call_min2 rfl) (by rfl) B.min bt_min (pa_cons pe_int (pa_cons (pe_op op_sub (pv 2) (pv 1)) pa_nil)))))) pss_nil)
      (pss_one (ps_ret (pe_op op_add (pv 1) (pe_own C__law_take hr (by omega) (by rfl) (pa_cons (pv 0) (pa_cons (pe_op op_add (pe_op op_sub (pv 2) (pv 1)) pe_int) pa_nil))))))))))), ?_⟩
    refine ⟨_, rfl, _, rfl, _, _, rfl, ?_⟩
    have e : (if high > low then high else low) = high := by split <;> omega
    rw [e]
    refine ⟨_, rfl, d, _, rfl, hs, by decide, fun way _ _ => ?_⟩
    refine ⟨_, rfl, rfl, _, rfl, iteD (fun _ => ⟨_, rfl, q _ (by omega) (by omega)⟩) (fun _ => ?_)⟩
    refine ⟨_, rfl, rfl, _, rfl, iteD (fun _ => ⟨_, rfl, q _ (by omega) (by omega)⟩) (fun _ => ?_)⟩
    refine ⟨_, rfl, rfl, _, rfl, iteD (fun _ => ?_) (fun _ => ?_)⟩
    · refine ⟨_, rfl, _, rfl, _, rfl, _, _, rfl, rfl, _, _, rfl, _, _, rfl, rfl, q _ ?_ ?_⟩ <;> split <;> omega
    · refine ⟨_, rfl, _, rfl, _, rfl, _, rfl, _, _, rfl, rfl, _, _, rfl, rfl, d, _, rfl, hs, by omega, fun r r0 r1 => ⟨_, _, rfl, rfl, q _ (by omega) (by omega)⟩⟩
abbrev s__law_store : Stmt := topS 6
abbrev n__law_store : List Str := ["script", "salt", "cells", "seed", "cell"]
theorem sc__law_store : FnScope n__law_store ["script", "salt"] (defScope s__law_store) := ⟨rfl, rfl, rfl, by decide +kernel, rfl, by decide +kernel, by decide +kernel⟩
def spStore0 (K : PySem.W.Frag) : Sp := fun vs H Q _ => ∃ (a : Addr) (ns : List Int) (salt : Int), vs = [.ref a, .int salt] ∧ SqL K H a (ns.map V.int) ∧ ns.length ≤ 63 ∧
  ∀ (d c : Addr) (ms : List Int) (kvs : List (Key × V)) (H' : Hp), H d = none → Ex H H' → H' c = some (.lst (ms.map V.int)) → StG c ms.length kvs → H' d = some (.dK kvs) → Q (.ref d) H'
theorem ok_store0 {f fd} (D : Dn K mg "_law_store" s__law_store ["script", "salt"] f fd) (B : Bl mg) (C__law_mix : Cal P w K mg base CX0 "_law_mix" 1 ["first", "second"] spMix) : FnOk P w K mg base CX0 2 f fd ["script", "salt"] (spStore0 K) := by
  refine D.fn.ok sc__law_store (fun vs H Q E h => ?_) (fun cdv A outer s H vs Q E hr h => ?_)
  · obtain ⟨a, ns, salt, rfl, _⟩ := h
    rfl
  · obtain ⟨a, ns, salt, rfl, ha, hl, q⟩ := h
    refine ⟨_, (pss_cons (ps_setLc (i := 2) (own := [("cell", 4)]) (g := gName 4) (tt := tYes) (by rfl) sc__law_store.nd rfl rfl (sw_true rfl rfl rfl (by decide +kernel)) (pi_listK (K := K) rfl (pe_slice (sl_listK (K := K) rfl) (pv 0) po_none (po_some pe_int))) (blkOk_by (own := [("cell", 4)]) (N := n__law_store) (sc := defScope s__law_store) (by decide +kernel)) (fun _ _ _ _ _ => (pg_name (i := 4) sc__law_store.nd rfl (Or.inl rfl))) (fun _ _ _ _ _ => pts_nil) (fun _ _ _ _ _ => (pe_callTy call_int1 (by rfl) B.int bt_int (pa_cons (pv 4) pa_nil))))
      (pss_cons (ps_set (i := 3) sc__law_store.nd rfl (.inl rfl) (pe_op op_add (pe_op op_mul pe_int (pe_callTy call_int1 (by rfl) B.int bt_int (pa_cons (pv 1) pa_nil))) (pe_callB (call_len_seqK (K := K) rfl) (by rfl) B.len bt_len (pa_cons (pv 2) pa_nil))))
      (pss_cut (ps_for PassesOwn.never rfl (pi_listK (K := K) rfl (pv 2)) (pg_name (i := 4) sc__law_store.nd rfl (.inl rfl))
      (pss_one (ps_set (i := 3) sc__law_store.nd rfl (.inl rfl) (pe_own C__law_mix hr (by omega) (by rfl) (pa_cons (pv 3) (pa_cons (pe_op op_mod (pe_callTy call_int1 (by rfl) B.int bt_int (pa_cons (pv 4) pa_nil)) pe_int) pa_nil))))))
      (pss_one (ps_ret (pe_disp (pps_cons pe_str (pv 2) (pps_cons pe_str pe_int (pps_cons pe_str pe_int (pps_cons pe_str pe_int (pps_cons pe_str (pe_op op_mul pe_int (pe_callTy call_int1 (by rfl) B.int bt_int (pa_cons (pv 1) pa_nil))) (pps_cons pe_str (pv 3) pps_nil)))))) (by rfl) (by rfl) (fun z => by cases z) (by decide))))))), ?_⟩
    -- cells = [int(cell) for cell in script[:63]]
    refine goL (el_mapN (K := K) (fun x => x) (el_sl (ev_var rfl) eo_none (eo_some ev_c) ha) (by have := cutV_length (ns.map V.int) none (some 63); rw [List.length_map] at this; omega) (fun x hx H1 e => ?_)) fun c H1 nc e1 hc => ?_
    · have hm : x ∈ ns.map V.int := List.mem_of_mem_drop (List.mem_of_mem_take hx)
      obtain ⟨i, _, rfl⟩ := List.mem_map.mp hm
      exact ev_int1 (ev_var rfl)
    obtain ⟨ms, hms⟩ : ∃ ms : List Int, (cutV (ns.map V.int) none (some 63)).map (fun x => x) = ms.map V.int := by
      refine ⟨(ns.drop (HT.sIx ns.length 0 none)).take (HT.sIx ns.length ns.length (some 63) - HT.sIx ns.length 0 none), ?_⟩
      rw [List.map_id', List.map_take, List.map_drop]
      unfold cutV
      rw [List.length_map]
    rw [hms] at hc
    -- seed = 7919 * int(salt) + len(cells)
    refine ⟨_, rfl, .inl ⟨_, rfl, _, _, rfl, rfl, .inl ⟨by decide, by decide⟩, _, rfl, c, _, rfl, .inl (sq_of hc), _, _, rfl, rfl, ?_⟩⟩
    -- for cell in cells
    refine ⟨fun σ' H2 => ∃ (seed : Int) (x : Option V), σ' = [some (.ref a), some (.int salt), some (.ref c), some (.int seed), x] ∧ H2 = H1, ?_, ?_⟩
    · refine ⟨_, rfl, c, rfl, ⟨_, sq_of hc⟩, for_list (K := K) (a := c) (xs := ms.map V.int) (fun _ σ' H2 => ∃ (seed : Int) (x : Option V), σ' = [some (.ref a), some (.int salt), some (.ref c), some (.int seed), x] ∧ H2 = H1)
        ⟨_, none, rfl, rfl⟩ (fun _ _ _ _ ⟨_, _, _, e⟩ => by rw [e]; exact sq_of hc) ?_ (fun σ' H2 h => h)⟩
      rintro i y σ' H2 hi ⟨seed, x, rfl, rfl⟩
      obtain ⟨z, _, rfl⟩ := List.mem_map.mp (List.mem_of_getElem? hi)
      refine ⟨_, rfl, _, rfl, .inl ⟨_, rfl, _, _, rfl, rfl, p_2305843009213693951, _, _, rfl, fun r _ _ => ?_⟩⟩
      exact ⟨_, _, rfl, rfl⟩
    · rintro σ' H2 ⟨seed, x, rfl, rfl⟩
      intro p np
      refine ⟨_, rfl, _, rfl, .inl ⟨_, rfl, _, _, rfl, rfl, .inl ⟨by decide, by decide⟩, _, rfl, upd_same, stK c 0 0 0 (7919 * salt) seed, rfl, (by show 6 ≤ 15; decide), ?_⟩⟩
      rw [upd_upd]
      have em : mergeK ([] : List (Key × V)) (stK c 0 0 0 (7919 * salt) seed) = stK c 0 0 0 (7919 * salt) seed := rfl
      rw [em]
      have ncp : c ≠ p := ne_of_none hc np
      exact q p c ms _ _ (fresh_back e1 np) (e1.trans (Ex.new np)) (by rw [upd_ne ncp]; exact hc) ⟨0, 0, 0, _, seed, by decide, by omega, rfl⟩ upd_same
def spStore (P : Program) (w : World) (K : PySem.W.Frag) : Sp := fun vs H Q _ => ∃ (a : Addr) (ns : List Int) (salt : Int), vs = [.ref a, .int salt] ∧ SqL K H a (ns.map V.int) ∧ ns.length ≤ 63 ∧
  ∀ (d : Addr) (H' : Hp), H d = none → Ex H H' → StoreAt P w H' d → Q (.ref d) H'
theorem ok_store {f fd} (D : Dn K mg "_law_store" s__law_store ["script", "salt"] f fd) (B : Bl mg) (C__law_mix : Cal P w K mg base CX0 "_law_mix" 1 ["first", "second"] spMix) : FnOk P w K mg base CX0 2 f fd ["script", "salt"] (spStore P w K) :=
  (fn_give (ok_store0 D B C__law_mix)).imp fun vs H Q E h => by
    obtain ⟨a, ns, salt, rfl, ha, hl, q⟩ := h
    refine ⟨a, ns, salt, rfl, ha, hl, fun d c ms kvs H' nd e hc g hd => ⟨d, _, kvs, nd, g, hd, ?_⟩⟩
    have ncd : c ≠ d := ne_of hc hd (by intro z; cases z)
    exact q d _ nd (Ex.mut e nd) ⟨c, ms, upd_same, by rw [upd_ne ncd]; exact hc⟩
end
end M

namespace M
open PySem PySem.Spec PyProof.Rows L2 Evl
/-! ### words -/
section
variable {P : Program} {w : World} {K : PySem.W.Frag} {mg : Str → Option Value} {base : Heap}
def Low (x : Str) : Prop := ∀ c ∈ x.cps.toList, 97 ≤ c ∧ c ≤ 122
theorem Low.sp {x : Str} (h : Low x) : 32 ∉ x.cps.toList := fun hc => by have := h 32 hc; omega
theorem Low.lay {x : Str} (h : Low x) : PyData.canLay0 (.str x) = true := by
  simp only [PyData.canLay0]
  show x.cps.all (fun c => decide (c < 0x110000)) = true
  rw [← Array.all_toList, List.all_eq_true]
  exact fun c hc => decide_eq_true (by have := (h c hc).2; omega)
structure Words (ws : List Str) : Prop where
  pos : 0 < ws.length
  len : ws.length ≤ 30
  wd : ∀ x ∈ ws, 1 ≤ x.length ∧ x.length ≤ 12 ∧ Low x
def sv (xs : List Str) : List V := xs.map V.str
theorem mem_join {a : Str} {c : Nat} : ∀ {ys : List Str}, c ∈ (Str.join a ys).cps.toList → c ∈ a.cps.toList ∨ ∃ y ∈ ys, c ∈ y.cps.toList
  | [], h => nomatch h
  | [y], h => .inr ⟨y, List.mem_singleton.mpr rfl, h⟩
  | x :: y :: r, h => by
    rw [join_cons2, Str.cps_append, Str.cps_append, Array.toList_append, Array.toList_append, List.mem_append, List.mem_append] at h
    rcases h with (h | h) | h
    · exact .inr ⟨x, List.mem_cons_self, h⟩
    · exact .inl h
    · rcases mem_join h with h | ⟨z, hz, h⟩
      · exact .inl h
      · exact .inr ⟨z, List.mem_cons_of_mem _ hz, h⟩
theorem lsum_one {ys : List Str} (h : ∀ y ∈ ys, y.length = 1) : lsum ys = ys.length := by
  induction ys with
  | nil => rfl
  | cons y ys ih =>
    have h1 := h y List.mem_cons_self
    have h2 := ih fun z hz => h z (List.mem_cons_of_mem _ hz)
    unfold lsum at h2 ⊢
    rw [List.map_cons, List.sum_cons, h2, h1, List.length_cons]
    omega
/-- letters drawn of a text, joined -/
theorem letters {tn td tz : TE} {σ : L2.St} {H : Hp} {n : Int} {d : Addr} {z a : Str} {j : Nat} {vs : List Nat} {Q : VK} (ha : a.cps.toList = []) (hn : Ev tn σ H (.int n)) (n0 : 0 ≤ n) (n1 : n ≤ 100) (hs : StoreAt P w H d)
    (hd : ∀ y H1, Ex H H1 → Ev td ((wipe σ vs).set j (some y)) H1 (.ref d)) (hz : ∀ y H1, Ex H H1 → Ev tz ((wipe σ vs).set j (some y)) H1 (.str z)) (z0 : 0 < z.length) (z1 : z.length ≤ 100000) (hw : ∀ y, wipe ((wipe σ vs).set j (some y)) vs = wipe σ vs)
    (q : ∀ (x : Str) (H2 : Hp), Ex H H2 → (x.length : Int) = n → (∀ c ∈ x.cps.toList, c ∈ z.cps.toList) → Q (.str x) H2) :
    tM1 (rJoin K) (tC (.str a)) (tLc (iRng1 (tCons tn tNil)) (gName j) tYes (tOwn (spPickT P w K) (tCons td (tCons tz tNil))) vs) σ H Q := by
  have al : a.length = 0 := by show a.cps.size = 0; rw [← Array.length_toList, ha]; rfl
  refine ⟨⟨a, rfl⟩, hn H (Ex.refl H) _ fun H0 e0 => ⟨n, rfl, by omega, by omega, fun Dl hD => lc_range (lo := 0) (n := n.toNat)
    (fun i Hk => ∃ ys : List Str, Ex H Hk ∧ Hk Dl = some (.lst (sv ys)) ∧ ys.length = i ∧ ∀ y ∈ ys, y.length = 1 ∧ ∀ c ∈ y.cps.toList, c ∈ z.cps.toList) ⟨[], e0.trans (Ex.new hD), upd_same, rfl, fun _ h => nomatch h⟩ ?_ ?_⟩⟩
  · rintro i Hk hi ⟨ys, e, hl, hlen, hy⟩
    refine ⟨hw _, ?_⟩
    unfold tYes
    refine iteT ?_
    refine hd _ Hk e Hk (Ex.refl _) _ fun H1 e1 => hz _ H1 (e.trans e1) H1 (Ex.refl _) _ fun H2 e2 => ?_
    refine ⟨d, .str z, rfl, hs.ex (e.trans (e1.trans e2)), .inr ⟨z, rfl, z0, z1, fun c hc => ?_⟩⟩
    refine ⟨_, e2 _ _ (e1 _ _ hl), by unfold sv; rw [List.length_map]; exact sz_lt (by omega), ys ++ [⟨#[c]⟩], Ex.mut (e.trans (e1.trans e2)) (fresh_back e0 hD), ?_, by rw [List.length_append, hlen]; rfl, fun y hym => ?_⟩
    · rw [upd_same]; unfold sv; rw [List.map_append]; rfl
    · rcases List.mem_append.mp hym with hym | hym
      · exact hy y hym
      · rw [List.mem_singleton.mp hym]
        exact ⟨rfl, fun c' hc' => by rw [List.mem_singleton.mp hc']; exact hc⟩
  · rintro Hk ⟨ys, e, hl, hlen, hy⟩
    have hl1 := lsum_one fun y h => (hy y h).1
    unfold lsum at hl1
    refine ⟨a, Dl, ys, rfl, rfl, .inl (sq_of hl), by rw [hl1, al]; omega, ?_⟩
    rw [TL.join_eq]
    refine q _ Hk e ?_ fun c hc => ?_
    · rw [join_len]
      unfold lsum
      rw [hl1, al]
      omega
    · rcases mem_join hc with h | ⟨y, h1, h2⟩
      · rw [ha] at h; cases h
      · exact (hy y h1).2 c h2
theorem pick_ints {x : V} {xs : List Int} {lo hi : Int} (h : x ∈ xs.map V.int) (hb : ∀ k ∈ xs, lo ≤ k ∧ k ≤ hi) : ∃ k : Int, x = .int k ∧ lo ≤ k ∧ k ≤ hi := by
  obtain ⟨k, hk, rfl⟩ := List.mem_map.mp h
  exact ⟨k, rfl, hb k hk⟩
theorem eb_chance {td tn : TE} {σ : L2.St} {H : Hp} {d : Addr} {n : Int} (hd : Ev td σ H (.ref d)) (hn : Ev tn σ H (.int n)) (hs : StoreAt P w H d) (hb : n < 1073741824) : EvB (tB (tOwn (spChance P w) (tCons td (tCons tn tNil)))) σ H := fun H1 e Q q =>
  hd H1 e _ fun H2 e2 => hn H2 (e.trans e2) _ fun H3 e3 => ⟨d, n, rfl, hs.ex (e.trans (e2.trans e3)), hb, fun b => ⟨b, rfl, q b H3 (e2.trans e3)⟩⟩
abbrev s__law_words : Stmt := topS 11
abbrev n__law_words : List Str := ["store", "signs", "many", "out", "k", "size", "j"]
theorem sc__law_words : FnScope n__law_words ["store"] (defScope s__law_words) := ⟨rfl, rfl, rfl, by decide +kernel, rfl, by decide +kernel, by decide +kernel⟩
def spWords (P : Program) (w : World) : Sp := fun vs H Q _ => ∃ d : Addr, vs = [.ref d] ∧ StoreAt P w H d ∧ ∀ (p : Addr) (H2 : Hp) (ws : List Str), H p = none → Ex H H2 → H2 p = some (.lst (sv ws)) → Words ws → Q (.ref p) H2
def abc3 : List Str := ["ab", "abcdefghijklmnopqrstuvwxyz", "az"]
theorem abc3_ok : ∀ x ∈ abc3, 0 < x.length ∧ x.length ≤ 100000 ∧ Low x := by unfold Low; decide
def held5 : List Str := ["row", "fit", "none", "words", "hole"]
theorem held5_ok : ∀ x ∈ held5, 1 ≤ x.length ∧ x.length ≤ 12 ∧ Low x := by unfold Low; decide
theorem ok_words {f fd} (D : Dn K mg "_law_words" s__law_words ["store"] f fd) (B : Bl mg) (C__law_chance : Cal P w K mg base CX0 "_law_chance" 3 ["store", "many"] (spChance P w))
    (C__law_pick : Cal P w K mg base CX0 "_law_pick" 3 ["store", "items"] (spPickT P w K)) (C__law_range : Cal P w K mg base CX0 "_law_range" 3 ["store", "low", "high"] (spRange P w)) : FnOk P w K mg base CX0 4 f fd ["store"] (spWords P w) := by
  refine D.fn.ok sc__law_words (fun vs H Q E h => ?_) (fun cdv A outer s H vs Q E hr h => ?_)
  · obtain ⟨d, rfl, _⟩ := h
    rfl
  · obtain ⟨d, rfl, hs, q⟩ := h
    refine ⟨_, (pss_cons (ps_set (i := 1) sc__law_words.nd rfl (.inr rfl) (pe_own C__law_pick hr (by omega) (by rfl) (pa_cons (pv 0) (pa_cons (pe_lst (pa_cons pe_str (pa_cons pe_str (pa_cons pe_str pa_nil)))) pa_nil))))
      (pss_cons (ps_set (i := 2) sc__law_words.nd rfl (.inl rfl) (pe_own C__law_range hr (by omega) (by rfl) (pa_cons (pv 0) (pa_cons pe_int (pa_cons pe_int pa_nil)))))
      (pss_cut (ps_if (pt_val (pe_own C__law_chance hr (by omega) (by rfl) (pa_cons (pv 0) (pa_cons pe_int pa_nil)))) (pss_one (ps_set (i := 2) sc__law_words.nd rfl (.inl rfl) (pe_own C__law_pick hr (by omega) (by rfl) (pa_cons (pv 0) (pa_cons (pe_lst (pa_cons pe_int (pa_cons pe_int pa_nil))) pa_nil))))) pss_nil)
      (pss_cons (ps_set (i := 3) sc__law_words.nd rfl (.inl rfl) (pe_lst pa_nil))
      (pss_cons (ps_for PassesOwn.never rfl (pi_range1 (by rfl) B.range (pa_cons (pv 2) pa_nil)) (pg_name (i := 4) sc__law_words.nd rfl (.inl rfl))
      (pss_cons (ps_set (i := 5) sc__law_words.nd rfl (.inl rfl) (pe_own C__law_pick hr (by omega) (by rfl) (pa_cons (pv 0) (pa_cons (pe_lst (pa_cons pe_int (pa_cons pe_int (pa_cons pe_int (pa_cons pe_int (pa_cons pe_int (pa_cons pe_int (pa_cons pe_int (pa_cons pe_int pa_nil))))))))) pa_nil))))
      (pss_cut (ps_if (pt_val (pe_own C__law_chance hr (by omega) (by rfl) (pa_cons (pv 0) (pa_cons pe_int pa_nil)))) (pss_one (ps_set (i := 5) sc__law_words.nd rfl (.inl rfl) (pe_own C__law_pick hr (by omega) (by rfl) (pa_cons (pv 0) (pa_cons (pe_lst (pa_cons pe_int (pa_cons pe_int pa_nil))) pa_nil))))) pss_nil)
      (pss_one (ps_if (PW.pt (pw_and (pt_cmpR op_gt (pv 4) pe_int (nomark _)) (pw_and1 (pt_val (pe_own C__law_chance hr (by omega) (by rfl) (pa_cons (pv 0) (pa_cons pe_int pa_nil))))))) (pss_one (ps_expr (pe_bm PySem.F.plainAttrs_list PySem.F.slot_list_append PySem.F.type_list_append mt_append (pv 3) (pa_cons (pe_own C__law_pick hr (by omega) (by rfl) (pa_cons (pv 0) (pa_cons (pv 3) pa_nil))) pa_nil)))) (pss_one (ps_if (pt_val (pe_own C__law_chance hr (by omega) (by rfl) (pa_cons (pv 0) (pa_cons pe_int pa_nil)))) (pss_one (ps_expr (pe_bm PySem.F.plainAttrs_list PySem.F.slot_list_append PySem.F.type_list_append mt_append (pv 3) (pa_cons (pe_own C__law_pick hr (by omega) (by rfl) (pa_cons (pv 0) (pa_cons (pe_lst (pa_cons pe_str (pa_cons pe_str (pa_cons pe_str (pa_cons pe_str (pa_cons pe_str pa_nil)))))) pa_nil))) pa_nil)))) (pss_one (ps_expr (pe_bm PySem.F.plainAttrs_list PySem.F.slot_list_append PySem.F.type_list_append mt_append (pv 3) (pa_cons (pe_joinK (K := K) rfl pe_str (pe_lc (own := [("j", 6)]) (g := gName 6) (tt := tYes) rfl sc__law_words.nd (pi_range1 (by rfl) B.range (pa_cons (pv 5) pa_nil)) (blkOk_by (own := [("j", 6)]) (N := n__law_words) (sc := defScope s__law_words) (by decide +kernel)) (fun _ _ _ _ _ => (pg_name (i := 6) sc__law_words.nd rfl (Or.inl rfl))) (fun _ _ _ _ _ => pts_nil) (fun _ _ _ _ _ => (pe_own C__law_pick hr (by omega) (by rfl) (pa_cons (pv 0) (pa_cons (pv 1) pa_nil)))))) pa_nil)))))))))))
      (pss_one (ps_ret (pv 3)))))))), ?_⟩
    -- signs
    refine ⟨_, rfl, by show 3 ≤ sizeLine; decide, fun p1 n1 => ?_⟩
    obtain ⟨H1, hH1, e1, hp1⟩ := newH n1 (.lst (sv abc3))
    rw [show [V.str "ab", .str "abcdefghijklmnopqrstuvwxyz", .str "az"] = sv abc3 from rfl, hH1]
    refine ⟨d, _, rfl, hs.ex e1, .inl ⟨true, p1, _, rfl, SqB.l hp1, by decide, by decide, fun y hy => ?_⟩⟩
    obtain ⟨z, hz, rfl⟩ := List.mem_map.mp hy
    obtain ⟨z0, z1, z2⟩ := abc3_ok z hz
    clear hy
    -- many
    refine ⟨_, rfl, d, 1, 6, rfl, hs.ex e1, by decide, by decide, by decide, fun many m0 m1 => ?_⟩
    refine ⟨fun σ' H' => ∃ many : Int, σ' = [some (.ref d), some (.str z), some (.int many), none, none, none, none] ∧ Ex H H' ∧ 1 ≤ many ∧ many ≤ 30, ?_, ?_⟩
    · refine ⟨_, rfl, d, 16, rfl, hs.ex e1, by decide, fun b => ⟨b, rfl, iteB (fun _ => ?_) (fun _ => ?_)⟩⟩
      · refine ⟨_, rfl, by show 2 ≤ sizeLine; decide, fun p2 n2 => ?_⟩
        obtain ⟨H2, hH2, e2, hp2⟩ := newH n2 (.lst (iv [29, 30]))
        rw [show [V.int 29, .int 30] = iv [29, 30] from rfl, hH2]
        refine ⟨d, _, rfl, hs.ex (e1.trans e2), .inl ⟨true, p2, _, rfl, SqB.l hp2, by decide, by decide, fun y hy => ?_⟩⟩
        obtain ⟨k, rfl, k0, k1⟩ := pick_ints (lo := 1) (hi := 30) hy (by decide)
        exact ⟨k, rfl, e1.trans e2, k0, k1⟩
      · exact ⟨many, rfl, e1, m0, by omega⟩
    rintro σ' H2 ⟨many, rfl, e2, m0, m1⟩
    -- out
    refine q_asgL (el_lst ea_nil (by decide)) fun o H3 no e3 ho => ?_
    have e3' := e2.trans e3
    have no' := fresh_back e2 no
    refine ⟨_, rfl, many, rfl, by omega, by omega, for_range (lo := 0) (n := many.toNat)
      (fun i σ' H' => ∃ x4 x5 ws, σ' = [some (.ref d), some (.str z), some (.int many), some (.ref o), x4, x5, none] ∧ Ex H H' ∧ H' o = some (.lst (sv ws)) ∧ ws.length = i ∧ ∀ x ∈ ws, 1 ≤ x.length ∧ x.length ≤ 12 ∧ Low x)
      ⟨_, _, [], rfl, e3', ho, rfl, fun _ h => nomatch h⟩ ?_ ?_⟩
    · rintro i σ' H4 hi ⟨x4, x5, ws, rfl, e4, ho4, hlen, hws⟩
      have sl : (sv ws).length < sizeLine := by unfold sv; rw [List.length_map]; exact sz_lt (by omega)
      have fin : ∀ (H' : Hp) (s : Int) (x : Str), Ex H H' → H' o = some (.lst (sv ws)) → 1 ≤ x.length ∧ x.length ≤ 12 ∧ Low x →
          ∃ x4' x5' ws', [some (V.ref d), some (.str z), some (.int many), some (.ref o), some (V.int (0 + (i : Nat))), some (.int s), none] = [some (.ref d), some (.str z), some (.int many), some (.ref o), x4', x5', none] ∧ Ex H (upd H' o (.lst (sv ws ++ [.str x]))) ∧ upd H' o (.lst (sv ws ++ [.str x])) o = some (.lst (sv ws')) ∧ ws'.length = i + 1 ∧ ∀ x ∈ ws', 1 ≤ x.length ∧ x.length ≤ 12 ∧ Low x := fun H' s x e h hx =>
        ⟨_, _, ws ++ [x], rfl, Ex.mut e no', by rw [upd_same]; unfold sv; rw [List.map_append]; rfl, by rw [List.length_append, hlen]; rfl, fun y hy => by
          rcases List.mem_append.mp hy with hy | hy
          · exact hws y hy
          · rw [List.mem_singleton.mp hy]; exact hx⟩
      -- size
      refine ⟨_, rfl, by show 8 ≤ sizeLine; decide, fun p2 n2 => ?_⟩
      obtain ⟨H5, hH5, e5, hp5⟩ := newH n2 (.lst (iv [1, 1, 2, 3, 4, 2, 3, 5]))
      rw [show [V.int 1, .int 1, .int 2, .int 3, .int 4, .int 2, .int 3, .int 5] = iv [1, 1, 2, 3, 4, 2, 3, 5] from rfl, hH5]
      refine ⟨d, _, rfl, hs.ex (e4.trans e5), .inl ⟨true, p2, _, rfl, SqB.l hp5, by decide, by decide, fun y hy => ?_⟩⟩
      obtain ⟨k, rfl, k0, k1⟩ := pick_ints (lo := 1) (hi := 12) hy (by decide)
      clear hy
      have ho5 := e5 _ _ ho4
      refine ⟨fun σ' H' => ∃ k : Int, σ' = [some (.ref d), some (.str z), some (.int many), some (.ref o), some (.int (0 + (i : Nat))), some (.int k), none] ∧ Ex H H' ∧ H' o = some (.lst (sv ws)) ∧ 1 ≤ k ∧ k ≤ 12, ?_, ?_⟩
      · refine ⟨_, rfl, d, 12, rfl, hs.ex (e4.trans e5), by decide, fun b => ⟨b, rfl, iteB (fun _ => ?_) (fun _ => ?_)⟩⟩
        · refine ⟨_, rfl, by show 2 ≤ sizeLine; decide, fun p3 n3 => ?_⟩
          obtain ⟨H6, hH6, e6, hp6⟩ := newH n3 (.lst (iv [11, 12]))
          rw [show [V.int 11, .int 12] = iv [11, 12] from rfl, hH6]
          refine ⟨d, _, rfl, hs.ex (e4.trans (e5.trans e6)), .inl ⟨true, p3, _, rfl, SqB.l hp6, by decide, by decide, fun y hy => ?_⟩⟩
          obtain ⟨k, rfl, k0, k1⟩ := pick_ints (lo := 1) (hi := 12) hy (by decide)
          exact ⟨k, rfl, e4.trans (e5.trans e6), e6 _ _ ho5, k0, k1⟩
        · exact ⟨k, rfl, e4.trans e5, ho5, k0, k1⟩
      clear k0 k1
      clear k
      rintro σ' H6 ⟨k, rfl, e6, ho6, k0, k1⟩
      have hs6 := hs.ex e6
      -- which
      refine goAnd (et_test (ev_op (ev_var rfl) ev_c rv_I0)) (eb_chance (ev_var rfl) ev_c hs6 (by decide)) fun b H7 hb e7 => iteB (fun hb1 => ?_) (fun _ => ?_)
      · -- a word again
        have ho7 := e7 _ _ ho6
        refine ⟨_, rfl, .inl ⟨rfl, _, sq_of ho7⟩, _, rfl, _, rfl, d, _, rfl, hs6.ex e7, .inl ⟨true, o, _, rfl, SqB.l ho7, ?_, ?_, fun y hy => ?_⟩⟩
        · have := of_decide_eq_true (hb hb1); unfold sv; rw [List.length_map]; omega
        · unfold sv; rw [List.length_map]; omega
        · obtain ⟨x, hx, rfl⟩ := List.mem_map.mp hy
          exact ⟨o, _, _, rfl, rfl, ho7, sl, fin H7 k x (e6.trans e7) ho7 (hws x hx)⟩
      · have ho7 := e7 _ _ ho6
        have e7' := e6.trans e7
        refine ⟨_, rfl, d, 20, rfl, hs.ex e7', by decide, fun b => ⟨b, rfl, iteB (fun _ => ?_) (fun _ => ?_)⟩⟩
        · refine ⟨_, rfl, .inl ⟨rfl, _, sq_of ho7⟩, _, rfl, by show 5 ≤ sizeLine; decide, fun p3 n3 => ?_⟩
          obtain ⟨H8, hH8, e8, hp8⟩ := newH n3 (.lst (sv held5))
          rw [show [V.str "row", .str "fit", .str "none", .str "words", .str "hole"] = sv held5 from rfl, hH8]
          refine ⟨d, _, rfl, hs.ex (e7'.trans e8), .inl ⟨true, p3, _, rfl, SqB.l hp8, by decide, by decide, fun y hy => ?_⟩⟩
          obtain ⟨x, hx, rfl⟩ := List.mem_map.mp hy
          exact ⟨o, _, _, rfl, rfl, e8 _ _ ho7, sl, fin H8 k x (e7'.trans e8) (e8 _ _ ho7) (held5_ok x hx)⟩
        · refine ⟨_, rfl, .inl ⟨rfl, _, sq_of ho7⟩, letters (K := K) (z := z) (j := 6) (vs := [6]) (n := k) rfl (ev_var rfl) (by omega) (by omega) (hs.ex e7') (fun y H1 e => ev_var rfl) (fun y H1 e => ev_var rfl) z0 z1 (fun y => rfl) fun x H8 e8 hx hc => ?_⟩
          exact ⟨o, _, _, rfl, rfl, e8 _ _ ho7, sl, fin H8 k x (e7'.trans e8) (e8 _ _ ho7) ⟨by omega, by omega, fun c h => z2 c (hc c h)⟩⟩
    · rintro σ' H4 ⟨x4, x5, ws, rfl, e4, ho4, hlen, hws⟩
      exact ⟨_, rfl, q o H4 ws no' e4 ho4 ⟨by omega, by omega, hws⟩⟩
end
end M

namespace M
open PySem PySem.Spec PyProof.Rows L2 Evl
section
variable {P : Program} {w : World} {K : PySem.W.Frag} {mg : Str → Option Value} {base : Heap}
abbrev s_longest : Stmt := topS 1
abbrev n_longest : List Str := ["texts", "text"]
theorem sc_longest : FnScope n_longest ["texts"] (defScope s_longest) := ⟨rfl, rfl, rfl, by decide +kernel, rfl, by decide +kernel, by decide +kernel⟩
def spLong (K : PySem.W.Frag) : Sp := fun vs H Q _ => ∃ (b : Bool) (p : Addr) (xs : List Str), vs = [.ref p] ∧ SqB K b H p (sv xs) ∧ 0 < xs.length ∧ xs.length ≤ 40000 ∧ (∀ x ∈ xs, x.length ≤ 100000) ∧ RetV (.int (longI xs)) H Q
theorem ok_long {f fd} (D : Dn K mg "longest" s_longest ["texts"] f fd) (B : Bl mg) : FnOk P w K mg base CX0 1 f fd ["texts"] (spLong K) := by
  refine D.fn.ok sc_longest (fun vs H Q E h => ?_) (fun cdv A outer s H vs Q E hr h => ?_)
  · obtain ⟨b, p, xs, rfl, _⟩ := h
    rfl
  · obtain ⟨b, p, xs, rfl, hp, l0, l1, hx, q⟩ := h
    refine ⟨_, (pss_one (ps_ret (pe_callB (cr_maxK (K := K) rfl rfl) (by rfl) B.max bt_max (pa_cons (pe_lc (own := [("text", 1)]) (g := gName 1) (tt := tYes) rfl sc_longest.nd (pi_seqK (K := K) rfl (pv 0)) (blkOk_by (own := [("text", 1)]) (N := n_longest) (sc := defScope s_longest) (by decide +kernel)) (fun _ _ _ _ _ => (pg_name (i := 1) sc_longest.nd rfl (Or.inl rfl))) (fun _ _ _ _ _ => pts_nil) (fun _ _ _ _ _ => (pe_callB call_len_str (by rfl) B.len bt_len (pa_cons (pv 1) pa_nil)))) pa_nil)))), ?_⟩
    exact s_ret (ev_maxN (ns := lens xs) (el_is' (el_mS (K := K) V.str xs (fun x => V.int (ln x)) (es_var (ev_var rfl) hp) l1 (fun x h H1 e => ev_lenStr (ev_var rfl) (hx x h))) (by unfold lens iv; rw [List.map_map]; rfl)) (by unfold lens; rw [List.length_map]; exact l0)) q
theorem spv_long {H : Hp} {b : Bool} {p : Addr} {xs : List Str} (hp : SqB K b H p (sv xs)) (l0 : 0 < xs.length) (l1 : xs.length ≤ 40000) (hx : ∀ x ∈ xs, x.length ≤ 100000) : SpV (spLong K) [.ref p] H (.int (longI xs)) := fun H1 e Q q E => ⟨b, p, xs, rfl, hp.ex e, l0, l1, hx, q⟩
theorem Words.short {ws : List Str} (h : Words ws) : ∀ x ∈ ws, x.length ≤ 100000 := fun x hx => Nat.le_trans (h.wd x hx).2.1 (by decide)
theorem Words.ne {ws : List Str} (h : Words ws) : ws ≠ [] := List.ne_nil_of_length_pos h.pos
/-- lines of words -/
theorem lsum_le {ws : List Str} (h : ∀ x ∈ ws, x.length ≤ 12) : lsum ws ≤ ws.length * 12 := by
  induction ws with
  | nil => exact Nat.le_refl _
  | cons x ws ih =>
    have h1 := h x List.mem_cons_self
    have h2 := ih fun z hz => h z (List.mem_cons_of_mem _ hz)
    unfold lsum at h2 ⊢
    rw [List.map_cons, List.sum_cons, List.length_cons]
    omega
theorem txt_len {g : List Str} (h : ∀ x ∈ g, x.length ≤ 12) (h2 : g.length ≤ 30) : (txt g).length ≤ 1000 := by
  unfold txt
  rw [join_len, sp_len]
  have := lsum_le h
  omega
theorem gstep_len (m : Int) : ∀ (ws : List Str) (st : List (List Str) × List Str), (∀ x ∈ ws, x.length ≤ 12) → (∀ x ∈ st.2, x.length ≤ 12) →
    (∀ x ∈ (ws.foldl (gstep m) st).2, x.length ≤ 12) ∧ (ws.foldl (gstep m) st).2.length ≤ st.2.length + ws.length ∧ (ws.foldl (gstep m) st).1.length ≤ st.1.length + ws.length
  | [], st, _, h => ⟨h, Nat.le_refl _, Nat.le_refl _⟩
  | w :: ws, st, hw, h => by
    rw [List.foldl_cons]
    have h1 := hw w List.mem_cons_self
    have ih := gstep_len m ws (gstep m st w) (fun x hx => hw x (List.mem_cons_of_mem _ hx))
    unfold gstep at ih ⊢
    rw [List.length_cons]
    split
    · rename_i hj
      rw [if_pos hj] at ih
      obtain ⟨a, b, c⟩ := ih fun x hx => by
        rcases List.mem_append.mp hx with hx | hx
        · exact h x hx
        · rw [List.mem_singleton.mp hx]; exact h1
      rw [List.length_append, List.length_singleton] at b
      dsimp only at c
      exact ⟨a, by omega, by omega⟩
    · rename_i hj
      rw [if_neg hj] at ih
      obtain ⟨a, b, c⟩ := ih fun x hx => by rw [List.mem_singleton.mp hx]; exact h1
      rw [List.length_singleton] at b
      dsimp only at c
      rw [List.length_append, List.length_singleton] at c
      exact ⟨a, by omega, by omega⟩
theorem cut_tail {xs : List V} (h : 0 < xs.length) : cutV xs (some 1) none = xs.tail := by
  unfold cutV
  rw [show HT.sIx xs.length 0 (some 1) = 1 by unfold HT.sIx; simp; omega, show HT.sIx xs.length xs.length none = xs.length from rfl]
  rw [List.take_of_length_le (by rw [List.length_drop]; omega), List.drop_one]
theorem cut_part {xs : List V} (h : 0 < xs.length) : ¬ (HT.sIx xs.length 0 (some 1) = 0 ∧ HT.sIx xs.length xs.length none = xs.length) := by
  rw [show HT.sIx xs.length 0 (some 1) = 1 by unfold HT.sIx; simp; omega]
  omega
abbrev s_greedy_lines : Stmt := topS 2
abbrev n_greedy_lines : List Str := ["words", "width", "lines", "line", "word"]
theorem sc_greedy_lines : FnScope n_greedy_lines ["words", "width"] (defScope s_greedy_lines) := ⟨rfl, rfl, rfl, by decide +kernel, rfl, by decide +kernel, by decide +kernel⟩
def spGreedy (K : PySem.W.Frag) : Sp := fun vs H Q _ => ∃ (b : Bool) (p : Addr) (ws : List Str) (m : Int), vs = [.ref p, .int m] ∧ SqB K b H p (sv ws) ∧ Words ws ∧ (m < longI ws → RetV .non H Q) ∧ (longI ws ≤ m → RetL (sv ((grd m ws).map txt)) H Q)
theorem ok_greedy {f fd} (D : Dn K mg "greedy_lines" s_greedy_lines ["words", "width"] f fd) (B : Bl mg) (C_longest : Cal P w K mg base CX0 "longest" 1 ["texts"] (spLong K)) : FnOk P w K mg base CX0 2 f fd ["words", "width"] (spGreedy K) := by
  refine D.fn.ok sc_greedy_lines (fun vs H Q E h => ?_) (fun cdv A outer s H vs Q E hr h => ?_)
  · obtain ⟨b, p, ws, m, rfl, _⟩ := h
    rfl
  · obtain ⟨b, p, ws, m, rfl, hp, hw, q0, q1⟩ := h
    refine ⟨_, (pss_cons (ps_if (pt_cmpR op_gt (pe_own C_longest hr (by omega) (by rfl) (pa_cons (pv 0) pa_nil)) (pv 1) (nomark _)) (pss_one (ps_ret pe_non)) pss_nil)
      (pss_cons (ps_set (i := 2) sc_greedy_lines.nd rfl (.inl rfl) (pe_lst pa_nil))
      (pss_cons (ps_set (i := 3) sc_greedy_lines.nd rfl (.inl rfl) (pe_ix (ix_seqK (K := K) rfl) (pv 0) pe_int (fun _ _ => rfl)))
      (pss_cons (ps_for PassesOwn.never rfl (pi_seqK (K := K) rfl (pe_slice (sl_seqK (K := K) rfl) (pv 0) (po_some pe_int) po_none)) (pg_name (i := 4) sc_greedy_lines.nd rfl (.inl rfl))
      (pss_one (ps_if (pt_cmpR op_le (pe_op op_add (pe_op op_add (pe_callB call_len_str (by rfl) B.len bt_len (pa_cons (pv 3) pa_nil)) pe_int) (pe_callB call_len_str (by rfl) B.len bt_len (pa_cons (pv 4) pa_nil))) (pv 1) (nomark _)) (pss_one (ps_set (i := 3) sc_greedy_lines.nd rfl (.inl rfl) (pe_op op_add_str (pe_op op_add_str (pv 3) pe_str) (pv 4)))) (pss_cons (ps_expr (pe_bm PySem.F.plainAttrs_list PySem.F.slot_list_append PySem.F.type_list_append mt_append (pv 2) (pa_cons (pv 3) pa_nil)))
      (pss_one (ps_set (i := 3) sc_greedy_lines.nd rfl (.inl rfl) (pv 4)))))))
      (pss_cons (ps_expr (pe_bm PySem.F.plainAttrs_list PySem.F.slot_list_append PySem.F.type_list_append mt_append (pv 2) (pa_cons (pv 3) pa_nil)))
      (pss_one (ps_ret (pv 2)))))))), ?_⟩
    have hwl : (sv ws).length = ws.length := List.length_map ..
    have hl30 := hw.len
    refine q_when (et_test (ev_op (ev_own (ea_cons (ev_var rfl) ea_nil) (spv_long hp hw.pos (by omega) hw.short)) (ev_var rfl) rv_I0)) (fun h H1 e1 => s_ret ev_c fun H2 e2 => q0 (of_decide_eq_true h) H2 (e1.trans e2)) (fun h H1 e1 => ?_)
    have hm : longI ws ≤ m := by have := of_decide_eq_false h; omega
    obtain ⟨w0, r, rfl⟩ : ∃ w0 r, ws = w0 :: r := by
      cases ws with
      | nil => exact absurd rfl hw.ne
      | cons w0 r => exact ⟨w0, r, rfl⟩
    have hwd : ∀ x ∈ w0 :: r, x.length ≤ 12 := fun x hx => (hw.wd x hx).2.1
    rw [List.length_cons] at hl30
    -- lines = [], line = words[0]
    refine q_asgL (el_lst ea_nil (by decide)) fun o H2 no e2 ho => ?_
    have e12 := e1.trans e2
    have no' := fresh_back e1 no
    refine q_asg (ev_ixS (K := K) (es_var (ev_var rfl) (hp.ex e12)) ev_c (v := .str w0) (atI_nat (j := 0) rfl)) fun H3 e3 => ?_
    have e13 := e12.trans e3
    -- the loop
    refine q_forSN (K := K) (xs := sv r) (by
      have := esn_sl (K := K) (σ := [some (V.ref p), some (.int m), some (.ref o), some (.str w0), none]) (H := H3) (te := tVar 0) (tlo := tPart (tC (.int 1))) (thi := tNoPart) (es_var (ev_var rfl) (hp.ex e13)) (eo_some ev_c) eo_none (cut_part (by rw [hwl, List.length_cons]; omega))
      rw [cut_tail (by rw [hwl, List.length_cons]; omega)] at this
      exact this)
      (fun b' p' i σ' H' => ∃ x4, σ' = [some (.ref p), some (.int m), some (.ref o), some (.str (txt ((r.take i).foldl (gstep m) ([], [w0])).2)), x4] ∧ Ex H H' ∧ H' o = some (.lst (sv (((r.take i).foldl (gstep m) ([], [w0])).1.map txt))) ∧ H' p' = some (sqO b' (sv r)) ∧ p' ≠ o)
      (fun b' p' H4 np' e4 hp' => ⟨_, rfl, e13.trans e4, e4 _ _ (e3 _ _ ho), hp', (ne_of_none (e3 _ _ ho) np').symm⟩) (fun _ _ _ _ _ _ ⟨_, _, _, _, h, _⟩ => h) ?_ ?_
    · rintro b' p' i x σ' H4 hi ⟨x4, rfl, e4, ho4, hp4, npo⟩
      obtain ⟨y, hy, rfl⟩ : ∃ y, r[i]? = some y ∧ x = .str y := by
        unfold sv at hi
        rw [List.getElem?_map] at hi
        cases h : r[i]? with
        | none => rw [h] at hi; cases hi
        | some y => rw [h] at hi; exact ⟨y, rfl, (Option.some.inj hi).symm⟩
      have hir : i < r.length := (List.getElem?_eq_some_iff.mp hy).1
      have et : r.take (i + 1) = r.take i ++ [y] := by rw [List.take_add_one, hy]; rfl
      have hne := gfold_ne m (r.take i) ([], [w0]) (by simp)
      obtain ⟨g1, g2, g3⟩ := gstep_len m (r.take i) ([], [w0]) (fun x hx => hwd x (List.mem_cons_of_mem _ (List.mem_of_mem_take hx))) (fun x hx => by rw [List.mem_singleton.mp hx]; exact hwd w0 List.mem_cons_self)
      rw [et]
      rw [List.foldl_append, List.foldl_cons, List.foldl_nil]
      generalize (r.take i).foldl (gstep m) ([], [w0]) = st at g1 g2 g3 hne ho4
      have hy12 := hwd y (List.mem_cons_of_mem _ (List.mem_of_getElem? hy))
      have g2' : st.2.length ≤ 30 := by rw [List.length_take, List.length_singleton] at g2; omega
      have hl := txt_len g1 g2'
      have g3' : st.1.length ≤ 30 := by rw [List.length_take, List.length_nil] at g3; omega
      refine s_if (b := decide (L st.2 + 1 + ln y ≤ m)) (et_test (ev_op (ev_op (ev_op (ev_lenStr (ev_var rfl) (by omega)) ev_c rv_I0) (ev_lenStr (ev_var rfl) (by omega)) rv_I0) (ev_var rfl) rv_I0)) (fun h H5 e5 => ?_) (fun h H5 e5 => ?_)
      · have hj := of_decide_eq_true h
        refine s_asg (ev_op (ev_op (ev_var rfl) ev_c (rv_addS (by have : (" " : Str).length = 1 := by decide
                                                                  omega))) (ev_var rfl) (rv_addS (by
          rw [Str.length_append]
          have : (" " : Str).length = 1 := by decide
          omega))) fun H6 e6 => ?_
        have e56 := e5.trans e6
        have eg : gstep m st y = (st.1, st.2 ++ [y]) := if_pos hj
        rw [eg]
        refine ⟨some (.str y), ?_, e4.trans e56, e56 _ _ ho4, e56 _ _ hp4, npo⟩
        show [some (V.ref p), some (.int m), some (.ref o), some (.str (txt st.2 ++ " " ++ y)), some (.str y)] = _
        rw [txt_snoc _ _ hne]
        rfl
      · have hj := of_decide_eq_false h
        have eg : gstep m st y = (st.1 ++ [st.2], [y]) := if_neg hj
        rw [eg]
        refine q_app (K := K) (e5 _ _ ho4) (ev_var rfl) (ev_var rfl) (by unfold sv; rw [List.length_map, List.length_map]; omega) fun H6 e6 => ?_
        refine s_asg (ev_var rfl) fun H7 e7 => ?_
        refine ⟨_, rfl, (Ex.mut (e4.trans (e5.trans e6)) no').trans e7, e7 _ _ ?_, e7 _ _ ?_, npo⟩
        · rw [upd_same]; unfold sv; rw [List.map_append, List.map_append]; rfl
        · rw [upd_ne npo]; exact e6 _ _ (e5 _ _ hp4)
    · rintro b' p' σ' H4 ⟨x4, rfl, e4, ho4, hp4, npo⟩
      have en : (sv r).length = r.length := List.length_map ..
      rw [en, List.take_length] at ho4 ⊢
      obtain ⟨g1, g2, g3⟩ := gstep_len m r ([], [w0]) (fun x hx => hwd x (List.mem_cons_of_mem _ hx)) (fun x hx => by rw [List.mem_singleton.mp hx]; exact hwd w0 List.mem_cons_self)
      have gf := gfold m r [] [w0]
      generalize r.foldl (gstep m) ([], [w0]) = st at g1 g2 g3 gf ho4
      refine q_app (K := K) ho4 (ev_var rfl) (ev_var rfl) (by unfold sv; rw [List.length_map, List.length_map]; rw [List.length_nil] at g3; omega) fun H5 e5 => ?_
      refine s_ret (ev_var rfl) fun H6 e6 => q1 hm o H6 no' ((Ex.mut (e4.trans e5) no').trans e6) (e6 _ _ ?_)
      rw [upd_same]
      show some (HO.lst (sv (st.1.map txt) ++ [V.str (txt st.2)])) = some (.lst (sv ((gg m [w0] r).map txt)))
      rw [List.nil_append] at gf
      rw [← gf]
      unfold sv
      rw [List.map_append, List.map_append]
      rfl
end
section
variable {P : Program} {w : World} {K : PySem.W.Frag} {mg : Str → Option Value} {base : Heap}
theorem grd_words {m : Int} {ws : List Str} : ∀ g ∈ grd m ws, ∀ x ∈ g, x ∈ ws := fun g hg x hx => by
  rw [← grd_flat (m := m) (ws := ws)]
  exact List.mem_flatten.mpr ⟨g, hg, hx⟩
theorem len_flatten_ge {α : Type} : ∀ {gs : List (List α)} {g : List α}, g ∈ gs → g.length ≤ gs.flatten.length
  | [], g, h => nomatch h
  | a :: gs, g, h => by
    rw [List.flatten_cons, List.length_append]
    rcases List.mem_cons.mp h with rfl | h
    · omega
    · have := len_flatten_ge h; omega
theorem grd_wd {m : Int} {ws : List Str} (hw : Words ws) : ∀ g ∈ grd m ws, g ≠ [] ∧ g.length ≤ 30 ∧ ∀ x ∈ g, 1 ≤ x.length ∧ x.length ≤ 12 ∧ Low x := fun g hg =>
  ⟨grd_lines hw.ne g hg, by
    have := len_flatten_ge hg
    rw [grd_flat] at this
    exact Nat.le_trans this hw.len, fun x hx => hw.wd x (grd_words g hg x hx)⟩
theorem split_txt {g : List Str} (h0 : g ≠ []) (h : ∀ x ∈ g, 32 ∉ x.cps.toList) : Txt.split (txt g) sp = g := by
  have := TL.split_join (y := sp) (s := 32) (S := []) (parts := g) rfl (by rw [← Array.all_toList]; decide) h0 h
  rw [TL.join_eq] at this
  exact this
theorem brk_at {gs : List (List Str)} {i : Nat} (h : i + 1 < gs.length) : (brk gs)[i]? = some (L (gs.getD i []) + 1 + ln ((gs.getD (i + 1) []).headD Str.empty)) := by
  unfold brk
  rw [List.getElem?_zipWith, getD_at (by omega : i < gs.length) [], List.getElem?_tail, getD_at h []]
theorem longI_nonneg {ws : List Str} (h : ws ≠ []) : 0 ≤ longI ws := by
  obtain ⟨w, hw, e⟩ := List.mem_map.mp (maxI_mem (ns := lens ws) fun e => h (List.map_eq_nil_iff.mp e))
  show 0 ≤ maxI (lens ws)
  rw [← e]
  exact ln_nonneg w
theorem longI_le12 {ws : List Str} (h : Words ws) : longI ws ≤ 12 := maxI_le (fun e => h.ne (List.map_eq_nil_iff.mp e)) fun y hy => by
  obtain ⟨w, hw, rfl⟩ := List.mem_map.mp hy
  have := (h.wd w hw).2.1
  unfold ln
  omega
theorem L_le1000 {ws : List Str} (h : Words ws) : L ws ≤ 1000 := by
  have := txt_len (fun x hx => (h.wd x hx).2.1) h.len
  unfold L ln
  omega
theorem longI_le_L {ws : List Str} (h : ws ≠ []) : longI ws ≤ L ws := by
  have h1 := most_long (m := max (L ws) (longI ws)) h
  rw [grd_whole h (by omega)] at h1
  exact h1
theorem longI_lines {m : Int} {ws : List Str} : longI ((grd m ws).map txt) = most (grd m ws) := by
  unfold longI lens most
  rw [List.map_map]
  rfl
theorem short_lines {m : Int} {ws : List Str} (hw : Words ws) : ∀ x ∈ (grd m ws).map txt, x.length ≤ 100000 := fun x hx => by
  obtain ⟨g, hg, rfl⟩ := List.mem_map.mp hx
  obtain ⟨_, h1, h2⟩ := grd_wd hw g hg
  exact Nat.le_trans (txt_len (fun x hx => (h2 x hx).2.1) h1) (by decide)
theorem words_join {ws : List Str} (hw : Words ws) : (ws.map (·.length)).sum + ws.length * sp.length ≤ 16777216 := by
  have h1 := lsum_le fun x hx => (hw.wd x hx).2.1
  have h2 := hw.len
  unfold lsum at h1
  rw [sp_len]
  omega
theorem L_len {ws : List Str} : ((Str.join sp ws).length : Int) = L ws := rfl
theorem ev_opU1 {ta tb : TE} {r : R2} {σ : L2.St} {H : Hp} {y z : V} {xs : List V} (ha : EvU ta σ H xs) (hb : ∀ H1, Ex H H1 → Ev tb σ H1 y) (hr : ∀ p H1, H1 p = some (.tup xs) → Ex H H1 → RV r (.ref p) y H1 z) : Ev (tOp r ta tb) σ H z := fun H1 e Q q =>
  ha H1 e _ fun p H2 hp e2 h2 => hb H2 (e.trans e2) H2 (Ex.refl H2) _ fun H3 e3 => hr p H3 (e3 _ _ h2) ((e.trans e2).trans e3) H3 (Ex.refl H3) Q fun H4 e4 => q H4 ((e2.trans e3).trans e4)
theorem lens_map (xs : List Str) : (xs.map fun x => V.int (ln x)) = iv (lens xs) := by unfold lens iv; rw [List.map_map]; rfl
theorem lay_of {x : Str} (h : ∀ c ∈ x.cps.toList, c < 1114112) : PyData.canLay0 (.str x) = true := by
  simp only [PyData.canLay0]
  show x.cps.all (fun c => decide (c < 0x110000)) = true
  rw [← Array.all_toList, List.all_eq_true]
  exact fun c hc => decide_eq_true (h c hc)
theorem txt_lay {g : List Str} (h : ∀ x ∈ g, Low x) : PyData.canLay0 (.str (txt g)) = true := lay_of fun c hc => by
  rcases mem_join hc with hc | ⟨y, hy, hc⟩
  · have : c ∈ [32] := hc
    rw [List.mem_singleton.mp this]; decide
  · have := (h y hy c hc).2; omega
theorem words_gd {ws : List Str} (hw : Words ws) : Gd 2 (.list (ws.map PyData.str)) := gd_lstM (n := 1) fun x hx => gd_str (hw.wd x hx).2.2.lay
end
section
variable {P : Program} {w : World} {K : PySem.W.Frag} {mg : Str → Option Value} {base : Heap}
abbrev s__law_is_int : Stmt := topS 12
abbrev n__law_is_int : List Str := ["value"]
theorem sc__law_is_int : FnScope n__law_is_int ["value"] (defScope s__law_is_int) := ⟨rfl, rfl, rfl, by decide +kernel, rfl, by decide +kernel, by decide +kernel⟩
def spIsInt : Sp := fun vs H Q _ => ∃ k : Int, vs = [.int k] ∧ RetV (.bl true) H Q
theorem ok_isint {f fd} (D : Dn K mg "_law_is_int" s__law_is_int ["value"] f fd) (B : Bl mg) : FnOk P w K mg base CX0 1 f fd ["value"] spIsInt := by
  refine D.fn.ok sc__law_is_int (fun vs H Q E h => ?_) (fun cdv A outer s H vs Q E hr h => ?_)
  · obtain ⟨k, rfl, _⟩ := h
    rfl
  · obtain ⟨k, rfl, q⟩ := h
    refine ⟨_, (pss_one (ps_ret (pe_and (pe_callB (call_isiK (K := K) rfl) (by rfl) B.isinstance bt_isinstance (pa_cons (pv 0) (pa_cons (pe_bltn (v := .ty "int") (by rfl) B.int bt_int rfl) pa_nil))) (pe_one (pe_not (pe_callB (call_isiK (K := K) rfl) (by rfl) B.isinstance bt_isinstance (pa_cons (pv 0) (pa_cons (pe_bltn (v := .ty "bool") (by rfl) B.bool bt_bool rfl) pa_nil)))))))), ?_⟩
    exact s_ret (ev_is (ev_andV (ev_isi (ev_var rfl) (.int k) kb_int_int) fun _ => ev_notV (ev_isi (ev_var rfl) (.int k) kb_int_bool)) rfl) q
theorem spv_isint {H : Hp} {k : Int} : SpV spIsInt [.int k] H (.bl true) := fun H1 e Q q E => ⟨k, rfl, q⟩
end
section
variable {P : Program} {w : World} {K : PySem.W.Frag} {mg : Str → Option Value} {base : Heap}
abbrev s__law_list_or_tuple : Stmt := topS 13
abbrev n__law_list_or_tuple : List Str := ["store", "items"]
theorem sc__law_list_or_tuple : FnScope n__law_list_or_tuple ["store", "items"] (defScope s__law_list_or_tuple) := ⟨rfl, rfl, rfl, by decide +kernel, rfl, by decide +kernel, by decide +kernel⟩
def spLot (P : Program) (w : World) (K : PySem.W.Frag) : Sp := fun vs H Q _ => ∃ (d p : Addr) (xs : List V), vs = [.ref d, .ref p] ∧ StoreAt P w H d ∧ SqL K H p xs ∧ ∀ (b : Bool) (q : Addr) (H2 : Hp), H q = none → Ex H H2 → H2 q = some (sqO b xs) → Q (.ref q) H2
theorem ok_lot {f fd} (D : Dn K mg "_law_list_or_tuple" s__law_list_or_tuple ["store", "items"] f fd) (B : Bl mg) (C__law_chance : Cal P w K mg base CX0 "_law_chance" 3 ["store", "many"] (spChance P w)) : FnOk P w K mg base CX0 4 f fd ["store", "items"] (spLot P w K) := by
  refine D.fn.ok sc__law_list_or_tuple (fun vs H Q E h => ?_) (fun cdv A outer s H vs Q E hr h => ?_)
  · obtain ⟨d, p, xs, rfl, _⟩ := h
    rfl
  · obtain ⟨d, p, xs, rfl, hs, hp, q⟩ := h
    refine ⟨_, (pss_cons (ps_if (pt_val (pe_own C__law_chance hr (by omega) (by rfl) (pa_cons (pv 0) (pa_cons pe_int pa_nil)))) (pss_one (ps_ret (pe_callTy (call_tuple_ofK (K := K) rfl) (by rfl) B.tuple bt_tuple (pa_cons (pv 1) pa_nil)))) pss_nil)
      (pss_one (ps_ret (pe_callTy (call_list_ofK (K := K) rfl) (by rfl) B.list bt_list (pa_cons (pv 1) pa_nil))))), ?_⟩
    refine ⟨_, rfl, d, 3, rfl, hs, by decide, fun b => ⟨b, rfl, iteB (fun _ => ?_) (fun _ => ?_)⟩⟩
    · exact ⟨_, rfl, p, xs, rfl, .inl ⟨hp, fun l nl => q false l _ nl (Ex.new nl) upd_same⟩⟩
    · exact ⟨_, rfl, p, xs, rfl, .inl hp, fun l nl => q true l _ nl (Ex.new nl) upd_same⟩
end
end M

namespace M
open PySem PySem.Spec PyProof.Rows L2 Evl
section
variable {P : Program} {w : World} {K : PySem.W.Frag} {mg : Str → Option Value} {base : Heap}
abbrev s_least_width : Stmt := topS 3
abbrev n_least_width : List Str := ["words", "width", "lines", "low", "high", "middle"]
theorem sc_least_width : FnScope n_least_width ["words", "width"] (defScope s_least_width) := ⟨rfl, rfl, rfl, by decide +kernel, rfl, by decide +kernel, by decide +kernel⟩
def spLeast (K : PySem.W.Frag) : Sp := fun vs H Q _ => ∃ (b : Bool) (p : Addr) (ws : List Str) (m : Int), vs = [.ref p, .int m] ∧ SqB K b H p (sv ws) ∧ Words ws ∧ m ≤ 100000 ∧ (m < longI ws → RetV .non H Q) ∧
  (longI ws ≤ m → ∀ (l : Int) (H2 : Hp), Ex H H2 → longI ws ≤ l → l ≤ m → cnt l ws = cnt m ws → (∀ j, longI ws ≤ j → j < l → cnt m ws < cnt j ws) → Q (.int l) H2)
theorem ok_least {f fd} (D : Dn K mg "least_width" s_least_width ["words", "width"] f fd) (B : Bl mg) (C_longest : Cal P w K mg base CX0 "longest" 1 ["texts"] (spLong K)) (C_greedy_lines : Cal P w K mg base CX0 "greedy_lines" 2 ["words", "width"] (spGreedy K)) :
    FnOk P w K mg base CX0 3 f fd ["words", "width"] (spLeast K) := by
  refine D.fn.ok sc_least_width (fun vs H Q E h => ?_) (fun cdv A outer s H vs Q E hr h => ?_)
  · obtain ⟨b, p, ws, m, rfl, _⟩ := h
    rfl
  · obtain ⟨b, p, ws, m, rfl, hp, hw, hm9, q0, q1⟩ := h
    refine ⟨_, (pss_cons (ps_set (i := 2) sc_least_width.nd rfl (.inl rfl) (pe_own C_greedy_lines hr (by omega) (by rfl) (pa_cons (pv 0) (pa_cons (pv 1) pa_nil))))
      (pss_cons (ps_if (pt_cmpR op_isN (pv 2) pe_non (nomark _)) (pss_one (ps_ret pe_non)) pss_nil)
      (pss_cons (ps_set (i := 3) sc_least_width.nd rfl (.inl rfl) (pe_own C_longest hr (by omega) (by rfl) (pa_cons (pv 0) pa_nil)))
      (pss_cons (ps_set (i := 4) sc_least_width.nd rfl (.inl rfl) (pv 1))
      (pss_cons (ps_while PassesOwn.never (pt_cmpR op_lt (pv 3) (pv 4) (nomark _))
      (pss_cons (ps_set (i := 5) sc_least_width.nd rfl (.inl rfl) (pe_op op_fdiv (pe_op op_add (pv 3) (pv 4)) pe_int))
      (pss_one (ps_if (pt_cmpR op_le (pe_callB (call_len_seqK (K := K) rfl) (by rfl) B.len bt_len (pa_cons (pe_own C_greedy_lines hr (by omega) (by rfl) (pa_cons (pv 0) (pa_cons (pv 5) pa_nil))) pa_nil)) (pe_callB (call_len_seqK (K := K) rfl) (by rfl) B.len bt_len (pa_cons (pv 2) pa_nil)) (nomark _)) (pss_one (ps_set (i := 4) sc_least_width.nd rfl (.inl rfl) (pv 5))) (pss_one (ps_set (i := 3) sc_least_width.nd rfl (.inl rfl) (pe_op op_add (pv 5) pe_int)))))))
      (pss_one (ps_ret (pv 3)))))))), ?_⟩
    have hl30 := hw.len
    refine ⟨_, rfl, _, rfl, b, p, ws, m, rfl, hp, hw, fun hm H1 e1 => ?_, fun hm l H1 nl e1 hl => ?_⟩
    · refine q_when (b := true) (et_is (et_test (ev_op (ev_var (v := .non) rfl) ev_c rv_isN)) rfl) (fun _ H2 e2 => s_ret ev_c fun H3 e3 => q0 hm H3 (e1.trans (e2.trans e3))) (fun h => nomatch h)
    · refine q_when (b := false) (et_is (et_test (ev_op (ev_var (v := .ref l) rfl) ev_c rv_isN)) rfl) (fun h => nomatch h) fun _ H2 e2 => ?_
      have e12 := e1.trans e2
      refine q_asg (ev_own (ea_cons (ev_var rfl) ea_nil) (spv_long (hp.ex e12) hw.pos (by omega) hw.short)) fun H3 e3 => ?_
      refine q_asg (ev_var rfl) fun H4 e4 => ?_
      have e14 := e12.trans (e3.trans e4)
      have hl4 := (e2.trans (e3.trans e4)) _ _ hl
      have L0 := longI_nonneg hw.ne
      refine q_while (fun k σ' H' => ∃ (lo hi : Int) (x5 : Option V), σ' = [some (.ref p), some (.int m), some (.ref l), some (.int lo), some (.int hi), x5] ∧ Ex H4 H' ∧ longI ws ≤ lo ∧ lo ≤ hi ∧ hi ≤ m ∧ cnt hi ws ≤ cnt m ws ∧ (∀ j, longI ws ≤ j → j < lo → cnt m ws < cnt j ws) ∧ k = (hi - lo).toNat)
        ((m - longI ws).toNat) ⟨longI ws, m, none, rfl, Ex.refl _, Int.le_refl _, hm, Int.le_refl _, Nat.le_refl _, fun j h1 h2 => by omega, rfl⟩ ?_
      rintro k σ' H5 ⟨lo, hi, x5, rfl, e5, h1, h2, h3, h4, h5, rfl⟩
      refine ⟨decide (lo < hi), et_test (ev_op (ev_var rfl) (ev_var rfl) rv_I0), fun h H6 e6 => ?_, fun h H6 e6 => ?_⟩
      · have hlt := of_decide_eq_true h
        refine ⟨_, fun σ2 H2 h => h, ?_⟩
        refine q_asg (ev_op (ev_op (ev_var rfl) (ev_var rfl) rv_I0) ev_c (rv_I (C := CDiv) ⟨by decide, by decide⟩)) fun H7 e7 => ?_
        have e47 := e5.trans (e6.trans e7)
        have hm1 : lo ≤ (lo + hi) / 2 := by omega
        have hm2 : (lo + hi) / 2 < hi := by omega
        refine ⟨_, rfl, _, rfl, b, p, ws, (lo + hi) / 2, rfl, hp.ex (e14.trans e47), hw, fun h => by omega, fun _ l2 H8 nl2 e8 hl2 => ?_⟩
        refine ⟨l2, _, rfl, .inl (sq_of hl2), _, rfl, l, _, rfl, .inl (sq_of ((e47.trans e8) _ _ hl4)), _, _, rfl, rfl, _, rfl, iteD (fun hc => ?_) (fun hc => ?_)⟩
        · have hc' : cnt ((lo + hi) / 2) ws ≤ cnt m ws := by
            unfold sv at hc
            rw [List.length_map, List.length_map, List.length_map, List.length_map] at hc
            unfold cnt; omega
          exact ⟨_, rfl, ((lo + hi) / 2 - lo).toNat, by omega, lo, (lo + hi) / 2, _, rfl, e47.trans e8, h1, hm1, by omega, hc', h5, rfl⟩
        · have hc' : cnt m ws < cnt ((lo + hi) / 2) ws := by
            unfold sv at hc
            rw [List.length_map, List.length_map, List.length_map, List.length_map] at hc
            unfold cnt; omega
          refine ⟨_, rfl, _, _, rfl, rfl, (hi - ((lo + hi) / 2 + 1)).toNat, by omega, (lo + hi) / 2 + 1, hi, _, rfl, e47.trans e8, by omega, by omega, h3, h4, fun j hj1 hj2 => ?_, rfl⟩
          have := cnt_mono (m := j) (m' := (lo + hi) / 2) (by omega) ws
          omega
      · have hge := of_decide_eq_false h
        have he : hi = lo := by omega
        subst he
        exact s_ret (ev_var rfl) fun H7 e7 => q1 hm hi H7 (e14.trans (e5.trans (e6.trans e7))) h1 h3 (Nat.le_antisymm h4 (cnt_mono h3 ws)) h5
end
end M

namespace M
open PySem PySem.Spec PyProof.Rows L2 Evl
section
variable {P : Program} {w : World} {K : PySem.W.Frag} {mg : Str → Option Value} {base : Heap}
abbrev s__law_count : Stmt := topS 14
abbrev n__law_count : List Str := ["words", "width", "at", "many", "turn", "length", "k"]
theorem sc__law_count : FnScope n__law_count ["words", "width"] (defScope s__law_count) := ⟨rfl, rfl, rfl, by decide +kernel, rfl, by decide +kernel, by decide +kernel⟩
def spCount (K : PySem.W.Frag) : Sp := fun vs H Q _ => ∃ (p : Addr) (ws : List Str) (m : Int), vs = [.ref p, .int m] ∧ SqL K H p (sv ws) ∧ Words ws ∧ RetV (.int (cnt m ws : Int)) H Q
theorem sv_at {ws : List Str} {i : Nat} (h : i < ws.length) : (sv ws)[i]? = some (.str (ws.getD i Str.empty)) := by
  unfold sv
  rw [List.getElem?_map, getD_at h Str.empty]
  rfl
theorem getD_mem {ws : List Str} {i : Nat} (h : i < ws.length) : ws.getD i Str.empty ∈ ws := List.mem_of_getElem? (getD_at h _)
theorem ok_count {f fd} (D : Dn K mg "_law_count" s__law_count ["words", "width"] f fd) (B : Bl mg) : FnOk P w K mg base CX0 1 f fd ["words", "width"] (spCount K) := by
  refine D.fn.ok sc__law_count (fun vs H Q E h => ?_) (fun cdv A outer s H vs Q E hr h => ?_)
  · obtain ⟨p, ws, m, rfl, _⟩ := h
    rfl
  · obtain ⟨p, ws, m, rfl, hp, hw, q⟩ := h
    refine ⟨_, (pss_cons (ps_set (i := 2) sc__law_count.nd rfl (.inl rfl) pe_int)
      (pss_cons (ps_set (i := 3) sc__law_count.nd rfl (.inl rfl) pe_int)
      (pss_cons (ps_for PassesOwn.never rfl (pi_range1 (by rfl) B.range (pa_cons (pe_callB (call_len_seqK (K := K) rfl) (by rfl) B.len bt_len (pa_cons (pv 0) pa_nil)) pa_nil)) (pg_name (i := 4) sc__law_count.nd rfl (.inl rfl))
      (pss_cons (ps_if (pt_cmpR op_eq (pv 2) (pe_callB (call_len_seqK (K := K) rfl) (by rfl) B.len bt_len (pa_cons (pv 0) pa_nil)) (nomark _)) (pss_one (ps_ret (pv 3))) pss_nil)
      (pss_cons (ps_set (i := 3) sc__law_count.nd rfl (.inl rfl) (pe_op op_add (pv 3) pe_int))
      (pss_cons (ps_set (i := 5) sc__law_count.nd rfl (.inl rfl) (pe_callB call_len_str (by rfl) B.len bt_len (pa_cons (pe_ix (ix_listK (K := K) rfl) (pv 0) (pv 2) (fun _ _ => rfl)) pa_nil)))
      (pss_cons (ps_set (i := 2) sc__law_count.nd rfl (.inl rfl) (pe_op op_add (pv 2) pe_int))
      (pss_one (ps_for PassesOwn.never rfl (pi_range2 (by rfl) B.range (pa_cons (pv 2) (pa_cons (pe_callB (call_len_seqK (K := K) rfl) (by rfl) B.len bt_len (pa_cons (pv 0) pa_nil)) pa_nil))) (pg_name (i := 6) sc__law_count.nd rfl (.inl rfl))
      (pss_one (ps_if (pt_cmpR op_le (pe_op op_add (pe_op op_add (pv 5) pe_int) (pe_callB call_len_str (by rfl) B.len bt_len (pa_cons (pe_ix (ix_listK (K := K) rfl) (pv 0) (pv 6) (fun _ _ => rfl)) pa_nil))) (pv 1) (nomark _)) (pss_cons (ps_set (i := 5) sc__law_count.nd rfl (.inl rfl) (pe_op op_add (pe_op op_add (pv 5) pe_int) (pe_callB call_len_str (by rfl) B.len bt_len (pa_cons (pe_ix (ix_listK (K := K) rfl) (pv 0) (pv 6) (fun _ _ => rfl)) pa_nil))))
      (pss_one (ps_set (i := 2) sc__law_count.nd rfl (.inl rfl) (pe_op op_add (pv 6) pe_int)))) (pss_one ps_break))))))))))
      (pss_one (ps_ret (pv 3)))))), ?_⟩
    have hl30 := hw.len
    have wl : (sv ws).length = ws.length := List.length_map ..
    refine q_asg ev_c fun H1 e1 => q_asg ev_c fun H2 e2 => ?_
    have e12 := e1.trans e2
    refine q_forR1 (n := (ws.length : Int)) (ea_cons (ev_is (ev_len (ev_var rfl) (ex_l e12 hp)) (by rw [wl])) ea_nil) (by omega)
      (fun i σ' H' => ∃ (at_ : Nat) (many : Int) (x4 x5 x6 : Option V), σ' = [some (.ref p), some (.int m), some (.int (at_ : Int)), some (.int many), x4, x5, x6] ∧ Ex H H' ∧ at_ ≤ ws.length ∧ i ≤ at_ ∧ many + (cnt m (ws.drop at_) : Int) = (cnt m ws : Int))
      (fun H3 e3 => ⟨0, 0, none, none, none, rfl, e12.trans e3, Nat.zero_le _, Nat.le_refl _, by rw [List.drop_zero]; omega⟩) ?_ ?_
    · rintro i σ' H3 hi ⟨at_, many, x4, x5, x6, rfl, e3, h1, h2, h3⟩
      refine q_when (b := decide (at_ = ws.length)) (et_is (et_test (ev_op (ev_var rfl) (ev_is (ev_len (ev_var rfl) (ex_l e3 hp)) (by rw [wl])) (rv_eq rfl))) (by rw [decide_eq_decide]; exact ⟨fun h => by have := int_inj h; omega, fun h => by rw [h]⟩)) (fun h H4 e4 => ?_) (fun h H4 e4 => ?_)
      · refine s_ret (ev_var rfl) fun H5 e5 => ?_
        have ha := of_decide_eq_true h
        rw [ha, List.drop_length] at h3
        have h3 : many + ((0 : Nat) : Int) = (cnt m ws : Int) := h3
        have : many = (cnt m ws : Int) := by omega
        rw [this]
        exact q H5 (e3.trans (e4.trans e5))
      · have ha : at_ < ws.length := by have := of_decide_eq_false h; omega
        refine q_asg (ev_op (ev_var rfl) ev_c rv_I0) fun H5 e5 => ?_
        have e35 := e3.trans (e4.trans e5)
        refine q_asg (v := .int (ln (ws.getD at_ Str.empty))) (ev_lenStr (ev_op (ev_var rfl) (ev_var rfl) (rv_ixL (ex_l e35 hp) (atI_nat (sv_at ha)))) (hw.short _ (getD_mem ha))) fun H6 e6 => ?_
        refine q_asg (ev_op (ev_var rfl) ev_c rv_I0) fun H7 e7 => ?_
        have e37 := e35.trans (e6.trans e7)
        have hc := cnt_drop (m := m) ha
        -- the line
        refine s_forR2 (lo := (at_ : Int) + 1) (n := (ws.length : Int)) (ea_cons (ev_var rfl) (ea_cons (ev_is (ev_len (ev_var rfl) (ex_l e37 hp)) (by rw [wl])) ea_nil)) (by omega)
          (fun j σ'' H' => ∃ (cur : List Str) (x6 : Option V), σ'' = [some (.ref p), some (.int m), some (.int ((at_ + 1 + j : Nat) : Int)), some (.int (many + 1)), some (.int (i : Int)), some (.int (L cur)), x6] ∧ Ex H H' ∧ cur ≠ [] ∧ (gg m cur (ws.drop (at_ + 1 + j))).length = cnt m (ws.drop at_))
          (fun H8 e8 => ⟨[ws.getD at_ Str.empty], _, rfl, e37.trans e8, by simp, hc.symm⟩) ?_ ?_
        · rintro j σ'' H8 hj ⟨cur, x6', rfl, e8, hne, hg⟩
          have hk : at_ + 1 + j < ws.length := by omega
          have ek : ((at_ : Int) + 1 + (j : Int)) = ((at_ + 1 + j : Nat) : Int) := by omega
          rw [ek]
          rw [drop_cons hk] at hg
          have hm := getD_mem hk
          have hsa := sv_at hk
          have hdc := drop_cons hk
          generalize ws.getD (at_ + 1 + j) Str.empty = x at hg hm hsa hdc
          refine s_if (b := decide (L cur + 1 + ln x ≤ m)) (et_test (ev_op (ev_op (ev_op (ev_var rfl) ev_c rv_I0) (ev_lenStr (ev_op (ev_var rfl) (ev_var rfl) (rv_ixL (ex_l e8 hp) (atI_nat hsa))) (hw.short _ hm)) rv_I0) (ev_var rfl) rv_I0)) (fun h H9 e9 => ?_) (fun h H9 e9 => ?_)
          · have hfit := of_decide_eq_true h
            refine q_asg (ev_op (ev_op (ev_var rfl) ev_c rv_I0) (ev_lenStr (ev_op (ev_var rfl) (ev_var rfl) (rv_ixL (ex_l (e8.trans e9) hp) (atI_nat hsa))) (hw.short _ hm)) rv_I0) fun H10 e10 => ?_
            refine s_asg (ev_op (ev_var rfl) ev_c rv_I0) fun H11 e11 => ⟨cur ++ [x], some (.int ((at_ + 1 + j : Nat) : Int)), ?_, e8.trans (e9.trans (e10.trans e11)), by simp, ?_⟩
            · rw [L_snoc _ _ hne]
              rfl
            · rw [gg_join hfit] at hg
              exact hg
          · have hfit := of_decide_eq_false h
            rw [gg_break hfit, List.length_cons] at hg
            refine ⟨at_ + 1 + j, many + 1, _, _, _, rfl, e8.trans e9, by omega, by omega, ?_⟩
            rw [hdc]
            show many + 1 + ((gg m [x] (ws.drop (at_ + 1 + j + 1))).length : Int) = _
            omega
        · rintro σ'' H8 ⟨cur, x6', rfl, e8, hne, hg⟩
          have en : at_ + 1 + ((ws.length : Int) - ((at_ : Int) + 1)).toNat = ws.length := by omega
          rw [en, List.drop_length] at hg
          have hg : 1 = cnt m (ws.drop at_) := hg
          refine ⟨_, many + 1, _, _, _, rfl, e8, by omega, by omega, ?_⟩
          rw [en, List.drop_length]
          show many + 1 + ((0 : Nat) : Int) = _
          omega
    · rintro σ' H3 ⟨at_, many, x4, x5, x6, rfl, e3, h1, h2, h3⟩
      have ha : at_ = ws.length := by omega
      rw [ha, List.drop_length] at h3
      have h3 : many + ((0 : Nat) : Int) = (cnt m ws : Int) := h3
      have : many = (cnt m ws : Int) := by omega
      rw [this]
      exact s_ret (ev_var rfl) fun H4 e4 => q H4 (e3.trans e4)
end
end M

namespace M
open PySem PySem.Spec PyProof.Rows L2 Evl
section
variable {P : Program} {w : World} {K : PySem.W.Frag} {mg : Str → Option Value} {base : Heap}
abbrev s__law_lines_right : Stmt := topS 16
abbrev n__law_lines_right : List Str := ["lines", "words", "width", "k", "line"]
theorem sc__law_lines_right : FnScope n__law_lines_right ["lines", "words", "width"] (defScope s__law_lines_right) := ⟨rfl, rfl, rfl, by decide +kernel, rfl, by decide +kernel, by decide +kernel⟩
def spLines : Sp := fun vs H Q _ => ∃ (l p : Addr) (ws : List Str) (m : Int), vs = [.ref l, .ref p, .int m] ∧ H l = some (.lst (sv ((grd m ws).map txt))) ∧ H p = some (.lst (sv ws)) ∧ Words ws ∧ longI ws ≤ m ∧ RetV (.bl true) H Q
theorem lines_gd {ws : List Str} {m : Int} (hw : Words ws) : Gd 2 (.list (((grd m ws).map txt).map PyData.str)) := gd_lstM (n := 1) fun x hx => gd_str (by
  obtain ⟨gr, hgr, rfl⟩ := List.mem_map.mp hx
  exact txt_lay fun y hy => (hw.wd y (grd_words gr hgr y hy)).2.2)
theorem nil_gd : Gd 2 (.list []) := gd_lst (n := 1) (fun _ h => nomatch h)
theorem lines_join {ws : List Str} {m : Int} (hw : Words ws) : (((grd m ws).map txt).map (·.length)).sum + ((grd m ws).map txt).length * sp.length ≤ 16777216 := by
  have h1 : ∀ (l : List Str), (∀ x ∈ l, x.length ≤ 1000) → (l.map (·.length)).sum ≤ l.length * 1000 := by
    intro l
    induction l with
    | nil => intro _; exact Nat.le_refl _
    | cons a l ih =>
      intro h
      have h2 := h a List.mem_cons_self
      have h3 := ih fun x hx => h x (List.mem_cons_of_mem _ hx)
      rw [List.map_cons, List.sum_cons, List.length_cons]
      omega
  have h2 := h1 ((grd m ws).map txt) fun x hx => by
    obtain ⟨g, hg, rfl⟩ := List.mem_map.mp hx
    obtain ⟨_, h1, h2⟩ := grd_wd hw g hg
    exact txt_len (fun x hx => (h2 x hx).2.1) h1
  have h3 : ((grd m ws).map txt).length ≤ 30 := by rw [List.length_map]; exact Nat.le_trans grd_len hw.len
  rw [sp_len]
  omega
theorem ok_lines {f fd} (D : Dn K mg "_law_lines_right" s__law_lines_right ["lines", "words", "width"] f fd) (B : Bl mg) : FnOk P w K mg base CX0 1 f fd ["lines", "words", "width"] spLines := by
  refine D.fn.ok sc__law_lines_right (fun vs H Q E h => ?_) (fun cdv A outer s H vs Q E hr h => ?_)
  · obtain ⟨l, p, ws, m, rfl, _⟩ := h
    rfl
  · obtain ⟨l, p, ws, m, rfl, hl, hp, hw, hm, q⟩ := h
    refine ⟨_, (pss_cons (ps_if (PW.pt (pw_or (pt_not (pt_val (pe_callB (call_isiK (K := K) rfl) (by rfl) B.isinstance bt_isinstance (pa_cons (pv 0) (pa_cons (pe_bltn (v := .ty "list") (by rfl) B.list bt_list rfl) pa_nil))))) (pw_or1 (pt_cmpR (op_neDK (K := K) rfl hr.units) (pe_lc (own := [("line", 4)]) (g := gName 4) rfl sc__law_lines_right.nd (pi_listK (K := K) rfl (pv 0)) (blkOk_by (own := [("line", 4)]) (N := n__law_lines_right) (sc := defScope s__law_lines_right) (by decide +kernel)) (fun _ _ _ _ _ => (pg_name (i := 4) sc__law_lines_right.nd rfl (Or.inl rfl))) (fun _ _ _ _ _ => pts_one (pt_not (pt_val (pe_callB (call_isiK (K := K) rfl) (by rfl) B.isinstance bt_isinstance (pa_cons (pv 4) (pa_cons (pe_bltn (v := .ty "str") (by rfl) B.str bt_str rfl) pa_nil)))))) (fun _ _ _ _ _ => (pv 4))) (pe_lst pa_nil) (nomark _))))) (pss_one (ps_ret pe_bl)) pss_nil)
      (pss_cons (ps_if (PW.pt (pw_or (pt_cmpR (op_eqDK (K := K) rfl hr.units) (pv 0) (pe_lst pa_nil) (nomark _)) (pw_or1 (pt_cmpR op_ne (pe_joinK (K := K) rfl pe_str (pv 0)) (pe_joinK (K := K) rfl pe_str (pv 1)) (nomark _))))) (pss_one (ps_ret pe_bl)) pss_nil)
      (pss_cons (ps_if (pt_cmpR (op_neDK (K := K) rfl hr.units) (pe_lc (own := [("line", 4)]) (g := gName 4) rfl sc__law_lines_right.nd (pi_listK (K := K) rfl (pv 0)) (blkOk_by (own := [("line", 4)]) (N := n__law_lines_right) (sc := defScope s__law_lines_right) (by decide +kernel)) (fun _ _ _ _ _ => (pg_name (i := 4) sc__law_lines_right.nd rfl (Or.inl rfl))) (fun _ _ _ _ _ => pts_one (PW.pt (pw_or (pt_cmpR op_gt (pe_callB call_len_str (by rfl) B.len bt_len (pa_cons (pv 4) pa_nil)) (pv 2) (nomark _)) (pw_or1 (pt_cmpR op_eq (pv 4) pe_str (nomark _)))))) (fun _ _ _ _ _ => (pv 4))) (pe_lst pa_nil) (nomark _)) (pss_one (ps_ret pe_bl)) pss_nil)
      (pss_cons (ps_for PassesOwn.never rfl (pi_range1 (by rfl) B.range (pa_cons (pe_op op_sub (pe_callB (call_len_seqK (K := K) rfl) (by rfl) B.len bt_len (pa_cons (pv 0) pa_nil)) pe_int) pa_nil)) (pg_name (i := 3) sc__law_lines_right.nd rfl (.inl rfl))
      (pss_one (ps_if (pt_cmpR op_le (pe_op op_add (pe_op op_add (pe_callB call_len_str (by rfl) B.len bt_len (pa_cons (pe_ix (ix_listK (K := K) rfl) (pv 0) (pv 3) (fun _ _ => rfl)) pa_nil)) pe_int) (pe_callB call_len_str (by rfl) B.len bt_len (pa_cons (pe_ix (ix_listK (K := K) rfl) (pe_split (pe_ix (ix_listK (K := K) rfl) (pv 0) (pe_op op_add (pv 3) pe_int) (fun _ _ => rfl)) pe_str) pe_int (fun _ _ => rfl)) pa_nil))) (pv 2) (nomark _)) (pss_one (ps_ret pe_bl)) pss_nil)))
      (pss_one (ps_ret pe_bl)))))), ?_⟩
    have nil : (((grd m ws).map txt).filter fun _ => false).map V.str = [] := by simp
    have gl : ((grd m ws).map txt).length ≤ 30 := by rw [List.length_map]; exact Nat.le_trans grd_len hw.len
    have gp : 0 < ((grd m ws).map txt).length := by rw [List.length_map]; exact List.length_pos_iff.mpr (grd_ne hw.ne)
    have ll : (sv ((grd m ws).map txt)).length = (grd m ws).length := by unfold sv; rw [List.length_map, List.length_map]
    -- the kinds
    refine q_when (b := false) (et_is (et_or (a := false) (b := false) (et_not (et_B (ev_isi (ev_var (v := .ref l) rfl) (.lst hl) kb_list_list))) fun _ => et_is (et_test (ev_opLL
      (el_is' (el_fC (K := K) V.str ((grd m ws).map txt) (fun _ => false) V.str (ev_var rfl) (sq_of hl) (by omega) (fun x hx H1 e => et_not (et_B (ev_isi (ev_var rfl) (.str x) kb_str_str))) (fun x hx h => nomatch h)) nil) (el_lst ea_nil (by decide)) fun p q H1 h1 h2 e => rv_neNil (ds := []) (.lst (sq_of h1) .nil) (gd_lst (n := 1) (fun _ h => nomatch h)) (by decide) h2)) rfl) rfl) (fun h => nomatch h) fun _ H1 e1 => ?_
    -- the words
    have hl1 := e1 _ _ hl
    have hp1 := e1 _ _ hp
    refine q_when (b := false) (et_is (et_or (a := false) (b := false) (et_is (et_test (ev_opL (ev_var (v := .ref l) rfl) (el_lst ea_nil (by decide)) fun q' H8 hq' e8 => rv_eqD (dp_strs (sq_of (e8 _ _ hl1))) (.lst (sq_of hq') .nil) (lines_gd hw) nil_gd)) ?_)
      fun _ => et_is (et_test (ev_op (ev_join (K := K) (a := sp) ev_c (es_var (b := true) (ev_var (v := .ref l) rfl) (SqB.l hl1)) (lines_join hw)) (ev_join (K := K) (a := sp) ev_c (es_var (b := true) (ev_var (v := .ref p) rfl) (SqB.l hp1)) (words_join hw)) (rv_ne rfl))) (by rw [join_grd hw.ne]; simp)) rfl) (fun h => nomatch h) fun _ H2 e2 => ?_
    · rw [eqv_dec (lines_gd hw) nil_gd (p := False) ⟨fun h => by
          have : ((grd m ws).map txt).map PyData.str = [] := by injection h
          have := List.map_eq_nil_iff.mp this
          rw [this] at gp
          exact absurd gp (by decide), False.elim⟩]
      rfl
    -- the lengths
    have e12 := e1.trans e2
    have hl2 := e12 _ _ hl
    refine q_when (b := false) (et_is (et_test (ev_opLL
      (el_is' (el_fC (K := K) V.str ((grd m ws).map txt) (fun _ => false) V.str (ev_var rfl) (sq_of hl2) (by omega) (fun x hx H1 e => et_is (et_or (a := false) (b := false) (et_is (et_test (ev_op (ev_lenStr (ev_var rfl) (short_lines hw x hx)) (ev_var rfl) rv_I0)) ?_) fun _ => et_is (et_test (ev_op (ev_var rfl) ev_c (rv_eq rfl))) ?_) rfl) (fun x hx h => nomatch h)) nil) (el_lst ea_nil (by decide)) fun p q H1 h1 h2 e => rv_neNil (ds := []) (.lst (sq_of h1) .nil) (gd_lst (n := 1) (fun _ h => nomatch h)) (by decide) h2)) rfl) (fun h => nomatch h) fun _ H3 e3 => ?_
    · obtain ⟨g, hg, rfl⟩ := List.mem_map.mp hx
      have := grd_le hm g hg
      exact decide_eq_false (fun h => by unfold L ln at this; omega)
    · obtain ⟨g, hg, rfl⟩ := List.mem_map.mp hx
      obtain ⟨h1, _, h2⟩ := grd_wd hw g hg
      have := txt_pos h1 fun x hx => (h2 x hx).1
      refine decide_eq_false fun h => ?_
      have h : txt g = "" := by injection h
      rw [h] at this
      exact absurd this (by decide)
    have e13 := e12.trans e3
    -- no line has room
    refine q_forR1 (n := ((grd m ws).length : Int) - 1) (ea_cons (ev_is (ev_op (ev_len (ev_var rfl) (sq_of (e3 _ _ hl2))) ev_c rv_I0) (by rw [ll])) ea_nil) (by rw [List.length_map] at gl gp; omega)
      (fun i σ' H' => ∃ x3, σ' = [some (.ref l), some (.ref p), some (.int m), x3, none] ∧ Ex H H') (fun H4 e4 => ⟨_, rfl, e13.trans e4⟩) ?_ ?_
    · rintro i σ' H4 hi ⟨x3, rfl, e4⟩
      have hi1 : i + 1 < (grd m ws).length := by omega
      have hb := brk_at hi1
      have hgt := grd_brk_gt (v := m) (ws := ws) _ (List.mem_of_getElem? hb)
      have hgi := grd_wd hw _ (List.mem_of_getElem? (getD_at (by omega : i < (grd m ws).length) []))
      have hgj := grd_wd hw _ (List.mem_of_getElem? (getD_at hi1 []))
      have a1 : (sv ((grd m ws).map txt))[i]? = some (.str (txt ((grd m ws).getD i []))) := by unfold sv; rw [List.getElem?_map, List.getElem?_map, getD_at (by omega : i < (grd m ws).length) []]; rfl
      have a2 : (sv ((grd m ws).map txt))[i + 1]? = some (.str (txt ((grd m ws).getD (i + 1) []))) := by unfold sv; rw [List.getElem?_map, List.getElem?_map, getD_at hi1 []]; rfl
      generalize (grd m ws).getD i [] = g at hgt hgi a1
      generalize (grd m ws).getD (i + 1) [] = g2 at hgt hgj a2
      have hgl := txt_len (fun x hx => (hgi.2.2 x hx).2.1) hgi.2.1
      have hgl2 := txt_len (fun x hx => (hgj.2.2 x hx).2.1) hgj.2.1
      obtain ⟨w0, r, rfl⟩ : ∃ w0 r, g2 = w0 :: r := by
        cases g2 with
        | nil => exact absurd rfl hgj.1
        | cons w0 r => exact ⟨w0, r, rfl⟩
      have hsp := split_txt hgj.1 fun x hx => (hgj.2.2 x hx).2.2.sp
      have hl4 := e4 _ _ hl
      refine s_when (b := false) (et_is (et_test (ev_op (ev_op (ev_op (ev_lenStr (ev_op (ev_var (v := .ref l) rfl) (ev_var (v := .int (i : Int)) rfl) (rv_ixL (sq_of hl4) (atI_nat a1))) (by omega)) ev_c rv_I0) (ev_lenStr (ev_ixN0 (v := .str w0) (vs := sv r) (el_is' (el_split (ev_op (ev_var (v := .ref l) rfl) (ev_op (ev_var (v := .int (i : Int)) rfl) ev_c rv_I0) (rv_ixL (sq_of hl4) (at_of (j := i + 1) (by omega) a2))) ev_c rfl (by omega)) (by show (Txt.split (txt (w0 :: r)) sp).map V.str = _; rw [hsp]; rfl))) (by have := (hgj.2.2 w0 List.mem_cons_self).2.1; omega)) rv_I0) (ev_var (v := .int m) rfl) rv_I0)) ?_) (fun h => nomatch h) fun _ H5 e5 => ⟨_, rfl, e4.trans e5⟩
      have hgt : m < L g + 1 + ln w0 := hgt
      exact decide_eq_false (fun h => by unfold L ln at hgt; omega)
    · rintro σ' H4 ⟨x3, rfl, e4⟩
      exact s_ret ev_c fun H5 e5 => q H5 (e4.trans e5)
end
end M

namespace M
open PySem PySem.Spec PyProof.Rows L2 Evl
section
variable {P : Program} {w : World} {K : PySem.W.Frag} {mg : Str → Option Value} {base : Heap}
theorem spv_lines {H : Hp} {l p : Addr} {ws : List Str} {m : Int} (hl : H l = some (.lst (sv ((grd m ws).map txt)))) (hp : H p = some (.lst (sv ws))) (hw : Words ws) (hm : longI ws ≤ m) : SpV spLines [.ref l, .ref p, .int m] H (.bl true) := fun H1 e Q q E => ⟨l, p, ws, m, rfl, e _ _ hl, e _ _ hp, hw, hm, q⟩
theorem spv_count {H : Hp} {p : Addr} {ws : List Str} {m : Int} (hp : H p = some (.lst (sv ws))) (hw : Words ws) : SpV (spCount K) [.ref p, .int m] H (.int (cnt m ws : Int)) := fun H1 e Q q E => ⟨p, ws, m, rfl, sq_of (e _ _ hp), hw, q⟩
theorem spl_greedy {H : Hp} {b : Bool} {g : Addr} {ws : List Str} {m : Int} (hg : SqB K b H g (sv ws)) (hw : Words ws) (hm : longI ws ≤ m) : SpL (spGreedy K) [.ref g, .int m] H (sv ((grd m ws).map txt)) := fun H1 e Q q E => ⟨b, g, ws, m, rfl, hg.ex e, hw, fun h => by omega, fun _ => q⟩
abbrev s__law_width_right : Stmt := topS 17
abbrev n__law_width_right : List Str := ["given", "words", "width", "longest_v", "first", "least", "many", "lines", "word"]
theorem sc__law_width_right : FnScope n__law_width_right ["given", "words", "width"] (defScope s__law_width_right) := ⟨rfl, rfl, rfl, by decide +kernel, rfl, by decide +kernel, by decide +kernel⟩
def spWr (K : PySem.W.Frag) : Sp := fun vs H Q _ => ∃ (b : Bool) (g p : Addr) (ws : List Str) (m : Int), vs = [.ref g, .ref p, .int m] ∧ SqB K b H g (sv ws) ∧ H p = some (.lst (sv ws)) ∧ Words ws ∧ m ≤ 100000 ∧ RetV (.bl true) H Q
theorem ok_wr {f fd} (D : Dn K mg "_law_width_right" s__law_width_right ["given", "words", "width"] f fd) (B : Bl mg) (C_greedy_lines : Cal P w K mg base CX0 "greedy_lines" 2 ["words", "width"] (spGreedy K)) (C_least_width : Cal P w K mg base CX0 "least_width" 3 ["words", "width"] (spLeast K))
    (C__law_lines_right : Cal P w K mg base CX0 "_law_lines_right" 1 ["lines", "words", "width"] spLines) (C__law_is_int : Cal P w K mg base CX0 "_law_is_int" 1 ["value"] spIsInt) (C__law_count : Cal P w K mg base CX0 "_law_count" 1 ["words", "width"] (spCount K)) :
    FnOk P w K mg base CX0 4 f fd ["given", "words", "width"] (spWr K) := by
  refine D.fn.ok sc__law_width_right (fun vs H Q E h => ?_) (fun cdv A outer s H vs Q E hr h => ?_)
  · obtain ⟨b, g, p, ws, m, rfl, _⟩ := h
    rfl
  · obtain ⟨b, g, p, ws, m, rfl, hg, hp, hw, hm9, q⟩ := h
    refine ⟨_, (pss_cons (ps_set (i := 3) sc__law_width_right.nd rfl (.inl rfl) (pe_callB (cr_maxK (K := K) rfl rfl) (by rfl) B.max bt_max (pa_cons (pe_lc (own := [("word", 8)]) (g := gName 8) (tt := tYes) rfl sc__law_width_right.nd (pi_listK (K := K) rfl (pv 1)) (blkOk_by (own := [("word", 8)]) (N := n__law_width_right) (sc := defScope s__law_width_right) (by decide +kernel)) (fun _ _ _ _ _ => (pg_name (i := 8) sc__law_width_right.nd rfl (Or.inl rfl))) (fun _ _ _ _ _ => pts_nil) (fun _ _ _ _ _ => (pe_callB call_len_str (by rfl) B.len bt_len (pa_cons (pv 8) pa_nil)))) pa_nil)))
      (pss_cons (ps_set (i := 4) sc__law_width_right.nd rfl (.inl rfl) (pe_own C_greedy_lines hr (by omega) (by rfl) (pa_cons (pv 0) (pa_cons (pv 2) pa_nil))))
      (pss_cons (ps_set (i := 5) sc__law_width_right.nd rfl (.inl rfl) (pe_own C_least_width hr (by omega) (by rfl) (pa_cons (pv 0) (pa_cons (pv 2) pa_nil))))
      (pss_cons (ps_if (pt_cmpR op_gt (pv 3) (pv 2) (nomark _)) (pss_one (ps_ret (pe_and (pe_cmpR op_isN (pv 4) pe_non (nomark _)) (pe_one (pe_cmpR op_isN (pv 5) pe_non (nomark _)))))) pss_nil)
      (pss_cons (ps_if (PW.pt (pw_or (pt_not (pt_val (pe_own C__law_lines_right hr (by omega) (by rfl) (pa_cons (pv 4) (pa_cons (pv 1) (pa_cons (pv 2) pa_nil)))))) (pw_or1 (pt_not (pt_val (pe_own C__law_is_int hr (by omega) (by rfl) (pa_cons (pv 5) pa_nil))))))) (pss_one (ps_ret pe_bl)) pss_nil)
      (pss_cons (ps_set (i := 6) sc__law_width_right.nd rfl (.inl rfl) (pe_callB (call_len_seqK (K := K) rfl) (by rfl) B.len bt_len (pa_cons (pv 4) pa_nil)))
      (pss_cons (ps_expr (pe_bm PySem.F.plainAttrs_list PySem.F.slot_list_append PySem.F.type_list_append mt_append (pv 4) (pa_cons pe_str pa_nil)))
      (pss_cons (ps_if (PW.pt (pw_or (pt_cmpR op_ne (pv 6) (pe_own C__law_count hr (by omega) (by rfl) (pa_cons (pv 1) (pa_cons (pv 2) pa_nil))) (nomark _)) (pw_or1 (pt_not (pt_val (pe_own C__law_lines_right hr (by omega) (by rfl) (pa_cons (pe_own C_greedy_lines hr (by omega) (by rfl) (pa_cons (pv 0) (pa_cons (pv 2) pa_nil))) (pa_cons (pv 1) (pa_cons (pv 2) pa_nil))))))))) (pss_one (ps_ret pe_bl)) pss_nil)
      (pss_cons (ps_if (PW.pt (pw_or (pt_not (pt_chain op_le op_le (pv 3) (pv 5) (pv 2))) (pw_or1 (pt_cmpR op_ne (pe_own C__law_count hr (by omega) (by rfl) (pa_cons (pv 1) (pa_cons (pv 5) pa_nil))) (pv 6) (nomark _))))) (pss_one (ps_ret pe_bl)) pss_nil)
      (pss_cons (ps_if (PW.pt (pw_and (pt_cmpR op_gt (pv 5) (pv 3) (nomark _)) (pw_and1 (pt_cmpR op_eq (pe_own C__law_count hr (by omega) (by rfl) (pa_cons (pv 1) (pa_cons (pe_op op_sub (pv 5) pe_int) pa_nil))) (pv 6) (nomark _))))) (pss_one (ps_ret pe_bl)) pss_nil)
      (pss_cons (ps_set (i := 7) sc__law_width_right.nd rfl (.inl rfl) (pe_own C_greedy_lines hr (by omega) (by rfl) (pa_cons (pv 0) (pa_cons (pv 5) pa_nil))))
      (pss_one (ps_ret (pe_and (pe_own C__law_lines_right hr (by omega) (by rfl) (pa_cons (pv 7) (pa_cons (pv 1) (pa_cons (pv 5) pa_nil)))) (pe_one (pe_cmpR op_eq (pe_callB (call_len_seqK (K := K) rfl) (by rfl) B.len bt_len (pa_cons (pv 7) pa_nil)) (pv 6) (nomark _))))))))))))))))), ?_⟩
    have hl30 := hw.len
    refine q_asg (v := .int (longI ws)) (ev_maxN (K := K) (ns := lens ws) (el_is' (el_mC (K := K) V.str ws (fun x => V.int (ln x)) (ev_var rfl) (sq_of hp) (by omega) (fun x hx H1 e => ev_lenStr (ev_var rfl) (hw.short x hx))) (lens_map _)) (by unfold lens; rw [List.length_map]; exact hw.pos)) fun H1 e1 => ?_
    refine ⟨_, rfl, _, rfl, b, g, ws, m, rfl, hg.ex e1, hw, fun hm H2 e2 => ?_, fun hm l H2 nl e2 hl => ?_⟩
    · -- too narrow
      refine ⟨_, rfl, _, rfl, b, g, ws, m, rfl, hg.ex (e1.trans e2), hw, hm9, fun _ H3 e3 => ?_, fun h => by omega⟩
      refine q_when (b := true) (et_is (et_test (ev_op (ev_var (v := .int (longI ws)) rfl) (ev_var (v := .int m) rfl) rv_I0)) (decide_eq_true hm)) (fun _ H4 e4 => ?_) (fun h => nomatch h)
      exact s_ret (ev_is (ev_andV (a := true) (b := true) (ev_is (ev_op (ev_var (v := .non) rfl) ev_c rv_isN) rfl) fun _ => ev_is (ev_op (ev_var (v := .non) rfl) ev_c rv_isN) rfl) rfl) fun H5 e5 => q H5 (e1.trans (e2.trans (e3.trans (e4.trans e5))))
    · refine ⟨_, rfl, _, rfl, b, g, ws, m, rfl, hg.ex (e1.trans e2), hw, hm9, fun h => by omega, fun _ lw H3 e3 w1 w2 w3 w4 => ?_⟩
      have nl0 : H l = none := fresh_back e1 nl
      refine q_when (b := false) (et_is (et_test (ev_op (ev_var (v := .int (longI ws)) rfl) (ev_var (v := .int m) rfl) rv_I0)) (decide_eq_false (by omega))) (fun h => nomatch h) fun _ H4 e4 => ?_
      have e14 := e1.trans (e2.trans (e3.trans e4))
      have hl4 := (e3.trans e4) _ _ hl
      refine q_when (b := false) (et_is (et_or (a := false) (b := false) (et_not (et_B (ev_own (ea_cons (ev_var (v := .ref l) rfl) (ea_cons (ev_var (v := .ref p) rfl) (ea_cons (ev_var (v := .int m) rfl) ea_nil))) (spv_lines hl4 (e14 _ _ hp) hw hm)))) fun _ => et_not (et_B (ev_own (ea_cons (ev_var (v := .int lw) rfl) ea_nil) spv_isint))) rfl) (fun h => nomatch h) fun _ H5 e5 => ?_
      have hl5 := e5 _ _ hl4
      have ll : (sv ((grd m ws).map txt)).length = cnt m ws := by unfold sv cnt; rw [List.length_map, List.length_map]
      refine q_asg (v := .int (cnt m ws : Int)) (ev_is (ev_len (ev_var (v := .ref l) rfl) (sq_of hl5)) (by rw [ll])) fun H6 e6 => ?_
      refine q_app (K := K) (e6 _ _ hl5) (ev_var rfl) ev_c (by rw [ll]; unfold cnt; have := grd_len (m := m) (ws := ws); omega) fun H7 e7 => ?_
      obtain ⟨H8, hH8⟩ : ∃ H8, upd H7 l (.lst (sv ((grd m ws).map txt) ++ [V.str "a"])) = H8 := ⟨_, rfl⟩
      have e18 : Ex H H8 := by rw [← hH8]; exact Ex.mut (e14.trans (e5.trans (e6.trans e7))) nl0
      rw [hH8]
      have hp8 := e18 _ _ hp
      have hg8 := hg.ex e18
      refine q_when (b := false) (et_is (et_or (a := false) (b := false) (et_is (et_test (ev_op (ev_var (v := .int (cnt m ws : Int)) rfl) (ev_own (ea_cons (ev_var (v := .ref p) rfl) (ea_cons (ev_var (v := .int m) rfl) ea_nil)) (spv_count hp8 hw)) (rv_ne rfl))) (by simp))
        fun _ => et_not (et_B (ev_ownL (el_own (ea_cons (ev_var (v := .ref g) rfl) (ea_cons (ev_var (v := .int m) rfl) ea_nil)) (spl_greedy hg8 hw hm)) (fun l' H9 hl' e9 => ea_cons (ev_var (v := .ref p) rfl) (ea_cons (ev_var (v := .int m) rfl) ea_nil)) fun l' H9 hl' e9 => spv_lines hl' (e9 _ _ hp8) hw hm))) rfl) (fun h => nomatch h) fun _ H9 e9 => ?_
      refine q_when (b := false) (et_is (et_or (a := false) (b := false) (et_is (et_not (et_test (ev_chain (k := true) (k' := true) (ev_var (v := .int (longI ws)) rfl) (ev_var (v := .int lw) rfl) (by rw [← decide_eq_true w1]; exact rv_I0) (fun _ => ev_var (v := .int m) rfl) (fun _ => by rw [← decide_eq_true w2]; exact rv_I0)))) rfl)
        fun _ => et_is (et_test (ev_op (ev_own (ea_cons (ev_var (v := .ref p) rfl) (ea_cons (ev_var (v := .int lw) rfl) ea_nil)) (spv_count (e9 _ _ hp8) hw)) (ev_var (v := .int (cnt m ws : Int)) rfl) (rv_ne rfl))) (by rw [w3]; simp)) rfl) (fun h => nomatch h) fun _ H10 e10 => ?_
      have e810 := e9.trans e10
      refine q_when (b := false) (et_is (et_and (a := decide (longI ws < lw)) (b := false) (et_test (ev_op (ev_var (v := .int lw) rfl) (ev_var (v := .int (longI ws)) rfl) rv_I0)) fun h => et_is (et_test (ev_op (ev_own (ea_cons (ev_var (v := .ref p) rfl) (ea_cons (ev_op (ev_var (v := .int lw) rfl) ev_c rv_I0) ea_nil)) (spv_count (e810 _ _ hp8) hw)) (ev_var (v := .int (cnt m ws : Int)) rfl) (rv_eq rfl))) ?_) (Bool.and_false _)) (fun h => nomatch h) fun _ H11 e11 => ?_
      · have h := of_decide_eq_true h
        have := w4 (lw - 1) (by omega) (by omega)
        exact decide_eq_false fun h => by have := int_inj h; omega
      have e811 := e810.trans e11
      refine q_asgL (el_own (ea_cons (ev_var (v := .ref g) rfl) (ea_cons (ev_var (v := .int lw) rfl) ea_nil)) (spl_greedy (hg8.ex e811) hw w1)) fun l2 H12 nl2 e12 hl2 => ?_
      have e812 := e811.trans e12
      have ll2 : (sv ((grd lw ws).map txt)).length = cnt m ws := by rw [← w3]; unfold sv cnt; rw [List.length_map, List.length_map]
      exact s_ret (ev_is (ev_andV (a := true) (b := true) (ev_own (ea_cons (ev_var (v := .ref l2) rfl) (ea_cons (ev_var (v := .ref p) rfl) (ea_cons (ev_var (v := .int lw) rfl) ea_nil))) (spv_lines hl2 (e812 _ _ hp8) hw w1)) fun _ => ev_is (ev_op (ev_len (ev_var (v := .ref l2) rfl) (sq_of hl2)) (ev_var (v := .int (cnt m ws : Int)) rfl) (rv_eq rfl)) (by rw [ll2]; simp)) rfl) fun H13 e13 => q H13 (e18.trans (e812.trans e13))
abbrev s__law_widths_near : Stmt := topS 18
abbrev n__law_widths_near : List Str := ["store", "words", "longest_v", "whole", "out", "word", "k"]
theorem sc__law_widths_near : FnScope n__law_widths_near ["store", "words"] (defScope s__law_widths_near) := ⟨rfl, rfl, rfl, by decide +kernel, rfl, by decide +kernel, by decide +kernel⟩
def spNear (P : Program) (w : World) : Sp := fun vs H Q _ => ∃ (d p : Addr) (ws : List Str), vs = [.ref d, .ref p] ∧ StoreAt P w H d ∧ H p = some (.lst (sv ws)) ∧ Words ws ∧ ∀ (o : Addr) (H2 : Hp) (ns : List Int), H o = none → Ex H H2 → H2 o = some (.lst (iv ns)) → (∀ n ∈ ns, n ≤ 100000) → Q (.ref o) H2
theorem ok_near {f fd} (D : Dn K mg "_law_widths_near" s__law_widths_near ["store", "words"] f fd) (B : Bl mg) (C__law_take : Cal P w K mg base CX0 "_law_take" 2 ["store", "many"] (spTake P w)) : FnOk P w K mg base CX0 3 f fd ["store", "words"] (spNear P w) := by
  refine D.fn.ok sc__law_widths_near (fun vs H Q E h => ?_) (fun cdv A outer s H vs Q E hr h => ?_)
  · obtain ⟨d, p, ws, rfl, _⟩ := h
    rfl
  · obtain ⟨d, p, ws, rfl, hs, hp, hw, q⟩ := h
    refine ⟨_, (pss_cons (ps_set (i := 2) sc__law_widths_near.nd rfl (.inr rfl) (pe_callB (cr_maxK (K := K) rfl rfl) (by rfl) B.max bt_max (pa_cons (pe_lc (own := [("word", 5)]) (g := gName 5) (tt := tYes) rfl sc__law_widths_near.nd (pi_listK (K := K) rfl (pv 1)) (blkOk_by (own := [("word", 5)]) (N := n__law_widths_near) (sc := defScope s__law_widths_near) (by decide +kernel)) (fun _ _ _ _ _ => (pg_name (i := 5) sc__law_widths_near.nd rfl (Or.inl rfl))) (fun _ _ _ _ _ => pts_nil) (fun _ _ _ _ _ => (pe_callB call_len_str (by rfl) B.len bt_len (pa_cons (pv 5) pa_nil)))) pa_nil)))
      (pss_cons (ps_set (i := 3) sc__law_widths_near.nd rfl (.inr rfl) (pe_callB call_len_str (by rfl) B.len bt_len (pa_cons (pe_joinK (K := K) rfl pe_str (pv 1)) pa_nil)))
      (pss_cons (ps_set (i := 4) sc__law_widths_near.nd rfl (.inl rfl) (pe_lst (pa_cons pe_int (pa_cons (pe_op op_sub (pv 2) pe_int) (pa_cons (pv 2) (pa_cons (pe_op op_add (pe_op op_add (pv 2) pe_int) (pe_own C__law_take hr (by omega) (by rfl) (pa_cons (pv 0) (pa_cons pe_int pa_nil)))) (pa_cons (pv 3) (pa_cons (pe_op op_add (pv 3) pe_int) (pa_cons pe_int pa_nil)))))))))
      (pss_cons (ps_expr (pe_bm PySem.F.plainAttrs_list PySem.F.slot_list_append PySem.F.type_list_append mt_append (pv 4) (pa_cons (pe_callB (call_max2 rfl) (by rfl) B.max bt_max (pa_cons (pv 2) (pa_cons (pe_op op_sub (pe_op op_sub (pv 3) pe_int) (pe_own C__law_take hr (by omega) (by rfl) (pa_cons (pv 0) (pa_cons pe_int pa_nil)))) pa_nil))) pa_nil)))
      (pss_one (ps_ret (pe_op op_cat (pe_op op_cat (pv 4) (pe_lc (own := [("k", 6)]) (g := gName 6) (tt := tYes) rfl sc__law_widths_near.nd (pi_range1 (by rfl) B.range (pa_cons pe_int pa_nil)) (blkOk_by (own := [("k", 6)]) (N := n__law_widths_near) (sc := defScope s__law_widths_near) (by decide +kernel)) (fun _ _ _ _ _ => (pg_name (i := 6) sc__law_widths_near.nd rfl (Or.inl rfl))) (fun _ _ _ _ _ => pts_nil) (fun _ _ _ _ _ => (pe_op op_add (pv 2) (pe_own C__law_take hr (by omega) (by rfl) (pa_cons (pv 0) (pa_cons (pe_op op_add (pe_op op_sub (pv 3) (pv 2)) pe_int) pa_nil))))))) (pe_lst (pa_cons (pe_own C__law_take hr (by omega) (by rfl) (pa_cons (pv 0) (pa_cons pe_int pa_nil))) pa_nil))))))))), ?_⟩
    have hl30 := hw.len
    have L0 := longI_nonneg hw.ne
    have L1 := longI_le_L hw.ne
    have L2 := L_le1000 hw
    refine q_asg (v := .int (longI ws)) (ev_maxN (K := K) (ns := lens ws) (el_is' (el_mC (K := K) V.str ws (fun x => V.int (ln x)) (ev_var rfl) (sq_of hp) (by omega) (fun x hx H1 e => ev_lenStr (ev_var rfl) (hw.short x hx))) (lens_map _)) (by unfold lens; rw [List.length_map]; exact hw.pos)) fun H1 e1 => ?_
    refine q_asg (v := .int (L ws)) (ev_is (ev_lenStr (ev_join (K := K) (a := sp) ev_c (es_var (b := true) (ev_var (v := .ref p) rfl) (SqB.l (e1 _ _ hp))) (words_join hw)) (by have := L_len (ws := ws); omega)) rfl) fun H2 e2 => ?_
    have e12 := e1.trans e2
    have hs2 := hs.ex e12
    refine ⟨_, rfl, _, _, rfl, rfl, _, rfl, _, rfl, _, _, rfl, rfl, _, rfl, d, 3, rfl, hs2, by decide, fun r r0 r1 => ⟨_, _, rfl, rfl, _, rfl, _, rfl, _, _, rfl, rfl, by show 7 ≤ sizeLine; decide, fun o no => ?_⟩⟩
    obtain ⟨H3, hH3, e3, ho⟩ := newH no (.lst (iv [0, longI ws - 1, longI ws, longI ws + 1 + r, L ws, L ws + 1, 999]))
    rw [show [V.int 0, .int (longI ws - 1), .int (longI ws), .int (longI ws + 1 + r), .int (L ws), .int (L ws + 1), .int 999] = iv [0, longI ws - 1, longI ws, longI ws + 1 + r, L ws, L ws + 1, 999] from rfl, hH3]
    have no' : H o = none := fresh_back e12 no
    have e13 := e12.trans e3
    -- out.append(..)
    refine ⟨_, rfl, .inl ⟨rfl, _, sq_of ho⟩, _, rfl, _, rfl, _, _, rfl, rfl, _, rfl, d, 3, rfl, hs.ex e13, by decide, fun r2 r20 r21 => ⟨_, _, rfl, rfl, _, _, rfl, ?_⟩⟩
    generalize hmx : (if L ws - 1 - r2 > longI ws then L ws - 1 - r2 else longI ws) = mx
    have mx1 : mx ≤ 1000 := by have := longI_le12 hw; rw [← hmx]; split <;> omega
    refine ⟨o, _, _, rfl, rfl, ho, by show 7 < sizeLine; decide, ?_⟩
    obtain ⟨H4, hH4⟩ : ∃ H4, upd H3 o (.lst (iv [0, longI ws - 1, longI ws, longI ws + 1 + r, L ws, L ws + 1, 999] ++ [V.int mx])) = H4 := ⟨_, rfl⟩
    have e14 : Ex H H4 := by rw [← hH4]; exact Ex.mut e13 no'
    have ho4 : H4 o = some (.lst (iv [0, longI ws - 1, longI ws, longI ws + 1 + r, L ws, L ws + 1, 999, mx])) := by rw [← hH4]; exact upd_same
    rw [hH4]
    -- the sum
    have hs4 := hs.ex e14
    refine ⟨_, rfl, 5, rfl, by decide, by decide, fun Dl nD => lc_range (lo := 0) (n := 5) (fun i Hk => ∃ ns, Ex H4 Hk ∧ Hk Dl = some (.lst (iv ns)) ∧ ns.length = i ∧ ∀ n ∈ ns, n ≤ 100000) ⟨[], Ex.new nD, upd_same, rfl, fun _ h => nomatch h⟩ ?_ ?_⟩
    · rintro i Hk hi ⟨ns, ek, hD, hlen, hns⟩
      refine ⟨rfl, ?_⟩
      unfold tYes
      refine iteT ?_
      refine ⟨_, rfl, _, rfl, _, rfl, _, rfl, _, _, rfl, rfl, _, _, rfl, rfl, d, _, rfl, hs4.ex ek, by omega, fun x x0 x1 => ⟨_, _, rfl, rfl, _, hD, by rw [List.length_map]; exact sz_lt (by omega), ns ++ [longI ws + x], Ex.mut ek nD, by rw [upd_same]; unfold iv; rw [List.map_append]; rfl, by rw [List.length_append, hlen]; rfl, fun n hn => ?_⟩⟩
      rcases List.mem_append.mp hn with hn | hn
      · exact hns n hn
      · rw [List.mem_singleton.mp hn]; omega
    rintro H5 ⟨ns, e5, hD, hlen, hns⟩
    have hDo : Dl ≠ o := (ne_of_none ho4 nD).symm
    refine ⟨o, Dl, _, _, rfl, rfl, e5 _ _ ho4, hD, sz_of (by rw [List.length_map, List.length_map, hlen]; show 8 + 5 ≤ _; decide), fun s1 ns1 => ?_⟩
    obtain ⟨H6, hH6, e6, hs1'⟩ := newH ns1 (.lst (iv ([0, longI ws - 1, longI ws, longI ws + 1 + r, L ws, L ws + 1, 999, mx] ++ ns)))
    rw [show iv [0, longI ws - 1, longI ws, longI ws + 1 + r, L ws, L ws + 1, 999, mx] ++ iv ns = iv ([0, longI ws - 1, longI ws, longI ws + 1 + r, L ws, L ws + 1, 999, mx] ++ ns) by unfold iv; rw [List.map_append], hH6]
    refine ⟨_, rfl, d, 1000, rfl, hs4.ex (e5.trans e6), by decide, fun x x0 x1 => ⟨by show 1 ≤ sizeLine; decide, fun c nc => ?_⟩⟩
    obtain ⟨H7, hH7, e7, hc⟩ := newH nc (.lst (iv [x]))
    rw [show [V.int x] = iv [x] from rfl, hH7]
    refine ⟨s1, c, _, _, rfl, rfl, e7 _ _ hs1', hc, sz_of (by rw [List.length_map, List.length_map, List.length_append, hlen]; show 8 + 5 + 1 ≤ _; decide), fun t nt => ?_⟩
    rw [show iv ([0, longI ws - 1, longI ws, longI ws + 1 + r, L ws, L ws + 1, 999, mx] ++ ns) ++ iv [x] = iv ([0, longI ws - 1, longI ws, longI ws + 1 + r, L ws, L ws + 1, 999, mx] ++ ns ++ [x]) by unfold iv; rw [List.map_append, List.map_append, List.map_append]]
    have e47 : Ex H4 H7 := e5.trans (e6.trans e7)
    refine q t _ _ (fresh_back (e14.trans e47) nt) ((e14.trans e47).trans (Ex.new nt)) upd_same fun n hn => ?_
    rcases List.mem_append.mp hn with hn | hn
    · rcases List.mem_append.mp hn with hn | hn
      · simp only [List.mem_cons, List.not_mem_nil, or_false] at hn
        omega
      · exact hns n hn
    · rw [List.mem_singleton.mp hn]; omega
end
end M

namespace M
open PySem PySem.Spec PyProof.Rows L2 Evl
section
variable {P : Program} {w : World} {K : PySem.W.Frag} {mg : Str → Option Value} {base : Heap}
abbrev s__law_row : Stmt := topS 15
abbrev n__law_row : List Str := ["store", "size", "same", "out", "k", "j"]
theorem sc__law_row : FnScope n__law_row ["store"] (defScope s__law_row) := ⟨rfl, rfl, rfl, by decide +kernel, rfl, by decide +kernel, by decide +kernel⟩
def az : Str := "abcdefghijklmnopqrstuvwxyz"
theorem az_low : Low az := by unfold Low; decide
theorem ok_lrow {f fd} (D : Dn K mg "_law_row" s__law_row ["store"] f fd) (B : Bl mg) (C__law_chance : Cal P w K mg base CX0 "_law_chance" 3 ["store", "many"] (spChance P w)) (C__law_take : Cal P w K mg base CX0 "_law_take" 2 ["store", "many"] (spTake P w))
    (C__law_pick : Cal P w K mg base CX0 "_law_pick" 3 ["store", "items"] (spPickT P w K)) (C__law_range : Cal P w K mg base CX0 "_law_range" 3 ["store", "low", "high"] (spRange P w)) (C__law_words : Cal P w K mg base CX0 "_law_words" 4 ["store"] (spWords P w)) :
    FnOk P w K mg base CX0 5 f fd ["store"] (spWords P w) := by
  refine D.fn.ok sc__law_row (fun vs H Q E h => ?_) (fun cdv A outer s H vs Q E hr h => ?_)
  · obtain ⟨d, rfl, _⟩ := h
    rfl
  · obtain ⟨d, rfl, hs, q⟩ := h
    refine ⟨_, (pss_cons (ps_if (pt_not (pt_val (pe_own C__law_chance hr (by omega) (by rfl) (pa_cons (pv 0) (pa_cons pe_int pa_nil))))) (pss_one (ps_ret (pe_own C__law_words hr (by omega) (by rfl) (pa_cons (pv 0) pa_nil)))) pss_nil)
      (pss_cons (ps_set (i := 1) sc__law_row.nd rfl (.inl rfl) (pe_own C__law_range hr (by omega) (by rfl) (pa_cons (pv 0) (pa_cons pe_int (pa_cons pe_int pa_nil)))))
      (pss_cons (ps_set (i := 2) sc__law_row.nd rfl (.inl rfl) (pe_own C__law_chance hr (by omega) (by rfl) (pa_cons (pv 0) (pa_cons pe_int pa_nil))))
      (pss_cons (ps_set (i := 3) sc__law_row.nd rfl (.inl rfl) (pe_lst pa_nil))
      (pss_cons (ps_for PassesOwn.never rfl (pi_range1 (by rfl) B.range (pa_cons (pe_own C__law_range hr (by omega) (by rfl) (pa_cons (pv 0) (pa_cons pe_int (pa_cons pe_int pa_nil)))) pa_nil)) (pg_name (i := 4) sc__law_row.nd rfl (.inl rfl))
      (pss_cut (ps_if (pt_not (pt_val (pv 2))) (pss_one (ps_set (i := 1) sc__law_row.nd rfl (.inl rfl) (pe_op op_add pe_int (pe_own C__law_take hr (by omega) (by rfl) (pa_cons (pv 0) (pa_cons pe_int pa_nil)))))) pss_nil)
      (pss_one (ps_expr (pe_bm PySem.F.plainAttrs_list PySem.F.slot_list_append PySem.F.type_list_append mt_append (pv 3) (pa_cons (pe_joinK (K := K) rfl pe_str (pe_lc (own := [("j", 5)]) (g := gName 5) (tt := tYes) rfl sc__law_row.nd (pi_range1 (by rfl) B.range (pa_cons (pv 1) pa_nil)) (blkOk_by (own := [("j", 5)]) (N := n__law_row) (sc := defScope s__law_row) (by decide +kernel)) (fun _ _ _ _ _ => (pg_name (i := 5) sc__law_row.nd rfl (Or.inl rfl))) (fun _ _ _ _ _ => pts_nil) (fun _ _ _ _ _ => (pe_own C__law_pick hr (by omega) (by rfl) (pa_cons (pv 0) (pa_cons pe_str pa_nil)))))) pa_nil))))))
      (pss_one (ps_ret (pv 3)))))))), ?_⟩
    refine goB (eb_not (eb_chance (ev_var rfl) ev_c hs (by decide))) fun b H0 e0 => iteB (fun _ => ?_) (fun _ => ?_)
    · exact ⟨_, rfl, d, rfl, hs.ex e0, fun p H2 ws np e2 hp hw => q p H2 ws (fresh_back e0 np) (e0.trans e2) hp hw⟩
    refine ⟨_, rfl, d, 1, 12, rfl, hs.ex e0, by decide, by decide, by decide, fun size s0 s1 => ?_⟩
    refine ⟨_, rfl, d, 2, rfl, hs.ex e0, by decide, fun same => ?_⟩
    refine q_asgL (el_lst ea_nil (by decide)) fun o H2 no e2 ho => ?_
    have e02 := e0.trans e2
    have no' := fresh_back e0 no
    refine ⟨_, rfl, d, 24, 30, rfl, hs.ex e02, by decide, by decide, by decide, fun many m0 m1 => ?_⟩
    refine ⟨many, rfl, by omega, by omega, for_range (lo := 0) (n := many.toNat)
      (fun i σ' H' => ∃ (size : Int) (x4 : Option V) (ws : List Str), σ' = [some (.ref d), some (.int size), some (.bl same), some (.ref o), x4, none] ∧ 1 ≤ size ∧ size ≤ 12 ∧ Ex H H' ∧ H' o = some (.lst (sv ws)) ∧ ws.length = i ∧ ∀ x ∈ ws, 1 ≤ x.length ∧ x.length ≤ 12 ∧ Low x)
      ⟨size, _, [], rfl, s0, s1, e02, ho, rfl, fun _ h => nomatch h⟩ ?_ ?_⟩
    · clear s0 s1
      clear size
      rintro i σ' H4 hi ⟨size, x4, ws, rfl, s0, s1, e4, ho4, hlen, hws⟩
      refine q_cut (M := fun σ' H' => ∃ size : Int, σ' = [some (.ref d), some (.int size), some (.bl same), some (.ref o), some (.int (0 + (i : Nat))), none] ∧ 1 ≤ size ∧ size ≤ 12 ∧ H' = H4) ?_ ?_
      · refine ⟨_, rfl, same, rfl, iteB (fun _ => ?_) (fun _ => ?_)⟩
        · exact ⟨_, rfl, d, 12, rfl, hs.ex e4, by decide, fun r r0 r1 => ⟨_, _, rfl, rfl, _, rfl, by omega, by omega, rfl⟩⟩
        · exact ⟨_, rfl, s0, s1, rfl⟩
      rintro σ' H5 ⟨size, rfl, s0, s1, rfl⟩
      refine ⟨_, rfl, .inl ⟨rfl, _, sq_of ho4⟩, letters (K := K) (z := az) (j := 5) (vs := [5]) (n := size) rfl (ev_var rfl) (by omega) (by omega) (hs.ex e4) (fun y H1 e => ev_var rfl) (fun y H1 e => ev_c) (by decide) (by decide) (fun y => rfl) fun x H6 e6 hx hc => ?_⟩
      have sl : (sv ws).length < sizeLine := by unfold sv; rw [List.length_map]; exact sz_lt (by omega)
      refine ⟨o, _, _, rfl, rfl, e6 _ _ ho4, sl, size, _, ws ++ [x], rfl, s0, s1, Ex.mut (e4.trans e6) no', by rw [upd_same]; unfold sv; rw [List.map_append]; rfl, by rw [List.length_append, hlen]; rfl, fun y hy => ?_⟩
      rcases List.mem_append.mp hy with hy | hy
      · exact hws y hy
      · rw [List.mem_singleton.mp hy]; exact ⟨by omega, by omega, fun c h => az_low c (hc c h)⟩
    · rintro σ' H4 ⟨size, x4, ws, rfl, _, _, e4, ho4, hlen, hws⟩
      exact ⟨_, rfl, q o H4 ws no' e4 ho4 ⟨by omega, by omega, hws⟩⟩
theorem spv_wr {H : Hp} {b : Bool} {g p : Addr} {ws : List Str} {m : Int} (hg : SqB K b H g (sv ws)) (hp : H p = some (.lst (sv ws))) (hw : Words ws) (hm : m ≤ 100000) : SpV (spWr K) [.ref g, .ref p, .int m] H (.bl true) := fun H1 e Q q E => ⟨b, g, p, ws, m, rfl, hg.ex e, e _ _ hp, hw, hm, q⟩
abbrev s_law : Stmt := topS 19
abbrev n_law : List Str := ["script", "store", "words", "other", "given", "second", "width"]
theorem sc_law : FnScope n_law ["script"] (defScope s_law) := ⟨rfl, rfl, rfl, by decide +kernel, rfl, by decide +kernel, by decide +kernel⟩
theorem ok_law {f fd} (D : Dn K mg "law" s_law ["script"] f fd) (B : Bl mg)
    (C__law_store : Cal P w K mg base CX0 "_law_store" 2 ["script", "salt"] (spStore P w K)) (C__law_row : Cal P w K mg base CX0 "_law_row" 5 ["store"] (spWords P w))
    (C__law_list_or_tuple : Cal P w K mg base CX0 "_law_list_or_tuple" 4 ["store", "items"] (spLot P w K)) (C__law_widths_near : Cal P w K mg base CX0 "_law_widths_near" 3 ["store", "words"] (spNear P w))
    (C__law_width_right : Cal P w K mg base CX0 "_law_width_right" 4 ["given", "words", "width"] (spWr K)) : FnOk P w K mg base CX0 6 f fd ["script"] (spLaw K) := by
  refine D.fn.ok sc_law (fun vs H Q E h => ?_) (fun cdv A outer s H vs Q E hr h => ?_)
  · obtain ⟨a, ns, rfl, _⟩ := h
    rfl
  · obtain ⟨a, ns, rfl, ha, hl, q⟩ := h
    refine ⟨_, (pss_cons (ps_set (i := 1) sc_law.nd rfl (.inl rfl) (pe_own C__law_store hr (by omega) (by rfl) (pa_cons (pv 0) (pa_cons pe_int pa_nil))))
      (pss_cons (ps_set (i := 2) sc_law.nd rfl (.inl rfl) (pe_own C__law_row hr (by omega) (by rfl) (pa_cons (pv 1) pa_nil)))
      (pss_cons (ps_set (i := 3) sc_law.nd rfl (.inl rfl) (pe_own C__law_row hr (by omega) (by rfl) (pa_cons (pv 1) pa_nil)))
      (pss_cons (ps_set (i := 4) sc_law.nd rfl (.inl rfl) (pe_own C__law_list_or_tuple hr (by omega) (by rfl) (pa_cons (pv 1) (pa_cons (pv 2) pa_nil))))
      (pss_cons (ps_set (i := 5) sc_law.nd rfl (.inl rfl) (pe_own C__law_list_or_tuple hr (by omega) (by rfl) (pa_cons (pv 1) (pa_cons (pv 3) pa_nil))))
      (pss_cons (ps_for PassesOwn.never rfl (pi_listK (K := K) rfl (pe_own C__law_widths_near hr (by omega) (by rfl) (pa_cons (pv 1) (pa_cons (pv 2) pa_nil)))) (pg_name (i := 6) sc_law.nd rfl (.inl rfl))
      (pss_one (ps_if (pt_not (pt_val (pe_own C__law_width_right hr (by omega) (by rfl) (pa_cons (pv 4) (pa_cons (pv 2) (pa_cons (pv 6) pa_nil)))))) (pss_one (ps_ret pe_bl)) pss_nil)))
      (pss_cons (ps_for PassesOwn.never rfl (pi_listK (K := K) rfl (pe_own C__law_widths_near hr (by omega) (by rfl) (pa_cons (pv 1) (pa_cons (pv 3) pa_nil)))) (pg_name (i := 6) sc_law.nd rfl (.inl rfl))
      (pss_one (ps_if (pt_not (pt_val (pe_own C__law_width_right hr (by omega) (by rfl) (pa_cons (pv 5) (pa_cons (pv 3) (pa_cons (pv 6) pa_nil)))))) (pss_one (ps_ret pe_bl)) pss_nil)))
      (pss_cons (ps_if (PW.pt (pw_or (pt_cmpR (op_neDK (K := K) rfl hr.units) (pe_callTy (call_list_ofK (K := K) rfl) (by rfl) B.list bt_list (pa_cons (pv 4) pa_nil)) (pv 2) (nomark _)) (pw_or1 (pt_cmpR (op_neDK (K := K) rfl hr.units) (pe_callTy (call_list_ofK (K := K) rfl) (by rfl) B.list bt_list (pa_cons (pv 5) pa_nil)) (pv 3) (nomark _))))) (pss_one (ps_ret pe_bl)) pss_nil)
      (pss_one (ps_ret (pe_own C__law_width_right hr (by omega) (by rfl) (pa_cons (pv 4) (pa_cons (pv 2) (pa_cons (pe_op op_fdiv (pe_callB call_len_str (by rfl) B.len bt_len (pa_cons (pe_joinK (K := K) rfl pe_str (pv 2)) pa_nil)) pe_int) pa_nil)))))))))))))), ?_⟩
    refine ⟨_, rfl, a, ns, 9, rfl, ha, hl, fun d H1 nd e1 hs1 => ?_⟩
    refine ⟨_, rfl, d, rfl, hs1, fun p H2 ws np e2 hp hw => ?_⟩
    refine ⟨_, rfl, d, rfl, hs1.ex e2, fun p' H3 ws' np' e3 hp' hw' => ?_⟩
    refine ⟨_, rfl, _, rfl, d, p, _, rfl, hs1.ex (e2.trans e3), sq_of (e3 _ _ hp), fun b g H4 ng e4 hg => ?_⟩
    refine ⟨_, rfl, _, rfl, d, p', _, rfl, hs1.ex (e2.trans (e3.trans e4)), sq_of (e4 _ _ hp'), fun b' g' H5 ng' e5 hg' => ?_⟩
    have hs5 := hs1.ex (e2.trans (e3.trans (e4.trans e5)))
    have hp5 := (e3.trans (e4.trans e5)) _ _ hp
    have hp5' := (e4.trans e5) _ _ hp'
    have hg5 := e5 _ _ hg
    -- the first row
    refine ⟨_, rfl, _, rfl, d, p, ws, rfl, hs5, hp5, hw, fun o H6 ms no e6 ho hms => ?_⟩
    refine ⟨o, rfl, ⟨_, sq_of ho⟩, for_list (K := K) (a := o) (xs := iv ms) (fun i σ' H' => ∃ x6, σ' = [some (.ref a), some (.ref d), some (.ref p), some (.ref p'), some (.ref g), some (.ref g'), x6] ∧ Ex H6 H') ⟨_, rfl, Ex.refl _⟩ (fun i σ' H' _ ⟨_, _, e⟩ => sq_of (e _ _ ho)) ?_ ?_⟩
    · rintro i x σ' H7 hi ⟨x6, rfl, e7⟩
      obtain ⟨n, hn, rfl⟩ := List.mem_map.mp (List.mem_of_getElem? hi)
      have e57 := e6.trans e7
      exact s_when (b := false) (et_not (et_B (ev_own (ea_cons (ev_var (v := .ref g) rfl) (ea_cons (ev_var (v := .ref p) rfl) (ea_cons (ev_var (v := .int n) rfl) ea_nil))) (spv_wr (sqO_b (e57 _ _ hg5)) (e57 _ _ hp5) hw (hms n hn))))) (fun h => nomatch h) fun _ H8 e8 => ⟨_, rfl, e7.trans e8⟩
    rintro σ' H7 ⟨x6, rfl, e7⟩
    have e57 := e6.trans e7
    -- the second row
    refine ⟨_, rfl, _, rfl, d, p', ws', rfl, hs5.ex e57, e57 _ _ hp5', hw', fun o2 H8 ms2 no2 e8 ho2 hms2 => ?_⟩
    refine ⟨o2, rfl, ⟨_, sq_of ho2⟩, for_list (K := K) (a := o2) (xs := iv ms2) (fun i σ' H' => ∃ x6, σ' = [some (.ref a), some (.ref d), some (.ref p), some (.ref p'), some (.ref g), some (.ref g'), x6] ∧ Ex H8 H') ⟨_, rfl, Ex.refl _⟩ (fun i σ' H' _ ⟨_, _, e⟩ => sq_of (e _ _ ho2)) ?_ ?_⟩
    · rintro i x σ' H9 hi ⟨x6, rfl, e9⟩
      obtain ⟨n, hn, rfl⟩ := List.mem_map.mp (List.mem_of_getElem? hi)
      have e59 := e57.trans (e8.trans e9)
      exact s_when (b := false) (et_not (et_B (ev_own (ea_cons (ev_var (v := .ref g') rfl) (ea_cons (ev_var (v := .ref p') rfl) (ea_cons (ev_var (v := .int n) rfl) ea_nil))) (spv_wr (sqO_b (e59 _ _ hg')) (e59 _ _ hp5') hw' (hms2 n hn))))) (fun h => nomatch h) fun _ H10 e10 => ⟨_, rfl, e9.trans e10⟩
    rintro σ' H9 ⟨x6', rfl, e9⟩
    have e59 := e57.trans (e8.trans e9)
    refine q_when (b := false) (et_is (et_or (a := false) (b := false) (et_is (et_test (ev_opL1 (el_listS (K := K) (xs := sv ws) (es_var (b := b) (ev_var (v := .ref g) rfl) (sqO_b (e59 _ _ hg5)))) (fun H' e => by exact ev_var (v := .ref p) rfl) fun q' H' hq' e => rv_neD (dp_strs (sq_of hq')) (dp_strs (sq_of (e _ _ (e59 _ _ hp5)))) (words_gd hw) (words_gd hw))) (by rw [eqv_same (words_gd hw)]; rfl))
      fun _ => et_is (et_test (ev_opL1 (el_listS (K := K) (xs := sv ws') (es_var (b := b') (ev_var (v := .ref g') rfl) (sqO_b (e59 _ _ hg')))) (fun H' e => by exact ev_var (v := .ref p') rfl) fun q' H' hq' e => rv_neD (dp_strs (sq_of hq')) (dp_strs (sq_of (e _ _ (e59 _ _ hp5')))) (words_gd hw') (words_gd hw'))) (by rw [eqv_same (words_gd hw')]; rfl)) rfl) (fun h => nomatch h) fun _ H10 e10 => ?_
    have e510 := e59.trans e10
    have L2 := L_le1000 hw
    exact s_ret (ev_own (ea_cons (ev_var (v := .ref g) rfl) (ea_cons (ev_var (v := .ref p) rfl) (ea_cons (ev_op (ev_is (v := .int ((Str.join sp ws).length : Int)) (w := .int (L ws)) (ev_lenStr (ev_join (K := K) (a := sp) ev_c (es_var (b := true) (ev_var (v := .ref p) rfl) (SqB.l (e510 _ _ hp5))) (words_join hw)) (by have := L_len (ws := ws); omega)) rfl) ev_c (rv_I (C := CDiv) ⟨by decide, by decide⟩)) ea_nil))) (spv_wr (sqO_b (e510 _ _ hg5)) (e510 _ _ hp5) hw (by omega))) fun H11 e11 => q H11
end
end M

namespace M
open PySem PySem.Spec PyProof.Rows L2 Evl
theorem all_mk {l : PySem.W.OpenLaw} {w : World} {K : PySem.W.Frag} {h : Heap} {mg : Str → Option Value} {fa : Addr} (X : K.In h) (G : h.Ns mainGlobals mg) (hfa : mg "law" = some (.ref fa))
    {f0 : Addr} {oc0 kV0 dc0 pm0 cd0 ct0 : Value} {od0 an0 : Option Addr} {sl0 : Array (Option Value)} (a0 : PySem.W.nsIn K mainGlobals "longest" = some (some (.ref f0))) (l0 : K.lookup f0 = some ⟨oc0, od0, .func (PySem.W.fnOf "longest" "longest" (defArgs s_longest) (defBody s_longest) (defScope s_longest) .none kV0 dc0 pm0 an0 cd0 ct0), sl0⟩) (c0 : PySem.W.codeIn K cd0 "longest" = true) (k0 : PySem.W.keepIn K (.ref f0) = true)
    {f1 : Addr} {oc1 kV1 dc1 pm1 cd1 ct1 : Value} {od1 an1 : Option Addr} {sl1 : Array (Option Value)} (a1 : PySem.W.nsIn K mainGlobals "greedy_lines" = some (some (.ref f1))) (l1 : K.lookup f1 = some ⟨oc1, od1, .func (PySem.W.fnOf "greedy_lines" "greedy_lines" (defArgs s_greedy_lines) (defBody s_greedy_lines) (defScope s_greedy_lines) .none kV1 dc1 pm1 an1 cd1 ct1), sl1⟩) (c1 : PySem.W.codeIn K cd1 "greedy_lines" = true) (k1 : PySem.W.keepIn K (.ref f1) = true)
    {f2 : Addr} {oc2 kV2 dc2 pm2 cd2 ct2 : Value} {od2 an2 : Option Addr} {sl2 : Array (Option Value)} (a2 : PySem.W.nsIn K mainGlobals "least_width" = some (some (.ref f2))) (l2 : K.lookup f2 = some ⟨oc2, od2, .func (PySem.W.fnOf "least_width" "least_width" (defArgs s_least_width) (defBody s_least_width) (defScope s_least_width) .none kV2 dc2 pm2 an2 cd2 ct2), sl2⟩) (c2 : PySem.W.codeIn K cd2 "least_width" = true) (k2 : PySem.W.keepIn K (.ref f2) = true)
    {f3 : Addr} {oc3 kV3 dc3 pm3 cd3 ct3 : Value} {od3 an3 : Option Addr} {sl3 : Array (Option Value)} (a3 : PySem.W.nsIn K mainGlobals "_law_mix" = some (some (.ref f3))) (l3 : K.lookup f3 = some ⟨oc3, od3, .func (PySem.W.fnOf "_law_mix" "_law_mix" (defArgs s__law_mix) (defBody s__law_mix) (defScope s__law_mix) .none kV3 dc3 pm3 an3 cd3 ct3), sl3⟩) (c3 : PySem.W.codeIn K cd3 "_law_mix" = true) (k3 : PySem.W.keepIn K (.ref f3) = true)
    {f4 : Addr} {oc4 kV4 dc4 pm4 cd4 ct4 : Value} {od4 an4 : Option Addr} {sl4 : Array (Option Value)} (a4 : PySem.W.nsIn K mainGlobals "_law_store" = some (some (.ref f4))) (l4 : K.lookup f4 = some ⟨oc4, od4, .func (PySem.W.fnOf "_law_store" "_law_store" (defArgs s__law_store) (defBody s__law_store) (defScope s__law_store) .none kV4 dc4 pm4 an4 cd4 ct4), sl4⟩) (c4 : PySem.W.codeIn K cd4 "_law_store" = true) (k4 : PySem.W.keepIn K (.ref f4) = true)
    {f5 : Addr} {oc5 kV5 dc5 pm5 cd5 ct5 : Value} {od5 an5 : Option Addr} {sl5 : Array (Option Value)} (a5 : PySem.W.nsIn K mainGlobals "_law_take" = some (some (.ref f5))) (l5 : K.lookup f5 = some ⟨oc5, od5, .func (PySem.W.fnOf "_law_take" "_law_take" (defArgs s__law_take) (defBody s__law_take) (defScope s__law_take) .none kV5 dc5 pm5 an5 cd5 ct5), sl5⟩) (c5 : PySem.W.codeIn K cd5 "_law_take" = true) (k5 : PySem.W.keepIn K (.ref f5) = true)
    {f6 : Addr} {oc6 kV6 dc6 pm6 cd6 ct6 : Value} {od6 an6 : Option Addr} {sl6 : Array (Option Value)} (a6 : PySem.W.nsIn K mainGlobals "_law_chance" = some (some (.ref f6))) (l6 : K.lookup f6 = some ⟨oc6, od6, .func (PySem.W.fnOf "_law_chance" "_law_chance" (defArgs s__law_chance) (defBody s__law_chance) (defScope s__law_chance) .none kV6 dc6 pm6 an6 cd6 ct6), sl6⟩) (c6 : PySem.W.codeIn K cd6 "_law_chance" = true) (k6 : PySem.W.keepIn K (.ref f6) = true)
    {f7 : Addr} {oc7 kV7 dc7 pm7 cd7 ct7 : Value} {od7 an7 : Option Addr} {sl7 : Array (Option Value)} (a7 : PySem.W.nsIn K mainGlobals "_law_pick" = some (some (.ref f7))) (l7 : K.lookup f7 = some ⟨oc7, od7, .func (PySem.W.fnOf "_law_pick" "_law_pick" (defArgs s__law_pick) (defBody s__law_pick) (defScope s__law_pick) .none kV7 dc7 pm7 an7 cd7 ct7), sl7⟩) (c7 : PySem.W.codeIn K cd7 "_law_pick" = true) (k7 : PySem.W.keepIn K (.ref f7) = true)
    {f8 : Addr} {oc8 kV8 dc8 pm8 cd8 ct8 : Value} {od8 an8 : Option Addr} {sl8 : Array (Option Value)} (a8 : PySem.W.nsIn K mainGlobals "_law_range" = some (some (.ref f8))) (l8 : K.lookup f8 = some ⟨oc8, od8, .func (PySem.W.fnOf "_law_range" "_law_range" (defArgs s__law_range) (defBody s__law_range) (defScope s__law_range) .none kV8 dc8 pm8 an8 cd8 ct8), sl8⟩) (c8 : PySem.W.codeIn K cd8 "_law_range" = true) (k8 : PySem.W.keepIn K (.ref f8) = true)
    {f9 : Addr} {oc9 kV9 dc9 pm9 cd9 ct9 : Value} {od9 an9 : Option Addr} {sl9 : Array (Option Value)} (a9 : PySem.W.nsIn K mainGlobals "_law_words" = some (some (.ref f9))) (l9 : K.lookup f9 = some ⟨oc9, od9, .func (PySem.W.fnOf "_law_words" "_law_words" (defArgs s__law_words) (defBody s__law_words) (defScope s__law_words) .none kV9 dc9 pm9 an9 cd9 ct9), sl9⟩) (c9 : PySem.W.codeIn K cd9 "_law_words" = true) (k9 : PySem.W.keepIn K (.ref f9) = true)
    {f10 : Addr} {oc10 kV10 dc10 pm10 cd10 ct10 : Value} {od10 an10 : Option Addr} {sl10 : Array (Option Value)} (a10 : PySem.W.nsIn K mainGlobals "_law_is_int" = some (some (.ref f10))) (l10 : K.lookup f10 = some ⟨oc10, od10, .func (PySem.W.fnOf "_law_is_int" "_law_is_int" (defArgs s__law_is_int) (defBody s__law_is_int) (defScope s__law_is_int) .none kV10 dc10 pm10 an10 cd10 ct10), sl10⟩) (c10 : PySem.W.codeIn K cd10 "_law_is_int" = true) (k10 : PySem.W.keepIn K (.ref f10) = true)
    {f11 : Addr} {oc11 kV11 dc11 pm11 cd11 ct11 : Value} {od11 an11 : Option Addr} {sl11 : Array (Option Value)} (a11 : PySem.W.nsIn K mainGlobals "_law_list_or_tuple" = some (some (.ref f11))) (l11 : K.lookup f11 = some ⟨oc11, od11, .func (PySem.W.fnOf "_law_list_or_tuple" "_law_list_or_tuple" (defArgs s__law_list_or_tuple) (defBody s__law_list_or_tuple) (defScope s__law_list_or_tuple) .none kV11 dc11 pm11 an11 cd11 ct11), sl11⟩) (c11 : PySem.W.codeIn K cd11 "_law_list_or_tuple" = true) (k11 : PySem.W.keepIn K (.ref f11) = true)
    {f12 : Addr} {oc12 kV12 dc12 pm12 cd12 ct12 : Value} {od12 an12 : Option Addr} {sl12 : Array (Option Value)} (a12 : PySem.W.nsIn K mainGlobals "_law_count" = some (some (.ref f12))) (l12 : K.lookup f12 = some ⟨oc12, od12, .func (PySem.W.fnOf "_law_count" "_law_count" (defArgs s__law_count) (defBody s__law_count) (defScope s__law_count) .none kV12 dc12 pm12 an12 cd12 ct12), sl12⟩) (c12 : PySem.W.codeIn K cd12 "_law_count" = true) (k12 : PySem.W.keepIn K (.ref f12) = true)
    {f13 : Addr} {oc13 kV13 dc13 pm13 cd13 ct13 : Value} {od13 an13 : Option Addr} {sl13 : Array (Option Value)} (a13 : PySem.W.nsIn K mainGlobals "_law_row" = some (some (.ref f13))) (l13 : K.lookup f13 = some ⟨oc13, od13, .func (PySem.W.fnOf "_law_row" "_law_row" (defArgs s__law_row) (defBody s__law_row) (defScope s__law_row) .none kV13 dc13 pm13 an13 cd13 ct13), sl13⟩) (c13 : PySem.W.codeIn K cd13 "_law_row" = true) (k13 : PySem.W.keepIn K (.ref f13) = true)
    {f14 : Addr} {oc14 kV14 dc14 pm14 cd14 ct14 : Value} {od14 an14 : Option Addr} {sl14 : Array (Option Value)} (a14 : PySem.W.nsIn K mainGlobals "_law_lines_right" = some (some (.ref f14))) (l14 : K.lookup f14 = some ⟨oc14, od14, .func (PySem.W.fnOf "_law_lines_right" "_law_lines_right" (defArgs s__law_lines_right) (defBody s__law_lines_right) (defScope s__law_lines_right) .none kV14 dc14 pm14 an14 cd14 ct14), sl14⟩) (c14 : PySem.W.codeIn K cd14 "_law_lines_right" = true) (k14 : PySem.W.keepIn K (.ref f14) = true)
    {f15 : Addr} {oc15 kV15 dc15 pm15 cd15 ct15 : Value} {od15 an15 : Option Addr} {sl15 : Array (Option Value)} (a15 : PySem.W.nsIn K mainGlobals "_law_width_right" = some (some (.ref f15))) (l15 : K.lookup f15 = some ⟨oc15, od15, .func (PySem.W.fnOf "_law_width_right" "_law_width_right" (defArgs s__law_width_right) (defBody s__law_width_right) (defScope s__law_width_right) .none kV15 dc15 pm15 an15 cd15 ct15), sl15⟩) (c15 : PySem.W.codeIn K cd15 "_law_width_right" = true) (k15 : PySem.W.keepIn K (.ref f15) = true)
    {f16 : Addr} {oc16 kV16 dc16 pm16 cd16 ct16 : Value} {od16 an16 : Option Addr} {sl16 : Array (Option Value)} (a16 : PySem.W.nsIn K mainGlobals "_law_widths_near" = some (some (.ref f16))) (l16 : K.lookup f16 = some ⟨oc16, od16, .func (PySem.W.fnOf "_law_widths_near" "_law_widths_near" (defArgs s__law_widths_near) (defBody s__law_widths_near) (defScope s__law_widths_near) .none kV16 dc16 pm16 an16 cd16 ct16), sl16⟩) (c16 : PySem.W.codeIn K cd16 "_law_widths_near" = true) (k16 : PySem.W.keepIn K (.ref f16) = true)
    {f17 : Addr} {oc17 kV17 dc17 pm17 cd17 ct17 : Value} {od17 an17 : Option Addr} {sl17 : Array (Option Value)} (a17 : PySem.W.nsIn K mainGlobals "law" = some (some (.ref f17))) (l17 : K.lookup f17 = some ⟨oc17, od17, .func (PySem.W.fnOf "law" "law" (defArgs s_law) (defBody s_law) (defScope s_law) .none kV17 dc17 pm17 an17 cd17 ct17), sl17⟩) (c17 : PySem.W.codeIn K cd17 "law" = true) (k17 : PySem.W.keepIn K (.ref f17) = true)
    (z0 : PySem.W.nsIn K mainGlobals "len" = some none) (z1 : PySem.W.nsIn K mainGlobals "int" = some none) (z2 : PySem.W.nsIn K mainGlobals "abs" = some none) (z3 : PySem.W.nsIn K mainGlobals "list" = some none) (z4 : PySem.W.nsIn K mainGlobals "tuple" = some none) (z5 : PySem.W.nsIn K mainGlobals "range" = some none) (z6 : PySem.W.nsIn K mainGlobals "max" = some none) (z7 : PySem.W.nsIn K mainGlobals "min" = some none) (z8 : PySem.W.nsIn K mainGlobals "isinstance" = some none) (z9 : PySem.W.nsIn K mainGlobals "str" = some none) (z10 : PySem.W.nsIn K mainGlobals "bool" = some none) (z11 : PySem.W.nsIn K mainGlobals "zip" = some none) (z12 : PySem.W.nsIn K mainGlobals "enumerate" = some none) (z13 : PySem.W.nsIn K mainGlobals "reversed" = some none) (z14 : PySem.W.nsIn K mainGlobals "sorted" = some none) (z15 : PySem.W.nsIn K mainGlobals "set" = some none) (z16 : PySem.W.nsIn K mainGlobals "dict" = some none) (z17 : PySem.W.nsIn K mainGlobals "sum" = some none) (z18 : PySem.W.nsIn K mainGlobals "any" = some none) (z19 : PySem.W.nsIn K mainGlobals "all" = some none) :
    ∃ fd : FuncData, (∀ (s : Shared) (v : Value), BindsTo s fd ⟨[v], []⟩ [("script", v)]) ∧ ∀ base : Heap, K.In base → base.Ns mainGlobals mg → FnOk l.prog w K mg base CX0 6 fa fd ["script"] (spLaw K) := by
  have e := hfa.symm.trans (PySem.W.mg_of X G a17)
  cases e
  have B : Bl mg := ⟨PySem.W.mg_none_of X G z0, PySem.W.mg_none_of X G z1, PySem.W.mg_none_of X G z2, PySem.W.mg_none_of X G z3, PySem.W.mg_none_of X G z4, PySem.W.mg_none_of X G z5, PySem.W.mg_none_of X G z6, PySem.W.mg_none_of X G z7, PySem.W.mg_none_of X G z8, PySem.W.mg_none_of X G z9, PySem.W.mg_none_of X G z10, PySem.W.mg_none_of X G z11, PySem.W.mg_none_of X G z12, PySem.W.mg_none_of X G z13, PySem.W.mg_none_of X G z14, PySem.W.mg_none_of X G z15, PySem.W.mg_none_of X G z16, PySem.W.mg_none_of X G z17, PySem.W.mg_none_of X G z18, PySem.W.mg_none_of X G z19⟩
  have D_longest := dn_of (st := s_longest) (ps := ["texts"]) X G a0 l0 c0 k0 fun _ _ _ _ _ _ us hl => match us, hl with | [_], _ => rfl
  have D_greedy_lines := dn_of (st := s_greedy_lines) (ps := ["words", "width"]) X G a1 l1 c1 k1 fun _ _ _ _ _ _ us hl => match us, hl with | [_, _], _ => rfl
  have D_least_width := dn_of (st := s_least_width) (ps := ["words", "width"]) X G a2 l2 c2 k2 fun _ _ _ _ _ _ us hl => match us, hl with | [_, _], _ => rfl
  have D__law_mix := dn_of (st := s__law_mix) (ps := ["first", "second"]) X G a3 l3 c3 k3 fun _ _ _ _ _ _ us hl => match us, hl with | [_, _], _ => rfl
  have D__law_store := dn_of (st := s__law_store) (ps := ["script", "salt"]) X G a4 l4 c4 k4 fun _ _ _ _ _ _ us hl => match us, hl with | [_, _], _ => rfl
  have D__law_take := dn_of (st := s__law_take) (ps := ["store", "many"]) X G a5 l5 c5 k5 fun _ _ _ _ _ _ us hl => match us, hl with | [_, _], _ => rfl
  have D__law_chance := dn_of (st := s__law_chance) (ps := ["store", "many"]) X G a6 l6 c6 k6 fun _ _ _ _ _ _ us hl => match us, hl with | [_, _], _ => rfl
  have D__law_pick := dn_of (st := s__law_pick) (ps := ["store", "items"]) X G a7 l7 c7 k7 fun _ _ _ _ _ _ us hl => match us, hl with | [_, _], _ => rfl
  have D__law_range := dn_of (st := s__law_range) (ps := ["store", "low", "high"]) X G a8 l8 c8 k8 fun _ _ _ _ _ _ us hl => match us, hl with | [_, _, _], _ => rfl
  have D__law_words := dn_of (st := s__law_words) (ps := ["store"]) X G a9 l9 c9 k9 fun _ _ _ _ _ _ us hl => match us, hl with | [_], _ => rfl
  have D__law_is_int := dn_of (st := s__law_is_int) (ps := ["value"]) X G a10 l10 c10 k10 fun _ _ _ _ _ _ us hl => match us, hl with | [_], _ => rfl
  have D__law_list_or_tuple := dn_of (st := s__law_list_or_tuple) (ps := ["store", "items"]) X G a11 l11 c11 k11 fun _ _ _ _ _ _ us hl => match us, hl with | [_, _], _ => rfl
  have D__law_count := dn_of (st := s__law_count) (ps := ["words", "width"]) X G a12 l12 c12 k12 fun _ _ _ _ _ _ us hl => match us, hl with | [_, _], _ => rfl
  have D__law_row := dn_of (st := s__law_row) (ps := ["store"]) X G a13 l13 c13 k13 fun _ _ _ _ _ _ us hl => match us, hl with | [_], _ => rfl
  have D__law_lines_right := dn_of (st := s__law_lines_right) (ps := ["lines", "words", "width"]) X G a14 l14 c14 k14 fun _ _ _ _ _ _ us hl => match us, hl with | [_, _, _], _ => rfl
  have D__law_width_right := dn_of (st := s__law_width_right) (ps := ["given", "words", "width"]) X G a15 l15 c15 k15 fun _ _ _ _ _ _ us hl => match us, hl with | [_, _, _], _ => rfl
  have D__law_widths_near := dn_of (st := s__law_widths_near) (ps := ["store", "words"]) X G a16 l16 c16 k16 fun _ _ _ _ _ _ us hl => match us, hl with | [_, _], _ => rfl
  have D_law := dn_of (st := s_law) (ps := ["script"]) X G a17 l17 c17 k17 fun _ _ _ _ _ _ us hl => match us, hl with | [_], _ => rfl
  refine ⟨PySem.W.fnOf "law" "law" (defArgs s_law) (defBody s_law) (defScope s_law) .none kV17 dc17 pm17 an17 cd17 ct17, fun s v => .of_eq rfl, fun base _ _ => ?_⟩
  have C_mix := D__law_mix.cal (P := l.prog) (w := w) (base := base) (ok_mix D__law_mix B)
  have C_take := D__law_take.cal (ok_take D__law_take B C_mix)
  have C_store := D__law_store.cal (ok_store D__law_store B C_mix)
  have C_chance := D__law_chance.cal (ok_chance D__law_chance C_take)
  have C_pick := D__law_pick.cal (ok_pickT D__law_pick B C_take)
  have C_range := D__law_range.cal (ok_range D__law_range B C_take)
  have C_words := D__law_words.cal (ok_words D__law_words B C_chance C_pick C_range)
  have C_long := D_longest.cal (P := l.prog) (w := w) (base := base) (ok_long D_longest B)
  have C_greedy := D_greedy_lines.cal (ok_greedy D_greedy_lines B C_long)
  have C_least := D_least_width.cal (ok_least D_least_width B C_long C_greedy)
  have C_isint := D__law_is_int.cal (P := l.prog) (w := w) (base := base) (ok_isint D__law_is_int B)
  have C_lot := D__law_list_or_tuple.cal (ok_lot D__law_list_or_tuple B C_chance)
  have C_count := D__law_count.cal (P := l.prog) (w := w) (base := base) (ok_count D__law_count B)
  have C_lines := D__law_lines_right.cal (P := l.prog) (w := w) (base := base) (ok_lines D__law_lines_right B)
  have C_wr := D__law_width_right.cal (ok_wr D__law_width_right B C_greedy C_least C_lines C_isint C_count)
  have C_near := D__law_widths_near.cal (ok_near D__law_widths_near B C_take)
  have C_row := D__law_row.cal (ok_lrow D__law_row B C_chance C_take C_pick C_range C_words)
  exact ok_law D_law B C_store C_row C_lot C_near C_wr
end M
open PySem PySem.W PyProof.Rows
set_option maxRecDepth 100000 in
set_option maxHeartbeats 0 in
theorem PySem.Challenge.cw_steadyroom_k08_greedy_lines_holds : PySem.Challenge.rw_steadyroom_k08_greedy_lines.Holds := by
  w_on; o_law; k_head; (case hw => w_witness2)
  k_fill
  refine M.walk (l := PySem.Challenge.rw_steadyroom_k08_greedy_lines) (k := 6) rfl rfl ⟨rfl, by decide, by decide⟩ (fun w h Y => PySem.W.kIn_of Y) ?F
  case F =>
    intro w mg fa h KX G hmg
    refine' M.all_mk KX G hmg ?a0 ?l0 ?c0 ?k0 ?a1 ?l1 ?c1 ?k1 ?a2 ?l2 ?c2 ?k2 ?a3 ?l3 ?c3 ?k3 ?a4 ?l4 ?c4 ?k4 ?a5 ?l5 ?c5 ?k5 ?a6 ?l6 ?c6 ?k6 ?a7 ?l7 ?c7 ?k7 ?a8 ?l8 ?c8 ?k8 ?a9 ?l9 ?c9 ?k9 ?a10 ?l10 ?c10 ?k10 ?a11 ?l11 ?c11 ?k11 ?a12 ?l12 ?c12 ?k12 ?a13 ?l13 ?c13 ?k13 ?a14 ?l14 ?c14 ?k14 ?a15 ?l15 ?c15 ?k15 ?a16 ?l16 ?c16 ?k16 ?a17 ?l17 ?c17 ?k17 ?z0 ?z1 ?z2 ?z3 ?z4 ?z5 ?z6 ?z7 ?z8 ?z9 ?z10 ?z11 ?z12 ?z13 ?z14 ?z15 ?z16 ?z17 ?z18 ?z19
    (case a0 => k_is)
    (case l0 => k_is)
    (case c0 => k_is)
    (case k0 => k_is)
    (case a1 => k_is)
    (case l1 => k_is)
    (case c1 => k_is)
    (case k1 => k_is)
    (case a2 => k_is)
    (case l2 => k_is)
    (case c2 => k_is)
    (case k2 => k_is)
    (case a3 => k_is)
    (case l3 => k_is)
    (case c3 => k_is)
    (case k3 => k_is)
    (case a4 => k_is)
    (case l4 => k_is)
    (case c4 => k_is)
    (case k4 => k_is)
    (case a5 => k_is)
    (case l5 => k_is)
    (case c5 => k_is)
    (case k5 => k_is)
    (case a6 => k_is)
    (case l6 => k_is)
    (case c6 => k_is)
    (case k6 => k_is)
    (case a7 => k_is)
    (case l7 => k_is)
    (case c7 => k_is)
    (case k7 => k_is)
    (case a8 => k_is)
    (case l8 => k_is)
    (case c8 => k_is)
    (case k8 => k_is)
    (case a9 => k_is)
    (case l9 => k_is)
    (case c9 => k_is)
    (case k9 => k_is)
    (case a10 => k_is)
    (case l10 => k_is)
    (case c10 => k_is)
    (case k10 => k_is)
    (case a11 => k_is)
    (case l11 => k_is)
    (case c11 => k_is)
    (case k11 => k_is)
    (case a12 => k_is)
    (case l12 => k_is)
    (case c12 => k_is)
    (case k12 => k_is)
    (case a13 => k_is)
    (case l13 => k_is)
    (case c13 => k_is)
    (case k13 => k_is)
    (case a14 => k_is)
    (case l14 => k_is)
    (case c14 => k_is)
    (case k14 => k_is)
    (case a15 => k_is)
    (case l15 => k_is)
    (case c15 => k_is)
    (case k15 => k_is)
    (case a16 => k_is)
    (case l16 => k_is)
    (case c16 => k_is)
    (case k16 => k_is)
    (case a17 => k_is)
    (case l17 => k_is)
    (case c17 => k_is)
    (case k17 => k_is)
    (case z0 => k_is)
    (case z1 => k_is)
    (case z2 => k_is)
    (case z3 => k_is)
    (case z4 => k_is)
    (case z5 => k_is)
    (case z6 => k_is)
    (case z7 => k_is)
    (case z8 => k_is)
    (case z9 => k_is)
    (case z10 => k_is)
    (case z11 => k_is)
    (case z12 => k_is)
    (case z13 => k_is)
    (case z14 => k_is)
    (case z15 => k_is)
    (case z16 => k_is)
    (case z17 => k_is)
    (case z18 => k_is)
    (case z19 => k_is)

