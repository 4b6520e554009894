import PyProof.Rows.All
import Wide.All
import OpenK.AllK
import Wide.FinOn
import HandS.ForMost
import HandS.Evl
import HandS.IsInst
import HandS.Strs
import HandS.Conv
import HandS.SortInts
import HandS.SortRule
import HandS.SetFor
import PySem.Challenge.RW_steadyroom_k68_width_forms
set_option Elab.async false
set_option linter.all false
set_option maxRecDepth 100000
set_option maxHeartbeats 4000000
namespace M
open PySem PySem.Spec PyProof.Rows L2 Evl

/-! ### a dict that is a record of draws, seen as one thing that never changes -/
section
variable {P : Program} {w : World} {K : PySem.W.Frag} {mg : Str → Option Value} {base : Heap}
def StR (P : Program) (w : World) (d : Addr) (G : List (Key × V) → Prop) (h : Heap) : Prop := ∃ kvs, G kvs ∧ ObjOk P w (fun _ => none) h d (.dK kvs)
def StO (P : Program) (w : World) (d : Addr) (G : List (Key × V) → Prop) : HO := .ext (StR P w d G)
theorem view_in {H : Hp} {h : Heap} {d : Addr} {G : List (Key × V) → Prop} (ok : HOk P w H h) (hd : H d = some (StO P w d G)) : ∃ kvs, G kvs ∧ HOk P w (upd H d (.dK kvs)) h := by
  obtain ⟨⟨kvs, g, o⟩, _, _⟩ := (show ObjOk P w H h d (.ext (StR P w d G)) from ok d _ hd)
  refine ⟨kvs, g, fun a u e => ?_⟩
  by_cases ha : a = d
  · subst ha
    rw [upd_same] at e
    cases e
    exact o
  · rw [upd_ne ha] at e
    refine (ok a u e).stay (fun _ _ _ q => q) (fun b q => ?_) fun b xs q => ?_
    · have : b ≠ d := ne_of q hd (by intro z; cases z)
      rw [upd_ne this]; exact q
    · have : b ≠ d := ne_of q hd (by intro z; cases z)
      rw [upd_ne this]; exact q
theorem view_out {H : Hp} {h : Heap} {d : Addr} {G : List (Key × V) → Prop} {kvs : List (Key × V)} (ok : HOk P w H h) (hd : H d = some (.dK kvs)) (g : G kvs) : HOk P w (upd H d (StO P w d G)) h := fun a u e => by
  by_cases ha : a = d
  · subst ha
    rw [upd_same] at e
    cases e
    have o := ok a _ hd
    refine ⟨⟨kvs, g, o⟩, ?_, ?_⟩
    · obtain ⟨_, _, _, _, ob, _, _, e, _⟩ := o
      exact ⟨ob, e⟩
    · rintro h1 h2 ⟨kvs1, g1, o1⟩ k
      exact ⟨kvs1, g1, o1.stay (fun b u hb q => by
        rcases hb with rfl | hb
        · exact k _ q
        · cases hb) (fun _ q => nomatch q) fun _ _ q => nomatch q⟩
  · rw [upd_ne ha] at e
    refine (ok a u e).stay (fun _ _ _ q => q) (fun b q => ?_) fun b xs q => ?_
    · have : b ≠ d := ne_of q hd (by intro z; cases z)
      rw [upd_ne this]; exact q
    · have : b ≠ d := ne_of q hd (by intro z; cases z)
      rw [upd_ne this]; exact q
theorem un_view {fs : List Addr} {H H' : Hp} {h h' : Heap} {d : Addr} {G : List (Key × V) → Prop} {kvs kvs' : List (Key × V)} (hd : H d = some (StO P w d G)) (hd' : H' d = some (.dK kvs')) (u : Un fs [] (upd H d (.dK kvs)) H' h h') :
    Un fs [] H (upd H' d (StO P w d G)) h h' where
  keep := fun b o q n hf hx => u.keep b o q (by rw [upd_ne (ne_of_none hd n).symm]; exact n) hf hx
  slot := fun b o q n hf hx => u.slot b o q (by rw [upd_ne (ne_of_none hd n).symm]; exact n) hf hx
  free := fun b o q n hx => by
    have nd := (ne_of_none hd n).symm
    rw [upd_ne nd]
    exact u.free b o q (by rw [upd_ne nd]; exact n) hx
  there := fun b o q hx => u.there b o q hx
  tups := fun b xs q => by
    have nd : b ≠ d := ne_of q hd (by intro z; cases z)
    rw [upd_ne nd]
    exact u.tups b xs (by rw [upd_ne nd]; exact q)
  frzs := fun b o v q => by
    have nd : b ≠ d := ne_of q hd (by intro z; cases z)
    rw [upd_ne nd]
    exact u.frzs b o v (by rw [upd_ne nd]; exact q)
  tbls := fun b ps q => by
    have nd : b ≠ d := ne_of q hd (by intro z; cases z)
    rw [upd_ne nd]
    exact u.tbls b ps (by rw [upd_ne nd]; exact q)
/-- a def that works on the record is one that leaves it as it is, seen from without -/
theorem fn_view {k : Nat} {f : Addr} {fd : FuncData} {ps : List Str} {sp : Sp} (F : FnOk P w K mg base CX0 k f fd ps sp) :
    FnOk P w K mg base CX0 k f fd ps (fun vs H Q E => vs.length = ps.length ∧ ∃ d G, H d = some (StO P w d G) ∧ ∀ kvs, G kvs → sp vs (upd H d (.dK kvs)) (fun v H' => ∃ kvs', G kvs' ∧ H' d = some (.dK kvs') ∧ Q v (upd H' d (StO P w d G))) E) := by
  refine ⟨fun vs H Q E h => h.1, fun A outer s H args us vs Q E hr e hb hv hs => ?_⟩
  obtain ⟨_, d, G, hd, hs⟩ := hs
  obtain ⟨kvs, g, ok⟩ := view_in e.hok hd
  have e' : Env0 P w K mg base A outer s (upd H d (.dK kvs)) := ⟨e.frames, e.mod, fun b o q => ⟨(e.bs b o q).1, by
    rw [upd_ne (ne_of_none hd (e.bs b o q).2).symm]; exact (e.bs b o q).2⟩, e.bsz, e.funs, fun b hb => by
    rw [upd_ne (ne_of_none hd (e.frf b hb)).symm]; exact e.frf b hb, ok, e.bare⟩
  refine codeAny_mono (F.run A outer s _ args us vs _ E hr e' hb hv (hs kvs g)) fun r s' c => ?_
  cases r with
  | error x => exact c
  | ok r =>
    cases r with
    | ret u =>
      obtain ⟨v, H', os, bare, un, hok, rv, kvs', g', hd', q⟩ := c
      exact ⟨v, _, os, bare, un_view hd hd' un, view_out hok hd' g', rv, q⟩
    | _ => exact c
/-- a def that gives out a new record -/
theorem fn_give {k : Nat} {f : Addr} {fd : FuncData} {ps : List Str} {sp : Sp} (F : FnOk P w K mg base CX0 k f fd ps sp) :
    FnOk P w K mg base CX0 k f fd ps (fun vs H Q E => sp vs H (fun v H' => ∃ d G kvs', H d = none ∧ G kvs' ∧ H' d = some (.dK kvs') ∧ Q v (upd H' d (StO P w d G))) E) := by
  refine ⟨fun vs H Q E h => F.len _ _ _ _ h, fun A outer s H args us vs Q E hr e hb hv hs => ?_⟩
  refine codeAny_mono (F.run A outer s _ args us vs _ E hr e hb hv hs) fun r s' c => ?_
  cases r with
  | error x => exact c
  | ok r =>
    cases r with
    | ret u =>
      obtain ⟨v, H', os, bare, un, hok, rv, d, G, kvs', hn, g', hd', q⟩ := c
      refine ⟨v, _, os, bare, ⟨un.keep, un.slot, fun b o e n hx => ?_, un.there, fun b xs e => ?_, fun b o x e => ?_, fun b ps e => ?_⟩, view_out hok hd' g', rv, q⟩
      · have := un.free b o e n hx
        rw [upd_ne (ne_of_none hd' this).symm]; exact this
      · have nd : b ≠ d := ne_of_none e hn
        rw [upd_ne nd]; exact un.tups b xs e
      · have nd : b ≠ d := ne_of_none e hn
        rw [upd_ne nd]; exact un.frzs b o x e
      · have nd : b ≠ d := ne_of_none e hn
        rw [upd_ne nd]; exact un.tbls b ps e
    | _ => exact c
end

/-! ### a def that is called by its name -/
structure Cal (P : Program) (w : World) (K : PySem.W.Frag) (mg : Str → Option Value) (base : Heap) (CX : CXT) (x : Str) (j : Nat) (ps : List Str) (sp : Sp) : Prop where
  ex : ∃ f fd, FnOk P w K mg base CX j f fd ps sp ∧ mg x = some (.ref f) ∧ PySem.W.keepIn K (.ref f) = true ∧ Binds K fd ps []
/-- what the top has left of a def -/
structure Dn (K : PySem.W.Frag) (mg : Str → Option Value) (x : Str) (st : Stmt) (ps : List Str) (f : Addr) (fd : FuncData) : Prop where
  fn : Fun K x x st f fd
  mg : mg x = some (.ref f)
  bn : Binds K fd ps []
theorem dn_mk {K : PySem.W.Frag} {mg : Str → Option Value} {h : Heap} {x : Str} {st : Stmt} {ps : List Str} {f : Addr} {oc : Value} {od an : Option Addr} {osl : Array (Option Value)} {kV doc pm cdv ct : Value}
    (X : K.In h) (G : h.Ns mainGlobals mg)
    (a : PySem.W.nsIn K mainGlobals x = some (some (.ref f))) (l : K.lookup f = some ⟨oc, od, .func (PySem.W.fnOf x x (defArgs st) (defBody st) (defScope st) .none kV doc pm an cdv ct), osl⟩)
    (c : PySem.W.codeIn K cdv x = true) (k : PySem.W.keepIn K (.ref f) = true)
    (b : ∀ (kV doc pm : Value) (an : Option Addr) (cdv ct : Value) (us : List Value), us.length = ps.length → bindArgs (PySem.W.fnOf x x (defArgs st) (defBody st) (defScope st) .none kV doc pm an cdv ct) ⟨us, []⟩ = pure (ps.zip us)) :
    ∃ f fd, Dn K mg x st ps f fd :=
  have F := fun_mk (x := x) (qual := x) (st := st) l c k
  ⟨f, _, ⟨F, PySem.W.mg_of X G a, F.binds b⟩⟩
theorem Dn.cal {P : Program} {w : World} {K : PySem.W.Frag} {mg : Str → Option Value} {base : Heap} {CX : CXT} {x : Str} {j : Nat} {ps : List Str} {sp : Sp} {st : Stmt} {f : Addr} {fd : FuncData} (D : Dn K mg x st ps f fd)
    (F : FnOk P w K mg base CX j f fd ps sp) : Cal P w K mg base CX x j ps sp := ⟨f, fd, F, D.mg, D.fn.kp, D.bn⟩
theorem dn_of {K : PySem.W.Frag} {mg : Str → Option Value} {h : Heap} {x : Str} {st : Stmt} {ps : List Str} {f : Addr} {oc : Value} {od an : Option Addr} {osl : Array (Option Value)} {kV doc pm cdv ct : Value}
    (X : K.In h) (G : h.Ns mainGlobals mg)
    (a : PySem.W.nsIn K mainGlobals x = some (some (.ref f))) (l : K.lookup f = some ⟨oc, od, .func (PySem.W.fnOf x x (defArgs st) (defBody st) (defScope st) .none kV doc pm an cdv ct), osl⟩)
    (c : PySem.W.codeIn K cdv x = true) (k : PySem.W.keepIn K (.ref f) = true)
    (b : ∀ (kV doc pm : Value) (an : Option Addr) (cdv ct : Value) (us : List Value), us.length = ps.length → bindArgs (PySem.W.fnOf x x (defArgs st) (defBody st) (defScope st) .none kV doc pm an cdv ct) ⟨us, []⟩ = pure (ps.zip us)) :
    Dn K mg x st ps f (PySem.W.fnOf x x (defArgs st) (defBody st) (defScope st) .none kV doc pm an cdv ct) :=
  have F := fun_mk (x := x) (qual := x) (st := st) l c k
  ⟨F, PySem.W.mg_of X G a, F.binds b⟩
def spLaw (K : PySem.W.Frag) : Sp := fun vs H Q _ => ∃ (a : Addr) (ns : List Int), vs = [.ref a] ∧ SqL K H a (ns.map V.int) ∧ ns.length ≤ 63 ∧ ∀ H', Q (.bl true) H'
theorem walk {l : PySem.W.OpenLaw} {q : Program} {loose : List Str} {XP : (Str → Option Value) → Heap → Prop} {YP : World → Heap → Prop} {d : DefRec} {K : Params → PySem.W.Frag} {k : Nat} (hn : l.most = some 63) (hdf : d.params.defaults = []) (hr : Room k callerA)
    (hY : ∀ (w : World) (h : Heap), YP w h → (K w.params).In h)
    (F : ∀ (w : World) (mg : Str → Option Value) (fa : Addr) (h : Heap), (K w.params).In h → h.Ns mainGlobals mg → mg d.name = some (.ref fa) →
      ∃ fd : FuncData, (∀ (s : Shared) (u : Value), BindsTo s fd ⟨[u], []⟩ [("script", u)]) ∧ ∀ base : Heap, (K w.params).In base → base.Ns mainGlobals mg → FnOk l.prog w (K w.params) mg base CX0 k fa fd ["script"] (spLaw (K w.params))) :
    PySem.W.WalkO q loose XP YP l.row.toRowW d [] (fun f vs => PySem.call f vs) :=
  L2.walk_of (n := 63) (k := k) (x := "script") (CX := fun _ => CX0) (sp := fun w => spLaw (K w.params)) hn (by decide) hdf hr hY F (fun _ _ a ns hl _ hS => ⟨a, ns, rfl, hS, hl, fun _ => rfl⟩) fun _ _ _ _ _ z => z
def tOwn (sp : Sp) (t : TA) : TE := fun σ H Q => t σ H fun vs H1 => sp vs H1 Q E0
section
variable {X : Cx} {j k : Nat} {ps : List Str} {sp : Sp} {x : Str} {p pos : Pos} {e : Expr} {es : List Expr} {t : TA}
theorem pe_own (C : Cal X.prog X.w X.K X.mg X.base CX0 x j ps sp) (hr : Room k X.A) (hj : j ≤ k) (hg : Gl X x) (ha : PA X (e :: es) t) (hdb : (x == ("__debug__" : Str)) = false := by decide)
    (he : starEach (e :: es) X.env = (false, eval e X.env) :: starEach es X.env := by rfl) (hpl : (backTo pos (starEach es X.env)).any (·.1) = false := by rfl) :
    PE X (.Call (.Name x p) (e :: es) [] pos) (tOwn sp t) := by
  obtain ⟨f, fd, F, m, kp, b⟩ := C.ex
  have q := pe_call (pos := pos) (p := p) F (hr.mono hj) hg m kp b .nil pass0 ha hdb he hpl
  have e0 : tCall sp [] E0 t = tOwn sp t := by
    funext σ H Q
    unfold tCall tOwn
    simp only [List.append_nil]
  rw [e0] at q
  exact q
theorem pe_own0 (C : Cal X.prog X.w X.K X.mg X.base CX0 x j ps sp) (hr : Room k X.A) (hj : j ≤ k) (hg : Gl X x) (hdb : (x == ("__debug__" : Str)) = false := by decide) :
    PE X (.Call (.Name x p) [] [] pos) (tOwn sp tNil) := by
  obtain ⟨f, fd, F, m, kp, b⟩ := C.ex
  have q := pe_call0 (pos := pos) (p := p) F (hr.mono hj) hg m kp b .nil pass0 hdb
  exact q
end
/-- the names of the language that the text uses -/
structure Bl (mg : Str → Option Value) : Prop where
  len : mg "len" = none
  int : mg "int" = none
  abs : mg "abs" = none
  list : mg "list" = none
  tuple : mg "tuple" = none
  range : mg "range" = none
  max : mg "max" = none
  min : mg "min" = none
  isinstance : mg "isinstance" = none
  str : mg "str" = none
  bool : mg "bool" = none
  zip : mg "zip" = none
  enumerate : mg "enumerate" = none
  reversed : mg "reversed" = none
  sorted : mg "sorted" = none
  set : mg "set" = none
  dict : mg "dict" = none
  sum : mg "sum" = none
  any : mg "any" = none
  all : mg "all" = none
theorem bt_len : bootBuiltins "len" = some (.builtin "len") := by decide +kernel
theorem bt_abs : bootBuiltins "abs" = some (.builtin "abs") := by decide +kernel
theorem bt_max : bootBuiltins "max" = some (.builtin "max") := by decide +kernel
theorem bt_min : bootBuiltins "min" = some (.builtin "min") := by decide +kernel
theorem bt_isinstance : bootBuiltins "isinstance" = some (.builtin "isinstance") := by decide +kernel
theorem bt_sorted : bootBuiltins "sorted" = some (.builtin "sorted") := by decide +kernel
theorem bt_sum : bootBuiltins "sum" = some (.builtin "sum") := by decide +kernel
theorem bt_any : bootBuiltins "any" = some (.builtin "any") := by decide +kernel
theorem bt_all : bootBuiltins "all" = some (.builtin "all") := by decide +kernel
theorem bt_ord : bootBuiltins "ord" = some (.builtin "ord") := by decide +kernel
theorem bt_chr : bootBuiltins "chr" = some (.builtin "chr") := by decide +kernel
theorem bt_int : bootBuiltins "int" = some (.type "int") := by decide +kernel
theorem bt_list : bootBuiltins "list" = some (.type "list") := by decide +kernel
theorem bt_tuple : bootBuiltins "tuple" = some (.type "tuple") := by decide +kernel
theorem bt_range : bootBuiltins "range" = some (.type "range") := by decide +kernel
theorem bt_str : bootBuiltins "str" = some (.type "str") := by decide +kernel
theorem bt_bool : bootBuiltins "bool" = some (.type "bool") := by decide +kernel
theorem bt_zip : bootBuiltins "zip" = some (.type "zip") := by decide +kernel
theorem bt_enumerate : bootBuiltins "enumerate" = some (.type "enumerate") := by decide +kernel
theorem bt_reversed : bootBuiltins "reversed" = some (.type "reversed") := by decide +kernel
theorem bt_set : bootBuiltins "set" = some (.type "set") := by decide +kernel
theorem bt_dict : bootBuiltins "dict" = some (.type "dict") := by decide +kernel
/-! ### new things -/
theorem newO {H : Hp} {o : HO} {Q : VK} (k : ∀ p H1, H p = none → Ex H H1 → H1 p = some o → Q (.ref p) H1) : ∀ p, H p = none → Q (.ref p) (upd H p o) := fun p n => k p _ n (Ex.new n) upd_same
/-! ### going on behind a known value -/
section
variable {σ : L2.St} {H : Hp} {te : TE} {tt : TT}
theorem goV {v : V} {Q : VK} (h : Ev te σ H v) (k : ∀ H1, Ex H H1 → Q v H1) : te σ H Q := h H (Ex.refl H) Q k
theorem goL {xs : List V} {Q : VK} (h : EvL te σ H xs) (k : ∀ p H1, H p = none → Ex H H1 → H1 p = some (.lst xs) → Q (.ref p) H1) : te σ H Q := h H (Ex.refl H) Q k
theorem goU {xs : List V} {Q : VK} (h : EvU te σ H xs) (k : ∀ p H1, H p = none → Ex H H1 → H1 p = some (.tup xs) → Q (.ref p) H1) : te σ H Q := h H (Ex.refl H) Q k
theorem goT {b : Bool} {Q : Bool → Hp → Prop} (h : EvT tt σ H b) (k : ∀ H1, Ex H H1 → Q b H1) : tt σ H Q := h H (Ex.refl H) Q k
end
theorem goCB {σ : L2.St} {H : Hp} {ta : TE} {r : List V → Hp → VK → Prop} {xs : List V} {Q : VK} (h : EvL ta σ H xs) (k : ∀ p H1, H p = none → Ex H H1 → H1 p = some (.lst xs) → r [.ref p] H1 Q) : tCB r (tCons ta tNil) σ H Q := h H (Ex.refl H) _ k
theorem nodup_len {α : Type} [DecidableEq α] : ∀ (ms ns : List α), ms.Nodup → (∀ x ∈ ms, x ∈ ns) → ms.length ≤ ns.length
  | [], _, _, _ => Nat.zero_le _
  | x :: ms, ns, nd, hs => by
    obtain ⟨h1, h2⟩ := List.nodup_cons.mp nd
    have hx : x ∈ ns := hs x List.mem_cons_self
    have ih := nodup_len ms (ns.erase x) h2 fun y hy => (List.mem_erase_of_ne (fun e : y = x => h1 (by rw [← e]; exact hy))).mpr (hs y (List.mem_cons_of_mem _ hy))
    rw [List.length_erase_of_mem hx] at ih
    have := List.length_pos_of_mem hx
    rw [List.length_cons]
    omega
/-! ### comprehensions of known items -/
section
variable {K : PySem.W.Frag} {σ : L2.St} {H : Hp} {te tl : TE} {t : TT} {ta : TA} {j : Nat} {vs : List Nat}
theorem given_map {α : Type} [Inhabited α] (ys : List α) (p : α → Bool) (g : α → V) : given ys.length (fun i => p (ys.getD i default)) (fun i => g (ys.getD i default)) = (ys.filter p).map g := by
  unfold given
  have h1 : (ys.filter p).map g = ((List.range ys.length).map (fun i => ys.getD i default) |>.filter p).map g := by
    congr 2
    apply List.ext_getElem (by simp)
    intro i a b
    simp at a b ⊢
    rw [List.getElem?_eq_getElem a]
    rfl
  rw [h1, List.filter_map, List.map_map]
  rfl
/-- [e for x in l if t], the items of l being c of the ys -/
theorem el_fC {α : Type} [Inhabited α] {a : Addr} (c : α → V) (ys : List α) (p : α → Bool) (g : α → V) (h : Ev tl σ H (.ref a)) (hx : SqL K H a (ys.map c)) (hz : ys.length ≤ 40000)
    (ht : ∀ x ∈ ys, ∀ H1, Ex H H1 → EvT t ((wipe σ vs).set j (some (c x))) H1 (p x)) (he : ∀ x ∈ ys, p x = true → ∀ H1, Ex H H1 → Ev te ((wipe σ vs).set j (some (c x))) H1 (g x)) (hw : ∀ x, wipe ((wipe σ vs).set j (some x)) vs = wipe σ vs := by intro _; rfl) :
    EvL (tLc (iList K tl) (gName j) t te vs) σ H ((ys.filter p).map g) := by
  rw [← given_map]
  have gd : ∀ (i : Nat) (v : V), (ys.map c)[i]? = some v → ∃ x ∈ ys, ys.getD i default = x ∧ v = c x := fun i v e => by
    rw [List.getElem?_map] at e
    cases q : ys[i]? with
    | none => rw [q] at e; cases e
    | some x =>
      rw [q] at e
      exact ⟨x, List.mem_of_getElem? q, by rw [List.getD_eq_getElem?_getD, q]; rfl, (Option.some.inj e).symm⟩
  have q := el_lcL (K := K) (te := te) (t := t) (fun i => p (ys.getD i default)) (fun i => g (ys.getD i default)) h hx (by rw [List.length_map]; exact hz) hw (fun i v H1 e hi => by
    obtain ⟨x, hm, e1, rfl⟩ := gd i v hi
    rw [e1]
    exact ht x hm H1 e) (fun i v H1 e hi hp => by
    obtain ⟨x, hm, e1, rfl⟩ := gd i v hi
    rw [e1] at hp ⊢
    exact he x hm hp H1 e)
  rw [List.length_map] at q
  exact q
theorem el_fN {α : Type} [Inhabited α] (c : α → V) (ys : List α) (p : α → Bool) (g : α → V) (h : EvL tl σ H (ys.map c)) (hz : ys.length ≤ 40000)
    (ht : ∀ x ∈ ys, ∀ H1, Ex H H1 → EvT t ((wipe σ vs).set j (some (c x))) H1 (p x)) (he : ∀ x ∈ ys, p x = true → ∀ H1, Ex H H1 → Ev te ((wipe σ vs).set j (some (c x))) H1 (g x)) (hw : ∀ x, wipe ((wipe σ vs).set j (some x)) vs = wipe σ vs := by intro _; rfl) :
    EvL (tLc (iList K tl) (gName j) t te vs) σ H ((ys.filter p).map g) := by
  rw [← given_map]
  have gd : ∀ (i : Nat) (v : V), (ys.map c)[i]? = some v → ∃ x ∈ ys, ys.getD i default = x ∧ v = c x := fun i v e => by
    rw [List.getElem?_map] at e
    cases q : ys[i]? with
    | none => rw [q] at e; cases e
    | some x =>
      rw [q] at e
      exact ⟨x, List.mem_of_getElem? q, by rw [List.getD_eq_getElem?_getD, q]; rfl, (Option.some.inj e).symm⟩
  have q := el_lcNL (K := K) (te := te) (t := t) (fun i => p (ys.getD i default)) (fun i => g (ys.getD i default)) h (by rw [List.length_map]; exact hz) hw (fun i v H1 e hi => by
    obtain ⟨x, hm, e1, rfl⟩ := gd i v hi
    rw [e1]
    exact ht x hm H1 e) (fun i v H1 e hi hp => by
    obtain ⟨x, hm, e1, rfl⟩ := gd i v hi
    rw [e1] at hp ⊢
    exact he x hm hp H1 e)
  rw [List.length_map] at q
  exact q
theorem et_yes : EvT tYes σ H true := fun H1 _ _ q => q H1 (Ex.refl H1)
theorem el_mC {α : Type} [Inhabited α] {a : Addr} (c : α → V) (ys : List α) (g : α → V) (h : Ev tl σ H (.ref a)) (hx : SqL K H a (ys.map c)) (hz : ys.length ≤ 40000)
    (he : ∀ x ∈ ys, ∀ H1, Ex H H1 → Ev te ((wipe σ vs).set j (some (c x))) H1 (g x)) (hw : ∀ x, wipe ((wipe σ vs).set j (some x)) vs = wipe σ vs := by intro _; rfl) : EvL (tLc (iList K tl) (gName j) tYes te vs) σ H (ys.map g) := by
  have q := el_fC (K := K) (t := tYes) (te := te) c ys (fun _ => true) g h hx hz (fun _ _ _ _ => et_yes) (fun x hx _ H1 e => he x hx H1 e) hw
  rw [List.filter_eq_self.mpr (fun _ _ => rfl)] at q
  exact q
theorem el_mN {α : Type} [Inhabited α] (c : α → V) (ys : List α) (g : α → V) (h : EvL tl σ H (ys.map c)) (hz : ys.length ≤ 40000)
    (he : ∀ x ∈ ys, ∀ H1, Ex H H1 → Ev te ((wipe σ vs).set j (some (c x))) H1 (g x)) (hw : ∀ x, wipe ((wipe σ vs).set j (some x)) vs = wipe σ vs := by intro _; rfl) : EvL (tLc (iList K tl) (gName j) tYes te vs) σ H (ys.map g) := by
  have q := el_fN (K := K) (t := tYes) (te := te) c ys (fun _ => true) g h hz (fun _ _ _ _ => et_yes) (fun x hx _ H1 e => he x hx H1 e) hw
  rw [List.filter_eq_self.mpr (fun _ _ => rfl)] at q
  exact q
instance : Inhabited V := ⟨.non⟩
theorem el_mapN {xs : List V} (g : V → V) (h : EvL tl σ H xs) (hz : xs.length ≤ 40000)
    (he : ∀ x ∈ xs, ∀ H1, Ex H H1 → Ev te ((wipe σ vs).set j (some x)) H1 (g x)) (hw : ∀ x, wipe ((wipe σ vs).set j (some x)) vs = wipe σ vs := by intro _; rfl) : EvL (tLc (iList K tl) (gName j) tYes te vs) σ H (xs.map g) :=
  el_mN (K := K) (te := te) (fun v => v) xs g (by rw [List.map_id']; exact h) hz he hw
theorem el_filterR1 {n : Int} (p : Nat → Bool) (g : Nat → V) (h : EvA ta σ H [.int n]) (hn : 0 ≤ n ∧ n ≤ 40000)
    (ht : ∀ (i : Nat), (i : Int) < n → ∀ H1, Ex H H1 → EvT t ((wipe σ vs).set j (some (.int (i : Int)))) H1 (p i)) (he : ∀ (i : Nat), (i : Int) < n → p i = true → ∀ H1, Ex H H1 → Ev te ((wipe σ vs).set j (some (.int (i : Int)))) H1 (g i)) (hw : ∀ x, wipe ((wipe σ vs).set j (some x)) vs = wipe σ vs := by intro _; rfl) :
    EvL (tLc (iRng1 ta) (gName j) t te vs) σ H (((List.range n.toNat).filter p).map g) :=
  el_lcR1 p g h hn hw (fun i H1 e hi => ht i hi H1 e) (fun i H1 e hi hp => he i hi hp H1 e)
theorem el_mapR1 {n : Int} (g : Nat → V) (h : EvA ta σ H [.int n]) (hn : 0 ≤ n ∧ n ≤ 40000)
    (he : ∀ (i : Nat), (i : Int) < n → ∀ H1, Ex H H1 → Ev te ((wipe σ vs).set j (some (.int (i : Int)))) H1 (g i)) (hw : ∀ x, wipe ((wipe σ vs).set j (some x)) vs = wipe σ vs := by intro _; rfl) :
    EvL (tLc (iRng1 ta) (gName j) tYes te vs) σ H ((List.range n.toNat).map g) := by
  have q := el_filterR1 (t := tYes) (fun _ => true) g h hn (fun _ _ _ _ => et_yes) (fun i hi _ H1 e => he i hi H1 e) hw
  rw [List.filter_eq_self.mpr (fun _ _ => rfl)] at q
  exact q
end
/-! ### built-in calls as values -/
section
variable {K : PySem.W.Frag} {σ : L2.St} {H : Hp} {ta tb : TE}
def rInt1 : List V → Hp → VK → Prop := fun xs H Q => (∃ i, xs = [.int i] ∧ Q (.int i) H) ∨ ∃ k, xs = [.bl k] ∧ Q (.int (if k then 1 else 0)) H
theorem ev_int1 {i : Int} (ha : Ev ta σ H (.int i)) : Ev (tCB rInt1 (tCons ta tNil)) σ H (.int i) := ev_cb (ea_cons ha ea_nil) fun H1 _ Q q => .inl ⟨i, rfl, q H1 (Ex.refl H1)⟩
end
theorem newH {H : Hp} {p : Addr} (n : H p = none) (o : HO) : ∃ H1, upd H p o = H1 ∧ Ex H H1 ∧ H1 p = some o := ⟨_, rfl, Ex.new n, upd_same⟩
theorem getD_at {α : Type} {xs : List α} {i : Nat} (h : i < xs.length) (d : α) : xs[i]? = some (xs.getD i d) := by rw [List.getD_eq_getElem?_getD, List.getElem?_eq_getElem h]; rfl
theorem iv_at {ns : List Int} {i : Nat} (h : i < ns.length) : (ns.map V.int)[i]? = some (.int (ns.getD i 0)) := by rw [List.getElem?_map, getD_at h 0]; rfl
theorem iv_mem {ns : List Int} {i : Nat} {v : V} (h : (ns.map V.int)[i]? = some v) : i < ns.length ∧ v = .int (ns.getD i 0) := by
  have hi : i < ns.length := by have := (List.getElem?_eq_some_iff.mp h).1; rwa [List.length_map] at this
  rw [iv_at hi] at h
  exact ⟨hi, (Option.some.inj h).symm⟩
theorem take_succ_getD {ns : List Int} {i : Nat} (h : i < ns.length) : ns.take (i + 1) = ns.take i ++ [ns.getD i 0] := by rw [List.take_add_one, getD_at h 0]; rfl
abbrev iv (ns : List Int) : List V := ns.map V.int
def irange (n : Int) : List Int := (List.range n.toNat).map fun i : Nat => (i : Int)
theorem mem_irange {n k : Int} : k ∈ irange n ↔ 0 ≤ k ∧ k < n := by
  unfold irange
  rw [List.mem_map]
  constructor
  · rintro ⟨i, hi, rfl⟩
    have := List.mem_range.mp hi
    omega
  · rintro ⟨h0, h1⟩
    exact ⟨k.toNat, List.mem_range.mpr (by omega), by omega⟩
theorem irange_len (n : Int) : (irange n).length = n.toNat := by unfold irange; rw [List.length_map, List.length_range]
theorem irange_succ (i : Nat) : irange ((i + 1 : Nat) : Int) = irange (i : Int) ++ [(i : Int)] := by
  unfold irange
  have e1 : ((i + 1 : Nat) : Int).toNat = i + 1 := by omega
  have e2 : ((i : Nat) : Int).toNat = i := by omega
  rw [e1, e2, List.range_succ, List.map_append]
  rfl
theorem irange_sorted (n : Int) : (irange n).Pairwise (· < ·) := by
  unfold irange
  rw [List.pairwise_map]
  exact List.pairwise_lt_range.imp fun h => by omega
theorem irange_zero : irange 0 = [] := rfl
theorem rgV_irange (n : Int) : rgV 0 n = iv (irange n) := by
  unfold rgV irange iv
  rw [List.map_map, Int.sub_zero]
  refine List.map_congr_left fun i _ => ?_
  show V.int (0 + (i : Int)) = V.int (i : Int)
  rw [Int.zero_add]
theorem inV_int (k : Int) (ns : List Int) : inV (.int k) (iv ns) = decide (k ∈ ns) := by
  unfold inV iv
  rw [List.any_map, Bool.eq_iff_iff, List.any_eq_true, decide_eq_true_iff]
  constructor
  · rintro ⟨x, hx, e⟩
    have : x = k := by simpa [eqV] using e
    rwa [← this]
  · exact fun h => ⟨k, h, by simp [eqV]⟩
theorem flat_iv (ns : List Int) : (iv ns).all flatV = true := by unfold iv; rw [List.all_map, List.all_eq_true]; intro _ _; rfl
def maxI (ns : List Int) : Int := ns.max?.getD 0
theorem max_is {ns : List Int} {m : Int} (h : m ∈ ns) (h2 : ∀ y ∈ ns, y ≤ m) : maxI ns = m := by
  unfold maxI
  rw [List.max?_eq_some_iff.mpr ⟨h, h2⟩]
  rfl
section
variable {K : PySem.W.Frag} {σ : L2.St} {H : Hp} {ta tb : TE} {tA : TA}
theorem ev_inI {k : Int} {p : Addr} {ns : List Int} (ha : Ev ta σ H (.int k)) (hb : Ev tb σ H (.ref p)) (h : SqL K H p (iv ns)) : Ev (tOp (rIn K false) ta tb) σ H (.bl (decide (k ∈ ns))) := by
  rw [← inV_int]
  exact ev_op ha hb (rv_isL h rfl (flat_iv ns))
theorem ev_niI {k : Int} {p : Addr} {ns : List Int} (ha : Ev ta σ H (.int k)) (hb : Ev tb σ H (.ref p)) (h : SqL K H p (iv ns)) : Ev (tOp (rIn K true) ta tb) σ H (.bl (!decide (k ∈ ns))) := by
  rw [← inV_int]
  exact ev_op ha hb (rv_niL h rfl (flat_iv ns))
theorem el_catNN {xs ys : List V} (ha : EvL ta σ H xs) (hb : EvL tb σ H ys) (hz : xs.length + ys.length ≤ 100000) : EvL (tOp rCat ta tb) σ H (xs ++ ys) := fun H1 e Q q =>
  ha H1 e _ fun p H2 hp e2 h2 => hb H2 (e.trans e2) _ fun b H3 hb3 e3 h3 => ⟨p, b, xs, ys, rfl, rfl, e3 _ _ h2, h3, sz_of hz, fun r hr =>
    q r _ (fresh_back (e2.trans e3) hr) ((e2.trans e3).trans (Ex.new hr)) upd_same⟩
theorem el_catVN {a : Addr} {xs ys : List V} (ha : Ev ta σ H (.ref a)) (h : H a = some (.lst xs)) (hb : EvL tb σ H ys) (hz : xs.length + ys.length ≤ 100000) : EvL (tOp rCat ta tb) σ H (xs ++ ys) := fun H1 e Q q =>
  ha H1 e _ fun H2 e2 => hb H2 (e.trans e2) _ fun b H3 hb3 e3 h3 => ⟨a, b, xs, ys, rfl, rfl, e3 _ _ (e2 _ _ (e _ _ h)), h3, sz_of hz, fun r hr =>
    q r _ (fresh_back (e2.trans e3) hr) ((e2.trans e3).trans (Ex.new hr)) upd_same⟩
theorem el_catNV {b : Addr} {xs ys : List V} (ha : EvL ta σ H xs) (hb : ∀ H1, Ex H H1 → Ev tb σ H1 (.ref b)) (h : H b = some (.lst ys)) (hz : xs.length + ys.length ≤ 100000) : EvL (tOp rCat ta tb) σ H (xs ++ ys) := fun H1 e Q q =>
  ha H1 e _ fun p H2 hp e2 h2 => hb H2 (e.trans e2) H2 (Ex.refl H2) _ fun H3 e3 => ⟨p, b, xs, ys, rfl, rfl, e3 _ _ h2, e3 _ _ (e2 _ _ (e _ _ h)), sz_of hz, fun r hr =>
    q r _ (fresh_back (e2.trans e3) hr) ((e2.trans e3).trans (Ex.new hr)) upd_same⟩
theorem el_catVV {a b : Addr} {xs ys : List V} (ha : Ev ta σ H (.ref a)) (h1 : H a = some (.lst xs)) (hb : Ev tb σ H (.ref b)) (h2 : H b = some (.lst ys)) (hz : xs.length + ys.length ≤ 100000) : EvL (tOp rCat ta tb) σ H (xs ++ ys) := fun H1 e Q q =>
  ha H1 e _ fun H2 e2 => hb H2 (e.trans e2) _ fun H3 e3 => ⟨a, b, xs, ys, rfl, rfl, e3 _ _ (e2 _ _ (e _ _ h1)), e3 _ _ (e2 _ _ (e _ _ h2)), sz_of hz, fun r hr =>
    q r _ (fresh_back (e2.trans e3) hr) ((e2.trans e3).trans (Ex.new hr)) upd_same⟩
theorem el_is' {xs ys : List V} (h : EvL ta σ H xs) (e : xs = ys) : EvL ta σ H ys := e ▸ h
theorem el_listR1 {n : Int} (ha : Ev ta σ H (.int n)) (hn : 0 ≤ n ∧ n ≤ 100000) : EvL (tLstRg (tRg1 ta)) σ H (iv (irange n)) := fun H1 e Q q =>
  ha H1 e _ fun H2 e2 => ⟨n, rfl, RgOk.of_le (by decide) (by omega) (by decide) (by omega), fun r hr => by
    rw [rgV_irange]
    exact q r _ (fresh_back e2 hr) (e2.trans (Ex.new hr)) upd_same⟩
theorem ev_maxN {ns : List Int} (ha : EvL ta σ H (iv ns)) (h0 : 0 < ns.length) : Ev (tCB (rMax K) (tCons ta tNil)) σ H (.int (maxI ns)) := fun H1 e Q q =>
  ha H1 e _ fun p H2 hp e2 h2 => ⟨p, ns, rfl, sq_of h2, h0, fun m hm hle => by
    rw [← max_is hm hle]
    exact q H2 e2⟩
theorem ev_max2' {i j : Int} (ha : Ev ta σ H (.int i)) (hb : Ev tb σ H (.int j)) : Ev (tCB rMax2 (tCons ta (tCons tb tNil))) σ H (.int (max i j)) := by
  have e : max i j = (if j > i then j else i) := by split <;> omega
  rw [e]
  exact ev_max2 ha hb
def rMin2 : List V → Hp → VK → Prop := fun xs H Q => ∃ i j, xs = [.int i, .int j] ∧ Q (.int (if j < i then j else i)) H
theorem ev_min2 {i j : Int} (ha : Ev ta σ H (.int i)) (hb : Ev tb σ H (.int j)) : Ev (tCB rMin2 (tCons ta (tCons tb tNil))) σ H (.int (min i j)) := by
  have e : min i j = (if j < i then j else i) := by split <;> omega
  rw [e]
  exact ev_cb (ea_cons ha (ea_cons hb ea_nil)) fun H1 _ Q q => ⟨i, j, rfl, q H1 (Ex.refl H1)⟩
theorem ev_own {sp : Sp} {vs : List V} {z : V} (h : EvA tA σ H vs) (hs : SpV sp vs H z) : Ev (tOwn sp tA) σ H z := fun H1 e Q q =>
  h H1 e _ fun H2 e2 => hs H2 (e.trans e2) Q (fun H3 e3 => q H3 (e2.trans e3)) E0
theorem el_own {sp : Sp} {vs xs : List V} (h : EvA tA σ H vs) (hs : SpL sp vs H xs) : EvL (tOwn sp tA) σ H xs := fun H1 e Q q =>
  h H1 e _ fun H2 e2 => hs H2 (e.trans e2) Q (fun p H3 hp e3 h3 => q p H3 (fresh_back e2 hp) (e2.trans e3) h3) E0
theorem ev_ixI {p : Addr} {ns : List Int} {i : Int} (ha : Ev ta σ H (.ref p)) (hb : Ev tb σ H (.int i)) (h : SqL K H p (iv ns)) (h0 : 0 ≤ i) (h1 : i < ns.length) : Ev (tOp (rIxL K) ta tb) σ H (.int (ns.getD i.toNat 0)) :=
  ev_op ha hb (rv_ixL h (at_of (j := i.toNat) (by omega) (iv_at (by omega))))
end
theorem len_flatMap_le {α β : Type} {f : α → List β} {n : Nat} (h : ∀ x, (f x).length ≤ n) : ∀ l : List α, (l.flatMap f).length ≤ l.length * n
  | [] => by simp
  | x :: l => by
    have a := len_flatMap_le h l
    have b := h x
    rw [List.flatMap_cons, List.length_append, List.length_cons, Nat.add_mul]
    omega
/-! ### the rules with the written part by its own name -/
def rTupS (K : PySem.W.Frag) : List V → Hp → VK → Prop := fun xs H Q => ∃ p ys, xs = [.ref p] ∧ ((SqL K H p ys ∧ ∀ l, H l = none → Q (.ref l) (upd H l (.tup ys))) ∨ (SqT K H p ys ∧ Q (.ref p) H))
section
variable {X : Cx} {K : PySem.W.Frag}
theorem ix_listK (k : X.K = K)  : IxR X (rIxL K) := by
  subst k
  exact ix_list
theorem ix_tupK (k : X.K = K)  : IxR X (rIxT K) := by
  subst k
  exact ix_tup
theorem ix_seqK (k : X.K = K)  : IxR X (rIx K) := by
  subst k
  exact ix_seq
theorem op_in_seqK (k : X.K = K)  : OpR X (compareOp .In) (rIn K false) := by
  subst k
  exact op_in_seq
theorem op_notIn_seqK (k : X.K = K)  : OpR X (compareOp .NotIn) (rIn K true) := by
  subst k
  exact op_notIn_seq
theorem op_eqDK (k : X.K = K) (hu : X.A.units + 64 < cLine) : OpR X (compareOp .Eq) (rEqD K) := by
  subst k
  exact op_eqD hu
theorem op_neDK (k : X.K = K) (hu : X.A.units + 64 < cLine) : OpR X (compareOp .NotEq) (rNeD K) := by
  subst k
  exact op_neD hu
theorem call_len_seqK (k : X.K = K)  : CallR X (.builtin "len") (rLenS K) := by
  subst k
  exact call_len_seq
theorem call_list_ofK (k : X.K = K)  : CallR X (.type "list") (rListS K) := by
  subst k
  exact call_list_of
theorem call_tuple_ofK (k : X.K = K)  : CallR X (.type "tuple") (rTupS K) := by
  subst k
  exact call_tuple_of
theorem cr_maxK (k : X.K = K) (hc : X.calm = true) : CallR X (.builtin "max") (rMax K) := by
  subst k
  exact cr_max hc
theorem cr_minK (k : X.K = K) (hc : X.calm = true) : CallR X (.builtin "min") (rMin K) := by
  subst k
  exact cr_min hc
theorem cr_sumK (k : X.K = K) (hc : X.calm = true) : CallR X (.builtin "sum") (rSum K) := by
  subst k
  exact cr_sum hc
theorem cr_anyK (k : X.K = K) (hc : X.calm = true) : CallR X (.builtin "any") (rAny K) := by
  subst k
  exact cr_any hc
theorem cr_allK (k : X.K = K) (hc : X.calm = true) : CallR X (.builtin "all") (rAll K) := by
  subst k
  exact cr_all hc
theorem sl_listK (k : X.K = K)  : SlR X (rSlL K) := by
  subst k
  exact sl_list
theorem sl_tupK (k : X.K = K)  : SlR X (rSlT K) := by
  subst k
  exact sl_tup
theorem mt_indexK (k : X.K = K)  : MtR X "list.index" (rIndex K) := by
  subst k
  exact mt_index
theorem cr_sortedK (k : X.K = K)  : CallR X (.builtin "sorted") (rSorted K) := by
  subst k
  exact cr_sorted
theorem op_catTK (k : X.K = K)  : OpR X (binaryOp .Add) (rCatT K) := by
  subst k
  exact op_catT
theorem op_ltTK (k : X.K = K) (hu : X.A.units < cLine) : OpR X (compareOp .Lt) (rLtT K) := by
  subst k
  exact op_ltT hu
theorem call_isiK (k : X.K = K)  : CallR X (.builtin "isinstance") (rIsi K) := by
  subst k
  exact call_isi
theorem pi_listK {tg l : Expr} {tl : TE} (k : X.K = K) (hl : PE X l tl) : PI X tg l (iList K tl) := by
  subst k
  exact pi_list hl
theorem pi_tupK {tg l : Expr} {tl : TE} (k : X.K = K) (hl : PE X l tl) : PI X tg l (iTup K tl) := by
  subst k
  exact pi_tup hl
end
def lastI (ns : List Int) : Int := ns.getLastD 0
theorem iv_last {ns : List Int} (h : 0 < ns.length) : atI (iv ns) (-1) = some (.int (lastI ns)) := by
  rcases List.eq_nil_or_concat ns with rfl | ⟨l, v, rfl⟩
  · cases h
  · have e : iv (l.concat v) = iv l ++ [V.int v] := by unfold iv; rw [List.concat_eq_append, List.map_append]; rfl
    rw [e, atI_last]
    unfold lastI
    simp
/-- lists of whole numbers at addresses -/
def LLs (K : PySem.W.Frag) (H : Hp) (as : List Addr) (wss : List (List Int)) : Prop := as.length = wss.length ∧ ∀ i, i < wss.length → SqL K H (as.getD i 0) (iv (wss.getD i []))
theorem LLs.ex {K : PySem.W.Frag} {H H' : Hp} {as : List Addr} {wss : List (List Int)} (h : LLs K H as wss) (e : Ex H H') : LLs K H' as wss := ⟨h.1, fun i hi => ex_l e (h.2 i hi)⟩
theorem getD_last (ns : List Int) : ns.getD (ns.length - 1) 0 = lastI ns := by
  rcases List.eq_nil_or_concat ns with rfl | ⟨l, v, rfl⟩
  · rfl
  · unfold lastI
    simp [List.getD_eq_getElem?_getD]
theorem ref_at {as : List Addr} {i : Nat} (h : i < as.length) : (as.map V.ref)[i]? = some (.ref (as.getD i 0)) := by rw [List.getElem?_map, getD_at h 0]; rfl
theorem ref_mem {as : List Addr} {i : Nat} {v : V} (h : (as.map V.ref)[i]? = some v) : i < as.length ∧ v = .ref (as.getD i 0) := by
  have hi : i < as.length := by have := (List.getElem?_eq_some_iff.mp h).1; rwa [List.length_map] at this
  rw [ref_at hi] at h
  exact ⟨hi, (Option.some.inj h).symm⟩
theorem take_succ_D {α : Type} {ns : List α} {i : Nat} (h : i < ns.length) (d : α) : ns.take (i + 1) = ns.take i ++ [ns.getD i d] := by rw [List.take_add_one, getD_at h d]; rfl
theorem putK_len {κ : Type} [DecidableEq κ] (kvs : List (κ × V)) (k : κ) (v : V) : (putK kvs k v).length ≤ kvs.length + 1 := by
  unfold putK
  split
  · rw [List.length_map]; omega
  · rw [List.length_append]; exact Nat.le_refl _
theorem et_din {K : PySem.W.Frag} {σ : L2.St} {H : Hp} {ty td : TE} {k : Int} {d : Addr} {kvs : List (Key × V)} (h1 : Ev ty σ H (.int k)) (h2 : Ev td σ H (.ref d)) (h : H d = some (.dK kvs)) : EvT (tB (tDIn ty td)) σ H (valV kvs (.inl k : Key)).isSome := fun H1 e Q q =>
  h1 H1 e _ fun H2 e2 => h2 H2 (e.trans e2) _ fun H3 e3 => ⟨d, _, rfl, DGet.k (k := Sum.inl k) (e3 _ _ (e2 _ _ (e _ _ h))), _, rfl, q H3 (e2.trans e3)⟩
/-! ### new lists of whole numbers, each at its own place -/
structure Nw (H0 : Hp) (rs : List (Addr × List Int)) (H : Hp) : Prop where
  ex : Ex H0 H
  at_ : ∀ p ∈ rs, H p.1 = some (.lst (iv p.2))
  nd : (rs.map (·.1)).Nodup
  nw : ∀ p ∈ rs, H0 p.1 = none
theorem Nw.nil {H : Hp} : Nw H [] H := ⟨Ex.refl H, fun _ h => (nomatch h), List.nodup_nil, fun _ h => (nomatch h)⟩
theorem Nw.go {H0 H H1 : Hp} {rs : List (Addr × List Int)} (n : Nw H0 rs H) (e : Ex H H1) : Nw H0 rs H1 := ⟨n.ex.trans e, fun p hp => e _ _ (n.at_ p hp), n.nd, n.nw⟩
theorem Nw.add {H0 H H1 : Hp} {rs : List (Addr × List Int)} {r : Addr} {xs : List Int} (n : Nw H0 rs H) (hr : H r = none) (e : Ex H H1) (h : H1 r = some (.lst (iv xs))) : Nw H0 (rs ++ [(r, xs)]) H1 := by
  refine ⟨n.ex.trans e, fun p hp => ?_, ?_, fun p hp => ?_⟩
  · rcases List.mem_append.mp hp with hp | hp
    · exact e _ _ (n.at_ p hp)
    · rw [List.mem_singleton.mp hp]; exact h
  · rw [List.map_append]
    refine nd_snoc n.nd fun hm => ?_
    obtain ⟨p, hp, e1⟩ := List.mem_map.mp hm
    have := n.at_ p hp
    rw [e1, hr] at this
    cases this
  · rcases List.mem_append.mp hp with hp | hp
    · exact n.nw p hp
    · rw [List.mem_singleton.mp hp]; exact fresh_back n.ex hr
theorem Nw.mut {H0 H : Hp} {rs : List (Addr × List Int)} {l : Addr} {o : HO} (n : Nw H0 rs H) (hl : H0 l = none) (hn : ∀ p ∈ rs, p.1 ≠ l) : Nw H0 rs (upd H l o) :=
  ⟨Ex.mut n.ex hl, fun p hp => by rw [upd_ne (hn p hp)]; exact n.at_ p hp, n.nd, n.nw⟩
theorem Nw.perm {H0 H : Hp} {rs rs' : List (Addr × List Int)} (n : Nw H0 rs H) (h : rs'.Perm rs) : Nw H0 rs' H :=
  ⟨n.ex, fun p hp => n.at_ p (h.mem_iff.mp hp), (h.map (·.1)).nodup_iff.mpr n.nd, fun p hp => n.nw p (h.mem_iff.mp hp)⟩
theorem LLs.of {K : PySem.W.Frag} {H : Hp} {ps : List (Addr × List Int)} (h : ∀ p ∈ ps, SqL K H p.1 (iv p.2)) : LLs K H (ps.map (·.1)) (ps.map (·.2)) := by
  refine ⟨by rw [List.length_map, List.length_map], fun i hi => ?_⟩
  rw [List.length_map] at hi
  have e1 : (ps.map (·.1)).getD i 0 = ps[i].1 := by rw [List.getD_eq_getElem?_getD, List.getElem?_map, List.getElem?_eq_getElem hi]; rfl
  have e2 : (ps.map (·.2)).getD i [] = ps[i].2 := by rw [List.getD_eq_getElem?_getD, List.getElem?_map, List.getElem?_eq_getElem hi]; rfl
  rw [e1, e2]
  exact h _ (List.getElem_mem hi)
/-! ### isinstance, is None, == of flat values -/
theorem tyOf_ex {K : PySem.W.Frag} {H H' : Hp} {x : V} {t : Value} (h : TyOf K H x t) (e : Ex H H') : TyOf K H' x t := by
  cases h with
  | non => exact .non
  | bl x => exact .bl x
  | int x => exact .int x
  | str x => exact .str x
  | flt x => exact .flt x
  | lst h => exact .lst (e _ _ h)
  | frz h => exact .frz (e _ _ h)
  | tup h => exact .tup (e _ _ h)
  | dK h => exact .dK (e _ _ h)
  | dT h => exact .dT (e _ _ h)
  | ins h a b c d f => exact .ins (e _ _ h) a b c d f
section
variable {K : PySem.W.Frag} {σ : L2.St} {H : Hp} {ta tb : TE} {x : V}
theorem ev_isi {A B : String} {r : Bool} (ha : Ev ta σ H x) (ht : TyOf K H x (.type A)) (hb : kitB A B = some r) : Ev (tCB (rIsi K) (tCons ta (tCons (tC (.ty B)) tNil))) σ H (.bl r) :=
  ev_cb (ea_cons ha (ea_cons ev_c ea_nil)) fun H1 e Q q => ⟨x, .ty B, .type A, .type B, r, rfl, .ty B, .base (tyOf_ex ht e), kit_ty hb, q H1 (Ex.refl H1)⟩
def rIsNon : R2 := fun x y H Q => y = .non ∧ Q (.bl (decide (x = .non))) H
theorem rv_isN : RV rIsNon x .non H (.bl (decide (x = .non))) := fun H1 _ Q q => ⟨rfl, q H1 (Ex.refl H1)⟩
def rNotNon : R2 := fun x y H Q => y = .non ∧ Q (.bl (!decide (x = .non))) H
theorem rv_notN : RV rNotNon x .non H (.bl (!decide (x = .non))) := fun H1 _ Q q => ⟨rfl, q H1 (Ex.refl H1)⟩
end
theorem kb_list_list : kitB "list" "list" = some true := by decide +kernel
theorem kb_list_tuple : kitB "list" "tuple" = some false := by decide +kernel
theorem kb_list_int : kitB "list" "int" = some false := by decide +kernel
theorem kb_list_str : kitB "list" "str" = some false := by decide +kernel
theorem kb_list_bool : kitB "list" "bool" = some false := by decide +kernel
theorem kb_list_dict : kitB "list" "dict" = some false := by decide +kernel
theorem kb_tuple_list : kitB "tuple" "list" = some false := by decide +kernel
theorem kb_tuple_tuple : kitB "tuple" "tuple" = some true := by decide +kernel
theorem kb_tuple_int : kitB "tuple" "int" = some false := by decide +kernel
theorem kb_tuple_str : kitB "tuple" "str" = some false := by decide +kernel
theorem kb_tuple_bool : kitB "tuple" "bool" = some false := by decide +kernel
theorem kb_tuple_dict : kitB "tuple" "dict" = some false := by decide +kernel
theorem kb_int_list : kitB "int" "list" = some false := by decide +kernel
theorem kb_int_tuple : kitB "int" "tuple" = some false := by decide +kernel
theorem kb_int_int : kitB "int" "int" = some true := by decide +kernel
theorem kb_int_str : kitB "int" "str" = some false := by decide +kernel
theorem kb_int_bool : kitB "int" "bool" = some false := by decide +kernel
theorem kb_int_dict : kitB "int" "dict" = some false := by decide +kernel
theorem kb_str_list : kitB "str" "list" = some false := by decide +kernel
theorem kb_str_tuple : kitB "str" "tuple" = some false := by decide +kernel
theorem kb_str_int : kitB "str" "int" = some false := by decide +kernel
theorem kb_str_str : kitB "str" "str" = some true := by decide +kernel
theorem kb_str_bool : kitB "str" "bool" = some false := by decide +kernel
theorem kb_str_dict : kitB "str" "dict" = some false := by decide +kernel
theorem kb_bool_list : kitB "bool" "list" = some false := by decide +kernel
theorem kb_bool_tuple : kitB "bool" "tuple" = some false := by decide +kernel
theorem kb_bool_int : kitB "bool" "int" = some true := by decide +kernel
theorem kb_bool_str : kitB "bool" "str" = some false := by decide +kernel
theorem kb_bool_bool : kitB "bool" "bool" = some true := by decide +kernel
theorem kb_bool_dict : kitB "bool" "dict" = some false := by decide +kernel
theorem kb_NoneType_list : kitB "NoneType" "list" = some false := by decide +kernel
theorem kb_NoneType_tuple : kitB "NoneType" "tuple" = some false := by decide +kernel
theorem kb_NoneType_int : kitB "NoneType" "int" = some false := by decide +kernel
theorem kb_NoneType_str : kitB "NoneType" "str" = some false := by decide +kernel
theorem kb_NoneType_bool : kitB "NoneType" "bool" = some false := by decide +kernel
theorem kb_NoneType_dict : kitB "NoneType" "dict" = some false := by decide +kernel
theorem kb_dict_list : kitB "dict" "list" = some false := by decide +kernel
theorem kb_dict_tuple : kitB "dict" "tuple" = some false := by decide +kernel
theorem kb_dict_int : kitB "dict" "int" = some false := by decide +kernel
theorem kb_dict_str : kitB "dict" "str" = some false := by decide +kernel
theorem kb_dict_bool : kitB "dict" "bool" = some false := by decide +kernel
theorem kb_dict_dict : kitB "dict" "dict" = some true := by decide +kernel
theorem pos_mod {n : Int} (h : 0 < n) (i : Int) : (fun (_ j : Int) => 0 < j) i n := h
theorem p_2147483647 : (0 : Int) < 2147483647 := by decide
theorem p_2305843009213693951 : (0 : Int) < 2305843009213693951 := by decide
theorem p_2147483629 : (0 : Int) < 2147483629 := by decide
/-! ### the record of draws -/
def StG (c : Addr) (n : Nat) (kvs : List (Key × V)) : Prop := ∃ at_ left turn salt seed : Int, 0 ≤ at_ ∧ at_ ≤ n ∧
  kvs = [(.inr "cells", .ref c), (.inr "at", .int at_), (.inr "left", .int left), (.inr "turn", .int turn), (.inr "salt", .int salt), (.inr "seed", .int seed)]
def StoreAt (P : Program) (w : World) (H : Hp) (d : Addr) : Prop := ∃ (c : Addr) (ns : List Int), H d = some (StO P w d (StG c ns.length)) ∧ H c = some (.lst (ns.map V.int))
theorem StoreAt.ex {P : Program} {w : World} {H H' : Hp} {d : Addr} (s : StoreAt P w H d) (e : Ex H H') : StoreAt P w H' d := by
  obtain ⟨c, ns, h1, h2⟩ := s
  exact ⟨c, ns, e _ _ h1, e _ _ h2⟩
theorem upd_self {H : Hp} {d : Addr} {o : HO} (h : H d = some o) : upd H d o = H := by
  funext b
  unfold upd
  split
  · rename_i e
    rw [e, h]
  · rfl
section
variable {c : Addr} {n : Nat} {at_ left turn salt seed z : Int} 
abbrev stK (c : Addr) (at_ left turn salt seed : Int) : List (Key × V) := [(.inr "cells", .ref c), (.inr "at", .int at_), (.inr "left", .int left), (.inr "turn", .int turn), (.inr "salt", .int salt), (.inr "seed", .int seed)]
variable {H : Hp} {d : Addr}
theorem sg_cells (h : H d = some (.dK (stK c at_ left turn salt seed))) : DGet H d (.str "cells") (some (.ref c)) := DGet.k (k := Sum.inr "cells") h
theorem sg_at (h : H d = some (.dK (stK c at_ left turn salt seed))) : DGet H d (.str "at") (some (.int at_)) := DGet.k (k := Sum.inr "at") h
theorem sg_left (h : H d = some (.dK (stK c at_ left turn salt seed))) : DGet H d (.str "left") (some (.int left)) := DGet.k (k := Sum.inr "left") h
theorem sg_turn (h : H d = some (.dK (stK c at_ left turn salt seed))) : DGet H d (.str "turn") (some (.int turn)) := DGet.k (k := Sum.inr "turn") h
theorem sg_salt (h : H d = some (.dK (stK c at_ left turn salt seed))) : DGet H d (.str "salt") (some (.int salt)) := DGet.k (k := Sum.inr "salt") h
theorem sg_seed (h : H d = some (.dK (stK c at_ left turn salt seed))) : DGet H d (.str "seed") (some (.int seed)) := DGet.k (k := Sum.inr "seed") h
theorem sp_at (h : H d = some (.dK (stK c at_ left turn salt seed))) : DPut H d (.str "at") (.int z) (upd H d (.dK (stK c z left turn salt seed))) := DPut.k (k := Sum.inr "at") h (by show 6 < sizeLine; decide)
theorem sp_left (h : H d = some (.dK (stK c at_ left turn salt seed))) : DPut H d (.str "left") (.int z) (upd H d (.dK (stK c at_ z turn salt seed))) := DPut.k (k := Sum.inr "left") h (by show 6 < sizeLine; decide)
theorem sp_turn (h : H d = some (.dK (stK c at_ left turn salt seed))) : DPut H d (.str "turn") (.int z) (upd H d (.dK (stK c at_ left z salt seed))) := DPut.k (k := Sum.inr "turn") h (by show 6 < sizeLine; decide)
end
theorem iteD {p A B : Prop} [Decidable p] (h1 : p → A) (h2 : ¬ p → B) : if decide p = true then A else B := by
  by_cases h : p
  · rw [decide_eq_true h, if_pos rfl]; exact h1 h
  · rw [decide_eq_false h, if_neg Bool.false_ne_true]; exact h2 h
theorem iteN {p A B : Prop} [Decidable p] (h1 : ¬ p → A) (h2 : p → B) : if (!decide p) = true then A else B := by
  by_cases h : p
  · rw [decide_eq_true h]; exact iteF (h2 h)
  · rw [decide_eq_false h]; exact iteT (h1 h)
theorem iteB {b : Bool} {A B : Prop} (h1 : b = true → A) (h2 : b = false → B) : if b = true then A else B := by
  cases b with
  | true => exact iteT (h1 rfl)
  | false => exact iteF (h2 rfl)
theorem pInt_1e18 : (0 : Int) ≤ 18 ∧ (18 : Int) ≤ 1000000 ∧ (10 : Int).natAbs < 2 ^ 64 := by decide
theorem int_inj {a b : Int} (h : V.int a = V.int b) : a = b := by injection h
end M
namespace M
open PySem PySem.Spec PyProof.Rows L2 Evl
/-! ### set(list of whole numbers) -/
abbrev nob (w : World) : Obj := { cls := .type "set", dict := none, data := .set #[] 0 (.fresh 0 0 (!w.params.followText "set-order")) }
section
variable {P : Program} {w : World} {A : Around} {E : Value → Shared → Prop} {s : Shared}
set_option maxHeartbeats 6400000 in
theorem set_of_list {l : Addr} {items : Array Value} (ns : List Int) {Q : Value → Shared → Prop} (hh : A.handled = none) (hl : s.heap.IsList l items) (hit : IntsAre items.toList ns) (hb : ns.length + 1 < scanBound)
    (hq : ∀ (h' : Heap) (tk c : Nat), SetR w h' s.heap.objs.size (fun j => decide (j ∈ ns)) c → (∀ b o, s.heap.get? b = some o → h'.get? b = some o) → Q (.ref s.heap.objs.size) { s with heap := h', toks := tk }) :
    wpAny (model P w) A (call (.type "set") [.ref l]) Q E s := by
  have lsz : items.size = ns.length := (Array.length_toList (xs := items)).symm.trans (IntsAre.length hit)
  have ⟨c0, tl0, hmro⟩ := F.called_set.mro
  have hmade := F.called_set.made; have hsub := F.called_set.sub
  have hnt := F.called_set.notType; have hcc := F.called_set.canCreate; have htc := F.typeCall_set_1 (.ref l)
  refine wpAny_call (codeAny_of_tree (show wpAny _ _ (callAny (.type "set") _) _ _ _ from wpAny_pure ⟨Code.quiet_builtin _ (by decide +kernel), codeAny_builtin F.entry_type_call ?_⟩))
  rw [Around.under_plain (weight_type_call_type "set" [.ref l] []) rfl]
  repeat (any_goals (first | assumption | wp_step))
  refine codeAny_mono (code_set_led1 (.ref l) (E := E) (Q₁ := fun ob s1 => ob = .ref s.heap.objs.size ∧ s1 = { s with heap := s.heap.push (nob w) }) ⟨rfl, rfl⟩) fun r s1 hr => ?_
  cases r with
  | error e => exact hr
  | ok fl =>
  cases fl with
  | ret ob =>
    obtain ⟨rfl, rfl⟩ := hr
    have hS : (s.heap.push (nob w)).get? s.heap.objs.size = some (nob w) := Heap.get?_push_size _ rfl
    have hT : Shared.TypeIs { s with heap := s.heap.push (nob w) } (.ref s.heap.objs.size) "set" := ⟨_, hS, rfl⟩
    have hli := F.called_set.init.lookup; have hbi := F.called_set.init.bind (.ref s.heap.objs.size)
    repeat (any_goals (first | assumption | wp_step))
    refine codeAny_mono (codeAny_call_builtin (R := wants (fun r s2 => r = .none ∧ ∃ h' tk c, s2 = { s with heap := h', toks := tk } ∧ SetR w h' s.heap.objs.size (fun j => decide (j ∈ ns)) c ∧ (∀ b o, s.heap.get? b = some o → h'.get? b = some o)) E)
      F.called_set.init.plain F.entry_set_init (check_set_init_1 hT ?_)) fun r2 s2 hr2 => ?_
    · obtain ⟨⟨oc, od, odt, osl⟩, hol, hcl, nl, hdl⟩ := hl
      simp only at hcl hdl
      subst hcl hdl
      have hol1 : (s.heap.push (nob w)).get? l = some ⟨.type "list", od, .seq items nl, osl⟩ := Heap.get?_push_of_some _ hol
      have q1 := F.sub_list_set; have q2 := F.sub_list_frozenset
      have q3 : (Value.type "list" == Value.type "dict") = false := by decide
      have hl1 : (s.heap.push (nob w)).IsList l items := ⟨_, hol1, rfl, nl, rfl⟩
      unfold Builtin.«set.__init__» noKeywords Builtin.Frozenset.updateFrom
      generalize hPI : pyIter = PI
      wp_walk
      subst hPI
      refine wpAny_pyIter_list hl1 (wpAny_bind (wpAny_runValue ?_))
      have hlS : l < s.heap.objs.size := Heap.lt_size hol
      have hz1 : (s.heap.push (nob w)).objs.size = s.heap.objs.size + 1 := Heap.size_push ..
      have hd3 : A.in1.in1.in1.handled = none := by simp [hh]
      have hneI : l ≠ (s.heap.push (nob w)).objs.size := by rw [hz1]; exact Nat.ne_of_lt (Nat.lt_succ_of_lt hlS)
      have hSf : s.heap.objs.size ∉ [(s.heap.push (nob w)).objs.size, l] := fun z => by
        rcases List.mem_cons.mp z with z | z
        · rw [hz1] at z; exact Nat.ne_of_lt (Nat.lt_succ_self _) z
        · exact Nat.ne_of_gt hlS (List.mem_singleton.mp z)
      refine set_update_ints ((Walks.list hd3 _ l hneI items).toS) s.heap.objs.size hSf ns lsz hb (fun i v hv => ?hv) (items.size - 0) 0 _ (by omega) (Nat.zero_le _) ⟨⟨_, Heap.get?_push_size _ rfl, rfl, rfl⟩, hl1.push _⟩ ⟨0, Nat.le_refl 0, setR_new_at (Heap.get?_push_of_some _ hS)⟩ fun s3 c3 hm _ hS3 => ?hR
      case hv =>
        have hi : i < ns.length := by rw [← lsz]; exact (Array.getElem?_eq_some_iff.mp hv).1
        obtain ⟨t, e⟩ := PyProof.Rows.IntsAre.int_at hit i v (by rw [Array.getElem?_toList]; exact hv)
        exact ⟨ns[i], t, List.getElem?_eq_getElem hi, by rw [e, List.getD_eq_getElem?_getD, List.getElem?_eq_getElem hi]; rfl⟩
      case hR =>
        obtain ⟨h3, g3, d3, t3, o3⟩ := s3
        have eg : g3 = s.gens := hm.gens
        have ed : d3 = s.drawn := hm.drawn
        have eo : o3 = s.os := hm.os
        subst eg ed eo
        refine (show wpAny _ _ _ _ _ _ from wpAny_pure (show wpAny _ _ (ret Value.none) _ _ _ from wpAny_pure ⟨rfl, h3, t3, c3, rfl, hS3, fun b o e => ?_⟩))
        have b0 : b < s.heap.objs.size := Heap.lt_size e
        refine hm.heap b o (fun z => ?_) (Heap.get?_push_of_some _ (Heap.get?_push_of_some _ e))
        rcases List.mem_cons.mp z with z | z
        · exact Nat.ne_of_lt b0 z
        · have := List.mem_singleton.mp z
          rw [hz1] at this
          exact Nat.ne_of_lt (Nat.lt_succ_of_lt b0) this
    · cases r2 with
      | error e2 => exact hr2
      | ok f2 =>
      cases f2 with
      | ret r2 =>
        obtain ⟨rfl, h', tk, c', rfl, g1, g2⟩ := hr2
        repeat (any_goals (first | assumption | wp_step))
        exact hq _ _ _ g1 g2
      | _ => exact hr2.elim
  | _ => exact hr.elim
end
def rSetL (K : PySem.W.Frag) (w : World) : List V → Hp → VK → Prop := fun xs H Q => ∃ (a : Addr) (ns : List Int), xs = [.ref a] ∧ SqL K H a (iv ns) ∧ ns.length ≤ 1000 ∧
  ∀ (p : Addr) (ms : List Int), H p = none → ms.Nodup → (∀ k, k ∈ ms ↔ k ∈ ns) → Q (.ref p) (upd H p (SetO w p (fun j => decide (j ∈ ns)) ms.length))
theorem call_set_ints {X : Cx} {K : PySem.W.Frag} {w : World} (kK : X.K = K) (kw : X.w = w) (hc : X.calm = true) : CallR X (.type "set") (rSetL K w) := by
  subst kK kw
  intro pins s σ H xs us Q I r h
  obtain ⟨a, ns, rfl, ha, hz, q⟩ := h
  rw [Vals.ref1 r]
  obtain ⟨its, rv, pl, hz2⟩ := I.list ha
  refine set_of_list ns (I.ok.hd hc) pl.isList (ints_of_vals rv) (by unfold scanBound; omega) fun h' tk c R k => ?_
  have ⟨o, es, ep, t, ho, _, _, _, nd, hm, _, _, hn, _⟩ := R
  have hf : H s.heap.objs.size = none := I.hok.fresh (Nat.le_refl _)
  have e : (es.toList.map keyOf).length = c := by rw [List.length_map, Array.length_toList, hn]
  refine ⟨.ref _, upd H s.heap.objs.size (SetO X.w s.heap.objs.size (fun j => decide (j ∈ ns)) c), I.laid (t' := tk) k (Nat.le_refl _) (setO_new R), rfl, ?_⟩
  rw [← e]
  exact q _ _ hf nd fun j => (hm j).symm.trans decide_eq_true_iff
end M
namespace M
open PySem PySem.Spec PyProof.Rows L2 Evl
def topS (i : Nat) : Stmt := PySem.Challenge.pw_steadyroom_k68_width_forms.main.body.getD i (.Pass ⟨0, 0, 0, 0⟩)
/-! ### the draws -/
section
variable {P : Program} {w : World} {K : PySem.W.Frag} {mg : Str → Option Value} {base : Heap}
abbrev s__law_mix : Stmt := topS 8
abbrev n__law_mix : List Str := ["first", "second", "number"]
theorem sc__law_mix : FnScope n__law_mix ["first", "second"] (defScope s__law_mix) := ⟨rfl, rfl, rfl, by decide +kernel, rfl, by decide +kernel, by decide +kernel⟩
def spMix : Sp := fun vs H Q _ => ∃ a b : Int, vs = [.int a, .int b] ∧ ∀ r : Int, 0 ≤ r → r < 2147483647 → Q (.int r) H
theorem ok_mix {f fd} (D : Dn K mg "_law_mix" s__law_mix ["first", "second"] f fd) (B : Bl mg) : FnOk P w K mg base CX0 1 f fd ["first", "second"] spMix := by
  refine D.fn.ok sc__law_mix (fun vs H Q E h => ?_) (fun cdv A outer s H vs Q E hr h => ?_)
  · obtain ⟨a, b, rfl, _⟩ := h
    rfl
  · obtain ⟨a, b, rfl, q⟩ := h
    refine ⟨_, (pss_cons (ps_set (i := 2) sc__law_mix.nd rfl (.inl rfl) (pe_op op_mod (pe_callTy call_int1 (by rfl) B.int bt_int (pa_cons (pe_op op_add (pe_op op_add (pe_op op_mul (pv 0) pe_int) (pe_op op_mul (pv 1) pe_int)) pe_int) pa_nil)) pe_int))
      (pss_cons (ps_set (i := 2) sc__law_mix.nd rfl (.inl rfl) (pe_op op_mod (pe_callTy call_int1 (by rfl) B.int bt_int (pa_cons (pe_op op_add (pe_op op_add (pe_op op_add (pe_op op_mul (pv 2) (pv 2)) (pe_op op_mul pe_int (pv 2))) (pv 1)) pe_int) pa_nil)) pe_int))
      (pss_one (ps_ret (pe_op op_mod (pe_callTy call_int1 (by rfl) B.int bt_int (pa_cons (pe_op op_add (pe_op op_mul (pe_op op_add (pe_op op_fdiv (pv 2) pe_int) (pe_op op_mul pe_int (pv 2))) pe_int) pe_int) pa_nil)) pe_int))))), ?_⟩
    refine ⟨_, rfl, _, _, rfl, rfl, .inr ⟨by decide, by decide⟩, _, rfl, _, _, rfl, rfl, .inr ⟨by decide, by decide⟩, _, _, rfl, rfl, _, _, rfl, rfl, .inl ⟨_, rfl, ?_⟩⟩
    refine ⟨_, _, rfl, rfl, p_2147483647, ?_⟩
    generalize hx : (a * 1103515245 + b * 69621 + 12345) % 2147483647 = x
    have hx0 : 0 ≤ x := by rw [← hx]; exact Int.emod_nonneg _ (by decide)
    have hx1 : x < 2147483647 := by rw [← hx]; exact Int.emod_lt_of_pos _ (by decide)
    refine ⟨_, rfl, _, rfl, _, _, rfl, rfl, .inl ⟨by omega, by omega⟩, _, rfl, _, _, rfl, rfl, .inl ⟨by decide, by decide⟩, _, _, rfl, rfl, _, rfl, _, _, rfl, rfl, _, _, rfl, rfl, .inl ⟨_, rfl, ?_⟩⟩
    refine ⟨_, _, rfl, rfl, p_2147483629, ?_⟩
    generalize hy : (x * x + 48271 * x + b + 1) % 2147483629 = y
    have hy0 : 0 ≤ y := by rw [← hy]; exact Int.emod_nonneg _ (by decide)
    have hy1 : y < 2147483629 := by rw [← hy]; exact Int.emod_lt_of_pos _ (by decide)
    refine ⟨_, rfl, _, _, rfl, rfl, ⟨by decide, by decide⟩, _, rfl, _, _, rfl, rfl, .inl ⟨by decide, by decide⟩, _, _, rfl, rfl, _, _, rfl, rfl, .inr ⟨by decide, by decide⟩, _, _, rfl, rfl, .inl ⟨_, rfl, ?_⟩⟩
    exact ⟨_, _, rfl, rfl, p_2147483647, q _ (Int.emod_nonneg _ (by decide)) (Int.emod_lt_of_pos _ (by decide))⟩
abbrev s__law_take : Stmt := topS 10
abbrev n__law_take : List Str := ["store", "many", "number", "cell", "low"]
theorem sc__law_take : FnScope n__law_take ["store", "many"] (defScope s__law_take) := ⟨rfl, rfl, rfl, by decide +kernel, rfl, by decide +kernel, by decide +kernel⟩
def spTake0 : Sp := fun vs H Q _ => ∃ (d c : Addr) (ns : List Int) (kvs : List (Key × V)) (many : Int), vs = [.ref d, .int many] ∧ H d = some (.dK kvs) ∧ StG c ns.length kvs ∧ H c = some (.lst (ns.map V.int)) ∧ many < 1073741824 ∧
  ∀ (r : Int) (kvs' : List (Key × V)), 0 ≤ r → (r < many ∨ r = 0) → StG c ns.length kvs' → Q (.int r) (upd H d (.dK kvs'))
theorem ok_take0 {f fd} (D : Dn K mg "_law_take" s__law_take ["store", "many"] f fd) (B : Bl mg) (C__law_mix : Cal P w K mg base CX0 "_law_mix" 1 ["first", "second"] spMix) : FnOk P w K mg base CX0 2 f fd ["store", "many"] spTake0 := by
  refine D.fn.ok sc__law_take (fun vs H Q E h => ?_) (fun cdv A outer s H vs Q E hr h => ?_)
  · obtain ⟨d, c, ns, kvs, many, rfl, _⟩ := h
    rfl
  · obtain ⟨d, c, ns, _, many, rfl, hd, ⟨at_, left, turn, salt, seed, h0, h1, rfl⟩, hc, hm, q⟩ := h
    refine ⟨_, (pss_cons (ps_dput (hu_of hr) (pv 0) pe_str (pe_op op_add (pe_dget (hu_of hr) (pv 0) pe_str (fun _ _ => rfl)) pe_int) rfl)
      (pss_cons (ps_if (pt_cmpR op_lt (pv 1) pe_int (nomark _)) (pss_one (ps_ret pe_int)) pss_nil)
      (pss_cons (ps_set (i := 2) sc__law_take.nd rfl (.inl rfl) (pe_dget (hu_of hr) (pv 0) pe_str (fun _ _ => rfl)))
      (pss_cut (ps_if (PW.pt (pw_and (pt_cmpR op_eq (pv 2) pe_int (nomark _)) (pw_and1 (pt_cmpR op_lt (pe_dget (hu_of hr) (pv 0) pe_str (fun _ _ => rfl)) (pe_callB (call_len_seqK (K := K) rfl) (by rfl) B.len bt_len (pa_cons (pe_dget (hu_of hr) (pv 0) pe_str (fun _ _ => rfl)) pa_nil)) (nomark _))))) (pss_cons (ps_set (i := 3) sc__law_take.nd rfl (.inl rfl) (pe_ix (ix_listK (K := K) rfl) (pe_dget (hu_of hr) (pv 0) pe_str (fun _ _ => rfl)) (pe_dget (hu_of hr) (pv 0) pe_str (fun _ _ => rfl)) (fun _ _ => rfl)))
      (pss_cons (ps_dput (hu_of hr) (pv 0) pe_str (pe_op op_add (pe_dget (hu_of hr) (pv 0) pe_str (fun _ _ => rfl)) pe_int) rfl)
      (pss_cons (ps_if (pt_cmpR op_lt (pe_callB call_abs (by rfl) B.abs bt_abs (pa_cons (pv 3) pa_nil)) (pe_op op_pow pe_int pe_int) (nomark _)) (pss_cons (ps_set (i := 4) sc__law_take.nd rfl (.inl rfl) (pe_own C__law_mix hr (by omega) (by rfl) (pa_cons (pe_op op_add (pv 3) (pe_dget (hu_of hr) (pv 0) pe_str (fun _ _ => rfl))) (pa_cons (pe_dget (hu_of hr) (pv 0) pe_str (fun _ _ => rfl)) pa_nil))))
      (pss_one (ps_ret (pe_op op_mod (pe_callTy call_int1 (by rfl) B.int bt_int (pa_cons (pe_op op_add (pe_op op_mul (pe_own C__law_mix hr (by omega) (by rfl) (pa_cons (pv 4) (pa_cons (pe_op op_add (pe_dget (hu_of hr) (pv 0) pe_str (fun _ _ => rfl)) pe_int) pa_nil))) pe_int) (pv 4)) pa_nil)) (pv 1))))) pss_nil)
      (pss_one (ps_set (i := 2) sc__law_take.nd rfl (.inl rfl) (pe_callB call_abs (by rfl) B.abs bt_abs (pa_cons (pv 3) pa_nil))))))) pss_nil)
      (pss_cons (ps_if (pt_cmpR op_eq (pv 2) pe_int (nomark _)) (pss_cons (ps_set (i := 4) sc__law_take.nd rfl (.inl rfl) (pe_own C__law_mix hr (by omega) (by rfl) (pa_cons (pe_dget (hu_of hr) (pv 0) pe_str (fun _ _ => rfl)) (pa_cons (pe_dget (hu_of hr) (pv 0) pe_str (fun _ _ => rfl)) pa_nil))))
      (pss_one (ps_ret (pe_op op_mod (pe_callTy call_int1 (by rfl) B.int bt_int (pa_cons (pe_op op_add (pe_op op_mul (pe_own C__law_mix hr (by omega) (by rfl) (pa_cons (pv 4) (pa_cons (pe_op op_add (pe_dget (hu_of hr) (pv 0) pe_str (fun _ _ => rfl)) pe_int) pa_nil))) pe_int) (pv 4)) pa_nil)) (pv 1))))) pss_nil)
      (pss_cons (ps_dput (hu_of hr) (pv 0) pe_str (pe_op op_fdiv (pv 2) (pv 1)) rfl)
      (pss_one (ps_ret (pe_op op_mod (pe_callTy call_int1 (by rfl) B.int bt_int (pa_cons (pv 2) pa_nil)) (pv 1)))))))))), ?_⟩
    have ncd : c ≠ d := ne_of hc hd (by intro z; cases z)
    -- store['turn'] = store['turn'] + 1
    refine ⟨_, rfl, _, _, rfl, sg_turn hd, _, _, rfl, rfl, _, rfl, d, _, rfl, sp_turn hd, ?_⟩
    generalize turn + 1 = turn1
    generalize hH1 : upd H d (.dK (stK c at_ left turn1 salt seed)) = H1
    have hd1 : H1 d = some (.dK (stK c at_ left turn1 salt seed)) := by rw [← hH1]; exact upd_same
    have hc1 : H1 c = some (.lst (ns.map V.int)) := by rw [← hH1, upd_ne ncd]; exact hc
    have q1 : ∀ (r : Int) (kvs' : List (Key × V)), 0 ≤ r → (r < many ∨ r = 0) → StG c ns.length kvs' → Q (.int r) (upd H1 d (.dK kvs')) := fun r kvs' a b g => by
      rw [← hH1, upd_upd]; exact q r kvs' a b g
    -- if many < 2: return 0
    refine ⟨_, rfl, _, _, rfl, rfl, _, rfl, iteD (fun hm2 => ?_) (fun hm2 => ?_)⟩
    · have := q 0 (stK c at_ left turn1 salt seed) (by decide) (.inr rfl) ⟨at_, left, turn1, salt, seed, h0, h1, rfl⟩
      rw [hH1] at this
      exact this
    have hm2' : 2 ≤ many := by omega
    -- number = store['left']
    refine ⟨_, rfl, d, _, rfl, sg_left hd1, ?_⟩
    have fin0 : ∀ (z : Int) (H2 : Hp), H2 = H1 ∨ (∃ kvs', StG c ns.length kvs' ∧ H2 = upd H1 d (.dK kvs')) → Q (.int (z % many)) H2 := fun z H2 h => by
      have z0 : 0 ≤ z % many := Int.emod_nonneg _ (by omega)
      have z1 : z % many < many := Int.emod_lt_of_pos _ (by omega)
      rcases h with rfl | ⟨kvs', g, rfl⟩
      · have := q1 _ _ z0 (.inl z1) ⟨at_, left, turn1, salt, seed, h0, h1, rfl⟩
        rw [upd_self hd1] at this
        exact this
      · exact q1 _ _ z0 (.inl z1) g
    -- the first if, and what stands behind it
    refine ⟨fun σ' H2 => ∃ (number at2 turn2 seed2 : Int) (cell : Option V), σ' = [some (.ref d), some (.int many), some (.int number), cell, none] ∧ 0 ≤ at2 ∧ at2 ≤ ns.length ∧ H2 = upd H1 d (.dK (stK c at2 left turn1 salt seed)), ?_, ?_⟩
    · refine ⟨_, rfl, rfl, _, rfl, iteD (fun hz => ?_) (fun hz => ?_)⟩
      · refine ⟨_, rfl, d, _, rfl, sg_at hd1, _, rfl, d, _, rfl, sg_cells hd1, c, _, rfl, .inl (sq_of hc1), _, _, rfl, rfl, _, rfl, iteD (fun hl => ?_) (fun hl => ?_)⟩
        · rw [List.length_map] at hl
          have hat : at_ = ((at_.toNat : Nat) : Int) := by omega
          have hlt : at_.toNat < ns.length := by omega
          have hget : (ns.map V.int)[at_.toNat]? = some (.int ns[at_.toNat]) := by
            rw [List.getElem?_map, List.getElem?_eq_getElem hlt]
            rfl
          generalize ns[at_.toNat] = cell at hget
          -- cell = store['cells'][store['at']]
          refine ⟨_, rfl, d, _, rfl, sg_cells hd1, _, rfl, d, _, rfl, sg_at hd1, c, _, _, _, rfl, rfl, sq_of hc1, at_of hat hget, ?_⟩
          -- store['at'] = store['at'] + 1
          refine ⟨_, rfl, _, _, rfl, sg_at hd1, _, _, rfl, rfl, _, rfl, d, _, rfl, sp_at hd1, ?_⟩
          generalize hH2 : upd H1 d (.dK (stK c (at_ + 1) left turn1 salt seed)) = H2
          have hd2 : H2 d = some (.dK (stK c (at_ + 1) left turn1 salt seed)) := by rw [← hH2]; exact upd_same
          -- if abs(cell) < 10 ** 18
          refine ⟨_, rfl, _, rfl, _, _, rfl, rfl, pInt_1e18, _, _, rfl, rfl, _, rfl, iteD (fun hs => ?_) (fun hs => ?_)⟩
          · -- low = _law_mix(cell + store['salt'], store['turn'])
            refine ⟨_, rfl, _, rfl, d, _, rfl, sg_salt hd2, _, _, rfl, rfl, _, rfl, d, _, rfl, sg_turn hd2, _, _, rfl, fun low l0 l1 => ?_⟩
            refine ⟨_, rfl, _, rfl, d, _, rfl, sg_turn hd2, _, _, rfl, rfl, _, _, rfl, fun lo2 m0 m1 => ?_⟩
            refine ⟨_, _, rfl, rfl, .inr ⟨by decide, by decide⟩, _, rfl, _, _, rfl, rfl, .inl ⟨_, rfl, _, rfl, _, _, rfl, rfl, by show 0 < many; omega, ?_⟩⟩
            exact fin0 _ _ (.inr ⟨_, ⟨at_ + 1, left, turn1, salt, seed, by omega, by omega, rfl⟩, hH2.symm⟩)
          · -- number = abs(cell)
            refine ⟨_, rfl, _, rfl, ?_⟩
            exact ⟨_, at_ + 1, 0, 0, _, rfl, by omega, by omega, hH2.symm⟩
        · exact ⟨_, at_, 0, 0, _, rfl, h0, h1, (upd_self hd1).symm⟩
      · exact ⟨_, at_, 0, 0, _, rfl, h0, h1, (upd_self hd1).symm⟩
    · rintro σ' H2 ⟨number, at2, _, _, cell, rfl, h20, h21, hH2⟩
      have hd2 : H2 d = some (.dK (stK c at2 left turn1 salt seed)) := by rw [hH2]; exact upd_same
      have g2 : StG c ns.length (stK c at2 left turn1 salt seed) := ⟨at2, left, turn1, salt, seed, h20, h21, rfl⟩
      refine ⟨_, rfl, rfl, _, rfl, iteD (fun hz => ?_) (fun hz => ?_)⟩
      · refine ⟨_, rfl, d, _, rfl, sg_seed hd2, _, rfl, d, _, rfl, sg_turn hd2, _, _, rfl, fun low l0 l1 => ?_⟩
        refine ⟨_, rfl, _, rfl, d, _, rfl, sg_seed hd2, _, _, rfl, rfl, _, _, rfl, fun lo2 m0 m1 => ?_⟩
        refine ⟨_, _, rfl, rfl, .inr ⟨by decide, by decide⟩, _, rfl, _, _, rfl, rfl, .inl ⟨_, rfl, _, rfl, _, _, rfl, rfl, by show 0 < many; omega, ?_⟩⟩
        exact fin0 _ _ (.inr ⟨_, g2, hH2⟩)
      · -- store['left'] = number // many
        refine ⟨_, rfl, _, rfl, _, _, rfl, rfl, ⟨by omega, by omega⟩, _, rfl, d, _, rfl, sp_left hd2, ?_⟩
        refine ⟨_, rfl, .inl ⟨_, rfl, _, rfl, _, _, rfl, rfl, by show 0 < many; omega, ?_⟩⟩
        exact fin0 _ _ (.inr ⟨_, ⟨at2, _, turn1, salt, seed, h20, h21, rfl⟩, by rw [hH2, upd_upd]⟩)
def spTake (P : Program) (w : World) : Sp := fun vs H Q _ => ∃ (d : Addr) (many : Int), vs = [.ref d, .int many] ∧ StoreAt P w H d ∧ many < 1073741824 ∧ ∀ r : Int, 0 ≤ r → (r < many ∨ r = 0) → Q (.int r) H
theorem ok_take {f fd} (D : Dn K mg "_law_take" s__law_take ["store", "many"] f fd) (B : Bl mg) (C__law_mix : Cal P w K mg base CX0 "_law_mix" 1 ["first", "second"] spMix) : FnOk P w K mg base CX0 2 f fd ["store", "many"] (spTake P w) :=
  (fn_view (ok_take0 D B C__law_mix)).imp fun vs H Q E h => by
    obtain ⟨d, many, rfl, ⟨c, ns, h1, h2⟩, hm, q⟩ := h
    have ncd : c ≠ d := ne_of h2 h1 (by intro z; unfold StO at z; cases z)
    refine ⟨rfl, d, StG c ns.length, h1, fun kvs g => ?_⟩
    refine ⟨d, c, ns, kvs, many, rfl, upd_same, g, by rw [upd_ne ncd]; exact h2, hm, fun r kvs' a b g' => ⟨kvs', g', upd_same, ?_⟩⟩
    rw [upd_upd, upd_upd, upd_self h1]
    exact q r a b
abbrev s__law_chance : Stmt := topS 11
abbrev n__law_chance : List Str := ["store", "many"]
theorem sc__law_chance : FnScope n__law_chance ["store", "many"] (defScope s__law_chance) := ⟨rfl, rfl, rfl, by decide +kernel, rfl, by decide +kernel, by decide +kernel⟩
def spChance (P : Program) (w : World) : Sp := fun vs H Q _ => ∃ (d : Addr) (many : Int), vs = [.ref d, .int many] ∧ StoreAt P w H d ∧ many < 1073741824 ∧ ∀ b : Bool, Q (.bl b) H
theorem ok_chance {f fd} (D : Dn K mg "_law_chance" s__law_chance ["store", "many"] f fd) (C__law_take : Cal P w K mg base CX0 "_law_take" 2 ["store", "many"] (spTake P w)) : FnOk P w K mg base CX0 3 f fd ["store", "many"] (spChance P w) := by
  refine D.fn.ok sc__law_chance (fun vs H Q E h => ?_) (fun cdv A outer s H vs Q E hr h => ?_)
  · obtain ⟨d, many, rfl, _⟩ := h
    rfl
  · obtain ⟨d, many, rfl, hs, hm, q⟩ := h
    refine ⟨_, (pss_one (ps_ret (pe_cmpR op_eq (pe_own C__law_take hr (by omega) (by rfl) (pa_cons (pv 0) (pa_cons (pv 1) pa_nil))) pe_int (nomark _)))), ?_⟩
    exact ⟨_, rfl, _, rfl, d, many, rfl, hs, hm, fun r h0 h1 => ⟨rfl, q _⟩⟩
abbrev s__law_pick : Stmt := topS 12
abbrev n__law_pick : List Str := ["store", "items"]
theorem sc__law_pick : FnScope n__law_pick ["store", "items"] (defScope s__law_pick) := ⟨rfl, rfl, rfl, by decide +kernel, rfl, by decide +kernel, by decide +kernel⟩
def spPick (P : Program) (w : World) (K : PySem.W.Frag) : Sp := fun vs H Q _ => ∃ (d a : Addr) (xs : List V), vs = [.ref d, .ref a] ∧ StoreAt P w H d ∧ SqL K H a xs ∧ 0 < xs.length ∧ xs.length < 1073741824 ∧ ∀ x ∈ xs, Q x H
theorem ok_pick {f fd} (D : Dn K mg "_law_pick" s__law_pick ["store", "items"] f fd) (B : Bl mg) (C__law_take : Cal P w K mg base CX0 "_law_take" 2 ["store", "many"] (spTake P w)) : FnOk P w K mg base CX0 3 f fd ["store", "items"] (spPick P w K) := by
  refine D.fn.ok sc__law_pick (fun vs H Q E h => ?_) (fun cdv A outer s H vs Q E hr h => ?_)
  · obtain ⟨d, a, xs, rfl, _⟩ := h
    rfl
  · obtain ⟨d, a, xs, rfl, hs, ha, h0, h1, q⟩ := h
    refine ⟨_, (pss_one (ps_ret (pe_ix (ix_listK (K := K) rfl) (pv 1) (pe_own C__law_take hr (by omega) (by rfl) (pa_cons (pv 0) (pa_cons (pe_callB (call_len_seqK (K := K) rfl) (by rfl) B.len bt_len (pa_cons (pv 1) pa_nil)) pa_nil))) (fun _ _ => rfl)))), ?_⟩
    refine ⟨_, rfl, _, rfl, _, rfl, a, xs, rfl, .inl ha, d, _, rfl, hs, by omega, fun r r0 r1 => ?_⟩
    have hr1 : r = ((r.toNat : Nat) : Int) := by omega
    have hr2 : r.toNat < xs.length := by omega
    exact ⟨a, xs, _, _, rfl, rfl, ha, at_of hr1 (List.getElem?_eq_getElem hr2), q _ (List.getElem_mem hr2)⟩
abbrev s__law_range : Stmt := topS 13
abbrev n__law_range : List Str := ["store", "low", "high", "way"]
theorem sc__law_range : FnScope n__law_range ["store", "low", "high"] (defScope s__law_range) := ⟨rfl, rfl, rfl, by decide +kernel, rfl, by decide +kernel, by decide +kernel⟩
def spRange (P : Program) (w : World) : Sp := fun vs H Q _ => ∃ (d : Addr) (low high : Int), vs = [.ref d, .int low, .int high] ∧ StoreAt P w H d ∧ -1000000 ≤ low ∧ low ≤ high ∧ high ≤ 1000000 ∧ ∀ r : Int, low ≤ r → r ≤ high → Q (.int r) H
theorem ok_range {f fd} (D : Dn K mg "_law_range" s__law_range ["store", "low", "high"] f fd) (B : Bl mg) (C__law_take : Cal P w K mg base CX0 "_law_take" 2 ["store", "many"] (spTake P w)) : FnOk P w K mg base CX0 3 f fd ["store", "low", "high"] (spRange P w) := by
  refine D.fn.ok sc__law_range (fun vs H Q E h => ?_) (fun cdv A outer s H vs Q E hr h => ?_)
  · obtain ⟨d, low, high, rfl, _⟩ := h
    rfl
  · obtain ⟨d, low, high, rfl, hs, b0, b1, b2, q⟩ := h
    refine ⟨_, (pss_cons (ps_set (i := 2) sc__law_range.nd rfl (.inl rfl) (pe_callB (call_max2 rfl) (by rfl) B.max bt_max (pa_cons (pv 1) (pa_cons (pv 2) pa_nil))))
      (pss_cons (ps_set (i := 3) sc__law_range.nd rfl (.inl rfl) (pe_own C__law_take hr (by omega) (by rfl) (pa_cons (pv 0) (pa_cons pe_int pa_nil))))
      (pss_cons (ps_if (pt_cmpR op_eq (pv 3) pe_int (nomark _)) (pss_one (ps_ret (pv 1))) pss_nil)
      (pss_cons (ps_if (pt_cmpR op_eq (pv 3) pe_int (nomark _)) (pss_one (ps_ret (pv 2))) pss_nil)
      (pss_cons (ps_if (pt_cmpR op_eq (pv 3) pe_int (nomark _)) (pss_one (ps_ret (pe_op op_add (pv 1) (pe_callB (call_min2 rfl) (by rfl) B.min bt_min (pa_cons pe_int (pa_cons (pe_op op_sub (pv 2) (pv 1)) pa_nil)))))) pss_nil)
      (pss_one (ps_ret (pe_op op_add (pv 1) (pe_own C__law_take hr (by omega) (by rfl) (pa_cons (pv 0) (pa_cons (pe_op op_add (pe_op op_sub (pv 2) (pv 1)) pe_int) pa_nil))))))))))), ?_⟩
    refine ⟨_, rfl, _, rfl, _, _, rfl, ?_⟩
    have e : (if high > low then high else low) = high := by split <;> omega
    rw [e]
    refine ⟨_, rfl, d, _, rfl, hs, by decide, fun way _ _ => ?_⟩
    refine ⟨_, rfl, rfl, _, rfl, iteD (fun _ => ⟨_, rfl, q _ (by omega) (by omega)⟩) (fun _ => ?_)⟩
    refine ⟨_, rfl, rfl, _, rfl, iteD (fun _ => ⟨_, rfl, q _ (by omega) (by omega)⟩) (fun _ => ?_)⟩
    refine ⟨_, rfl, rfl, _, rfl, iteD (fun _ => ?_) (fun _ => ?_)⟩
    · refine ⟨_, rfl, _, rfl, _, rfl, _, _, rfl, rfl, _, _, rfl, _, _, rfl, rfl, q _ ?_ ?_⟩ <;> split <;> omega
    · refine ⟨_, rfl, _, rfl, _, rfl, _, rfl, _, _, rfl, rfl, _, _, rfl, rfl, d, _, rfl, hs, by omega, fun r r0 r1 => ⟨_, _, rfl, rfl, q _ (by omega) (by omega)⟩⟩
abbrev s__law_store : Stmt := topS 9
abbrev n__law_store : List Str := ["script", "salt", "cells", "seed", "cell"]
theorem sc__law_store : FnScope n__law_store ["script", "salt"] (defScope s__law_store) := ⟨rfl, rfl, rfl, by decide +kernel, rfl, by decide +kernel, by decide +kernel⟩
def spStore0 (K : PySem.W.Frag) : Sp := fun vs H Q _ => ∃ (a : Addr) (ns : List Int) (salt : Int), vs = [.ref a, .int salt] ∧ SqL K H a (ns.map V.int) ∧ ns.length ≤ 63 ∧
  ∀ (d c : Addr) (ms : List Int) (kvs : List (Key × V)) (H' : Hp), H d = none → Ex H H' → H' c = some (.lst (ms.map V.int)) → StG c ms.length kvs → H' d = some (.dK kvs) → Q (.ref d) H'
theorem ok_store0 {f fd} (D : Dn K mg "_law_store" s__law_store ["script", "salt"] f fd) (B : Bl mg) (C__law_mix : Cal P w K mg base CX0 "_law_mix" 1 ["first", "second"] spMix) : FnOk P w K mg base CX0 2 f fd ["script", "salt"] (spStore0 K) := by
  refine D.fn.ok sc__law_store (fun vs H Q E h => ?_) (fun cdv A outer s H vs Q E hr h => ?_)
  · obtain ⟨a, ns, salt, rfl, _⟩ := h
    rfl
  · obtain ⟨a, ns, salt, rfl, ha, hl, q⟩ := h
    refine ⟨_, (pss_cons (ps_setLc (i := 2) (own := [("cell", 4)]) (g := gName 4) (tt := tYes) (by rfl) sc__law_store.nd rfl rfl (sw_true rfl rfl rfl (by decide +kernel)) (pi_listK (K := K) rfl (pe_slice (sl_listK (K := K) rfl) (pv 0) po_none (po_some pe_int))) (blkOk_by (own := [("cell", 4)]) (N := n__law_store) (sc := defScope s__law_store) (by decide +kernel)) (fun _ _ _ _ _ => (pg_name (i := 4) sc__law_store.nd rfl (Or.inl rfl))) (fun _ _ _ _ _ => pts_nil) (fun _ _ _ _ _ => (pe_callTy call_int1 (by rfl) B.int bt_int (pa_cons (pv 4) pa_nil))))
      (pss_cons (ps_set (i := 3) sc__law_store.nd rfl (.inl rfl) (pe_op op_add (pe_op op_mul pe_int (pe_callTy call_int1 (by rfl) B.int bt_int (pa_cons (pv 1) pa_nil))) (pe_callB (call_len_seqK (K := K) rfl) (by rfl) B.len bt_len (pa_cons (pv 2) pa_nil))))
      (pss_cut (ps_for PassesOwn.never rfl (pi_listK (K := K) rfl (pv 2)) (pg_name (i := 4) sc__law_store.nd rfl (.inl rfl))
      (pss_one (ps_set (i := 3) sc__law_store.nd rfl (.inl rfl) (pe_own C__law_mix hr (by omega) (by rfl) (pa_cons (pv 3) (pa_cons (pe_op op_mod (pe_callTy call_int1 (by rfl) B.int bt_int (pa_cons (pv 4) pa_nil)) pe_int) pa_nil))))))
      (pss_one (ps_ret (pe_disp (pps_cons pe_str (pv 2) (pps_cons pe_str pe_int (pps_cons pe_str pe_int (pps_cons pe_str pe_int (pps_cons pe_str (pe_op op_mul pe_int (pe_callTy call_int1 (by rfl) B.int bt_int (pa_cons (pv 1) pa_nil))) (pps_cons pe_str (pv 3) pps_nil)))))) (by rfl) (by rfl) (fun z => by cases z) (by decide))))))), ?_⟩
    -- cells = [int(cell) for cell in script[:63]]
    refine goL (el_mapN (K := K) (fun x => x) (el_sl (ev_var rfl) eo_none (eo_some ev_c) ha) (by have := cutV_length (ns.map V.int) none (some 63); rw [List.length_map] at this; omega) (fun x hx H1 e => ?_)) fun c H1 nc e1 hc => ?_
    · have hm : x ∈ ns.map V.int := List.mem_of_mem_drop (List.mem_of_mem_take hx)
      obtain ⟨i, _, rfl⟩ := List.mem_map.mp hm
      exact ev_int1 (ev_var rfl)
    obtain ⟨ms, hms⟩ : ∃ ms : List Int, (cutV (ns.map V.int) none (some 63)).map (fun x => x) = ms.map V.int := by
      refine ⟨(ns.drop (HT.sIx ns.length 0 none)).take (HT.sIx ns.length ns.length (some 63) - HT.sIx ns.length 0 none), ?_⟩
      rw [List.map_id', List.map_take, List.map_drop]
      unfold cutV
      rw [List.length_map]
    rw [hms] at hc
    -- seed = 7919 * int(salt) + len(cells)
    refine ⟨_, rfl, .inl ⟨_, rfl, _, _, rfl, rfl, .inl ⟨by decide, by decide⟩, _, rfl, c, _, rfl, .inl (sq_of hc), _, _, rfl, rfl, ?_⟩⟩
    -- for cell in cells
    refine ⟨fun σ' H2 => ∃ (seed : Int) (x : Option V), σ' = [some (.ref a), some (.int salt), some (.ref c), some (.int seed), x] ∧ H2 = H1, ?_, ?_⟩
    · refine ⟨_, rfl, c, rfl, ⟨_, sq_of hc⟩, for_list (K := K) (a := c) (xs := ms.map V.int) (fun _ σ' H2 => ∃ (seed : Int) (x : Option V), σ' = [some (.ref a), some (.int salt), some (.ref c), some (.int seed), x] ∧ H2 = H1)
        ⟨_, none, rfl, rfl⟩ (fun _ _ _ _ ⟨_, _, _, e⟩ => by rw [e]; exact sq_of hc) ?_ (fun σ' H2 h => h)⟩
      rintro i y σ' H2 hi ⟨seed, x, rfl, rfl⟩
      obtain ⟨z, _, rfl⟩ := List.mem_map.mp (List.mem_of_getElem? hi)
      refine ⟨_, rfl, _, rfl, .inl ⟨_, rfl, _, _, rfl, rfl, p_2305843009213693951, _, _, rfl, fun r _ _ => ?_⟩⟩
      exact ⟨_, _, rfl, rfl⟩
    · rintro σ' H2 ⟨seed, x, rfl, rfl⟩
      intro p np
      refine ⟨_, rfl, _, rfl, .inl ⟨_, rfl, _, _, rfl, rfl, .inl ⟨by decide, by decide⟩, _, rfl, upd_same, stK c 0 0 0 (7919 * salt) seed, rfl, (by show 6 ≤ 15; decide), ?_⟩⟩
      rw [upd_upd]
      have em : mergeK ([] : List (Key × V)) (stK c 0 0 0 (7919 * salt) seed) = stK c 0 0 0 (7919 * salt) seed := rfl
      rw [em]
      have ncp : c ≠ p := ne_of_none hc np
      exact q p c ms _ _ (fresh_back e1 np) (e1.trans (Ex.new np)) (by rw [upd_ne ncp]; exact hc) ⟨0, 0, 0, _, seed, by decide, by omega, rfl⟩ upd_same
def spStore (P : Program) (w : World) (K : PySem.W.Frag) : Sp := fun vs H Q _ => ∃ (a : Addr) (ns : List Int) (salt : Int), vs = [.ref a, .int salt] ∧ SqL K H a (ns.map V.int) ∧ ns.length ≤ 63 ∧
  ∀ (d : Addr) (H' : Hp), H d = none → Ex H H' → StoreAt P w H' d → Q (.ref d) H'
theorem ok_store {f fd} (D : Dn K mg "_law_store" s__law_store ["script", "salt"] f fd) (B : Bl mg) (C__law_mix : Cal P w K mg base CX0 "_law_mix" 1 ["first", "second"] spMix) : FnOk P w K mg base CX0 2 f fd ["script", "salt"] (spStore P w K) :=
  (fn_give (ok_store0 D B C__law_mix)).imp fun vs H Q E h => by
    obtain ⟨a, ns, salt, rfl, ha, hl, q⟩ := h
    refine ⟨a, ns, salt, rfl, ha, hl, fun d c ms kvs H' nd e hc g hd => ⟨d, _, kvs, nd, g, hd, ?_⟩⟩
    have ncd : c ≠ d := ne_of hc hd (by intro z; cases z)
    exact q d _ nd (Ex.mut e nd) ⟨c, ms, upd_same, by rw [upd_ne ncd]; exact hc⟩
end
end M

namespace M
open PySem PySem.Spec PyProof.Rows L2 Evl
section
variable {P : Program} {w : World} {K : PySem.W.Frag} {mg : Str → Option Value} {base : Heap}
/-! ### the walks over the program -/
def segW (width : Int) (ws us : List Int) (at_ : Nat) : List Int :=
  (us.filter fun m => decide (ws.getD at_ 0 + m < (if at_ + 1 < ws.length then ws.getD (at_ + 1) 0 else width + 1))).map (ws.getD at_ 0 + ·)
def rowW (width : Int) (ws us : List Int) : List Int := (List.range ws.length).flatMap (segW width ws us)
abbrev s_row_widths : Stmt := topS 1
abbrev n_row_widths : List Str := ["width", "first", "second", "found", "at", "end", "more"]
theorem sc_row_widths : FnScope n_row_widths ["width", "first", "second"] (defScope s_row_widths) := ⟨rfl, rfl, rfl, by decide +kernel, rfl, by decide +kernel, by decide +kernel⟩
def spRow (K : PySem.W.Frag) : Sp := fun vs H Q _ => ∃ (width : Int) (a b : Addr) (ws us : List Int), vs = [.int width, .ref a, .ref b] ∧ SqL K H a (iv ws) ∧ SqL K H b (iv us) ∧ ws.length ≤ 64 ∧ us.length ≤ 64 ∧ RetL (iv (rowW width ws us)) H Q
theorem ok_row {f fd} (D : Dn K mg "row_widths" s_row_widths ["width", "first", "second"] f fd) (B : Bl mg) : FnOk P w K mg base CX0 1 f fd ["width", "first", "second"] (spRow K) := by
  refine D.fn.ok sc_row_widths (fun vs H Q E h => ?_) (fun cdv A outer s H vs Q E hr h => ?_)
  · obtain ⟨width, a, b, ws, us, rfl, _⟩ := h
    rfl
  · obtain ⟨width, a, b, ws, us, rfl, ha, hb, l1, l2, q⟩ := h
    refine ⟨_, (pss_cons (ps_set (i := 3) sc_row_widths.nd rfl (.inl rfl) (pe_lst pa_nil))
      (pss_cons (ps_for PassesOwn.never rfl (pi_range1 (by rfl) B.range (pa_cons (pe_callB (call_len_seqK (K := K) rfl) (by rfl) B.len bt_len (pa_cons (pv 1) pa_nil)) pa_nil)) (pg_name (i := 4) sc_row_widths.nd rfl (.inl rfl))
      (pss_cons (ps_set (i := 5) sc_row_widths.nd rfl (.inl rfl) (pe_op op_add (pv 0) pe_int))
      (pss_cut (ps_if (pt_cmpR op_lt (pe_op op_add (pv 4) pe_int) (pe_callB (call_len_seqK (K := K) rfl) (by rfl) B.len bt_len (pa_cons (pv 1) pa_nil)) (nomark _)) (pss_one (ps_set (i := 5) sc_row_widths.nd rfl (.inl rfl) (pe_ix (ix_listK (K := K) rfl) (pv 1) (pe_op op_add (pv 4) pe_int) (fun _ _ => rfl)))) pss_nil)
      (pss_one (ps_for PassesOwn.never rfl (pi_listK (K := K) rfl (pv 2)) (pg_name (i := 6) sc_row_widths.nd rfl (.inl rfl))
      (pss_one (ps_if (pt_cmpR op_lt (pe_op op_add (pe_ix (ix_listK (K := K) rfl) (pv 1) (pv 4) (fun _ _ => rfl)) (pv 6)) (pv 5) (nomark _)) (pss_one (ps_expr (pe_bm PySem.F.plainAttrs_list PySem.F.slot_list_append PySem.F.type_list_append mt_append (pv 3) (pa_cons (pe_op op_add (pe_ix (ix_listK (K := K) rfl) (pv 1) (pv 4) (fun _ _ => rfl)) (pv 6)) pa_nil)))) pss_nil)))))))
      (pss_one (ps_ret (pv 3))))), ?_⟩
    refine q_asgL (el_lst ea_nil (by decide)) fun p H1 np e1 hp => ?_
    have en : ((iv ws).length : Int).toNat = ws.length := by rw [List.length_map]; omega
    have hlw : (iv ws).length = ws.length := List.length_map ..
    refine ⟨_, rfl, a, _, rfl, .inl (ex_l e1 ha), _, rfl, by omega, by omega, for_range (lo := 0) (n := ((iv ws).length : Int).toNat)
      (fun i σ' H2 => ∃ x4 x5 x6, σ' = [some (.int width), some (.ref a), some (.ref b), some (.ref p), x4, x5, x6] ∧ Ex H H2 ∧ H2 p = some (.lst (iv ((List.range i).flatMap (segW width ws us))))) ⟨_, _, _, rfl, e1, hp⟩ ?_ ?_⟩
    · rintro i σ' H2 hi ⟨x4, x5, x6, rfl, e2, hp2⟩
      have hi' : i < ws.length := by omega
      -- end = width + 1
      refine ⟨_, rfl, _, _, rfl, rfl, ?_⟩
      -- if at + 1 < len(first): end = first[at + 1]
      refine ⟨fun σ'' H3 => σ'' = [some (.int width), some (.ref a), some (.ref b), some (.ref p), some (.int (0 + (i : Nat))), some (.int (if i + 1 < ws.length then ws.getD (i + 1) 0 else width + 1)), x6] ∧ H3 = H2, ?_, ?_⟩
      · refine ⟨_, rfl, _, _, rfl, rfl, _, rfl, a, _, rfl, .inl (ex_l e2 ha), _, _, rfl, rfl, _, rfl, iteD (fun h => ?_) (fun h => ?_)⟩
        · have h' : i + 1 < ws.length := by omega
          refine ⟨_, rfl, _, rfl, _, _, rfl, rfl, a, _, _, _, rfl, rfl, ex_l e2 ha, at_of (j := i + 1) (by omega) (iv_at h'), ?_⟩
          rw [if_pos h']
          exact ⟨rfl, rfl⟩
        · have h' : ¬ i + 1 < ws.length := by omega
          rw [if_neg h']
          exact ⟨rfl, rfl⟩
      · rintro σ'' H3 ⟨rfl, rfl⟩
        generalize he : (if i + 1 < ws.length then ws.getD (i + 1) 0 else width + 1) = e
        have hseg : segW width ws us i = (us.filter fun m => decide (ws.getD i 0 + m < e)).map (ws.getD i 0 + ·) := by unfold segW; rw [he]
        -- for more in second
        refine ⟨_, rfl, b, rfl, ⟨_, ex_l e2 hb⟩, for_list (K := K) (a := b) (xs := iv us)
          (fun k σ'' H4 => ∃ y6, σ'' = [some (.int width), some (.ref a), some (.ref b), some (.ref p), some (.int (0 + (i : Nat))), some (.int e), y6] ∧ Ex H H4 ∧
            H4 p = some (.lst (iv ((List.range i).flatMap (segW width ws us) ++ ((us.take k).filter fun m => decide (ws.getD i 0 + m < e)).map (ws.getD i 0 + ·)))))
          ⟨_, rfl, e2, by rw [hp2]; simp⟩ (fun k σ'' H4 _ ⟨_, _, e4, _⟩ => ex_l e4 hb) ?_ ?_⟩
        · rintro k y σ'' H4 hk ⟨y6, rfl, e4, hp4⟩
          obtain ⟨hk', rfl⟩ := iv_mem hk
          refine ⟨_, rfl, _, rfl, a, _, _, _, rfl, rfl, ex_l e4 ha, at_of (j := i) (by omega) (iv_at hi'), _, rfl, _, _, rfl, rfl, _, rfl, _, _, rfl, rfl, _, rfl, iteD (fun h => ?_) (fun h => ?_)⟩
          · refine ⟨_, rfl, .inl ⟨rfl, _, sq_of hp4⟩, _, rfl, _, rfl, a, _, _, _, rfl, rfl, ex_l e4 ha, at_of (j := i) (by omega) (iv_at hi'), _, rfl, _, _, rfl, rfl, p, _, _, rfl, rfl, hp4, ?_, ?_⟩
            · rw [List.length_map, List.length_append, List.length_map]
              have h1 := len_flatMap_le (n := us.length) (f := segW width ws us) (fun x => by unfold segW; rw [List.length_map]; exact List.length_filter_le _ _) (List.range i)
              have h2 : ((us.take k).filter fun m => decide (ws.getD i 0 + m < e)).length ≤ us.length := Nat.le_trans (List.length_filter_le _ _) (by rw [List.length_take]; omega)
              rw [List.length_range] at h1
              have h3 : i * us.length ≤ 64 * 64 := Nat.mul_le_mul (by omega) l2
              exact sz_lt (by omega)
            · exact ⟨_, rfl, Ex.mut e4 np, by rw [upd_same, take_succ_getD hk', List.filter_append, List.filter_cons_of_pos (by simpa using h)]; simp⟩
          · exact ⟨_, rfl, e4, by rw [hp4, take_succ_getD hk', List.filter_append, List.filter_cons_of_neg (by simpa using h)]; simp⟩
        · rintro σ'' H4 ⟨y6, rfl, e4, hp4⟩
          refine ⟨_, _, _, rfl, e4, ?_⟩
          rw [hp4, List.length_map, List.take_length, List.range_succ, List.flatMap_append, ← hseg]
          simp
    · rintro σ' H2 ⟨x4, x5, x6, rfl, e2, hp2⟩
      rw [en] at hp2
      exact ⟨_, rfl, q p H2 np e2 hp2⟩
def frameW (width : Int) (ws : List Int) (least : Int) : List Int := (irange (width + 1)).filter fun k => decide (k ≤ least) || decide (k ∈ ws)
abbrev s_frame_widths : Stmt := topS 3
abbrev n_frame_widths : List Str := ["width", "widths", "least", "one"]
theorem sc_frame_widths : FnScope n_frame_widths ["width", "widths", "least"] (defScope s_frame_widths) := ⟨rfl, rfl, rfl, by decide +kernel, rfl, by decide +kernel, by decide +kernel⟩
def spFrame (K : PySem.W.Frag) : Sp := fun vs H Q _ => ∃ (width : Int) (a : Addr) (ws : List Int) (least : Int), vs = [.int width, .ref a, .int least] ∧ SqL K H a (iv ws) ∧ 0 ≤ width ∧ width ≤ 40 ∧ RetL (iv (frameW width ws least)) H Q
theorem filter_ir (n : Int) (p : Int → Bool) : ((List.range n.toNat).filter fun i : Nat => p (i : Int)).map (fun i : Nat => V.int (i : Int)) = iv ((irange n).filter p) := by
  unfold irange iv
  rw [List.filter_map, List.map_map]
  rfl
theorem ok_frame {f fd} (D : Dn K mg "frame_widths" s_frame_widths ["width", "widths", "least"] f fd) (B : Bl mg) : FnOk P w K mg base CX0 1 f fd ["width", "widths", "least"] (spFrame K) := by
  refine D.fn.ok sc_frame_widths (fun vs H Q E h => ?_) (fun cdv A outer s H vs Q E hr h => ?_)
  · obtain ⟨width, a, ws, least, rfl, _⟩ := h
    rfl
  · obtain ⟨width, a, ws, least, rfl, ha, w0, w1, q⟩ := h
    refine ⟨_, (pss_one (ps_ret (pe_lc (own := [("one", 3)]) (g := gName 3) rfl sc_frame_widths.nd (pi_range1 (by rfl) B.range (pa_cons (pe_op op_add (pv 0) pe_int) pa_nil)) (blkOk_by (own := [("one", 3)]) (N := n_frame_widths) (sc := defScope s_frame_widths) (by decide +kernel)) (fun _ _ _ _ _ => (pg_name (i := 3) sc_frame_widths.nd rfl (Or.inl rfl))) (fun _ _ _ _ _ => pts_one (PW.pt (pw_or (pt_cmpR op_le (pv 3) (pv 2) (nomark _)) (pw_or1 (pt_cmpR (op_in_seqK (K := K) rfl) (pv 3) (pv 1) (by rfl)))))) (fun _ _ _ _ _ => (pv 3))))), ?_⟩
    rw [frameW, ← filter_ir] at q
    refine s_retL (el_filterR1 (n := width + 1) (fun i => decide ((i : Int) ≤ least) || decide ((i : Int) ∈ ws)) (fun i => V.int (i : Int)) (ea_cons (ev_op (ev_var rfl) ev_c rv_I0) ea_nil) (by omega) (fun i hi H1 e => ?_) (fun i hi hp H1 e => ev_var rfl)) q
    exact et_or (et_test (ev_op (ev_var rfl) (ev_var rfl) rv_I0)) fun _ => et_test (ev_inI (ev_var rfl) (ev_var rfl) (ex_l e ha))
def capW (ws : List Int) (most : Int) : List Int := ws.filter fun k => decide (k ≤ most)
abbrev s_cap_widths : Stmt := topS 4
abbrev n_cap_widths : List Str := ["widths", "most", "one"]
theorem sc_cap_widths : FnScope n_cap_widths ["widths", "most"] (defScope s_cap_widths) := ⟨rfl, rfl, rfl, by decide +kernel, rfl, by decide +kernel, by decide +kernel⟩
def spCap (K : PySem.W.Frag) : Sp := fun vs H Q _ => ∃ (a : Addr) (ws : List Int) (most : Int), vs = [.ref a, .int most] ∧ SqL K H a (iv ws) ∧ ws.length ≤ 64 ∧ RetL (iv (capW ws most)) H Q
theorem ok_cap {f fd} (D : Dn K mg "cap_widths" s_cap_widths ["widths", "most"] f fd) (B : Bl mg) : FnOk P w K mg base CX0 1 f fd ["widths", "most"] (spCap K) := by
  refine D.fn.ok sc_cap_widths (fun vs H Q E h => ?_) (fun cdv A outer s H vs Q E hr h => ?_)
  · obtain ⟨a, ws, most, rfl, _⟩ := h
    rfl
  · obtain ⟨a, ws, most, rfl, ha, hl, q⟩ := h
    refine ⟨_, (pss_one (ps_ret (pe_lc (own := [("one", 2)]) (g := gName 2) rfl sc_cap_widths.nd (pi_listK (K := K) rfl (pv 0)) (blkOk_by (own := [("one", 2)]) (N := n_cap_widths) (sc := defScope s_cap_widths) (by decide +kernel)) (fun _ _ _ _ _ => (pg_name (i := 2) sc_cap_widths.nd rfl (Or.inl rfl))) (fun _ _ _ _ _ => pts_one (pt_cmpR op_le (pv 2) (pv 1) (nomark _))) (fun _ _ _ _ _ => (pv 2))))), ?_⟩
    exact s_retL (el_fC V.int ws (fun k => decide (k ≤ most)) V.int (ev_var rfl) ha (by omega) (fun x hx H1 e => et_test (ev_op (ev_var rfl) (ev_var rfl) rv_I0)) (fun x hx hp H1 e => ev_var rfl)) q
def padW (width : Int) (ws : List Int) (border : Int) : List Int := irange (min (2 * border) (width + 1)) ++ (ws.filter fun k => decide (k + 2 * border ≤ width)).map (· + 2 * border)
abbrev s_pad_widths : Stmt := topS 5
abbrev n_pad_widths : List Str := ["width", "widths", "border", "narrow", "one"]
theorem sc_pad_widths : FnScope n_pad_widths ["width", "widths", "border"] (defScope s_pad_widths) := ⟨rfl, rfl, rfl, by decide +kernel, rfl, by decide +kernel, by decide +kernel⟩
def spPad (K : PySem.W.Frag) : Sp := fun vs H Q _ => ∃ (width : Int) (a : Addr) (ws : List Int) (border : Int), vs = [.int width, .ref a, .int border] ∧ SqL K H a (iv ws) ∧ ws.length ≤ 64 ∧ 0 ≤ width ∧ width ≤ 40 ∧ 0 ≤ border ∧ border ≤ 20 ∧ RetL (iv (padW width ws border)) H Q
theorem ok_pad {f fd} (D : Dn K mg "pad_widths" s_pad_widths ["width", "widths", "border"] f fd) (B : Bl mg) : FnOk P w K mg base CX0 1 f fd ["width", "widths", "border"] (spPad K) := by
  refine D.fn.ok sc_pad_widths (fun vs H Q E h => ?_) (fun cdv A outer s H vs Q E hr h => ?_)
  · obtain ⟨width, a, ws, border, rfl, _⟩ := h
    rfl
  · obtain ⟨width, a, ws, border, rfl, ha, hl, w0, w1, b0, b1, q⟩ := h
    refine ⟨_, (pss_cons (ps_set (i := 3) sc_pad_widths.nd rfl (.inl rfl) (pe_listRg rfl (by rfl) B.list (prg_1 (by rfl) B.range (pe_callB (call_min2 rfl) (by rfl) B.min bt_min (pa_cons (pe_op op_mul pe_int (pv 2)) (pa_cons (pe_op op_add (pv 0) pe_int) pa_nil))))))
      (pss_one (ps_ret (pe_op op_cat (pv 3) (pe_lc (own := [("one", 4)]) (g := gName 4) rfl sc_pad_widths.nd (pi_listK (K := K) rfl (pv 1)) (blkOk_by (own := [("one", 4)]) (N := n_pad_widths) (sc := defScope s_pad_widths) (by decide +kernel)) (fun _ _ _ _ _ => (pg_name (i := 4) sc_pad_widths.nd rfl (Or.inl rfl))) (fun _ _ _ _ _ => pts_one (pt_cmpR op_le (pe_op op_add (pv 4) (pe_op op_mul pe_int (pv 2))) (pv 0) (nomark _))) (fun _ _ _ _ _ => (pe_op op_add (pv 4) (pe_op op_mul pe_int (pv 2))))))))), ?_⟩
    refine q_asgL (el_listR1 (n := min (2 * border) (width + 1)) (ev_min2 (ev_op ev_c (ev_var rfl) (rv_I (.inl ⟨by decide, by decide⟩))) (ev_op (ev_var rfl) ev_c rv_I0)) (by omega)) fun p H1 np e1 hp => ?_
    refine s_retL (xs := iv (padW width ws border)) (el_is' (el_catVN (ev_var rfl) hp (el_fC V.int ws (fun k => decide (k + 2 * border ≤ width)) (fun k => V.int (k + 2 * border)) (ev_var rfl) (ex_l e1 ha) (by omega)
      (fun x hx H2 e => et_test (ev_op (ev_op (ev_var rfl) (ev_op ev_c (ev_var rfl) (rv_I (.inl ⟨by decide, by decide⟩))) rv_I0) (ev_var rfl) rv_I0))
      (fun x hx hp H2 e => ev_op (ev_var rfl) (ev_op ev_c (ev_var rfl) (rv_I (.inl ⟨by decide, by decide⟩))) rv_I0)) ?_) ?_) fun r H2 nr e2 hr => q r H2 (fresh_back e1 nr) (e1.trans e2) hr
    · have := List.length_filter_le (fun k => decide (k + 2 * border ≤ width)) ws
      rw [List.length_map, List.length_map, irange_len]
      omega
    · unfold padW iv
      rw [List.map_append, List.map_map]
      rfl
end
end M

namespace M
open PySem PySem.Spec PyProof.Rows L2 Evl
section
variable {P : Program} {w : World} {K : PySem.W.Frag} {mg : Str → Option Value} {base : Heap}
def ffStep (st : Int × List Int) (g : Int) : Int × List Int := if g ≤ st.1 then (g, st.2 ++ [g]) else st
def ffW (width : Int) (gs : List Int) : List Int := (irange (width + 1)).filter fun one => decide (one < (gs.foldl ffStep (gs.getD 0 0, [])).1) || decide (one ∈ (gs.foldl ffStep (gs.getD 0 0, [])).2)
abbrev s_first_fit_widths : Stmt := topS 6
abbrev n_first_fit_widths : List Str := ["width", "several", "kept", "least", "widths", "one"]
theorem sc_first_fit_widths : FnScope n_first_fit_widths ["width", "several"] (defScope s_first_fit_widths) := ⟨rfl, rfl, rfl, by decide +kernel, rfl, by decide +kernel, by decide +kernel⟩
def spFf (K : PySem.W.Frag) : Sp := fun vs H Q _ => ∃ (width : Int) (a : Addr) (as : List Addr) (wss : List (List Int)), vs = [.int width, .ref a] ∧ SqL K H a (as.map V.ref) ∧ LLs K H as wss ∧ 0 < wss.length ∧ wss.length ≤ 64 ∧ (∀ ws ∈ wss, 0 < ws.length) ∧ 0 ≤ width ∧ width ≤ 40 ∧ RetL (iv (ffW width (wss.map lastI))) H Q
theorem ok_ff {f fd} (D : Dn K mg "first_fit_widths" s_first_fit_widths ["width", "several"] f fd) (B : Bl mg) : FnOk P w K mg base CX0 1 f fd ["width", "several"] (spFf K) := by
  refine D.fn.ok sc_first_fit_widths (fun vs H Q E h => ?_) (fun cdv A outer s H vs Q E hr h => ?_)
  · obtain ⟨width, a, as, wss, rfl, _⟩ := h
    rfl
  · obtain ⟨width, a, as, wss, rfl, ha, hw, l0, l1, hne, w0, w1, q⟩ := h
    have hl := hw.1
    refine ⟨_, (pss_cons (ps_set (i := 2) sc_first_fit_widths.nd rfl (.inr rfl) pe_dnewK)
      (pss_cons (ps_set (i := 3) sc_first_fit_widths.nd rfl (.inr rfl) (pe_ix (ix_listK (K := K) rfl) (pe_ix (ix_listK (K := K) rfl) (pv 1) pe_int (fun _ _ => rfl)) (pe_un un_neg pe_int) (fun _ _ => rfl)))
      (pss_cut (ps_for PassesOwn.never rfl (pi_listK (K := K) rfl (pv 1)) (pg_name (i := 4) sc_first_fit_widths.nd rfl (.inl rfl))
      (pss_one (ps_if (pt_cmpR op_le (pe_ix (ix_listK (K := K) rfl) (pv 4) (pe_un un_neg pe_int) (fun _ _ => rfl)) (pv 3) (nomark _)) (pss_cons (ps_set (i := 3) sc_first_fit_widths.nd rfl (.inr rfl) (pe_ix (ix_listK (K := K) rfl) (pv 4) (pe_un un_neg pe_int) (fun _ _ => rfl)))
      (pss_one (ps_dput (hu_of hr) (pv 2) (pv 3) pe_bl rfl))) pss_nil)))
      (pss_one (ps_ret (pe_lc (own := [("one", 5)]) (g := gName 5) rfl sc_first_fit_widths.nd (pi_range1 (by rfl) B.range (pa_cons (pe_op op_add (pv 0) pe_int) pa_nil)) (blkOk_by (own := [("one", 5)]) (N := n_first_fit_widths) (sc := defScope s_first_fit_widths) (by decide +kernel)) (fun _ _ _ _ _ => (pg_name (i := 5) sc_first_fit_widths.nd rfl (Or.inl rfl))) (fun _ _ _ _ _ => pts_one (PW.pt (pw_or (pt_cmpR op_lt (pv 5) (pv 3) (nomark _)) (pw_or1 (pt_cmp (pc_din (hu_of hr) (pv 5) (pv 2))))))) (fun _ _ _ _ _ => (pv 5)))))))), ?_⟩
    have hgD : ∀ i, i < wss.length → 0 < (wss.getD i []).length := fun i hi => hne _ (List.mem_of_getElem? (getD_at hi []))
    have hg : ∀ i, i < wss.length → (wss.map lastI).getD i 0 = lastI (wss.getD i []) := fun i hi => by
      have := getD_at (xs := wss.map lastI) (i := i) (by rw [List.length_map]; exact hi) 0
      rw [List.getElem?_map, getD_at hi []] at this
      exact (Option.some.inj this).symm
    -- kept = {}
    intro p np
    obtain ⟨H1, hH1, e1, hp⟩ := newH np (.dK [])
    rw [hH1]
    -- least = several[0][-1]
    refine ⟨_, rfl, a, _, _, _, rfl, rfl, ex_l e1 ha, at_of (j := 0) rfl (ref_at (by omega)), _, rfl, _, _, _, _, rfl, rfl, (hw.ex e1).2 0 l0, iv_last (hgD 0 l0), ?_⟩
    rw [← hg 0 l0]
    -- for widths in several
    refine ⟨fun σ' H2 => ∃ kvs x4, σ' = [some (.int width), some (.ref a), some (.ref p), some (.int ((wss.map lastI).foldl ffStep ((wss.map lastI).getD 0 0, [])).1), x4, none] ∧ Ex H H2 ∧ H2 p = some (.dK kvs) ∧
        ∀ k : Int, (valV kvs (.inl k : Key)).isSome = decide (k ∈ ((wss.map lastI).foldl ffStep ((wss.map lastI).getD 0 0, [])).2), ?_, ?_⟩
    · refine ⟨_, rfl, a, rfl, ⟨_, ex_l e1 ha⟩, for_list (K := K) (a := a) (xs := as.map V.ref)
        (fun i σ' H2 => ∃ kvs x4, σ' = [some (.int width), some (.ref a), some (.ref p), some (.int (((wss.map lastI).take i).foldl ffStep ((wss.map lastI).getD 0 0, [])).1), x4, none] ∧ Ex H H2 ∧ H2 p = some (.dK kvs) ∧ kvs.length ≤ i ∧
          ∀ k : Int, (valV kvs (.inl k : Key)).isSome = decide (k ∈ (((wss.map lastI).take i).foldl ffStep ((wss.map lastI).getD 0 0, [])).2))
        ⟨[], none, rfl, e1, hp, Nat.le_refl _, fun k => by simp [valV_nil]⟩ (fun i σ' H2 _ ⟨_, _, _, e2, _⟩ => ex_l e2 ha) ?_ ?_⟩
      · rintro i y σ' H2 hi ⟨kvs, x4, rfl, e2, hp2, hlen, hk⟩
        obtain ⟨hi', rfl⟩ := ref_mem hi
        have hi2 : i < wss.length := by omega
        have hq := (hw.ex e2).2 i hi2
        have et := take_succ_D (ns := wss.map lastI) (i := i) (by rw [List.length_map]; exact hi2) 0
        rw [hg i hi2] at et
        generalize hst : ((wss.map lastI).take i).foldl ffStep ((wss.map lastI).getD 0 0, []) = st at hk
        refine ⟨_, rfl, _, rfl, _, _, _, _, rfl, rfl, hq, iv_last (hgD i hi2), _, rfl, _, _, rfl, rfl, _, rfl, iteD (fun h => ?_) (fun h => ?_)⟩
        · refine ⟨_, rfl, _, rfl, _, _, _, _, rfl, rfl, hq, iv_last (hgD i hi2), _, rfl, _, rfl, p, _, rfl, DPut.k (k := Sum.inl _) hp2 (small1000 (by omega)), ?_⟩
          have es : (((wss.map lastI).take (i + 1)).foldl ffStep ((wss.map lastI).getD 0 0, [])) = (lastI (wss.getD i []), st.2 ++ [lastI (wss.getD i [])]) := by
            rw [et, List.foldl_append, hst]
            simp only [List.foldl_cons, List.foldl_nil, ffStep]
            rw [if_pos h]
          refine ⟨_, _, by rw [es]; rfl, Ex.mut e2 np, upd_same, ?_, fun k => ?_⟩
          · exact Nat.le_trans (putK_len _ _ _) (Nat.succ_le_succ hlen)
          · rw [es, valV_put]
            by_cases hk2 : (Sum.inl k : Key) = Sum.inl (lastI (wss.getD i []))
            · rw [if_pos hk2]
              have : k = lastI (wss.getD i []) := Sum.inl.inj hk2
              simp [this]
            · rw [if_neg hk2, hk k]
              have : ¬ k = lastI (wss.getD i []) := fun z => hk2 (by rw [z])
              simp only [List.mem_append, List.mem_singleton, this, or_false]
        · have es : (((wss.map lastI).take (i + 1)).foldl ffStep ((wss.map lastI).getD 0 0, [])) = st := by
            rw [et, List.foldl_append, hst]
            simp only [List.foldl_cons, List.foldl_nil, ffStep]
            rw [if_neg h]
          exact ⟨kvs, _, by rw [es]; rfl, e2, hp2, by omega, fun k => by rw [es]; exact hk k⟩
      · rintro σ' H2 ⟨kvs, x4, rfl, e2, hp2, _, hk⟩
        have en : (wss.map lastI).take (as.map V.ref).length = wss.map lastI := List.take_of_length_le (by rw [List.length_map, List.length_map]; omega)
        rw [en] at hk ⊢
        exact ⟨kvs, x4, rfl, e2, hp2, hk⟩
    · rintro σ' H2 ⟨kvs, x4, rfl, e2, hp2, hk⟩
      rw [ffW, ← filter_ir] at q
      refine s_retL (el_filterR1 (n := width + 1) (fun i => decide ((i : Int) < ((wss.map lastI).foldl ffStep ((wss.map lastI).getD 0 0, [])).1) || decide ((i : Int) ∈ ((wss.map lastI).foldl ffStep ((wss.map lastI).getD 0 0, [])).2)) (fun i => V.int (i : Int))
        (ea_cons (ev_op (ev_var rfl) ev_c rv_I0) ea_nil) (by omega) (fun i hi H3 e3 => ?_) (fun i hi hp H1 e => ev_var rfl)) fun r H3 nr e3 hr => q r H3 (fresh_back e2 nr) (e2.trans e3) hr
      refine et_or (et_test (ev_op (ev_var rfl) (ev_var rfl) rv_I0)) fun _ => ?_
      have := et_din (K := K) (ty := tVar 5) (td := tVar 2) (σ := (wipe [some (.int width), some (.ref a), some (.ref p), some (.int ((wss.map lastI).foldl ffStep ((wss.map lastI).getD 0 0, [])).1), x4, none] [5]).set 5 (some (.int (i : Int)))) (ev_var rfl) (ev_var rfl) (e3 _ _ hp2)
      rw [hk] at this
      exact this
def downW (ws : List Int) (m : Int) : Int := maxI (ws.filter fun k => decide (k ≤ m))
abbrev s__law_down : Stmt := topS 16
abbrev n__law_down : List Str := ["widths", "most", "width"]
theorem sc__law_down : FnScope n__law_down ["widths", "most"] (defScope s__law_down) := ⟨rfl, rfl, rfl, by decide +kernel, rfl, by decide +kernel, by decide +kernel⟩
def spDown (K : PySem.W.Frag) : Sp := fun vs H Q _ => ∃ (a : Addr) (ws : List Int) (m : Int), vs = [.ref a, .int m] ∧ SqL K H a (iv ws) ∧ ws.length ≤ 64 ∧ (∃ x ∈ ws, x ≤ m) ∧ RetV (.int (downW ws m)) H Q
theorem ok_down {f fd} (D : Dn K mg "_law_down" s__law_down ["widths", "most"] f fd) (B : Bl mg) : FnOk P w K mg base CX0 1 f fd ["widths", "most"] (spDown K) := by
  refine D.fn.ok sc__law_down (fun vs H Q E h => ?_) (fun cdv A outer s H vs Q E hr h => ?_)
  · obtain ⟨a, ws, most, rfl, _⟩ := h
    rfl
  · obtain ⟨a, ws, most, rfl, ha, hl, ⟨x, hx, hxm⟩, q⟩ := h
    refine ⟨_, (pss_one (ps_ret (pe_callB (cr_maxK (K := K) rfl rfl) (by rfl) B.max bt_max (pa_cons (pe_lc (own := [("width", 2)]) (g := gName 2) rfl sc__law_down.nd (pi_listK (K := K) rfl (pv 0)) (blkOk_by (own := [("width", 2)]) (N := n__law_down) (sc := defScope s__law_down) (by decide +kernel)) (fun _ _ _ _ _ => (pg_name (i := 2) sc__law_down.nd rfl (Or.inl rfl))) (fun _ _ _ _ _ => pts_one (pt_cmpR op_le (pv 2) (pv 1) (nomark _))) (fun _ _ _ _ _ => (pv 2))) pa_nil)))), ?_⟩
    refine s_ret (ev_maxN (ns := ws.filter fun k => decide (k ≤ most)) (el_fC V.int ws (fun k => decide (k ≤ most)) V.int (ev_var rfl) ha (by omega) (fun x hx H1 e => et_test (ev_op (ev_var rfl) (ev_var rfl) rv_I0)) (fun x hx hp H1 e => ev_var rfl)) ?_) q
    exact List.length_pos_of_mem (List.mem_filter.mpr ⟨hx, decide_eq_true hxm⟩)
theorem spv_down {H : Hp} {a : Addr} {ws : List Int} {m : Int} (ha : SqL K H a (iv ws)) (hl : ws.length ≤ 64) (hx : ∃ x ∈ ws, x ≤ m) : SpV (spDown K) [.ref a, .int m] H (.int (downW ws m)) := fun H1 e Q q E => ⟨a, ws, m, rfl, ex_l e ha, hl, hx, q⟩
end
end M

namespace M
open PySem PySem.Spec PyProof.Rows L2 Evl
section
variable {P : Program} {w : World} {K : PySem.W.Frag} {mg : Str → Option Value} {base : Heap}
structure WSet (width : Int) (ws : List Int) : Prop where
  up : ws.Pairwise (· < ·)
  zero : (0 : Int) ∈ ws
  bd : ∀ x ∈ ws, 0 ≤ x ∧ x ≤ width
  len : ws.length ≤ 41
theorem downW_spec {ws : List Int} {o : Int} (h : (0 : Int) ∈ ws) (ho : 0 ≤ o) : downW ws o ∈ ws ∧ downW ws o ≤ o ∧ ∀ y ∈ ws, y ≤ o → y ≤ downW ws o := by
  have h0 : (0 : Int) ∈ ws.filter fun k => decide (k ≤ o) := List.mem_filter.mpr ⟨h, decide_eq_true ho⟩
  cases e : (ws.filter fun k => decide (k ≤ o)).max? with
  | none =>
    rw [List.max?_eq_none_iff] at e
    rw [e] at h0
    cases h0
  | some m =>
    have hm : downW ws o = m := by unfold downW maxI; rw [e]; rfl
    obtain ⟨h1, h2⟩ := List.max?_eq_some_iff.mp e
    obtain ⟨h3, h4⟩ := List.mem_filter.mp h1
    rw [hm]
    exact ⟨h3, of_decide_eq_true h4, fun y hy hyo => h2 y (List.mem_filter.mpr ⟨hy, decide_eq_true hyo⟩)⟩
def lrowW (width : Int) (ws us : List Int) : List Int := (irange (width + 1)).filter fun o => decide (downW ws o + downW us (o - downW ws o) = o)
abbrev s__law_row : Stmt := topS 17
abbrev n__law_row : List Str := ["width", "first", "second", "out", "offer", "used"]
theorem sc__law_row : FnScope n__law_row ["width", "first", "second"] (defScope s__law_row) := ⟨rfl, rfl, rfl, by decide +kernel, rfl, by decide +kernel, by decide +kernel⟩
def spLrow (K : PySem.W.Frag) : Sp := fun vs H Q _ => ∃ (width : Int) (a b : Addr) (ws us : List Int), vs = [.int width, .ref a, .ref b] ∧ SqL K H a (iv ws) ∧ SqL K H b (iv us) ∧ WSet width ws ∧ WSet width us ∧ 0 ≤ width ∧ width ≤ 40 ∧ RetL (iv (lrowW width ws us)) H Q
theorem ok_lrow {f fd} (D : Dn K mg "_law_row" s__law_row ["width", "first", "second"] f fd) (B : Bl mg) (C__law_down : Cal P w K mg base CX0 "_law_down" 1 ["widths", "most"] (spDown K)) : FnOk P w K mg base CX0 2 f fd ["width", "first", "second"] (spLrow K) := by
  refine D.fn.ok sc__law_row (fun vs H Q E h => ?_) (fun cdv A outer s H vs Q E hr h => ?_)
  · obtain ⟨width, a, b, ws, us, rfl, _⟩ := h
    rfl
  · obtain ⟨width, a, b, ws, us, rfl, ha, hb, g1, g2, w0, w1, q⟩ := h
    refine ⟨_, (pss_cons (ps_set (i := 3) sc__law_row.nd rfl (.inl rfl) (pe_lst pa_nil))
      (pss_cons (ps_for PassesOwn.never rfl (pi_range1 (by rfl) B.range (pa_cons (pe_op op_add (pv 0) pe_int) pa_nil)) (pg_name (i := 4) sc__law_row.nd rfl (.inl rfl))
      (pss_cons (ps_set (i := 5) sc__law_row.nd rfl (.inl rfl) (pe_own C__law_down hr (by omega) (by rfl) (pa_cons (pv 1) (pa_cons (pv 4) pa_nil))))
      (pss_one (ps_if (pt_cmpR op_eq (pe_op op_add (pv 5) (pe_own C__law_down hr (by omega) (by rfl) (pa_cons (pv 2) (pa_cons (pe_op op_sub (pv 4) (pv 5)) pa_nil)))) (pv 4) (nomark _)) (pss_one (ps_expr (pe_bm PySem.F.plainAttrs_list PySem.F.slot_list_append PySem.F.type_list_append mt_append (pv 3) (pa_cons (pv 4) pa_nil)))) pss_nil))))
      (pss_one (ps_ret (pv 3))))), ?_⟩
    have := g1.len
    have := g2.len
    refine q_asgL (el_lst ea_nil (by decide)) fun p H1 np e1 hp => ?_
    refine ⟨_, rfl, _, _, rfl, rfl, _, rfl, by omega, by omega, for_range (lo := 0) (n := (width + 1).toNat)
      (fun i σ' H2 => ∃ x4 x5, σ' = [some (.int width), some (.ref a), some (.ref b), some (.ref p), x4, x5] ∧ Ex H H2 ∧ H2 p = some (.lst (iv ((irange (i : Nat)).filter fun o => decide (downW ws o + downW us (o - downW ws o) = o))))) ⟨_, _, rfl, e1, hp⟩ ?_ ?_⟩
    · rintro i σ' H2 hi ⟨x4, x5, rfl, e2, hp2⟩
      obtain ⟨d1, d2, d3⟩ := downW_spec (o := (i : Int)) g1.zero (by omega)
      have i0 : (0 : Int) + (i : Nat) = (i : Int) := Int.zero_add _
      rw [i0]
      refine ⟨_, rfl, _, rfl, a, ws, _, rfl, ex_l e2 ha, by omega, ⟨0, g1.zero, by omega⟩, fun H3 e3 => ?_⟩
      refine ⟨_, rfl, _, rfl, _, rfl, _, rfl, _, _, rfl, rfl, b, us, _, rfl, ex_l (e2.trans e3) hb, by omega, ⟨0, g2.zero, by omega⟩, fun H4 e4 => ?_⟩
      have hp4 := e4 _ _ (e3 _ _ hp2)
      refine ⟨_, _, rfl, rfl, _, rfl, rfl, _, rfl, iteD (fun h => ?_) (fun h => ?_)⟩
      · refine ⟨_, rfl, .inl ⟨rfl, _, sq_of hp4⟩, _, rfl, p, _, _, rfl, rfl, hp4, ?_, _, _, rfl, Ex.mut (e2.trans (e3.trans e4)) np, ?_⟩
        · have := List.length_filter_le (fun o => decide (downW ws o + downW us (o - downW ws o) = o)) (irange (i : Nat))
          rw [irange_len] at this
          rw [List.length_map]
          exact sz_lt (by omega)
        · rw [upd_same, irange_succ, List.filter_append, List.filter_cons_of_pos (by simpa using int_inj h)]
          simp
      · refine ⟨_, _, rfl, e2.trans (e3.trans e4), ?_⟩
        rw [hp4, irange_succ, List.filter_append, List.filter_cons_of_neg (by simpa using fun z => h (congrArg V.int z))]
        simp
    · rintro σ' H2 ⟨x4, x5, rfl, e2, hp2⟩
      have en : (((width + 1).toNat : Nat) : Int) = width + 1 := by omega
      rw [en] at hp2
      exact ⟨_, rfl, q p H2 np e2 hp2⟩
def lpadW (width : Int) (ws : List Int) (border : Int) : List Int := (irange (width + 1)).filter fun o => decide (o < 2 * border) || decide (downW ws (o - 2 * border) + 2 * border = o)
abbrev s__law_pad : Stmt := topS 18
abbrev n__law_pad : List Str := ["width", "widths", "border", "out", "offer"]
theorem sc__law_pad : FnScope n__law_pad ["width", "widths", "border"] (defScope s__law_pad) := ⟨rfl, rfl, rfl, by decide +kernel, rfl, by decide +kernel, by decide +kernel⟩
def spLpad (K : PySem.W.Frag) : Sp := fun vs H Q _ => ∃ (width : Int) (a : Addr) (ws : List Int) (border : Int), vs = [.int width, .ref a, .int border] ∧ SqL K H a (iv ws) ∧ WSet width ws ∧ 0 ≤ width ∧ width ≤ 40 ∧ 0 ≤ border ∧ border ≤ 20 ∧ RetL (iv (lpadW width ws border)) H Q
theorem ok_lpad {f fd} (D : Dn K mg "_law_pad" s__law_pad ["width", "widths", "border"] f fd) (B : Bl mg) (C__law_down : Cal P w K mg base CX0 "_law_down" 1 ["widths", "most"] (spDown K)) : FnOk P w K mg base CX0 2 f fd ["width", "widths", "border"] (spLpad K) := by
  refine D.fn.ok sc__law_pad (fun vs H Q E h => ?_) (fun cdv A outer s H vs Q E hr h => ?_)
  · obtain ⟨width, a, ws, border, rfl, _⟩ := h
    rfl
  · obtain ⟨width, a, ws, border, rfl, ha, g1, w0, w1, b0, b1, q⟩ := h
    refine ⟨_, (pss_cons (ps_set (i := 3) sc__law_pad.nd rfl (.inl rfl) (pe_lst pa_nil))
      (pss_cons (ps_for PassesOwn.never rfl (pi_range1 (by rfl) B.range (pa_cons (pe_op op_add (pv 0) pe_int) pa_nil)) (pg_name (i := 4) sc__law_pad.nd rfl (.inl rfl))
      (pss_one (ps_if (PW.pt (pw_or (pt_cmpR op_lt (pv 4) (pe_op op_mul pe_int (pv 2)) (nomark _)) (pw_or1 (pt_cmpR op_eq (pe_op op_add (pe_own C__law_down hr (by omega) (by rfl) (pa_cons (pv 1) (pa_cons (pe_op op_sub (pv 4) (pe_op op_mul pe_int (pv 2))) pa_nil))) (pe_op op_mul pe_int (pv 2))) (pv 4) (nomark _))))) (pss_one (ps_expr (pe_bm PySem.F.plainAttrs_list PySem.F.slot_list_append PySem.F.type_list_append mt_append (pv 3) (pa_cons (pv 4) pa_nil)))) pss_nil)))
      (pss_one (ps_ret (pv 3))))), ?_⟩
    have := g1.len
    refine q_asgL (el_lst ea_nil (by decide)) fun p H1 np e1 hp => ?_
    refine ⟨_, rfl, _, _, rfl, rfl, _, rfl, by omega, by omega, for_range (lo := 0) (n := (width + 1).toNat)
      (fun i σ' H2 => ∃ x4, σ' = [some (.int width), some (.ref a), some (.int border), some (.ref p), x4] ∧ Ex H H2 ∧ H2 p = some (.lst (iv ((irange (i : Nat)).filter fun o => decide (o < 2 * border) || decide (downW ws (o - 2 * border) + 2 * border = o))))) ⟨_, rfl, e1, hp⟩ ?_ ?_⟩
    · rintro i σ' H2 hi ⟨x4, rfl, e2, hp2⟩
      have i0 : (0 : Int) + (i : Nat) = (i : Int) := Int.zero_add _
      rw [i0]
      refine s_when (b := decide ((i : Int) < 2 * border) || decide (V.int (downW ws ((i : Int) - 2 * border) + 2 * border) = V.int (i : Int))) (et_or (et_test (ev_op (ev_var rfl) (ev_op ev_c (ev_var rfl) (rv_I (C := CMul) (.inl ⟨by decide, by decide⟩))) rv_I0)) fun hn => et_test (ev_op (ev_op (ev_own (ea_cons (ev_var (i := 1) rfl) (ea_cons (ev_op (ev_var (i := 4) rfl) (ev_op ev_c (ev_var (i := 2) rfl) (rv_I (C := CMul) (.inl ⟨by decide, by decide⟩))) rv_I0) ea_nil))
          (spv_down (ex_l e2 ha) (by omega) ⟨0, g1.zero, by have := of_decide_eq_false hn; omega⟩)) (ev_op ev_c (ev_var (i := 2) rfl) (rv_I (C := CMul) (.inl ⟨by decide, by decide⟩))) rv_I0) (ev_var (i := 4) rfl) (rv_eq rfl))) (fun h H3 e3 => ?_) (fun h H3 e3 => ?_)
      · have hp3 := e3 _ _ hp2
        refine ⟨_, rfl, .inl ⟨rfl, _, sq_of hp3⟩, _, rfl, p, _, _, rfl, rfl, hp3, ?_, _, rfl, Ex.mut (e2.trans e3) np, ?_⟩
        · have := List.length_filter_le (fun o => decide (o < 2 * border) || decide (downW ws (o - 2 * border) + 2 * border = o)) (irange (i : Nat))
          rw [irange_len] at this
          rw [List.length_map]
          exact sz_lt (by omega)
        · rw [upd_same, irange_succ, List.filter_append, List.filter_cons_of_pos (by simpa using h)]
          simp
      · refine ⟨_, rfl, e2.trans e3, ?_⟩
        rw [e3 _ _ hp2, irange_succ, List.filter_append, List.filter_cons_of_neg (by simpa using h)]
        simp
    · rintro σ' H2 ⟨x4, rfl, e2, hp2⟩
      have en : (((width + 1).toNat : Nat) : Int) = width + 1 := by omega
      rw [en] at hp2
      exact ⟨_, rfl, q p H2 np e2 hp2⟩
end
end M

namespace M
open PySem PySem.Spec PyProof.Rows L2 Evl
section
variable {P : Program} {w : World} {K : PySem.W.Frag} {mg : Str → Option Value} {base : Heap}
abbrev shownW (gs : List Int) (o : Int) : List Int := gs.filter (fun k => decide (k ≤ o)) ++ [min o (lastI gs)]
def lfitsW (width : Int) (gs : List Int) : List Int := (irange (width + 1)).filter fun o => decide ((shownW gs o).getD 0 0 = o)
abbrev s__law_fits : Stmt := topS 19
abbrev n__law_fits : List Str := ["width", "several", "greatest", "out", "offer", "shown", "widths", "use"]
theorem sc__law_fits : FnScope n__law_fits ["width", "several"] (defScope s__law_fits) := ⟨rfl, rfl, rfl, by decide +kernel, rfl, by decide +kernel, by decide +kernel⟩
def spLfits (K : PySem.W.Frag) : Sp := fun vs H Q _ => ∃ (width : Int) (a : Addr) (ps : List (Addr × List Int)), vs = [.int width, .ref a] ∧ SqL K H a (ps.map fun p => .ref p.1) ∧ (∀ p ∈ ps, SqL K H p.1 (iv p.2) ∧ WSet width p.2) ∧ 0 < ps.length ∧ ps.length ≤ 64 ∧ 0 ≤ width ∧ width ≤ 40 ∧
  RetL (iv (lfitsW width (ps.map fun p => downW p.2 width))) H Q
theorem ok_lfits {f fd} (D : Dn K mg "_law_fits" s__law_fits ["width", "several"] f fd) (B : Bl mg) (C__law_down : Cal P w K mg base CX0 "_law_down" 1 ["widths", "most"] (spDown K)) : FnOk P w K mg base CX0 2 f fd ["width", "several"] (spLfits K) := by
  refine D.fn.ok sc__law_fits (fun vs H Q E h => ?_) (fun cdv A outer s H vs Q E hr h => ?_)
  · obtain ⟨width, a, ps, rfl, _⟩ := h
    rfl
  · obtain ⟨width, a, ps, rfl, ha, hp, l0, l1, w0, w1, q⟩ := h
    refine ⟨_, (pss_cons (ps_setLc (i := 2) (own := [("widths", 6)]) (g := gName 6) (tt := tYes) (by rfl) sc__law_fits.nd rfl rfl (sw_true rfl rfl rfl (by decide +kernel)) (pi_listK (K := K) rfl (pv 1)) (blkOk_by (own := [("widths", 6)]) (N := n__law_fits) (sc := defScope s__law_fits) (by decide +kernel)) (fun _ _ _ _ _ => (pg_name (i := 6) sc__law_fits.nd rfl (Or.inl rfl))) (fun _ _ _ _ _ => pts_nil) (fun _ _ _ _ _ => (pe_own C__law_down hr (by omega) (by rfl) (pa_cons (pv 6) (pa_cons (pv 0) pa_nil)))))
      (pss_cons (ps_set (i := 3) sc__law_fits.nd rfl (.inl rfl) (pe_lst pa_nil))
      (pss_cons (ps_for PassesOwn.never rfl (pi_range1 (by rfl) B.range (pa_cons (pe_op op_add (pv 0) pe_int) pa_nil)) (pg_name (i := 4) sc__law_fits.nd rfl (.inr rfl))
      (pss_cons (ps_set (i := 5) sc__law_fits.nd rfl (.inl rfl) (pe_op op_cat (pe_lc (own := [("use", 7)]) (g := gName 7) rfl sc__law_fits.nd (pi_listK (K := K) rfl (pv 2)) (blkOk_by (own := [("use", 7)]) (N := n__law_fits) (sc := defScope s__law_fits) (by decide +kernel)) (fun _ _ _ _ _ => (pg_name (i := 7) sc__law_fits.nd rfl (Or.inl rfl))) (fun _ _ _ _ _ => pts_one (pt_cmpR op_le (pv 7) (pv 4) (nomark _))) (fun _ _ _ _ _ => (pv 7))) (pe_lst (pa_cons (pe_callB (call_min2 rfl) (by rfl) B.min bt_min (pa_cons (pv 4) (pa_cons (pe_ix (ix_listK (K := K) rfl) (pv 2) (pe_op op_sub (pe_callB (call_len_seqK (K := K) rfl) (by rfl) B.len bt_len (pa_cons (pv 2) pa_nil)) pe_int) (fun _ _ => rfl)) pa_nil))) pa_nil))))
      (pss_one (ps_if (pt_cmpR op_eq (pe_ix (ix_listK (K := K) rfl) (pv 5) pe_int (fun _ _ => rfl)) (pv 4) (nomark _)) (pss_one (ps_expr (pe_bm PySem.F.plainAttrs_list PySem.F.slot_list_append PySem.F.type_list_append mt_append (pv 3) (pa_cons (pv 4) pa_nil)))) pss_nil))))
      (pss_one (ps_ret (pv 3)))))), ?_⟩
    refine q_asgL (el_mC (fun p : Addr × List Int => V.ref p.1) ps (fun p => .int (downW p.2 width)) (ev_var rfl) ha (by omega) (fun x hx H1 e => ev_own (ea_cons (ev_var rfl) (ea_cons (ev_var rfl) ea_nil))
      (spv_down (ex_l e (hp x hx).1) (by have := (hp x hx).2.len; omega) ⟨0, (hp x hx).2.zero, w0⟩))) fun g H1 ng e1 hg => ?_
    have eg : (ps.map fun p => V.int (downW p.2 width)) = iv (ps.map fun p => downW p.2 width) := by unfold iv; rw [List.map_map]; rfl
    rw [eg] at hg
    have lg : (ps.map fun p => downW p.2 width).length = ps.length := List.length_map ..
    generalize (ps.map fun p => downW p.2 width) = gs at hg lg q
    refine q_asgL (el_lst ea_nil (by decide)) fun p H2 np e2 hp2 => ?_
    have np0 : H p = none := fresh_back e1 np
    refine ⟨_, rfl, _, _, rfl, rfl, _, rfl, by omega, by omega, for_range (lo := 0) (n := (width + 1).toNat)
      (fun i σ' H3 => ∃ x4 x5, σ' = [some (.int width), some (.ref a), some (.ref g), some (.ref p), x4, x5, none, none] ∧ Ex H1 H3 ∧ H3 p = some (.lst (iv ((irange (i : Nat)).filter fun o => decide ((shownW gs o).getD 0 0 = o))))) ⟨_, _, rfl, e2, hp2⟩ ?_ ?_⟩
    · rintro i σ' H3 hi ⟨x4, x5, rfl, e3, hp3⟩
      have i0 : (0 : Int) + (i : Nat) = (i : Int) := Int.zero_add _
      rw [i0]
      have hg3 := e3 _ _ hg
      have hfl := List.length_filter_le (fun k => decide (k ≤ (i : Int))) gs
      refine q_asgL (el_is' (ys := iv (shownW gs (i : Int))) (el_catNN (el_fC V.int gs (fun u => decide (u ≤ (i : Int))) V.int (ev_var rfl) (sq_of hg3) (by omega) (fun x hx H4 e4 => et_test (ev_op (ev_var rfl) (ev_var rfl) rv_I0)) (fun x hx hp H4 e4 => ev_var rfl))
        (el_lst (ea_cons (ev_min2 (ev_var rfl) (ev_ixI (ns := gs) (ev_var rfl) (ev_op (ev_len (ev_var rfl) (sq_of hg3)) ev_c rv_I0) (sq_of hg3) (by rw [List.length_map]; omega) (by rw [List.length_map]; omega))) ea_nil) (by decide : 1 ≤ 100000))
        (by rw [List.length_map]; show _ + 1 ≤ _; omega)) ?_) fun sh H4 nsh e4 hsh => ?_
      · have e : (((iv gs).length : Int) - 1).toNat = gs.length - 1 := by rw [List.length_map]; omega
        rw [e, getD_last]
        unfold shownW iv
        rw [List.map_append]
        rfl
      · have hlen : 0 < (shownW gs (i : Int)).length := by unfold shownW; rw [List.length_append, List.length_singleton]; omega
        refine s_when (b := decide (V.int ((shownW gs (i : Int)).getD 0 0) = V.int (i : Int))) (et_test (ev_op (ev_ixI (ns := shownW gs (i : Int)) (i := 0) (ev_var rfl) ev_c (sq_of hsh) (by decide) (by omega)) (ev_var rfl) (rv_eq rfl))) (fun h H5 e5 => ?_) (fun h H5 e5 => ?_)
        · have hp5 := e5 _ _ (e4 _ _ hp3)
          refine ⟨_, rfl, .inl ⟨rfl, _, sq_of hp5⟩, _, rfl, p, _, _, rfl, rfl, hp5, ?_, _, _, rfl, Ex.mut (e3.trans (e4.trans e5)) np, ?_⟩
          · have := List.length_filter_le (fun o => decide ((shownW gs o).getD 0 0 = o)) (irange (i : Nat))
            rw [irange_len] at this
            rw [List.length_map]
            exact sz_lt (by omega)
          · rw [upd_same, irange_succ, List.filter_append, List.filter_cons_of_pos (by exact decide_eq_true (int_inj (of_decide_eq_true h)))]
            unfold iv
            rw [List.map_append]
            rfl
        · refine ⟨_, _, rfl, e3.trans (e4.trans e5), ?_⟩
          rw [e5 _ _ (e4 _ _ hp3), irange_succ, List.filter_append, List.filter_cons_of_neg (by rw [decide_eq_true_eq]; exact fun z => of_decide_eq_false h (congrArg V.int z))]
          rw [List.filter_nil, List.append_nil]
    · rintro σ' H3 ⟨x4, x5, rfl, e3, hp3⟩
      have en : (((width + 1).toNat : Nat) : Int) = width + 1 := by omega
      rw [en] at hp3
      exact ⟨_, rfl, q p H3 np0 (e1.trans e3) hp3⟩
theorem nodup_of_lt {ns : List Int} (h : ns.Pairwise (· < ·)) : ns.Nodup := h.imp fun a => by omega
theorem lt_of_nodup {ns : List Int} (h : ns.Pairwise (· ≤ ·)) (n : ns.Nodup) : ns.Pairwise (· < ·) := by
  have := List.pairwise_and_iff.mpr ⟨h, n⟩
  exact this.imp fun ⟨a, b⟩ => by omega
abbrev s__law_widths : Stmt := topS 14
abbrev n__law_widths : List Str := ["store", "width", "out", "k", "number"]
theorem sc__law_widths : FnScope n__law_widths ["store", "width"] (defScope s__law_widths) := ⟨rfl, rfl, rfl, by decide +kernel, rfl, by decide +kernel, by decide +kernel⟩
def spLwid (P : Program) (w : World) : Sp := fun vs H Q _ => ∃ (d : Addr) (width : Int), vs = [.ref d, .int width] ∧ StoreAt P w H d ∧ 0 ≤ width ∧ width ≤ 40 ∧ ∀ p H' ws, H p = none → Ex H H' → WSet width ws → H' p = some (.lst (iv ws)) → Q (.ref p) H'
theorem ok_lwid {f fd} (D : Dn K mg "_law_widths" s__law_widths ["store", "width"] f fd) (B : Bl mg) (C__law_take : Cal P w K mg base CX0 "_law_take" 2 ["store", "many"] (spTake P w)) (C__law_range : Cal P w K mg base CX0 "_law_range" 3 ["store", "low", "high"] (spRange P w)) : FnOk P w K mg base CX0 4 f fd ["store", "width"] (spLwid P w) := by
  refine D.fn.ok sc__law_widths (fun vs H Q E h => ?_) (fun cdv A outer s H vs Q E hr h => ?_)
  · obtain ⟨d, width, rfl, _⟩ := h
    rfl
  · obtain ⟨d, width, rfl, hs, w0, w1, q⟩ := h
    refine ⟨_, (pss_cons (ps_set (i := 2) sc__law_widths.nd rfl (.inl rfl) (pe_lst (pa_cons pe_int pa_nil)))
      (pss_cons (ps_for PassesOwn.never rfl (pi_range1 (by rfl) B.range (pa_cons (pe_own C__law_range hr (by omega) (by rfl) (pa_cons (pv 0) (pa_cons pe_int (pa_cons pe_int pa_nil)))) pa_nil)) (pg_name (i := 3) sc__law_widths.nd rfl (.inl rfl))
      (pss_cons (ps_set (i := 4) sc__law_widths.nd rfl (.inl rfl) (pe_own C__law_take hr (by omega) (by rfl) (pa_cons (pv 0) (pa_cons (pe_op op_add (pv 1) pe_int) pa_nil))))
      (pss_one (ps_if (pt_cmpR (op_notIn_seqK (K := K) rfl) (pv 4) (pv 2) (by rfl)) (pss_one (ps_expr (pe_bm PySem.F.plainAttrs_list PySem.F.slot_list_append PySem.F.type_list_append mt_append (pv 2) (pa_cons (pv 4) pa_nil)))) pss_nil))))
      (pss_one (ps_ret (pe_callB (cr_sortedK (K := K) rfl) (by rfl) B.sorted bt_sorted (pa_cons (pv 2) pa_nil)))))), ?_⟩
    refine q_asgL (el_lst (ea_cons ev_c ea_nil) (by show 1 ≤ 100000; decide)) fun p H1 np e1 hp => ?_
    refine ⟨_, rfl, d, 0, 6, rfl, hs.ex e1, by decide, by decide, by decide, fun n n0 n1 => ⟨n, rfl, by omega, by omega, for_range (lo := 0) (n := n.toNat)
      (fun i σ' H2 => ∃ x3 x4 ns, σ' = [some (.ref d), some (.int width), some (.ref p), x3, x4] ∧ Ex H H2 ∧ H2 p = some (.lst (iv ns)) ∧ ns.Nodup ∧ (0 : Int) ∈ ns ∧ (∀ x ∈ ns, 0 ≤ x ∧ x ≤ width) ∧ ns.length ≤ i + 1)
      ⟨_, _, [0], rfl, e1, hp, by decide, by decide, fun x hx => by rw [List.mem_singleton.mp hx]; omega, by decide⟩ ?_ ?_⟩⟩
    · rintro i σ' H2 hi ⟨x3, x4, ns, rfl, e2, hp2, nd, hz, hb, hl⟩
      refine ⟨_, rfl, _, rfl, _, _, rfl, rfl, d, _, rfl, hs.ex e2, by omega, fun r r0 r1 => ?_⟩
      refine s_when (b := !decide (r ∈ ns)) (et_test (ev_niI (ev_var rfl) (ev_var rfl) (sq_of hp2))) (fun h H3 e3 => ?_) (fun h H3 e3 => ?_)
      · have hp3 := e3 _ _ hp2
        refine ⟨_, rfl, .inl ⟨rfl, _, sq_of hp3⟩, _, rfl, p, _, _, rfl, rfl, hp3, ?_, _, _, ns ++ [r], rfl, Ex.mut (e2.trans e3) np, by rw [upd_same]; unfold iv; rw [List.map_append]; rfl, ?_, List.mem_append_left _ hz, fun x hx => ?_, ?_⟩
        · rw [List.length_map]
          exact sz_lt (by omega)
        · have hn : ¬ r ∈ ns := by simpa using h
          exact nd_snoc nd hn
        · rcases List.mem_append.mp hx with hx | hx
          · exact hb x hx
          · rw [List.mem_singleton.mp hx]; omega
        · rw [List.length_append, List.length_singleton]; omega
      · exact ⟨_, _, ns, rfl, e2.trans e3, e3 _ _ hp2, nd, hz, hb, by omega⟩
    · rintro σ' H2 ⟨x3, x4, ns, rfl, e2, hp2, nd, hz, hb, hl⟩
      refine ⟨_, rfl, p, ns, rfl, sq_of hp2, by omega, fun ns' r perm le nr => ?_⟩
      exact q r _ ns' (fresh_back e2 nr) (e2.trans (Ex.new nr)) ⟨lt_of_nodup le (perm.nodup_iff.mpr nd), perm.mem_iff.mpr hz, fun x hx => hb x (perm.mem_iff.mp hx), by rw [perm.length_eq]; omega⟩ upd_same
end
end M

namespace M
open PySem PySem.Spec PyProof.Rows L2 Evl
section
variable {P : Program} {w : World} {K : PySem.W.Frag} {mg : Str → Option Value} {base : Heap}
abbrev s_union_widths : Stmt := topS 2
abbrev n_union_widths : List Str := ["first", "second"]
theorem sc_union_widths : FnScope n_union_widths ["first", "second"] (defScope s_union_widths) := ⟨rfl, rfl, rfl, by decide +kernel, rfl, by decide +kernel, by decide +kernel⟩
def IsUnion (ws us xs : List Int) : Prop := xs.Pairwise (· < ·) ∧ ∀ k, k ∈ xs ↔ k ∈ ws ∨ k ∈ us
def spUnion (K : PySem.W.Frag) : Sp := fun vs H Q _ => ∃ (a b : Addr) (ws us : List Int) (width : Int), vs = [.ref a, .ref b] ∧ SqL K H a (iv ws) ∧ SqL K H b (iv us) ∧ WSet width ws ∧ WSet width us ∧ width ≤ 40 ∧
  ∀ xs, IsUnion ws us xs → RetL (iv xs) H Q
theorem small_nodup {ms : List Int} (n : ms.Nodup) (b : ∀ x ∈ ms, 0 ≤ x ∧ x ≤ 40) : ms.length ≤ 41 := by
  have h : ms.length ≤ (irange 41).length := by
    refine nodup_len _ _ n fun x hx => ?_
    have := b x hx
    exact mem_irange.mpr ⟨by omega, by omega⟩
  rw [irange_len] at h
  exact h
theorem ok_union {f fd} (D : Dn K mg "union_widths" s_union_widths ["first", "second"] f fd) (B : Bl mg) : FnOk P w K mg base CX0 1 f fd ["first", "second"] (spUnion K) := by
  refine D.fn.ok sc_union_widths (fun vs H Q E h => ?_) (fun cdv A outer s H vs Q E hr h => ?_)
  · obtain ⟨a, b, ws, us, width, rfl, _⟩ := h
    rfl
  · obtain ⟨a, b, ws, us, width, rfl, ha, hb, g1, g2, w1, q⟩ := h
    refine ⟨_, (pss_one (ps_ret (pe_callB (cr_sortedSet rfl) (by rfl) B.sorted bt_sorted (pa_cons (pe_callTy (call_set_ints (K := K) (w := w) rfl rfl rfl) (by rfl) B.set bt_set (pa_cons (pe_op op_cat (pe_callTy (call_list_ofK (K := K) rfl) (by rfl) B.list bt_list (pa_cons (pv 0) pa_nil)) (pe_callTy (call_list_ofK (K := K) rfl) (by rfl) B.list bt_list (pa_cons (pv 1) pa_nil))) pa_nil)) pa_nil)))), ?_⟩
    have := g1.len
    have := g2.len
    have l1 : (iv ws).length = ws.length := List.length_map ..
    have l2 : (iv us).length = us.length := List.length_map ..
    have hc : iv ws ++ iv us = iv (ws ++ us) := by unfold iv; rw [List.map_append]
    refine (show tCB (rSetL K w) _ _ _ _ from goCB (xs := iv (ws ++ us)) (el_is' (el_catNN (el_list (ev_var rfl) ha) (el_list (ev_var rfl) hb) (by omega)) hc) fun c H1 nc e1 hcc => ?_)
    refine ⟨c, ws ++ us, rfl, sq_of hcc, by rw [List.length_append]; omega, fun p ms np nd hm => ?_⟩
    have hb : ∀ x ∈ ms, 0 ≤ x ∧ x ≤ 40 := fun x hx => by
      rcases List.mem_append.mp ((hm x).mp hx) with z | z
      · have := g1.bd x z; omega
      · have := g2.bd x z; omega
    refine ⟨p, _, _, rfl, upd_same, by have := small_nodup nd hb; omega, fun xs r up hx hl nr => ?_⟩
    refine q xs ⟨up, fun k => ?_⟩ r _ (fresh_back (e1.trans (Ex.new np)) nr) ((e1.trans (Ex.new np)).trans (Ex.new nr)) upd_same
    rw [hx k, decide_eq_true_eq, List.mem_append]
abbrev s__law_set : Stmt := topS 20
abbrev n__law_set : List Str := ["store", "width", "way", "other"]
theorem sc__law_set : FnScope n__law_set ["store", "width"] (defScope s__law_set) := ⟨rfl, rfl, rfl, by decide +kernel, rfl, by decide +kernel, by decide +kernel⟩
def spLset (P : Program) (w : World) : Sp := fun vs H Q _ => ∃ (d : Addr) (width : Int), vs = [.ref d, .int width] ∧ StoreAt P w H d ∧ 0 ≤ width ∧ width ≤ 40 ∧ ∀ p H' ws, H p = none → Ex H H' → WSet width ws → H' p = some (.lst (iv ws)) → Q (.ref p) H'
theorem ok_lset {f fd} (D : Dn K mg "_law_set" s__law_set ["store", "width"] f fd) (B : Bl mg) (C__law_take : Cal P w K mg base CX0 "_law_take" 2 ["store", "many"] (spTake P w)) (C__law_chance : Cal P w K mg base CX0 "_law_chance" 3 ["store", "many"] (spChance P w))
    (C__law_widths : Cal P w K mg base CX0 "_law_widths" 4 ["store", "width"] (spLwid P w)) : FnOk P w K mg base CX0 5 f fd ["store", "width"] (spLset P w) := by
  refine D.fn.ok sc__law_set (fun vs H Q E h => ?_) (fun cdv A outer s H vs Q E hr h => ?_)
  · obtain ⟨d, width, rfl, _⟩ := h
    rfl
  · obtain ⟨d, width, rfl, hs, w0, w1, q⟩ := h
    refine ⟨_, (pss_cons (ps_set (i := 2) sc__law_set.nd rfl (.inl rfl) (pe_own C__law_take hr (by omega) (by rfl) (pa_cons (pv 0) (pa_cons pe_int pa_nil))))
      (pss_cons (ps_if (pt_cmpR op_eq (pv 2) pe_int (nomark _)) (pss_one (ps_ret (pe_listRg rfl (by rfl) B.list (prg_1 (by rfl) B.range (pe_op op_add (pv 1) pe_int))))) pss_nil)
      (pss_cons (ps_if (pt_cmpR op_lt (pv 2) pe_int (nomark _)) (pss_one (ps_ret (pe_op op_cat (pe_lst (pa_cons pe_int pa_nil)) (pe_lc (own := [("other", 3)]) (g := gName 3) rfl sc__law_set.nd (pi_range2 (by rfl) B.range (pa_cons pe_int (pa_cons (pe_op op_add (pv 1) pe_int) pa_nil))) (blkOk_by (own := [("other", 3)]) (N := n__law_set) (sc := defScope s__law_set) (by decide +kernel)) (fun _ _ _ _ _ => (pg_name (i := 3) sc__law_set.nd rfl (Or.inl rfl))) (fun _ _ _ _ _ => pts_one (pt_val (pe_own C__law_chance hr (by omega) (by rfl) (pa_cons (pv 0) (pa_cons pe_int pa_nil))))) (fun _ _ _ _ _ => (pv 3)))))) pss_nil)
      (pss_one (ps_ret (pe_own C__law_widths hr (by omega) (by rfl) (pa_cons (pv 0) (pa_cons (pv 1) pa_nil)))))))), ?_⟩
    refine ⟨_, rfl, d, _, rfl, hs, by decide, fun way _ _ => ?_⟩
    refine ⟨_, rfl, rfl, _, rfl, iteD (fun _ => ?_) (fun _ => ?_)⟩
    · refine s_retL (el_listR1 (n := width + 1) (ev_op (ev_var rfl) ev_c rv_I0) (by omega)) fun p H1 np e1 hp => ?_
      refine q p H1 _ np e1 ⟨irange_sorted _, mem_irange.mpr ⟨by omega, by omega⟩, fun x hx => by have := mem_irange.mp hx; omega, by rw [irange_len]; omega⟩ hp
    refine ⟨_, rfl, _, _, rfl, rfl, _, rfl, iteD (fun _ => ?_) (fun _ => ?_)⟩
    · refine ⟨by show 1 ≤ sizeLine; decide, fun p np => ?_⟩
      obtain ⟨H1, hH1, e1, hp⟩ := newH np (.lst [V.int 0])
      rw [hH1]
      refine ⟨_, rfl, _, _, rfl, rfl, 1, width + 1, rfl, by omega, fun Dl hD => lc_range (lo := 1) (n := (width + 1 - 1).toNat)
        (fun i H2 => ∃ ns, Ex H1 H2 ∧ H2 Dl = some (.lst (iv ns)) ∧ ns.Pairwise (· < ·) ∧ (∀ x ∈ ns, 1 ≤ x ∧ x < 1 + (i : Int)) ∧ ns.length ≤ i) ⟨[], Ex.new hD, upd_same, List.Pairwise.nil, (fun x hx => nomatch hx), Nat.le_refl _⟩ ?_ ?_⟩
      · rintro i H2 hi ⟨ns, e2, hD2, up, hb, hl⟩
        refine ⟨rfl, _, rfl, d, _, rfl, hs.ex (e1.trans e2), by decide, fun b => ⟨b, rfl, iteB (fun _ => ?_) (fun _ => ?_)⟩⟩
        · refine ⟨_, rfl, _, hD2, by rw [List.length_map]; exact sz_lt (by omega), ns ++ [1 + (i : Int)], Ex.mut e2 hD, by rw [upd_same]; unfold iv; rw [List.map_append]; rfl, ?_, fun x hx => ?_, by rw [List.length_append, List.length_singleton]; omega⟩
          · rw [List.pairwise_append]
            refine ⟨up, List.pairwise_singleton _ _, fun a ha b hb' => ?_⟩
            have := hb a ha
            rw [List.mem_singleton.mp hb']
            omega
          · rcases List.mem_append.mp hx with hx | hx
            · have := hb x hx; omega
            · rw [List.mem_singleton.mp hx]; omega
        · exact ⟨ns, e2, hD2, up, fun x hx => by have := hb x hx; omega, by omega⟩
      · rintro H2 ⟨ns, e2, hD2, up, hb, hl⟩
        refine ⟨p, Dl, _, _, rfl, rfl, e2 _ _ hp, hD2, sz_of (by rw [List.length_map]; show 1 + _ ≤ _; omega), fun r nr => ?_⟩
        refine q r _ (0 :: ns) (fresh_back (e1.trans e2) nr) ((e1.trans e2).trans (Ex.new nr)) ⟨List.pairwise_cons.mpr ⟨fun x hx => ?_, up⟩, List.mem_cons_self, fun x hx => ?_, ?_⟩ upd_same
        · have := hb x hx; omega
        · rcases List.mem_cons.mp hx with rfl | hx
          · omega
          · have := hb x hx; omega
        · rw [List.length_cons]; omega
    · exact ⟨_, rfl, _, rfl, d, width, rfl, hs, w0, w1, q⟩
end
end M

namespace M
open PySem PySem.Spec PyProof.Rows L2 Evl
section
variable {P : Program} {w : World} {K : PySem.W.Frag} {mg : Str → Option Value} {base : Heap}
def SameV (H : Hp) : Nat → V → V → Prop
  | 0, x, y => ∃ k, x = .int k ∧ y = .int k
  | n + 1, x, y => ∃ a b xs ys, x = .ref a ∧ y = .ref b ∧ H a = some (.lst xs) ∧ H b = some (.lst ys) ∧ xs.length = ys.length ∧ ys.length ≤ 1000 ∧ ∀ i, i < ys.length → SameV H n (xs.getD i .non) (ys.getD i .non)
theorem SameV.ex {H H' : Hp} (e : Ex H H') : ∀ {n : Nat} {x y : V}, SameV H n x y → SameV H' n x y
  | 0, _, _, h => h
  | _ + 1, _, _, ⟨a, b, xs, ys, h1, h2, h3, h4, h5, h6, h7⟩ => ⟨a, b, xs, ys, h1, h2, e _ _ h3, e _ _ h4, h5, h6, fun i hi => SameV.ex e (h7 i hi)⟩
theorem fn_none {k : Nat} {f fd} {ps : List Str} : FnOk P w K mg base CX0 k f fd ps (fun _ _ _ _ => False) := ⟨fun _ _ _ _ h => h.elim, fun _ _ _ _ _ _ _ _ _ _ _ _ _ h => h.elim⟩
abbrev s__law_equal : Stmt := topS 15
abbrev n__law_equal : List Str := ["actual", "due", "k"]
theorem sc__law_equal : FnScope n__law_equal ["actual", "due"] (defScope s__law_equal) := ⟨rfl, rfl, rfl, by decide +kernel, rfl, by decide +kernel, by decide +kernel⟩
def spEq (n : Nat) : Sp := fun vs H Q _ => ∃ x y : V, vs = [x, y] ∧ SameV H n x y ∧ RetV (.bl true) H Q
theorem eq_step {f fd} (D : Dn K mg "_law_equal" s__law_equal ["actual", "due"] f fd) (B : Bl mg) {j : Nat} {sp : Sp} (C__law_equal : Cal P w K mg base CX0 "_law_equal" j ["actual", "due"] sp) (n : Nat)
    (hn : n = 0 ∨ ∃ m, n = m + 1 ∧ ∀ x y H Q E, SameV H m x y → RetV (.bl true) H Q → sp [x, y] H Q E) : FnOk P w K mg base CX0 (j + 1) f fd ["actual", "due"] (spEq n) := by
  refine D.fn.ok sc__law_equal (fun vs H Q E h => ?_) (fun cdv A outer s H vs Q E hr h => ?_)
  · obtain ⟨x, y, rfl, _⟩ := h
    rfl
  · obtain ⟨x, y, rfl, hs, q⟩ := h
    refine ⟨_, (pss_cons (ps_if (pt_cmpR op_isN (pv 1) pe_non (nomark _)) (pss_one (ps_ret (pe_cmpR op_isN (pv 0) pe_non (nomark _)))) pss_nil)
      (pss_cons (ps_if (pt_val (pe_callB (call_isiK (K := K) rfl) (by rfl) B.isinstance bt_isinstance (pa_cons (pv 1) (pa_cons (pe_bltn (v := .ty "str") (by rfl) B.str bt_str rfl) pa_nil)))) (pss_one (ps_ret (pe_and (pe_callB (call_isiK (K := K) rfl) (by rfl) B.isinstance bt_isinstance (pa_cons (pv 0) (pa_cons (pe_bltn (v := .ty "str") (by rfl) B.str bt_str rfl) pa_nil))) (pe_one (pe_cmpR op_eq (pv 0) (pv 1) (nomark _)))))) pss_nil)
      (pss_cons (ps_if (pt_val (pe_callB (call_isiK (K := K) rfl) (by rfl) B.isinstance bt_isinstance (pa_cons (pv 1) (pa_cons (pe_bltn (v := .ty "int") (by rfl) B.int bt_int rfl) pa_nil)))) (pss_one (ps_ret (pe_and (pe_callB (call_isiK (K := K) rfl) (by rfl) B.isinstance bt_isinstance (pa_cons (pv 0) (pa_cons (pe_bltn (v := .ty "int") (by rfl) B.int bt_int rfl) pa_nil))) (pe_and (pe_cmpR op_eq (pe_callB (call_isiK (K := K) rfl) (by rfl) B.isinstance bt_isinstance (pa_cons (pv 0) (pa_cons (pe_bltn (v := .ty "bool") (by rfl) B.bool bt_bool rfl) pa_nil))) (pe_callB (call_isiK (K := K) rfl) (by rfl) B.isinstance bt_isinstance (pa_cons (pv 1) (pa_cons (pe_bltn (v := .ty "bool") (by rfl) B.bool bt_bool rfl) pa_nil))) (nomark _)) (pe_one (pe_cmpR op_eq (pv 0) (pv 1) (nomark _))))))) pss_nil)
      (pss_cons (ps_if (PW.pt (pw_or (pt_cmpR op_ne (pe_callB (call_isiK (K := K) rfl) (by rfl) B.isinstance bt_isinstance (pa_cons (pv 0) (pa_cons (pe_bltn (v := .ty "tuple") (by rfl) B.tuple bt_tuple rfl) pa_nil))) (pe_callB (call_isiK (K := K) rfl) (by rfl) B.isinstance bt_isinstance (pa_cons (pv 1) (pa_cons (pe_bltn (v := .ty "tuple") (by rfl) B.tuple bt_tuple rfl) pa_nil))) (nomark _)) (pw_or1 (pt_cmpR op_ne (pe_callB (call_isiK (K := K) rfl) (by rfl) B.isinstance bt_isinstance (pa_cons (pv 0) (pa_cons (pe_bltn (v := .ty "list") (by rfl) B.list bt_list rfl) pa_nil))) (pe_callB (call_isiK (K := K) rfl) (by rfl) B.isinstance bt_isinstance (pa_cons (pv 1) (pa_cons (pe_bltn (v := .ty "list") (by rfl) B.list bt_list rfl) pa_nil))) (nomark _))))) (pss_one (ps_ret pe_bl)) pss_nil)
      (pss_one (ps_ret (pe_and (pe_cmpR op_eq (pe_callB (call_len_seqK (K := K) rfl) (by rfl) B.len bt_len (pa_cons (pv 0) pa_nil)) (pe_callB (call_len_seqK (K := K) rfl) (by rfl) B.len bt_len (pa_cons (pv 1) pa_nil)) (nomark _)) (pe_one (pe_cmpR (op_notIn_seqK (K := K) rfl) pe_bl (pe_lc (own := [("k", 2)]) (g := gName 2) (tt := tYes) rfl sc__law_equal.nd (pi_range1 (by rfl) B.range (pa_cons (pe_callB (call_len_seqK (K := K) rfl) (by rfl) B.len bt_len (pa_cons (pv 1) pa_nil)) pa_nil)) (blkOk_by (own := [("k", 2)]) (N := n__law_equal) (sc := defScope s__law_equal) (by decide +kernel)) (fun _ _ _ _ _ => (pg_name (i := 2) sc__law_equal.nd rfl (Or.inl rfl))) (fun _ _ _ _ _ => pts_nil) (fun _ _ _ _ _ => (pe_own C__law_equal hr (by omega) (by rfl) (pa_cons (pe_ix (ix_listK (K := K) rfl) (pv 0) (pv 2) (fun _ _ => rfl)) (pa_cons (pe_ix (ix_listK (K := K) rfl) (pv 1) (pv 2) (fun _ _ => rfl)) pa_nil))))) (by rfl)))))))))), ?_⟩
    rcases hn with rfl | ⟨m, rfl, hsp⟩
    · obtain ⟨k, rfl, rfl⟩ := hs
      refine q_when (b := false) (et_is (et_test (ev_op (ev_var rfl) ev_c rv_isN)) rfl) (fun z => nomatch z) fun _ H1 e1 => ?_
      refine q_when (b := false) (et_B (ev_isi (ev_var rfl) (.int k) kb_int_str)) (fun z => nomatch z) fun _ H2 e2 => ?_
      refine q_when (b := true) (et_B (ev_isi (ev_var rfl) (.int k) kb_int_int)) (fun _ H3 e3 => ?_) (fun z => nomatch z)
      refine s_ret (ev_is (ev_andV (ev_isi (ev_var rfl) (.int k) kb_int_int) fun _ => ev_andV (ev_op (ev_isi (ev_var rfl) (.int k) kb_int_bool) (ev_isi (ev_var rfl) (.int k) kb_int_bool) (rv_eq rfl)) fun _ => ev_op (ev_var rfl) (ev_var rfl) (rv_eq rfl)) (by simp)) fun H4 e4 => q H4 (e1.trans (e2.trans (e3.trans e4)))
    · obtain ⟨a, b, xs, ys, rfl, rfl, ha, hb, hl, hz, hi⟩ := hs
      refine q_when (b := false) (et_is (et_test (ev_op (ev_var rfl) ev_c rv_isN)) rfl) (fun z => nomatch z) fun _ H1 e1 => ?_
      refine q_when (b := false) (et_B (ev_isi (ev_var rfl) (.lst (e1 _ _ hb)) kb_list_str)) (fun z => nomatch z) fun _ H2 e2 => ?_
      refine q_when (b := false) (et_B (ev_isi (ev_var rfl) (.lst (e2 _ _ (e1 _ _ hb))) kb_list_int)) (fun z => nomatch z) fun _ H3 e3 => ?_
      have ha3 := e3 _ _ (e2 _ _ (e1 _ _ ha))
      have hb3 := e3 _ _ (e2 _ _ (e1 _ _ hb))
      refine q_when (b := false) (et_is (et_or (et_test (ev_op (ev_isi (ev_var rfl) (.lst ha3) kb_list_tuple) (ev_isi (ev_var rfl) (.lst hb3) kb_list_tuple) (rv_ne rfl))) fun _ => et_test (ev_op (ev_isi (ev_var rfl) (.lst ha3) kb_list_list) (ev_isi (ev_var rfl) (.lst hb3) kb_list_list) (rv_ne rfl))) (by simp))
        (fun z => nomatch z) fun _ H4 e4 => ?_
      have ha4 := e4 _ _ ha3
      have hb4 := e4 _ _ hb3
      have e04 : Ex H H4 := e1.trans (e2.trans (e3.trans e4))
      refine s_ret (ev_is (ev_andV (ev_op (ev_len (ev_var rfl) (sq_of ha4)) (ev_len (ev_var rfl) (sq_of hb4)) (rv_eq rfl)) fun _ => ev_opL ev_c (el_mapR1 (n := (ys.length : Int)) (fun _ => V.bl true) (ea_cons (ev_len (ev_var rfl) (sq_of hb4)) ea_nil) (by omega)
        (fun i hi' H5 e5 => ev_own (ea_cons (ev_op (ev_var rfl) (ev_var rfl) (rv_ixL (sq_of (e5 _ _ ha4)) (atI_nat (getD_at (by omega) V.non)))) (ea_cons (ev_op (ev_var rfl) (ev_var rfl) (rv_ixL (sq_of (e5 _ _ hb4)) (atI_nat (getD_at (by omega) V.non)))) ea_nil))
          (fun H6 e6 Q6 q6 E6 => hsp _ _ H6 Q6 E6 ((hi i (by omega)).ex (e04.trans (e5.trans e6))) q6))) fun p H7 hp _ => rv_niL (sq_of hp) rfl ?_) ?_) fun H8 e8 => q H8 (e04.trans e8)
      · rw [List.all_map, List.all_eq_true]; intro _ _; rfl
      · have e : inV (V.bl false) ((List.range ((ys.length : Nat) : Int).toNat).map fun _ => V.bl true) = false := by
          unfold inV
          rw [List.any_map, List.any_eq_false]
          intro _ _
          simp [eqV]
        rw [e, hl]
        simp
theorem ok_eq {f fd} (D : Dn K mg "_law_equal" s__law_equal ["actual", "due"] f fd) (B : Bl mg) : ∀ n : Nat, FnOk P w K mg base CX0 (n + 1) f fd ["actual", "due"] (spEq n)
  | 0 => eq_step D B (j := 0) (D.cal fn_none) 0 (.inl rfl)
  | n + 1 => eq_step D B (D.cal (ok_eq D B n)) (n + 1) (.inr ⟨n, rfl, fun x y H Q E h q => ⟨x, y, rfl, h, q⟩⟩)
end
end M

namespace M
open PySem PySem.Spec PyProof.Rows L2 Evl
section
variable {P : Program} {w : World} {K : PySem.W.Frag} {mg : Str → Option Value} {base : Heap}
abbrev refs (ps : List (Addr × List Int)) : List V := ps.map fun p => V.ref p.1
abbrev s__law_asked : Stmt := topS 21
abbrev n__law_asked : List Str := ["width", "sets", "several", "least", "border", "first", "second", "out", "passed", "widths"]
theorem sc__law_asked : FnScope n__law_asked ["width", "sets", "several", "least", "border"] (defScope s__law_asked) := ⟨rfl, rfl, rfl, by decide +kernel, rfl, by decide +kernel, by decide +kernel⟩
def spAsked (K : PySem.W.Frag) : Sp := fun vs H Q _ => ∃ (width : Int) (sa sv a1 a2 : Addr) (ws us : List Int) (ps : List (Addr × List Int)) (least border : Int), vs = [.int width, .ref sa, .ref sv, .int least, .int border] ∧
  H sa = some (.lst [.ref a1, .ref a2]) ∧ H a1 = some (.lst (iv ws)) ∧ H a2 = some (.lst (iv us)) ∧ WSet width ws ∧ WSet width us ∧ H sv = some (.lst (refs ps)) ∧ (∀ p ∈ ps, H p.1 = some (.lst (iv p.2)) ∧ WSet width p.2) ∧ 0 < ps.length ∧ ps.length ≤ 20 ∧
  0 ≤ width ∧ width ≤ 40 ∧ 0 ≤ border ∧ border ≤ 20 ∧
  ∀ (t o pa : Addr) (rs qs : List (Addr × List Int)) (x1 x2 : List Int) (H' : Hp), Ex H H' → H' t = some (.tup [.ref o, .ref pa]) → H' o = some (.lst (refs rs)) → H' pa = some (.lst (refs qs)) →
    (∀ p ∈ rs, H' p.1 = some (.lst (iv p.2)) ∧ H p.1 = none) → (∀ p ∈ qs, H' p.1 = some (.lst (iv p.2))) → (rs.map (·.1)).Nodup → (∀ r ∈ rs, ∀ q ∈ qs, q.1 ≠ r.1) → (∀ r ∈ rs, o ≠ r.1 ∧ pa ≠ r.1) →
    IsUnion ws us x1 → IsUnion ws ws x2 →
    rs.map (·.2) = [rowW width ws us, rowW width us ws, rowW width ws ws, x1, x2, frameW width ws least, capW ws least, padW width ws border, ffW width (ps.map fun p => lastI p.2), ffW width [lastI ws, lastI us]] →
    qs.map (·.2) = ws :: us :: ps.map (·.2) → Q (.ref t) H'
theorem ok_asked {f fd} (D : Dn K mg "_law_asked" s__law_asked ["width", "sets", "several", "least", "border"] f fd) (B : Bl mg)
    (C_row_widths : Cal P w K mg base CX0 "row_widths" 1 ["width", "first", "second"] (spRow K)) (C_union_widths : Cal P w K mg base CX0 "union_widths" 1 ["first", "second"] (spUnion K))
    (C_frame_widths : Cal P w K mg base CX0 "frame_widths" 1 ["width", "widths", "least"] (spFrame K)) (C_cap_widths : Cal P w K mg base CX0 "cap_widths" 1 ["widths", "most"] (spCap K))
    (C_pad_widths : Cal P w K mg base CX0 "pad_widths" 1 ["width", "widths", "border"] (spPad K)) (C_first_fit_widths : Cal P w K mg base CX0 "first_fit_widths" 1 ["width", "several"] (spFf K)) :
    FnOk P w K mg base CX0 2 f fd ["width", "sets", "several", "least", "border"] (spAsked K) := by
  refine D.fn.ok sc__law_asked (fun vs H Q E h => ?_) (fun cdv A outer s H vs Q E hr h => ?_)
  · obtain ⟨width, sa, sv, a1, a2, ws, us, ps, least, border, rfl, _⟩ := h
    rfl
  · obtain ⟨width, sa, sv, a1, a2, ws, us, ps, least, border, rfl, hsa, h1, h2, g1, g2, hsv, hps, l0, l1, w0, w1, b0, b1, q⟩ := h
    refine ⟨_, (pss_cons (ps_set (i := 5) sc__law_asked.nd rfl (.inl rfl) (pe_callTy (call_list_ofK (K := K) rfl) (by rfl) B.list bt_list (pa_cons (pe_ix (ix_listK (K := K) rfl) (pv 1) pe_int (fun _ _ => rfl)) pa_nil)))
      (pss_cons (ps_set (i := 6) sc__law_asked.nd rfl (.inl rfl) (pe_callTy (call_list_ofK (K := K) rfl) (by rfl) B.list bt_list (pa_cons (pe_ix (ix_listK (K := K) rfl) (pv 1) pe_int (fun _ _ => rfl)) pa_nil)))
      (pss_cons (ps_set (i := 7) sc__law_asked.nd rfl (.inl rfl) (pe_lst (pa_cons (pe_own C_row_widths hr (by omega) (by rfl) (pa_cons (pv 0) (pa_cons (pv 5) (pa_cons (pv 6) pa_nil)))) (pa_cons (pe_own C_row_widths hr (by omega) (by rfl) (pa_cons (pv 0) (pa_cons (pv 6) (pa_cons (pv 5) pa_nil)))) (pa_cons (pe_own C_row_widths hr (by omega) (by rfl) (pa_cons (pv 0) (pa_cons (pv 5) (pa_cons (pv 5) pa_nil)))) pa_nil)))))
      (pss_cons (ps_set (i := 7) sc__law_asked.nd rfl (.inl rfl) (pe_op op_cat (pv 7) (pe_lst (pa_cons (pe_own C_union_widths hr (by omega) (by rfl) (pa_cons (pv 5) (pa_cons (pv 6) pa_nil))) (pa_cons (pe_own C_union_widths hr (by omega) (by rfl) (pa_cons (pv 5) (pa_cons (pv 5) pa_nil))) (pa_cons (pe_own C_frame_widths hr (by omega) (by rfl) (pa_cons (pv 0) (pa_cons (pv 5) (pa_cons (pv 3) pa_nil)))) pa_nil))))))
      (pss_cons (ps_set (i := 7) sc__law_asked.nd rfl (.inl rfl) (pe_op op_cat (pv 7) (pe_lst (pa_cons (pe_own C_cap_widths hr (by omega) (by rfl) (pa_cons (pv 5) (pa_cons (pv 3) pa_nil))) (pa_cons (pe_own C_pad_widths hr (by omega) (by rfl) (pa_cons (pv 0) (pa_cons (pv 5) (pa_cons (pv 4) pa_nil)))) pa_nil)))))
      (pss_cons (ps_setLc (i := 8) (own := [("widths", 9)]) (g := gName 9) (tt := tYes) (by rfl) sc__law_asked.nd rfl rfl (sw_true rfl rfl rfl (by decide +kernel)) (pi_listK (K := K) rfl (pv 2)) (blkOk_by (own := [("widths", 9)]) (N := n__law_asked) (sc := defScope s__law_asked) (by decide +kernel)) (fun _ _ _ _ _ => (pg_name (i := 9) sc__law_asked.nd rfl (Or.inl rfl))) (fun _ _ _ _ _ => pts_nil) (fun _ _ _ _ _ => (pe_callTy (call_list_ofK (K := K) rfl) (by rfl) B.list bt_list (pa_cons (pv 9) pa_nil))))
      (pss_cons (ps_set (i := 7) sc__law_asked.nd rfl (.inl rfl) (pe_op op_cat (pv 7) (pe_lst (pa_cons (pe_own C_first_fit_widths hr (by omega) (by rfl) (pa_cons (pv 0) (pa_cons (pv 8) pa_nil))) (pa_cons (pe_own C_first_fit_widths hr (by omega) (by rfl) (pa_cons (pv 0) (pa_cons (pe_lst (pa_cons (pv 5) (pa_cons (pv 6) pa_nil))) pa_nil))) pa_nil)))))
      (pss_one (ps_ret (pe_tup (pa_cons (pv 7) (pa_cons (pe_op op_cat (pe_lst (pa_cons (pv 5) (pa_cons (pv 6) pa_nil))) (pv 8)) pa_nil)))))))))))), ?_⟩
    have m1 := g1.len
    have m2 := g2.len
    -- first, second
    refine q_asgL (el_list (ev_op (ev_var rfl) ev_c (rv_ixL (sq_of hsa) (atI_nat (j := 0) rfl))) (sq_of h1)) fun x H1 nx e1 hx => ?_
    refine q_asgL (el_list (ev_op (ev_var rfl) ev_c (rv_ixL (sq_of (e1 _ _ hsa)) (atI_nat (j := 1) rfl))) (sq_of (e1 _ _ h2))) fun y H2 ny e2 hy => ?_
    have N2 := (Nw.nil.add nx e1 hx).add ny e2 hy
    have hx2 := e2 _ _ hx
    -- out = [row_widths ..]
    refine ⟨_, rfl, _, rfl, _, rfl, width, x, y, ws, us, rfl, sq_of hx2, sq_of hy, by omega, by omega, fun r0 H3 n3 e3 hr0 => ?_⟩
    have N3 := N2.add n3 e3 hr0
    have x3 := e3 _ _ hx2
    have y3 := e3 _ _ hy
    refine ⟨_, rfl, _, rfl, _, rfl, width, y, x, us, ws, rfl, sq_of y3, sq_of x3, by omega, by omega, fun r1 H4 n4 e4 hr1 => ?_⟩
    have N4 := N3.add n4 e4 hr1
    have x4 := e4 _ _ x3
    have y4 := e4 _ _ y3
    refine ⟨_, rfl, _, rfl, _, rfl, width, x, x, ws, ws, rfl, sq_of x4, sq_of x4, by omega, by omega, fun r2 H5 n5 e5 hr2 => ?_⟩
    have N5 := N4.add n5 e5 hr2
    have x5 := e5 _ _ x4
    have y5 := e5 _ _ y4
    refine ⟨by show 3 ≤ sizeLine; decide, fun o1 no1 => ?_⟩
    obtain ⟨H6, hH6, e6, ho1⟩ := newH no1 (.lst [V.ref r0, .ref r1, .ref r2])
    rw [hH6]
    have N6 := N5.go e6
    have x6 := e6 _ _ x5
    have y6 := e6 _ _ y5
    -- out = out + [union_widths ..]
    refine ⟨_, rfl, _, rfl, _, rfl, x, y, ws, us, width, rfl, sq_of x6, sq_of y6, g1, g2, w1, fun x1 u1 r3 H7 n7 e7 hr3 => ?_⟩
    have N7 := N6.add n7 e7 hr3
    have x7 := e7 _ _ x6
    refine ⟨_, rfl, _, rfl, x, x, ws, ws, width, rfl, sq_of x7, sq_of x7, g1, g1, w1, fun x2 u2 r4 H8 n8 e8 hr4 => ?_⟩
    have N8 := N7.add n8 e8 hr4
    have x8 := e8 _ _ x7
    refine ⟨_, rfl, _, rfl, _, rfl, width, x, ws, least, rfl, sq_of x8, w0, w1, fun r5 H9 n9 e9 hr5 => ?_⟩
    have N9 := N8.add n9 e9 hr5
    have x9 := e9 _ _ x8
    refine ⟨by show 3 ≤ sizeLine; decide, fun p1 np1 => ?_⟩
    obtain ⟨H10, hH10, e10, hp1⟩ := newH np1 (.lst [V.ref r3, .ref r4, .ref r5])
    rw [hH10]
    have ho1' := e10 _ _ (e9 _ _ (e8 _ _ (e7 _ _ ho1)))
    refine ⟨o1, p1, _, _, rfl, rfl, ho1', hp1, by show 6 ≤ sizeLine; decide, fun o2 no2 => ?_⟩
    obtain ⟨H11, hH11, e11, ho2⟩ := newH no2 (.lst ([V.ref r0, .ref r1, .ref r2] ++ [V.ref r3, .ref r4, .ref r5]))
    rw [hH11]
    have N11 := (N9.go e10).go e11
    have x11 := e11 _ _ (e10 _ _ x9)
    -- out = out + [cap_widths .., pad_widths ..]
    refine ⟨_, rfl, _, rfl, _, rfl, x, ws, least, rfl, sq_of x11, by omega, fun r6 H12 n12 e12 hr6 => ?_⟩
    have N12 := N11.add n12 e12 hr6
    have x12 := e12 _ _ x11
    refine ⟨_, rfl, _, rfl, _, rfl, width, x, ws, border, rfl, sq_of x12, by omega, w0, w1, b0, b1, fun r7 H13 n13 e13 hr7 => ?_⟩
    have N13 := N12.add n13 e13 hr7
    refine ⟨by show 2 ≤ sizeLine; decide, fun p2 np2 => ?_⟩
    obtain ⟨H14, hH14, e14, hp2⟩ := newH np2 (.lst [V.ref r6, .ref r7])
    rw [hH14]
    have ho2' := e14 _ _ (e13 _ _ (e12 _ _ ho2))
    refine ⟨o2, p2, _, _, rfl, rfl, ho2', hp2, by show 8 ≤ sizeLine; decide, fun o3 no3 => ?_⟩
    obtain ⟨H15, hH15, e15, ho3⟩ := newH no3 (.lst (([V.ref r0, .ref r1, .ref r2] ++ [V.ref r3, .ref r4, .ref r5]) ++ [V.ref r6, .ref r7]))
    rw [hH15]
    have N15 := (N13.go e14).go e15
    have hn15 := N15.nd
    generalize hbs : (((((((((([] ++ [(x, ws)]) ++ [(y, us)]) ++ [(r0, rowW width ws us)]) ++ [(r1, rowW width us ws)]) ++ [(r2, rowW width ws ws)]) ++ [(r3, x1)]) ++ [(r4, x2)]) ++ [(r5, frameW width ws least)]) ++ [(r6, capW ws least)]) ++ [(r7, padW width ws border)]) = bs at N15
    -- passed = [list(widths) for widths in several]
    have hsv15 := N15.ex _ _ hsv
    refine ⟨_, rfl, sv, rfl, ⟨_, sq_of hsv15⟩, fun Dl nD => lc_list (K := K) (a := sv) (xs := refs ps)
      (fun i Hk => ∃ qs, Nw H (bs ++ qs) Hk ∧ (∀ p ∈ bs ++ qs, p.1 ≠ Dl) ∧ Ex H15 Hk ∧ Hk Dl = some (.lst (refs qs)) ∧ qs.map (·.2) = (ps.take i).map (·.2)) ?_ ?_ ?_ ?_⟩
    · exact ⟨[], by rw [List.append_nil]; exact N15.go (Ex.new nD), fun p hp => ne_of_none (N15.at_ p (by rwa [List.append_nil] at hp)) nD, Ex.new nD, upd_same, rfl⟩
    · rintro i Hk _ ⟨qs, _, _, e, _⟩
      exact sq_of (e _ _ hsv15)
    · rintro i v Hk hi ⟨qs, N, nn, e, hD, eq⟩
      have hi' : i < ps.length := by have := (List.getElem?_eq_some_iff.mp hi).1; rwa [List.length_map] at this
      obtain ⟨pp, hpp, rfl⟩ : ∃ pp, ps[i]? = some pp ∧ v = V.ref pp.1 := by
        rw [List.getElem?_map] at hi
        cases hq : ps[i]? with
        | none => rw [hq] at hi; cases hi
        | some pp => rw [hq] at hi; exact ⟨pp, rfl, (Option.some.inj hi).symm⟩
      have hm : pp ∈ ps := List.mem_of_getElem? hpp
      have hv := N.ex _ _ (hps pp hm).1
      have hql : qs.length = i := by
        have := congrArg List.length eq
        rw [List.length_map, List.length_map, List.length_take] at this
        omega
      refine ⟨rfl, ?_⟩
      unfold tYes
      refine iteT ?_
      refine ⟨_, rfl, pp.1, _, rfl, .inl (sq_of hv), fun z nz => ?_⟩
      have hzD : Dl ≠ z := ne_of_none hD nz
      have N' := N.add nz (Ex.new nz) (xs := pp.2) upd_same
      rw [List.append_assoc] at N'
      have nn' : ∀ p ∈ bs ++ (qs ++ [(z, pp.2)]), p.1 ≠ Dl := fun p hp => by
        rw [← List.append_assoc] at hp
        rcases List.mem_append.mp hp with hp | hp
        · exact nn p hp
        · rw [List.mem_singleton.mp hp]; exact hzD.symm
      refine ⟨refs qs, by rw [upd_ne hzD]; exact hD, by rw [List.length_map]; exact sz_lt (by omega), qs ++ [(z, pp.2)], N'.mut (fresh_back N15.ex nD) nn', nn', Ex.mut (e.trans (Ex.new nz)) nD, ?_, ?_⟩
      · rw [upd_same]
        unfold refs
        rw [List.map_append]
        rfl
      · rw [List.map_append, eq, List.take_add_one, hpp]
        simp
    · rintro Hk ⟨qs, N, nn, e, hD, eq⟩
      rw [List.length_map, List.take_length] at eq
      have ho3' := e _ _ ho3
      have hql : qs.length = ps.length := by
        have := congrArg List.length eq
        rwa [List.length_map, List.length_map] at this
      have hxk : Hk x = some (.lst (iv ws)) := N.at_ (x, ws) (List.mem_append_left _ (by rw [← hbs]; simp))
      have hyk : Hk y = some (.lst (iv us)) := N.at_ (y, us) (List.mem_append_left _ (by rw [← hbs]; simp))
      -- out = out + [first_fit_widths ..]
      refine ⟨_, rfl, _, rfl, _, rfl, width, Dl, qs.map (·.1), qs.map (·.2), rfl, sq_of (by rw [hD]; unfold refs; rw [List.map_map]; rfl), ?_, by rw [List.length_map]; omega, by rw [List.length_map]; omega, ?_, w0, w1, fun r8 H16 n16 e16 hr8 => ?_⟩
      · exact LLs.of fun p hp => sq_of (N.at_ p (List.mem_append_right _ hp))
      · rw [eq]
        intro zs hz
        obtain ⟨p, hp, rfl⟩ := List.mem_map.mp hz
        exact List.length_pos_of_mem (hps p hp).2.zero
      have N16 := N.add n16 e16 hr8
      rw [eq, List.map_map] at N16
      have x16 := e16 _ _ hxk
      have y16 := e16 _ _ hyk
      refine ⟨_, rfl, _, rfl, _, rfl, by show 2 ≤ sizeLine; decide, fun l1 nl1 => ?_⟩
      obtain ⟨H17, hH17, e17, hl1⟩ := newH nl1 (.lst [V.ref x, V.ref y])
      rw [hH17]
      refine ⟨width, l1, [x, y], [ws, us], rfl, sq_of hl1, LLs.of (ps := [(x, ws), (y, us)]) fun p hp => ?_, (by show 0 < 2; decide), by show 2 ≤ 64; decide, fun zs hz => ?_, w0, w1, fun r9 H18 n18 e18 hr9 => ?_⟩
      · rcases List.mem_cons.mp hp with rfl | hp
        · exact sq_of (e17 _ _ x16)
        · rw [List.mem_singleton.mp hp]; exact sq_of (e17 _ _ y16)
      · rcases List.mem_cons.mp hz with rfl | hz
        · exact List.length_pos_of_mem g1.zero
        · rw [List.mem_singleton.mp hz]; exact List.length_pos_of_mem g2.zero
      have N18 := (N16.go e17).add n18 e18 hr9
      refine ⟨by show 2 ≤ sizeLine; decide, fun p3 np3 => ?_⟩
      obtain ⟨H19, hH19, e19, hp3⟩ := newH np3 (.lst [V.ref r8, .ref r9])
      rw [hH19]
      have ho4 := e19 _ _ (e18 _ _ (e17 _ _ (e16 _ _ ho3')))
      refine ⟨o3, p3, _, _, rfl, rfl, ho4, hp3, by show 10 ≤ sizeLine; decide, fun o4 no4 => ?_⟩
      have N19 := N18.go e19
      have no4' := fun (p : Addr × List Int) hp => ne_of_none (N19.at_ p hp) no4
      obtain ⟨H20, hH20, e20, ho5⟩ := newH no4 (.lst ((([V.ref r0, .ref r1, .ref r2] ++ [V.ref r3, .ref r4, .ref r5]) ++ [V.ref r6, .ref r7]) ++ [V.ref r8, .ref r9]))
      rw [hH20]
      have N20 := N19.go e20
      -- return (out, [first, second] + passed)
      refine ⟨_, rfl, _, rfl, _, rfl, by show 2 ≤ sizeLine; decide, fun l2 nl2 => ?_⟩
      obtain ⟨H21, hH21, e21, hl2⟩ := newH nl2 (.lst [V.ref x, V.ref y])
      rw [hH21]
      have hD21 := e21 _ _ (e20 _ _ (e19 _ _ (e18 _ _ (e17 _ _ (e16 _ _ hD)))))
      refine ⟨_, rfl, l2, Dl, _, _, rfl, rfl, hl2, hD21, sz_of (by rw [List.length_map]; show 2 + _ ≤ _; omega), fun pa npa => ?_⟩
      have N21 := N20.go e21
      have npa' := fun (p : Addr × List Int) hp => ne_of_none (N21.at_ p hp) npa
      obtain ⟨H22, hH22, e22, hpa⟩ := newH npa (.lst ([V.ref x, V.ref y] ++ refs qs))
      rw [hH22]
      refine ⟨by show 2 ≤ sizeLine; decide, fun t nt => ?_⟩
      obtain ⟨H23, hH23, e23, ht⟩ := newH nt (.tup [V.ref o4, .ref pa])
      rw [hH23]
      have N23 := (N21.go e22).go e23
      have hperm : ((x, ws) :: (y, us) :: qs ++ [(r0, rowW width ws us), (r1, rowW width us ws), (r2, rowW width ws ws), (r3, x1), (r4, x2), (r5, frameW width ws least), (r6, capW ws least), (r7, padW width ws border), (r8, ffW width (ps.map (lastI ∘ fun p => p.2))), (r9, ffW width ([ws, us].map lastI))]).Perm
          (bs ++ qs ++ [(r8, ffW width (ps.map (lastI ∘ fun p => p.2)))] ++ [(r9, ffW width ([ws, us].map lastI))]) := by
        rw [← hbs]
        refine .cons _ (.cons _ ?_)
        have := (List.perm_append_comm (l₁ := qs) (l₂ := [(r0, rowW width ws us), (r1, rowW width us ws), (r2, rowW width ws ws), (r3, x1), (r4, x2), (r5, frameW width ws least), (r6, capW ws least), (r7, padW width ws border)])).append_right [(r8, ffW width (ps.map (lastI ∘ fun p => p.2))), (r9, ffW width ([ws, us].map lastI))]
        simpa [List.append_assoc] using this
      have NF := N23.perm hperm
      obtain ⟨_, nd2, nd3⟩ := List.nodup_append.mp (by have := NF.nd; rwa [List.map_append] at this)
      generalize hrs : [(r0, rowW width ws us), (r1, rowW width us ws), (r2, rowW width ws ws), (r3, x1), (r4, x2), (r5, frameW width ws least), (r6, capW ws least), (r7, padW width ws border), (r8, ffW width (ps.map (lastI ∘ fun p => p.2))), (r9, ffW width ([ws, us].map lastI))] = rs at NF nd2 nd3
      have hrf : refs rs = ((([V.ref r0, .ref r1, .ref r2] ++ [V.ref r3, .ref r4, .ref r5]) ++ [V.ref r6, .ref r7]) ++ [V.ref r8, .ref r9]) := by rw [← hrs]; rfl
      have hrv : rs.map (·.2) = [rowW width ws us, rowW width us ws, rowW width ws ws, x1, x2, frameW width ws least, capW ws least, padW width ws border, ffW width (ps.map fun p => lastI p.2), ffW width [lastI ws, lastI us]] := by
        rw [← hrs]; simp only [List.map_cons, List.map_nil, Function.comp_def]
      have hro : ∀ r ∈ rs, o4 ≠ r.1 ∧ pa ≠ r.1 := fun r hr => by
        rw [← hrs] at hr
        exact ⟨(no4' r (hperm.mem_iff.mp (List.mem_append_right _ hr))).symm, (npa' r (hperm.mem_iff.mp (List.mem_append_right _ hr))).symm⟩
      rw [← hrf] at ho5
      refine q t o4 pa rs ((x, ws) :: (y, us) :: qs) x1 x2 H23 NF.ex ht
        (e23 _ _ (e22 _ _ (e21 _ _ ho5))) (e23 _ _ hpa) (fun p hp => ⟨NF.at_ p (List.mem_append_right _ hp), NF.nw p (List.mem_append_right _ hp)⟩) (fun p hp => NF.at_ p (List.mem_append_left _ hp)) nd2
        (fun r hr q hq => nd3 _ (List.mem_map.mpr ⟨q, hq, rfl⟩) _ (List.mem_map.mpr ⟨r, hr, rfl⟩)) hro u1 u2 hrv ?_
      rw [List.map_cons, List.map_cons, eq]
end
end M

namespace M
open PySem PySem.Spec PyProof.Rows L2 Evl
/-! ### what the sets are -/
theorem sorted_ext : ∀ {xs ys : List Int}, xs.Pairwise (· < ·) → ys.Pairwise (· < ·) → (∀ k, k ∈ xs ↔ k ∈ ys) → xs = ys
  | [], [], _, _, _ => rfl
  | [], y :: ys, _, _, h => nomatch (h y).mpr List.mem_cons_self
  | x :: xs, [], _, _, h => nomatch (h x).mp List.mem_cons_self
  | x :: xs, y :: ys, h1, h2, h => by
    obtain ⟨a1, a2⟩ := List.pairwise_cons.mp h1
    obtain ⟨b1, b2⟩ := List.pairwise_cons.mp h2
    have e : x = y := by
      have p := (h x).mp List.mem_cons_self
      have q := (h y).mpr List.mem_cons_self
      rcases List.mem_cons.mp p with p | p
      · exact p
      · rcases List.mem_cons.mp q with q | q
        · exact q.symm
        · have := b1 x p
          have := a1 y q
          omega
    subst e
    rw [sorted_ext a2 b2 fun k => ?_]
    constructor
    · intro hk
      have := a1 k hk
      rcases List.mem_cons.mp ((h k).mp (List.mem_cons_of_mem _ hk)) with e | e
      · omega
      · exact e
    · intro hk
      have := b1 k hk
      rcases List.mem_cons.mp ((h k).mpr (List.mem_cons_of_mem _ hk)) with e | e
      · omega
      · exact e
theorem downW_eq {ws : List Int} {x k : Int} (h : x ∈ ws) (h1 : x ≤ k) (h2 : ∀ y ∈ ws, y ≤ k → y ≤ x) : downW ws k = x := by
  unfold downW
  exact max_is (List.mem_filter.mpr ⟨h, decide_eq_true h1⟩) fun y hy => by
    obtain ⟨a, b⟩ := List.mem_filter.mp hy
    exact h2 y a (of_decide_eq_true b)
theorem downW_self {ws : List Int} {x : Int} (h : x ∈ ws) : downW ws x = x := downW_eq h (Int.le_refl x) fun _ _ h => h
theorem getD_lt {ws : List Int} (up : ws.Pairwise (· < ·)) {i j : Nat} (hij : i < j) (hj : j < ws.length) : ws.getD i 0 < ws.getD j 0 := by
  have := List.pairwise_iff_getElem.mp up i j (by omega) hj hij
  rw [List.getD_eq_getElem?_getD, List.getD_eq_getElem?_getD, List.getElem?_eq_getElem hj, List.getElem?_eq_getElem (by omega : i < ws.length)]
  exact this
theorem getD_mem {ws : List Int} {i : Nat} (h : i < ws.length) : ws.getD i 0 ∈ ws := List.mem_of_getElem? (getD_at h 0)
theorem mem_getD {ws : List Int} {x : Int} (h : x ∈ ws) : ∃ i, i < ws.length ∧ ws.getD i 0 = x := by
  obtain ⟨i, hi, e⟩ := List.getElem_of_mem h
  exact ⟨i, hi, by rw [List.getD_eq_getElem?_getD, List.getElem?_eq_getElem hi]; exact e⟩
theorem filter_up {n : Int} (p : Int → Bool) : ((irange n).filter p).Pairwise (· < ·) := (irange_sorted n).filter p
theorem mem_seg {width : Int} {ws us : List Int} {i : Nat} {k : Int} : k ∈ segW width ws us i ↔ ∃ m ∈ us, k = ws.getD i 0 + m ∧ k < (if i + 1 < ws.length then ws.getD (i + 1) 0 else width + 1) := by
  unfold segW
  rw [List.mem_map]
  constructor
  · rintro ⟨m, hm, rfl⟩
    obtain ⟨a, b⟩ := List.mem_filter.mp hm
    exact ⟨m, a, rfl, of_decide_eq_true b⟩
  · rintro ⟨m, hm, rfl, h⟩
    exact ⟨m, List.mem_filter.mpr ⟨hm, decide_eq_true h⟩, rfl⟩
theorem row_up {width : Int} {ws us : List Int} (g1 : WSet width ws) (g2 : WSet width us) : (rowW width ws us).Pairwise (· < ·) := by
  unfold rowW
  rw [List.pairwise_flatMap]
  refine ⟨fun i _ => ?_, ?_⟩
  · unfold segW
    rw [List.pairwise_map]
    exact (g2.up.filter _).imp fun h => by omega
  · refine List.Pairwise.imp_of_mem (fun {i j} hi hj hij x hx y hy => ?_) List.pairwise_lt_range
    have hi' := List.mem_range.mp hi
    have hj' := List.mem_range.mp hj
    obtain ⟨m, _, _, h1⟩ := mem_seg.mp hx
    obtain ⟨m', hm', rfl, _⟩ := mem_seg.mp hy
    have := (g2.bd m' hm').1
    have hlt : i + 1 < ws.length := by omega
    rw [if_pos hlt] at h1
    by_cases e : i + 1 = j
    · subst e; omega
    · have := getD_lt g1.up (i := i + 1) (j := j) (by omega) hj'
      omega
theorem row_eq {width : Int} {ws us : List Int} (w0 : 0 ≤ width) (g1 : WSet width ws) (g2 : WSet width us) : rowW width ws us = lrowW width ws us := by
  refine sorted_ext (row_up g1 g2) (filter_up _) fun k => ?_
  unfold rowW lrowW
  rw [List.mem_flatMap, List.mem_filter, mem_irange, decide_eq_true_eq]
  constructor
  · rintro ⟨i, hi, hk⟩
    have hi' := List.mem_range.mp hi
    obtain ⟨m, hm, rfl, h1⟩ := mem_seg.mp hk
    have hw := g1.bd _ (getD_mem hi')
    have hm0 := g2.bd m hm
    have hd : downW ws (ws.getD i 0 + m) = ws.getD i 0 := downW_eq (getD_mem hi') (by omega) fun y hy hle => by
      obtain ⟨j, hj, rfl⟩ := mem_getD hy
      by_cases hji : j ≤ i
      · by_cases e : j = i
        · rw [e]; exact Int.le_refl _
        · have := getD_lt g1.up (i := j) (j := i) (by omega) hi'; omega
      · have hlt : i + 1 < ws.length := by omega
        rw [if_pos hlt] at h1
        by_cases e : j = i + 1
        · rw [e] at hle; omega
        · have := getD_lt g1.up (i := i + 1) (j := j) (by omega) hj; omega
    have hle : ws.getD i 0 + m < width + 1 := by
      by_cases hlt : i + 1 < ws.length
      · rw [if_pos hlt] at h1
        have := g1.bd _ (getD_mem hlt)
        omega
      · rw [if_neg hlt] at h1; exact h1
    refine ⟨⟨by omega, hle⟩, ?_⟩
    rw [hd]
    have e : ws.getD i 0 + m - ws.getD i 0 = m := by omega
    rw [e, downW_self hm]
  · rintro ⟨⟨k0, k1⟩, h⟩
    obtain ⟨d1, d2, d3⟩ := downW_spec (o := k) g1.zero k0
    obtain ⟨f1, f2, f3⟩ := downW_spec (o := k - downW ws k) g2.zero (by omega)
    obtain ⟨i, hi, e⟩ := mem_getD d1
    refine ⟨i, List.mem_range.mpr hi, mem_seg.mpr ⟨_, f1, by rw [e]; exact h.symm, ?_⟩⟩
    by_cases hlt : i + 1 < ws.length
    · rw [if_pos hlt]
      have h1 := getD_lt g1.up (i := i) (j := i + 1) (by omega) hlt
      by_cases hle : ws.getD (i + 1) 0 ≤ k
      · have := d3 _ (getD_mem hlt) hle
        omega
      · omega
    · rw [if_neg hlt]; exact k1
def bothW (width : Int) (ws us : List Int) : List Int := (irange (width + 1)).filter fun o => decide (max (downW ws o) (downW us o) = o)
theorem both_eq {width : Int} {ws us xs : List Int} (g1 : WSet width ws) (g2 : WSet width us) (h : IsUnion ws us xs) : xs = bothW width ws us := by
  refine sorted_ext h.1 (filter_up _) fun k => ?_
  unfold bothW
  rw [h.2, List.mem_filter, mem_irange, decide_eq_true_eq]
  constructor
  · intro hk
    have hb : 0 ≤ k ∧ k < width + 1 := by
      rcases hk with hk | hk
      · have := g1.bd k hk; omega
      · have := g2.bd k hk; omega
    refine ⟨hb, ?_⟩
    obtain ⟨_, d2, _⟩ := downW_spec (o := k) g1.zero hb.1
    obtain ⟨_, f2, _⟩ := downW_spec (o := k) g2.zero hb.1
    rcases hk with hk | hk
    · rw [downW_self hk]; omega
    · rw [downW_self hk]; omega
  · rintro ⟨⟨k0, k1⟩, h⟩
    obtain ⟨d1, _, _⟩ := downW_spec (o := k) g1.zero k0
    obtain ⟨f1, _, _⟩ := downW_spec (o := k) g2.zero k0
    by_cases e : downW ws k = k
    · rw [e] at d1; exact .inl d1
    · have : downW us k = k := by omega
      rw [this] at f1
      exact .inr f1
theorem self_eq {width : Int} {ws xs : List Int} (g1 : WSet width ws) (h : IsUnion ws ws xs) : xs = ws :=
  sorted_ext h.1 g1.up fun k => by rw [h.2]; exact or_self_iff
def lframeW (width : Int) (ws : List Int) (least : Int) : List Int := (irange (width + 1)).filter fun o => decide (max (downW ws o) (min o least) = o)
theorem frame_eq {width : Int} {ws : List Int} {least : Int} (g : WSet width ws) : frameW width ws least = lframeW width ws least := by
  unfold frameW lframeW
  refine List.filter_congr fun o ho => ?_
  obtain ⟨o0, o1⟩ := mem_irange.mp ho
  obtain ⟨d1, d2, _⟩ := downW_spec (o := o) g.zero o0
  rw [Bool.eq_iff_iff, Bool.or_eq_true, decide_eq_true_eq, decide_eq_true_eq, decide_eq_true_eq]
  constructor
  · rintro (h | h)
    · omega
    · rw [downW_self h]; omega
  · intro h
    by_cases e : downW ws o = o
    · rw [e] at d1; exact .inr d1
    · exact .inl (by omega)
def lcapW (width : Int) (ws : List Int) (least : Int) : List Int := (irange (width + 1)).filter fun o => decide (downW ws (min o least) = o)
theorem cap_eq {width : Int} {ws : List Int} {least : Int} (h0 : 0 ≤ least) (g : WSet width ws) : capW ws least = lcapW width ws least := by
  refine sorted_ext (g.up.filter _) (filter_up _) fun k => ?_
  unfold capW lcapW
  rw [List.mem_filter, List.mem_filter, mem_irange, decide_eq_true_eq, decide_eq_true_eq]
  constructor
  · rintro ⟨hk, hl⟩
    have := g.bd k hk
    refine ⟨by omega, ?_⟩
    have e : min k least = k := by omega
    rw [e]
    exact downW_self hk
  · rintro ⟨⟨k0, k1⟩, h⟩
    obtain ⟨d1, d2, _⟩ := downW_spec (o := min k least) g.zero (by omega)
    rw [h] at d1 d2
    exact ⟨d1, by omega⟩
theorem pad_eq {width : Int} {ws : List Int} {border : Int} (b0 : 0 ≤ border) (g : WSet width ws) : padW width ws border = lpadW width ws border := by
  refine sorted_ext ?_ (filter_up _) fun k => ?_
  · unfold padW
    rw [List.pairwise_append]
    refine ⟨irange_sorted _, ?_, fun a ha b hb => ?_⟩
    · rw [List.pairwise_map]
      exact (g.up.filter _).imp fun h => by omega
    · have := mem_irange.mp ha
      obtain ⟨m, hm, rfl⟩ := List.mem_map.mp hb
      have := g.bd m (List.mem_filter.mp hm).1
      omega
  · unfold padW lpadW
    rw [List.mem_append, mem_irange, List.mem_map, List.mem_filter, mem_irange, Bool.or_eq_true, decide_eq_true_eq, decide_eq_true_eq]
    constructor
    · rintro (⟨h0, h1⟩ | ⟨m, hm, rfl⟩)
      · exact ⟨by omega, .inl (by omega)⟩
      · obtain ⟨hm, hl⟩ := List.mem_filter.mp hm
        have hl := of_decide_eq_true hl
        have := g.bd m hm
        refine ⟨by omega, .inr ?_⟩
        have e : m + 2 * border - 2 * border = m := by omega
        rw [e, downW_self hm]
    · rintro ⟨⟨h0, h1⟩, h⟩
      by_cases hk : k < 2 * border
      · exact .inl (by omega)
      · rcases h with h | h
        · exact absurd h hk
        · obtain ⟨d1, _, _⟩ := downW_spec (o := k - 2 * border) g.zero (by omega)
          exact .inr ⟨_, List.mem_filter.mpr ⟨d1, decide_eq_true (by omega)⟩, h⟩
theorem down_last {width : Int} {ws : List Int} (g : WSet width ws) : downW ws width = lastI ws := by
  have h0 : 0 < ws.length := List.length_pos_of_mem g.zero
  rw [← getD_last]
  have hm := getD_mem (ws := ws) (i := ws.length - 1) (by omega)
  refine downW_eq hm (g.bd _ hm).2 fun y hy _ => ?_
  obtain ⟨j, hj, rfl⟩ := mem_getD hy
  by_cases e : j = ws.length - 1
  · rw [e]; exact Int.le_refl _
  · exact Int.le_of_lt (getD_lt g.up (by omega) (by omega))
theorem ff_pos {l0 g : Int} {k0 : List Int} (h : g ≤ l0) : ffStep (l0, k0) g = (g, k0 ++ [g]) := if_pos h
theorem ff_neg {l0 g : Int} {k0 : List Int} (h : ¬ g ≤ l0) : ffStep (l0, k0) g = (l0, k0) := if_neg h
theorem ff_least : ∀ (gs : List Int) (l0 : Int) (k0 : List Int) (o : Int), o < (gs.foldl ffStep (l0, k0)).1 ↔ o < l0 ∧ ∀ g ∈ gs, o < g
  | [], l0, k0, o => by simp
  | g :: gs, l0, k0, o => by
    rw [List.foldl_cons]
    by_cases h : g ≤ l0
    · rw [ff_pos h, ff_least gs g _ o, List.forall_mem_cons]
      constructor
      · rintro ⟨a, b⟩; exact ⟨by omega, a, b⟩
      · rintro ⟨_, a, b⟩; exact ⟨a, b⟩
    · rw [ff_neg h, ff_least gs l0 k0 o, List.forall_mem_cons]
      constructor
      · rintro ⟨a, b⟩; exact ⟨a, by omega, b⟩
      · rintro ⟨a, _, b⟩; exact ⟨a, b⟩
theorem ff_kept : ∀ (gs : List Int) (l0 : Int) (k0 : List Int) (o : Int), o ∈ (gs.foldl ffStep (l0, k0)).2 ↔ o ∈ k0 ∨ (o ≤ l0 ∧ (gs.filter fun k => decide (k ≤ o)).head? = some o)
  | [], l0, k0, o => by simp
  | g :: gs, l0, k0, o => by
    rw [List.foldl_cons]
    by_cases h : g ≤ l0
    · rw [ff_pos h, ff_kept gs g _ o, List.mem_append, List.mem_singleton]
      by_cases hg : g ≤ o
      · rw [List.filter_cons_of_pos (by simpa using hg)]
        simp only [List.head?_cons, Option.some.injEq]
        constructor
        · rintro ((a | a) | ⟨a, b⟩)
          · exact .inl a
          · exact .inr ⟨by omega, a.symm⟩
          · exact .inr ⟨by omega, by omega⟩
        · rintro (a | ⟨a, b⟩)
          · exact .inl (.inl a)
          · exact .inl (.inr b.symm)
      · rw [List.filter_cons_of_neg (by simpa using hg)]
        constructor
        · rintro ((a | a) | ⟨a, b⟩)
          · exact .inl a
          · omega
          · exact .inr ⟨by omega, b⟩
        · rintro (a | ⟨a, b⟩)
          · exact .inl (.inl a)
          · exact .inr ⟨by omega, b⟩
    · rw [ff_neg h, ff_kept gs l0 k0 o]
      by_cases hg : g ≤ o
      · constructor
        · rintro (a | ⟨a, b⟩)
          · exact .inl a
          · omega
        · rintro (a | ⟨a, b⟩)
          · exact .inl a
          · omega
      · rw [List.filter_cons_of_neg (by simpa using hg)]
theorem fits_eq {width : Int} {gs : List Int} (h0 : 0 < gs.length) : ffW width gs = lfitsW width gs := by
  unfold ffW lfitsW
  refine List.filter_congr fun o _ => ?_
  rw [Bool.eq_iff_iff, Bool.or_eq_true, decide_eq_true_eq, decide_eq_true_eq, decide_eq_true_eq, ff_least, ff_kept]
  obtain ⟨g, r, rfl⟩ : ∃ g r, gs = g :: r := by
    cases gs with
    | nil => cases h0
    | cons g r => exact ⟨g, r, rfl⟩
  have eg : (g :: r).getD 0 0 = g := rfl
  rw [eg]
  have hlast : lastI (g :: r) ∈ g :: r := by
    rw [← getD_last]
    exact getD_mem (by rw [List.length_cons]; omega)
  generalize hL : lastI (g :: r) = L at hlast
  unfold shownW
  rw [hL]
  cases hf : (g :: r).filter fun k => decide (k ≤ o) with
  | nil =>
    have hall : ∀ x ∈ g :: r, o < x := fun x hx => by
      have := List.filter_eq_nil_iff.mp hf x hx
      rw [decide_eq_true_eq] at this
      omega
    have e : (([] : List Int) ++ [min o L]).getD 0 0 = min o L := rfl
    rw [e]
    have := hall L hlast
    exact ⟨fun _ => by omega, fun _ => .inl ⟨hall g List.mem_cons_self, hall⟩⟩
  | cons x xs =>
    have hx := List.mem_filter.mp (show x ∈ (g :: r).filter fun k => decide (k ≤ o) by rw [hf]; exact List.mem_cons_self)
    have hxo := of_decide_eq_true hx.2
    have e : ((x :: xs) ++ [min o L]).getD 0 0 = x := rfl
    rw [e]
    simp only [List.head?_cons, Option.some.injEq]
    constructor
    · rintro (⟨_, h⟩ | (h | ⟨_, h⟩))
      · have := h x hx.1; omega
      · cases h
      · exact h
    · intro h
      refine .inr (.inr ⟨?_, h⟩)
      by_cases hg : g ≤ o
      · rw [List.filter_cons_of_pos (by simpa using hg)] at hf
        have : g = x := (List.cons.inj hf).1
        omega
      · omega
end M

namespace M
open PySem PySem.Spec PyProof.Rows L2 Evl
section
variable {P : Program} {w : World} {K : PySem.W.Frag} {mg : Str → Option Value} {base : Heap}
theorem iv_ne_refs {xs : List Int} {ps : List (Addr × List Int)} (h : 0 < xs.length) : HO.lst (iv xs) ≠ HO.lst (refs ps) := fun e => by
  have e : iv xs = refs ps := by injection e
  cases xs with
  | nil => cases h
  | cons x xs =>
    cases ps with
    | nil => cases e
    | cons p ps => injection e with e1 _; cases e1
structure LS (P : Program) (w : World) (H : Hp) (d sa a1 a2 sv : Addr) (ws us : List Int) (ps : List (Addr × List Int)) (width : Int) : Prop where
  st : StoreAt P w H d
  sa : H sa = some (.lst [.ref a1, .ref a2])
  h1 : H a1 = some (.lst (iv ws))
  h2 : H a2 = some (.lst (iv us))
  g1 : WSet width ws
  g2 : WSet width us
  sv : H sv = some (.lst (refs ps))
  pw : ∀ p ∈ ps, H p.1 = some (.lst (iv p.2)) ∧ WSet width p.2
  l0 : 0 < ps.length
  l1 : ps.length ≤ 8
  w0 : 0 ≤ width
  w1 : width ≤ 40
theorem LS.ex {H H' : Hp} {d sa a1 a2 sv : Addr} {ws us : List Int} {ps : List (Addr × List Int)} {width : Int} (l : LS P w H d sa a1 a2 sv ws us ps width) (e : Ex H H') : LS P w H' d sa a1 a2 sv ws us ps width :=
  ⟨l.st.ex e, e _ _ l.sa, e _ _ l.h1, e _ _ l.h2, l.g1, l.g2, e _ _ l.sv, fun p hp => ⟨e _ _ (l.pw p hp).1, (l.pw p hp).2⟩, l.l0, l.l1, l.w0, l.w1⟩
theorem small_pick {x : V} {xs : List Int} {lo hi : Int} (h : x ∈ iv xs) (hb : ∀ k ∈ xs, lo ≤ k ∧ k ≤ hi) : ∃ k : Int, x = .int k ∧ lo ≤ k ∧ k ≤ hi := by
  obtain ⟨k, hk, rfl⟩ := List.mem_map.mp h
  exact ⟨k, rfl, hb k hk⟩
theorem sameV_refs {H : Hp} {o o' : Addr} {rs ds : List (Addr × List Int)} (ho : H o = some (.lst (refs rs))) (ho' : H o' = some (.lst (refs ds))) (hr : ∀ p ∈ rs, H p.1 = some (.lst (iv p.2))) (hd : ∀ p ∈ ds, H p.1 = some (.lst (iv p.2)))
    (he : rs.map (·.2) = ds.map (·.2)) (hl : ds.length ≤ 1000) (hs : ∀ xs ∈ ds.map (·.2), xs.length ≤ 1000) : SameV H 2 (.ref o) (.ref o') := by
  have hlen : rs.length = ds.length := by have := congrArg List.length he; rwa [List.length_map, List.length_map] at this
  refine ⟨o, o', _, _, rfl, rfl, ho, ho', by rw [List.length_map, List.length_map]; exact hlen, by rw [List.length_map]; exact hl, fun i hi => ?_⟩
  rw [List.length_map] at hi
  have hi2 : i < rs.length := by omega
  have e1 : (refs rs).getD i .non = .ref rs[i].1 := by rw [List.getD_eq_getElem?_getD, List.getElem?_map, List.getElem?_eq_getElem hi2]; rfl
  have e2 : (refs ds).getD i .non = .ref ds[i].1 := by rw [List.getD_eq_getElem?_getD, List.getElem?_map, List.getElem?_eq_getElem hi]; rfl
  have e3 : rs[i].2 = ds[i].2 := by
    have := congrArg (fun l => l[i]?) he
    simp only [List.getElem?_map, List.getElem?_eq_getElem hi2, List.getElem?_eq_getElem hi, Option.map_some, Option.some.injEq] at this
    exact this
  rw [e1, e2]
  refine ⟨rs[i].1, ds[i].1, _, _, rfl, rfl, hr _ (List.getElem_mem hi2), hd _ (List.getElem_mem hi), by rw [e3], by rw [List.length_map]; exact hs _ (List.mem_map.mpr ⟨_, List.getElem_mem hi, rfl⟩), fun j hj => ?_⟩
  rw [List.length_map] at hj
  rw [e3]
  refine ⟨ds[i].2.getD j 0, ?_, ?_⟩
  all_goals
    rw [List.getD_eq_getElem?_getD, iv_at hj]
    rfl
abbrev s_law : Stmt := topS 22
abbrev n_law : List Str := ["script", "store", "width", "sets", "several", "least", "border", "sizes", "both", "due", "k", "out", "passed", "widths", "other"]
theorem sc_law : FnScope n_law ["script"] (defScope s_law) := ⟨rfl, rfl, rfl, by decide +kernel, rfl, by decide +kernel, by decide +kernel⟩
theorem ok_law {f fd} (D : Dn K mg "law" s_law ["script"] f fd) (B : Bl mg)
    (C__law_store : Cal P w K mg base CX0 "_law_store" 2 ["script", "salt"] (spStore P w K)) (C__law_pick : Cal P w K mg base CX0 "_law_pick" 3 ["store", "items"] (spPick P w K))
    (C__law_set : Cal P w K mg base CX0 "_law_set" 5 ["store", "width"] (spLset P w)) (C__law_range : Cal P w K mg base CX0 "_law_range" 3 ["store", "low", "high"] (spRange P w))
    (C__law_chance : Cal P w K mg base CX0 "_law_chance" 3 ["store", "many"] (spChance P w)) (C__law_take : Cal P w K mg base CX0 "_law_take" 2 ["store", "many"] (spTake P w))
    (C__law_down : Cal P w K mg base CX0 "_law_down" 1 ["widths", "most"] (spDown K)) (C__law_row : Cal P w K mg base CX0 "_law_row" 2 ["width", "first", "second"] (spLrow K))
    (C__law_pad : Cal P w K mg base CX0 "_law_pad" 2 ["width", "widths", "border"] (spLpad K)) (C__law_fits : Cal P w K mg base CX0 "_law_fits" 2 ["width", "several"] (spLfits K))
    (C__law_asked : Cal P w K mg base CX0 "_law_asked" 2 ["width", "sets", "several", "least", "border"] (spAsked K)) (C__law_equal : Cal P w K mg base CX0 "_law_equal" 3 ["actual", "due"] (spEq 2)) :
    FnOk P w K mg base CX0 6 f fd ["script"] (spLaw K) := by
  refine D.fn.ok sc_law (fun vs H Q E h => ?_) (fun cdv A outer s H vs Q E hr h => ?_)
  · obtain ⟨a, ns, rfl, _⟩ := h
    rfl
  · obtain ⟨a, ns, rfl, ha, hl, q⟩ := h
    refine ⟨_, (pss_cons (ps_set (i := 1) sc_law.nd rfl (.inr rfl) (pe_own C__law_store hr (by omega) (by rfl) (pa_cons (pv 0) (pa_cons pe_int pa_nil))))
      (pss_cons (ps_set (i := 2) sc_law.nd rfl (.inr rfl) (pe_own C__law_pick hr (by omega) (by rfl) (pa_cons (pv 1) (pa_cons (pe_lst (pa_cons pe_int (pa_cons pe_int (pa_cons pe_int (pa_cons pe_int (pa_cons pe_int (pa_cons pe_int (pa_cons pe_int (pa_cons pe_int pa_nil))))))))) pa_nil))))
      (pss_cons (ps_set (i := 3) sc_law.nd rfl (.inr rfl) (pe_lst (pa_cons (pe_own C__law_set hr (by omega) (by rfl) (pa_cons (pv 1) (pa_cons (pv 2) pa_nil))) (pa_cons (pe_own C__law_set hr (by omega) (by rfl) (pa_cons (pv 1) (pa_cons (pv 2) pa_nil))) pa_nil))))
      (pss_cons (ps_setLc (i := 4) (own := [("k", 10)]) (g := gName 10) (tt := tYes) (by rfl) sc_law.nd rfl rfl (sw_true rfl rfl rfl (by decide +kernel)) (pi_range1 (by rfl) B.range (pa_cons (pe_own C__law_range hr (by omega) (by rfl) (pa_cons (pv 1) (pa_cons pe_int (pa_cons pe_int pa_nil)))) pa_nil)) (blkOk_by (own := [("k", 10)]) (N := n_law) (sc := defScope s_law) (by decide +kernel)) (fun _ _ _ _ _ => (pg_name (i := 10) sc_law.nd rfl (Or.inl rfl))) (fun _ _ _ _ _ => pts_nil) (fun _ _ _ _ _ => (pe_own C__law_set hr (by omega) (by rfl) (pa_cons (pv 1) (pa_cons (pv 2) pa_nil)))))
      (pss_cut (ps_if (pt_val (pe_own C__law_chance hr (by omega) (by rfl) (pa_cons (pv 1) (pa_cons pe_int pa_nil)))) (pss_one (ps_set (i := 4) sc_law.nd rfl (.inl rfl) (pe_op op_cat (pv 4) (pe_lst (pa_cons (pe_ix (ix_listK (K := K) rfl) (pv 3) pe_int (fun _ _ => rfl)) (pa_cons (pe_ix (ix_listK (K := K) rfl) (pv 3) pe_int (fun _ _ => rfl)) pa_nil)))))) pss_nil)
      (pss_cons (ps_set (i := 5) sc_law.nd rfl (.inr rfl) (pe_own C__law_pick hr (by omega) (by rfl) (pa_cons (pv 1) (pa_cons (pe_lst (pa_cons (pe_own C__law_take hr (by omega) (by rfl) (pa_cons (pv 1) (pa_cons (pe_op op_add (pv 2) pe_int) pa_nil))) (pa_cons (pv 2) (pa_cons pe_int (pa_cons pe_int pa_nil))))) pa_nil))))
      (pss_cons (ps_set (i := 6) sc_law.nd rfl (.inl rfl) (pe_own C__law_pick hr (by omega) (by rfl) (pa_cons (pv 1) (pa_cons (pe_lst (pa_cons (pe_own C__law_take hr (by omega) (by rfl) (pa_cons (pv 1) (pa_cons (pe_op op_add (pe_op op_fdiv (pv 2) pe_int) pe_int) pa_nil))) (pa_cons (pe_own C__law_take hr (by omega) (by rfl) (pa_cons (pv 1) (pa_cons pe_int pa_nil))) (pa_cons pe_int pa_nil)))) pa_nil))))
      (pss_cons (ps_set (i := 6) sc_law.nd rfl (.inl rfl) (pe_callB (call_min2 rfl) (by rfl) B.min bt_min (pa_cons (pv 6) (pa_cons pe_int pa_nil))))
      (pss_cons (ps_set (i := 7) sc_law.nd rfl (.inl rfl) (pe_listRg rfl (by rfl) B.list (prg_1 (by rfl) B.range (pe_op op_add (pv 2) pe_int))))
      (pss_cons (ps_setLc (i := 8) (own := [("other", 14)]) (g := gName 14) (by rfl) sc_law.nd rfl rfl (sw_true rfl rfl rfl (by decide +kernel)) (pi_listK (K := K) rfl (pv 7)) (blkOk_by (own := [("other", 14)]) (N := n_law) (sc := defScope s_law) (by decide +kernel)) (fun _ _ _ _ _ => (pg_name (i := 14) sc_law.nd rfl (Or.inl rfl))) (fun _ _ _ _ _ => pts_one (pt_cmpR op_eq (pe_callB (call_max2 rfl) (by rfl) B.max bt_max (pa_cons (pe_own C__law_down hr (by omega) (by rfl) (pa_cons (pe_ix (ix_listK (K := K) rfl) (pv 3) pe_int (fun _ _ => rfl)) (pa_cons (pv 14) pa_nil))) (pa_cons (pe_own C__law_down hr (by omega) (by rfl) (pa_cons (pe_ix (ix_listK (K := K) rfl) (pv 3) pe_int (fun _ _ => rfl)) (pa_cons (pv 14) pa_nil))) pa_nil))) (pv 14) (nomark _))) (fun _ _ _ _ _ => (pv 14)))
      (pss_cons (ps_set (i := 9) sc_law.nd rfl (.inl rfl) (pe_lst (pa_cons (pe_own C__law_row hr (by omega) (by rfl) (pa_cons (pv 2) (pa_cons (pe_ix (ix_listK (K := K) rfl) (pv 3) pe_int (fun _ _ => rfl)) (pa_cons (pe_ix (ix_listK (K := K) rfl) (pv 3) pe_int (fun _ _ => rfl)) pa_nil)))) (pa_cons (pe_own C__law_row hr (by omega) (by rfl) (pa_cons (pv 2) (pa_cons (pe_ix (ix_listK (K := K) rfl) (pv 3) pe_int (fun _ _ => rfl)) (pa_cons (pe_ix (ix_listK (K := K) rfl) (pv 3) pe_int (fun _ _ => rfl)) pa_nil)))) (pa_cons (pe_own C__law_row hr (by omega) (by rfl) (pa_cons (pv 2) (pa_cons (pe_ix (ix_listK (K := K) rfl) (pv 3) pe_int (fun _ _ => rfl)) (pa_cons (pe_ix (ix_listK (K := K) rfl) (pv 3) pe_int (fun _ _ => rfl)) pa_nil)))) pa_nil)))))
      (pss_cons (ps_set (i := 9) sc_law.nd rfl (.inl rfl) (pe_op op_cat (pv 9) (pe_lst (pa_cons (pv 8) (pa_cons (pe_ix (ix_listK (K := K) rfl) (pv 3) pe_int (fun _ _ => rfl)) pa_nil)))))
      (pss_cons (ps_expr (pe_bm PySem.F.plainAttrs_list PySem.F.slot_list_append PySem.F.type_list_append mt_append (pv 9) (pa_cons (pe_lc (own := [("other", 14)]) (g := gName 14) rfl sc_law.nd (pi_listK (K := K) rfl (pv 7)) (blkOk_by (own := [("other", 14)]) (N := n_law) (sc := defScope s_law) (by decide +kernel)) (fun _ _ _ _ _ => (pg_name (i := 14) sc_law.nd rfl (Or.inl rfl))) (fun _ _ _ _ _ => pts_one (pt_cmpR op_eq (pe_callB (call_max2 rfl) (by rfl) B.max bt_max (pa_cons (pe_own C__law_down hr (by omega) (by rfl) (pa_cons (pe_ix (ix_listK (K := K) rfl) (pv 3) pe_int (fun _ _ => rfl)) (pa_cons (pv 14) pa_nil))) (pa_cons (pe_callB (call_min2 rfl) (by rfl) B.min bt_min (pa_cons (pv 14) (pa_cons (pv 5) pa_nil))) pa_nil))) (pv 14) (nomark _))) (fun _ _ _ _ _ => (pv 14))) pa_nil)))
      (pss_cons (ps_expr (pe_bm PySem.F.plainAttrs_list PySem.F.slot_list_append PySem.F.type_list_append mt_append (pv 9) (pa_cons (pe_lc (own := [("other", 14)]) (g := gName 14) rfl sc_law.nd (pi_listK (K := K) rfl (pv 7)) (blkOk_by (own := [("other", 14)]) (N := n_law) (sc := defScope s_law) (by decide +kernel)) (fun _ _ _ _ _ => (pg_name (i := 14) sc_law.nd rfl (Or.inl rfl))) (fun _ _ _ _ _ => pts_one (pt_cmpR op_eq (pe_own C__law_down hr (by omega) (by rfl) (pa_cons (pe_ix (ix_listK (K := K) rfl) (pv 3) pe_int (fun _ _ => rfl)) (pa_cons (pe_callB (call_min2 rfl) (by rfl) B.min bt_min (pa_cons (pv 14) (pa_cons (pv 5) pa_nil))) pa_nil))) (pv 14) (nomark _))) (fun _ _ _ _ _ => (pv 14))) pa_nil)))
      (pss_cons (ps_set (i := 9) sc_law.nd rfl (.inl rfl) (pe_op op_cat (pv 9) (pe_lst (pa_cons (pe_own C__law_pad hr (by omega) (by rfl) (pa_cons (pv 2) (pa_cons (pe_ix (ix_listK (K := K) rfl) (pv 3) pe_int (fun _ _ => rfl)) (pa_cons (pv 6) pa_nil)))) (pa_cons (pe_own C__law_fits hr (by omega) (by rfl) (pa_cons (pv 2) (pa_cons (pv 4) pa_nil))) (pa_cons (pe_own C__law_fits hr (by omega) (by rfl) (pa_cons (pv 2) (pa_cons (pv 3) pa_nil))) pa_nil))))))
      (pss_cons (ps_for PassesOwn.never rfl (pi_range1 (by rfl) B.range (pa_cons pe_int pa_nil)) (pg_name (i := 10) sc_law.nd rfl (.inl rfl))
      (pss_cons (ps_asg (pe_own C__law_asked hr (by omega) (by rfl) (pa_cons (pv 2) (pa_cons (pv 3) (pa_cons (pv 4) (pa_cons (pv 5) (pa_cons (pv 6) pa_nil)))))) (pg_tup rfl (pgs_cons (pg_name (i := 11) sc_law.nd rfl (.inl rfl)) (pgs_cons (pg_name (i := 12) sc_law.nd rfl (.inl rfl)) pgs_nil))))
      (pss_cons (ps_if (PW.pt (pw_or (pt_not (pt_val (pe_own C__law_equal hr (by omega) (by rfl) (pa_cons (pv 11) (pa_cons (pv 9) pa_nil))))) (pw_or1 (pt_not (pt_val (pe_own C__law_equal hr (by omega) (by rfl) (pa_cons (pv 12) (pa_cons (pe_op op_cat (pv 3) (pv 4)) pa_nil)))))))) (pss_one (ps_ret pe_bl)) pss_nil)
      (pss_cut (ps_for PassesOwn.never rfl (pi_listK (K := K) rfl (pv 11)) (pg_name (i := 13) sc_law.nd rfl (.inl rfl))
      (pss_one (ps_expr (pe_bm PySem.F.plainAttrs_list PySem.F.slot_list_append PySem.F.type_list_append mt_append (pv 13) (pa_cons pe_int pa_nil)))))
      (pss_one (ps_if (pt_not (pt_val (pe_own C__law_equal hr (by omega) (by rfl) (pa_cons (pv 12) (pa_cons (pe_op op_cat (pv 3) (pv 4)) pa_nil))))) (pss_one (ps_ret pe_bl)) pss_nil))))))
      (pss_one (ps_ret pe_bl)))))))))))))))))), ?_⟩
    -- store, width
    refine ⟨_, rfl, a, ns, 68, rfl, ha, hl, fun d H1 nd e1 hs1 => ?_⟩
    refine ⟨_, rfl, by show 8 ≤ sizeLine; decide, fun p np => ?_⟩
    obtain ⟨H2, hH2, e2, hp⟩ := newH np (.lst (iv [8, 5, 9, 12, 40, 3, 1, 0]))
    rw [show [V.int 8, .int 5, .int 9, .int 12, .int 40, .int 3, .int 1, .int 0] = iv [8, 5, 9, 12, 40, 3, 1, 0] from rfl, hH2]
    refine ⟨d, p, _, rfl, hs1.ex e2, sq_of hp, by decide, by decide, fun wv hw => ?_⟩
    obtain ⟨width, rfl, w0, w1⟩ := small_pick (lo := 0) (hi := 40) hw (by decide)
    -- sets
    refine ⟨_, rfl, _, rfl, d, width, rfl, hs1.ex e2, w0, w1, fun a1 H3 ws n1 e3 g1 h1 => ?_⟩
    refine ⟨_, rfl, _, rfl, d, width, rfl, hs1.ex (e2.trans e3), w0, w1, fun a2 H4 us n2 e4 g2 h2 => ?_⟩
    refine ⟨by show 2 ≤ sizeLine; decide, fun sa nsa => ?_⟩
    obtain ⟨H5, hH5, e5, hsa⟩ := newH nsa (.lst [V.ref a1, .ref a2])
    rw [hH5]
    have hs5 := hs1.ex (e2.trans (e3.trans (e4.trans e5)))
    have h15 := e5 _ _ (e4 _ _ h1)
    have h25 := e5 _ _ h2
    -- several
    refine ⟨_, rfl, d, 1, 6, rfl, hs5, by decide, by decide, by decide, fun n n0 n1' => ⟨n, rfl, by omega, by omega, fun Dl nD => lc_range (lo := 0) (n := n.toNat)
      (fun i Hk => ∃ ps, Ex H5 Hk ∧ Hk Dl = some (.lst (refs ps)) ∧ (∀ p ∈ ps, Hk p.1 = some (.lst (iv p.2)) ∧ WSet width p.2) ∧ ps.length = i) ⟨[], Ex.new nD, upd_same, (fun p hp => nomatch hp), rfl⟩ ?_ ?_⟩⟩
    · rintro i Hk hi ⟨ps, e, hD, hps, hlen⟩
      refine ⟨rfl, ?_⟩
      unfold tYes
      refine iteT ?_
      refine ⟨_, rfl, _, rfl, d, width, rfl, hs5.ex e, w0, w1, fun b Hb zs nb eb gz hb => ?_⟩
      have hDb : Dl ≠ b := ne_of_none hD nb
      refine ⟨_, eb _ _ hD, by rw [List.length_map]; exact sz_lt (by omega), ps ++ [(b, zs)], Ex.mut (e.trans eb) nD, ?_, fun p hp => ?_, by rw [List.length_append, hlen]; rfl⟩
      · rw [upd_same]
        unfold refs
        rw [List.map_append]
        rfl
      · rcases List.mem_append.mp hp with hp | hp
        · have hpD : p.1 ≠ Dl := ne_of (hps p hp).1 hD (iv_ne_refs (List.length_pos_of_mem (hps p hp).2.zero))
          exact ⟨by rw [upd_ne hpD]; exact eb _ _ (hps p hp).1, (hps p hp).2⟩
        · rw [List.mem_singleton.mp hp]
          exact ⟨by rw [upd_ne hDb.symm]; exact hb, gz⟩
    rintro H6 ⟨ps0, e6, hsv0, hps0, hlen0⟩
    -- if _law_chance(store, 4): several = several + [sets[0], sets[0]]
    refine ⟨fun σ' H' => ∃ sv ps, σ' = [some (.ref a), some (.ref d), some (.int width), some (.ref sa), some (.ref sv), none, none, none, none, none, none, none, none, none, none] ∧ LS P w H' d sa a1 a2 sv ws us ps width, ?_, ?_⟩
    · have L6 : LS P w H6 d sa a1 a2 Dl ws us ps0 width := ⟨hs5.ex e6, e6 _ _ hsa, e6 _ _ h15, e6 _ _ h25, g1, g2, hsv0, hps0, by omega, by omega, w0, w1⟩
      refine ⟨_, rfl, d, 4, rfl, L6.st, by decide, fun b => ⟨b, rfl, iteB (fun _ => ?_) (fun _ => ?_)⟩⟩
      · refine s_asgL (el_is' (ys := refs (ps0 ++ [(a1, ws), (a1, ws)])) (el_catVN (ev_var rfl) L6.sv (el_lst (ea_cons (ev_op (ev_var rfl) ev_c (rv_ixL (sq_of L6.sa) (atI_nat (j := 0) rfl))) (ea_cons (ev_op (ev_var rfl) ev_c (rv_ixL (sq_of L6.sa) (atI_nat (j := 0) rfl))) ea_nil)) (by show 2 ≤ 100000; decide)) (by rw [List.length_map]; show _ + 2 ≤ _; omega)) (by unfold refs; rw [List.map_append]; rfl)) fun sv H7 nv e7 hv => ?_
        have L7 := L6.ex e7
        refine ⟨sv, _, rfl, ⟨L7.st, L7.sa, L7.h1, L7.h2, g1, g2, hv, fun p hp => ?_, by rw [List.length_append]; show 0 < _ + 2; omega, by rw [List.length_append]; show _ + 2 ≤ 8; omega, w0, w1⟩⟩
        rcases List.mem_append.mp hp with hp | hp
        · exact L7.pw p hp
        · rcases List.mem_cons.mp hp with rfl | hp
          · exact ⟨L7.h1, g1⟩
          · rw [List.mem_singleton.mp hp]; exact ⟨L7.h1, g1⟩
      · exact ⟨Dl, ps0, rfl, L6⟩
    rintro σ' H6 ⟨sv, ps, rfl, L6⟩
    -- least
    refine ⟨_, rfl, _, rfl, _, rfl, _, _, rfl, rfl, d, _, rfl, L6.st, by omega, fun r r0 r1 => ?_⟩
    refine ⟨_, rfl, by show 4 ≤ sizeLine; decide, fun p2 np2 => ?_⟩
    obtain ⟨H7, hH7, e7, hp2⟩ := newH np2 (.lst (iv [r, width, 0, 999]))
    rw [show [V.int r, .int width, .int 0, .int 999] = iv [r, width, 0, 999] from rfl, hH7]
    refine ⟨d, p2, _, rfl, L6.st.ex e7, sq_of hp2, by show 0 < 4; decide, by show 4 < 1073741824; decide, fun lv hlv => ?_⟩
    obtain ⟨least, rfl, le0, le1⟩ := small_pick (lo := 0) (hi := 1000) hlv (fun k hk => by
      simp only [List.mem_cons, List.not_mem_nil, or_false] at hk
      omega)
    have L7 := L6.ex e7
    -- border
    refine ⟨_, rfl, _, rfl, _, rfl, _, _, rfl, rfl, ⟨by decide, by decide⟩, _, _, rfl, rfl, d, _, rfl, L7.st, by omega, fun t t0 t1 => ?_⟩
    refine ⟨_, rfl, d, _, rfl, L7.st, by decide, fun u u0 u1 => ?_⟩
    refine ⟨by show 3 ≤ sizeLine; decide, fun p3 np3 => ?_⟩
    obtain ⟨H8, hH8, e8, hp3⟩ := newH np3 (.lst (iv [t, u, 0]))
    rw [show [V.int t, .int u, .int 0] = iv [t, u, 0] from rfl, hH8]
    refine ⟨d, p3, _, rfl, L7.st.ex e8, sq_of hp3, by show 0 < 3; decide, by show 3 < 1073741824; decide, fun bv hbv => ?_⟩
    obtain ⟨border0, rfl, bo0, bo1⟩ := small_pick (lo := 0) (hi := 1000) hbv (fun k hk => by
      simp only [List.mem_cons, List.not_mem_nil, or_false] at hk
      omega)
    refine ⟨_, rfl, _, _, rfl, ?_⟩
    generalize hbd : (if 20 < border0 then 20 else border0) = border
    have b0 : 0 ≤ border := by rw [← hbd]; split <;> omega
    have b1 : border ≤ 20 := by rw [← hbd]; split <;> omega
    have L8 := L7.ex e8
    clear hbd bo0 bo1 hbv u0 u1 t0 t1 hlv le1
    -- sizes
    refine q_asgL (el_listR1 (n := width + 1) (ev_op (ev_var rfl) ev_c rv_I0) (by omega)) fun sz H9 nsz e9 hsz => ?_
    have L9 := L8.ex e9
    have lsz : (irange (width + 1)).length ≤ 40000 := by rw [irange_len]; omega
    have down1 : ∀ {H' : Hp}, Ex H9 H' → ∀ o ∈ irange (width + 1), SpV (spDown K) [.ref a1, .int o] H' (.int (downW ws o)) := fun e o ho => spv_down (sq_of (e _ _ L9.h1)) (by have := g1.len; omega) ⟨0, g1.zero, (mem_irange.mp ho).1⟩
    have down2 : ∀ {H' : Hp}, Ex H9 H' → ∀ o ∈ irange (width + 1), SpV (spDown K) [.ref a2, .int o] H' (.int (downW us o)) := fun e o ho => spv_down (sq_of (e _ _ L9.h2)) (by have := g2.len; omega) ⟨0, g2.zero, (mem_irange.mp ho).1⟩
    -- both
    refine q_asgL (xs := iv (bothW width ws us)) (el_fC V.int (irange (width + 1)) (fun o => decide (max (downW ws o) (downW us o) = o)) V.int (ev_var rfl) (sq_of hsz) lsz (fun o ho H' e => et_is (et_test (ev_op (ev_max2' (ev_own (ea_cons (ev_op (ev_var rfl) ev_c (rv_ixL (sq_of (e _ _ L9.sa)) (atI_nat (j := 0) rfl))) (ea_cons (ev_var rfl) ea_nil)) (down1 e o ho))
      (ev_own (ea_cons (ev_op (ev_var rfl) ev_c (rv_ixL (sq_of (e _ _ L9.sa)) (atI_nat (j := 1) rfl))) (ea_cons (ev_var rfl) ea_nil)) (down2 e o ho))) (ev_var rfl) (rv_eq rfl))) (by rw [decide_eq_decide]; exact ⟨int_inj, congrArg V.int⟩)) (fun o ho hp H' e => ev_var rfl)) fun bo H10 nbo e10 hbo => ?_
    have L10 := L9.ex e10
    have hsz10 := e10 _ _ hsz
    -- due = [_law_row ..]
    refine ⟨_, rfl, _, rfl, sa, _, _, _, rfl, rfl, sq_of L10.sa, atI_nat (j := 0) rfl, _, rfl, sa, _, _, _, rfl, rfl, sq_of L10.sa, atI_nat (j := 1) rfl, width, a1, a2, ws, us, rfl, sq_of L10.h1, sq_of L10.h2, g1, g2, w0, w1, fun c0 H11 nc0 e11 hc0 => ?_⟩
    have L11 := L10.ex e11
    refine ⟨_, rfl, _, rfl, sa, _, _, _, rfl, rfl, sq_of L11.sa, atI_nat (j := 1) rfl, _, rfl, sa, _, _, _, rfl, rfl, sq_of L11.sa, atI_nat (j := 0) rfl, width, a2, a1, us, ws, rfl, sq_of L11.h2, sq_of L11.h1, g2, g1, w0, w1, fun c1 H12 nc1 e12 hc1 => ?_⟩
    have L12 := L11.ex e12
    refine ⟨_, rfl, _, rfl, sa, _, _, _, rfl, rfl, sq_of L12.sa, atI_nat (j := 0) rfl, _, rfl, sa, _, _, _, rfl, rfl, sq_of L12.sa, atI_nat (j := 0) rfl, width, a1, a1, ws, ws, rfl, sq_of L12.h1, sq_of L12.h1, g1, g1, w0, w1, fun c2 H13 nc2 e13 hc2 => ?_⟩
    have L13 := L12.ex e13
    refine ⟨by show 3 ≤ sizeLine; decide, fun o1 no1 => ?_⟩
    obtain ⟨H14, hH14, e14, ho1⟩ := newH no1 (.lst [V.ref c0, .ref c1, .ref c2])
    rw [hH14]
    have L14 := L13.ex e14
    -- due = due + [both, sets[0]]
    refine ⟨_, rfl, _, rfl, _, rfl, sa, _, _, _, rfl, rfl, sq_of L14.sa, atI_nat (j := 0) rfl, by show 2 ≤ sizeLine; decide, fun o2 no2 => ?_⟩
    obtain ⟨H15, hH15, e15, ho2⟩ := newH no2 (.lst [V.ref bo, .ref a1])
    rw [hH15]
    refine ⟨o1, o2, _, _, rfl, rfl, e15 _ _ ho1, ho2, by show 5 ≤ sizeLine; decide, fun o3 no3 => ?_⟩
    obtain ⟨H16, hH16, e16, ho3⟩ := newH no3 (.lst ([V.ref c0, .ref c1, .ref c2] ++ [V.ref bo, .ref a1]))
    rw [hH16]
    have L15 := L14.ex e15
    have L16 := L15.ex e16
    have E15 : Ex H9 H15 := e10.trans (e11.trans (e12.trans (e13.trans (e14.trans e15))))
    have D15 : ∀ p ∈ [(c0, lrowW width ws us), (c1, lrowW width us ws), (c2, lrowW width ws ws), (bo, bothW width ws us), (a1, ws)], H15 p.1 = some (.lst (iv p.2)) := fun p hp => by
      simp only [List.mem_cons, List.not_mem_nil, or_false] at hp
      rcases hp with rfl | rfl | rfl | rfl | rfl
      · exact e15 _ _ (e14 _ _ (e13 _ _ (e12 _ _ hc0)))
      · exact e15 _ _ (e14 _ _ (e13 _ _ hc1))
      · exact e15 _ _ (e14 _ _ hc2)
      · exact e15 _ _ (e14 _ _ (e13 _ _ (e12 _ _ (e11 _ _ hbo))))
      · exact L15.h1
    -- due.append([..]), twice
    have hsz16 := e16 _ _ (E15 _ _ hsz)
    have E16 := E15.trans e16
    refine q_appL (ys := iv (lframeW width ws least)) ho3 (ev_var rfl) (el_fC V.int (irange (width + 1)) (fun o => decide (max (downW ws o) (min o least) = o)) V.int (ev_var rfl) (sq_of hsz16) lsz (fun o ho H' e => et_is (et_test (ev_op (ev_max2' (ev_own (ea_cons (ev_op (ev_var rfl) ev_c (rv_ixL (sq_of (e _ _ L16.sa)) (atI_nat (j := 0) rfl))) (ea_cons (ev_var rfl) ea_nil)) (down1 (E16.trans e) o ho))
      (ev_min2 (ev_var rfl) (ev_var rfl))) (ev_var rfl) (rv_eq rfl))) (by rw [decide_eq_decide]; exact ⟨int_inj, congrArg V.int⟩)) (fun o ho hp H' e => ev_var rfl)) (by show 5 < 100000; decide) fun c5 H17 nc5 e17 hc5 => ?_
    have n53 : c5 ≠ o3 := (ne_of_none ho3 nc5).symm
    have X17 : Ex H15 (upd H17 o3 (.lst (([V.ref c0, .ref c1, .ref c2] ++ [V.ref bo, .ref a1]) ++ [V.ref c5]))) := Ex.mut (e16.trans e17) no3
    generalize hH18 : upd H17 o3 (.lst (([V.ref c0, .ref c1, .ref c2] ++ [V.ref bo, .ref a1]) ++ [V.ref c5])) = H18 at X17
    have ho18 : H18 o3 = some (.lst (([V.ref c0, .ref c1, .ref c2] ++ [V.ref bo, .ref a1]) ++ [V.ref c5])) := by rw [← hH18]; exact upd_same
    have hc5' : H18 c5 = some (.lst (iv (lframeW width ws least))) := by rw [← hH18, upd_ne n53]; exact hc5
    have L18 := L15.ex X17
    have hsz18 := X17 _ _ (E15 _ _ hsz)
    refine q_appL (ys := iv (lcapW width ws least)) ho18 (ev_var rfl) (el_fC V.int (irange (width + 1)) (fun o => decide (downW ws (min o least) = o)) V.int (ev_var rfl) (sq_of hsz18) lsz (fun o ho H' e => et_is (et_test (ev_op (ev_own (ea_cons (ev_op (ev_var rfl) ev_c (rv_ixL (sq_of (e _ _ L18.sa)) (atI_nat (j := 0) rfl))) (ea_cons (ev_min2 (ev_var rfl) (ev_var rfl)) ea_nil))
      (spv_down (sq_of (e _ _ L18.h1)) (by have := g1.len; omega) ⟨0, g1.zero, by have := mem_irange.mp ho; omega⟩)) (ev_var rfl) (rv_eq rfl))) (by rw [decide_eq_decide]; exact ⟨int_inj, congrArg V.int⟩)) (fun o ho hp H' e => ev_var rfl)) (by show 6 < 100000; decide) fun c6 H19 nc6 e19 hc6 => ?_
    have n63 : c6 ≠ o3 := (ne_of_none ho18 nc6).symm
    have X19 : Ex H15 (upd H19 o3 (.lst ((([V.ref c0, .ref c1, .ref c2] ++ [V.ref bo, .ref a1]) ++ [V.ref c5]) ++ [V.ref c6]))) := Ex.mut (X17.trans e19) no3
    generalize hH20 : upd H19 o3 (.lst ((([V.ref c0, .ref c1, .ref c2] ++ [V.ref bo, .ref a1]) ++ [V.ref c5]) ++ [V.ref c6])) = H20 at X19
    have ho20 : H20 o3 = some (.lst ((([V.ref c0, .ref c1, .ref c2] ++ [V.ref bo, .ref a1]) ++ [V.ref c5]) ++ [V.ref c6])) := by rw [← hH20]; exact upd_same
    have hc5'' : H20 c5 = some (.lst (iv (lframeW width ws least))) := by rw [← hH20, upd_ne n53]; exact e19 _ _ hc5'
    have hc6' : H20 c6 = some (.lst (iv (lcapW width ws least))) := by rw [← hH20, upd_ne n63]; exact hc6
    have L20 := L15.ex X19
    have D20 : ∀ p ∈ [(c0, lrowW width ws us), (c1, lrowW width us ws), (c2, lrowW width ws ws), (bo, bothW width ws us), (a1, ws)], H20 p.1 = some (.lst (iv p.2)) := fun p hp => X19 _ _ (D15 p hp)
    -- due = due + [_law_pad .., _law_fits .., _law_fits ..]
    refine ⟨_, rfl, _, rfl, _, rfl, sa, _, _, _, rfl, rfl, sq_of L20.sa, atI_nat (j := 0) rfl, _, rfl, width, a1, ws, border, rfl, sq_of L20.h1, g1, w0, w1, b0, b1, fun c7 H21 nc7 e21 hc7 => ?_⟩
    have L21 := L20.ex e21
    refine ⟨_, rfl, _, rfl, width, sv, ps, rfl, sq_of L21.sv, fun p hp => ⟨sq_of (L21.pw p hp).1, (L21.pw p hp).2⟩, L21.l0, Nat.le_trans L21.l1 (by decide), w0, w1, fun c8 H22 nc8 e22 hc8 => ?_⟩
    have L22 := L21.ex e22
    refine ⟨_, rfl, _, rfl, width, sa, [(a1, ws), (a2, us)], rfl, sq_of L22.sa, fun p hp => ?_, by show 0 < 2; decide, by show 2 ≤ 64; decide, w0, w1, fun c9 H23 nc9 e23 hc9 => ?_⟩
    · rcases List.mem_cons.mp hp with rfl | hp
      · exact ⟨sq_of L22.h1, g1⟩
      · rw [List.mem_singleton.mp hp]; exact ⟨sq_of L22.h2, g2⟩
    refine ⟨by show 3 ≤ sizeLine; decide, fun o4 no4 => ?_⟩
    obtain ⟨H24, hH24, e24, ho4⟩ := newH no4 (.lst [V.ref c7, .ref c8, .ref c9])
    rw [hH24]
    have X24 := e21.trans (e22.trans (e23.trans e24))
    refine ⟨o3, o4, _, _, rfl, rfl, X24 _ _ ho20, ho4, by show 10 ≤ sizeLine; decide, fun o5 no5 => ?_⟩
    obtain ⟨H25, hH25, e25, ho5⟩ := newH no5 (.lst (((([V.ref c0, .ref c1, .ref c2] ++ [V.ref bo, .ref a1]) ++ [V.ref c5]) ++ [V.ref c6]) ++ [V.ref c7, .ref c8, .ref c9]))
    rw [hH25]
    have X25 := X24.trans e25
    have L25 := L20.ex X25
    obtain ⟨ds, hds, hdv, hdm⟩ : ∃ ds : List (Addr × List Int), H25 o5 = some (.lst (refs ds)) ∧ ds.map (·.2) = [lrowW width ws us, lrowW width us ws, lrowW width ws ws, bothW width ws us, ws, lframeW width ws least, lcapW width ws least, lpadW width ws border, lfitsW width (ps.map fun p => downW p.2 width), lfitsW width [downW ws width, downW us width]] ∧
        ∀ p ∈ ds, H25 p.1 = some (.lst (iv p.2)) := by
      refine ⟨[(c0, lrowW width ws us), (c1, lrowW width us ws), (c2, lrowW width ws ws), (bo, bothW width ws us), (a1, ws), (c5, lframeW width ws least), (c6, lcapW width ws least), (c7, lpadW width ws border), (c8, lfitsW width (ps.map fun p => downW p.2 width)), (c9, lfitsW width [downW ws width, downW us width])], ho5, by simp only [List.map_cons, List.map_nil], fun p hp => ?_⟩
      rw [show [(c0, lrowW width ws us), (c1, lrowW width us ws), (c2, lrowW width ws ws), (bo, bothW width ws us), (a1, ws), (c5, lframeW width ws least), (c6, lcapW width ws least), (c7, lpadW width ws border), (c8, lfitsW width (ps.map fun p => downW p.2 width)), (c9, lfitsW width [downW ws width, downW us width])] =
        [(c0, lrowW width ws us), (c1, lrowW width us ws), (c2, lrowW width ws ws), (bo, bothW width ws us), (a1, ws)] ++ [(c5, lframeW width ws least), (c6, lcapW width ws least), (c7, lpadW width ws border), (c8, lfitsW width (ps.map fun p => downW p.2 width)), (c9, lfitsW width [downW ws width, downW us width])] from rfl] at hp
      rcases List.mem_append.mp hp with hp | hp
      · exact X25 _ _ (D20 p hp)
      · simp only [List.mem_cons, List.not_mem_nil, or_false] at hp
        rcases hp with rfl | rfl | rfl | rfl | rfl
        · exact X25 _ _ hc5''
        · exact X25 _ _ hc6'
        · exact e25 _ _ (e24 _ _ (e23 _ _ (e22 _ _ hc7)))
        · exact e25 _ _ (e24 _ _ (e23 _ _ hc8))
        · exact e25 _ _ (e24 _ _ hc9)
    -- what is due is what comes
    have hvals : ∀ x1 x2, IsUnion ws us x1 → IsUnion ws ws x2 → [rowW width ws us, rowW width us ws, rowW width ws ws, x1, x2, frameW width ws least, capW ws least, padW width ws border, ffW width (ps.map fun p => lastI p.2), ffW width [lastI ws, lastI us]] = ds.map (·.2) := fun x1 x2 u1 u2 => by
      have ep : (ps.map fun p => downW p.2 width) = ps.map fun p => lastI p.2 := List.map_congr_left fun p hp => down_last (L25.pw p hp).2
      rw [hdv, row_eq w0 g1 g2, row_eq w0 g2 g1, row_eq w0 g1 g1, both_eq g1 g2 u1, self_eq g1 u2, frame_eq g1, cap_eq le0 g1, pad_eq b0 g1, ep, down_last g1, down_last g2,
        fits_eq (gs := ps.map fun p => lastI p.2) (by rw [List.length_map]; exact L25.l0), fits_eq (gs := [lastI ws, lastI us]) (by show 0 < 2; decide)]
    have hshort : ∀ xs ∈ ds.map (·.2), xs.length ≤ 41 := fun xs hx => by
      have hf : ∀ p : Int → Bool, ((irange (width + 1)).filter p).length ≤ 41 := fun p => Nat.le_trans (List.length_filter_le _ _) (by rw [irange_len]; omega)
      rw [hdv] at hx
      simp only [List.mem_cons, List.not_mem_nil, or_false] at hx
      rcases hx with rfl | rfl | rfl | rfl | rfl | rfl | rfl | rfl | rfl | rfl
      · exact hf _
      · exact hf _
      · exact hf _
      · exact hf _
      · exact g1.len
      · exact hf _
      · exact hf _
      · exact hf _
      · exact hf _
      · exact hf _
    -- for k in range(2)
    refine ⟨2, rfl, by decide, by decide, for_range (lo := 0) (n := 2) (fun i σ' H' => ∃ x10 x11 x12 x13, σ' = [some (.ref a), some (.ref d), some (.int width), some (.ref sa), some (.ref sv), some (.int least), some (.int border), some (.ref sz), some (.ref bo), some (.ref o5), x10, x11, x12, x13, none] ∧ Ex H25 H') ⟨_, _, _, _, rfl, Ex.refl _⟩ ?_ ?_⟩
    · rintro i σ' Hc hi ⟨x10, x11, x12, x13, rfl, ec⟩
      have Lc := L25.ex ec
      -- out, passed = _law_asked(..)
      refine ⟨_, rfl, _, rfl, _, rfl, _, rfl, _, rfl, width, sa, sv, a1, a2, ws, us, ps, least, border, rfl, Lc.sa, Lc.h1, Lc.h2, g1, g2, Lc.sv, Lc.pw, Lc.l0, Nat.le_trans Lc.l1 (by decide), w0, w1, b0, b1, fun t o pa rs qs x1 x2 Hd ed ht ho hpa hrs hqs nd' nq nop u1 u2 hrv hqv => ?_⟩
      have hval := hrv.trans (hvals x1 x2 u1 u2)
      have Ld := Lc.ex ed
      have hrl : rs.length = ds.length := by have := congrArg List.length hval; rwa [List.length_map, List.length_map] at this
      have hdl : ds.length = 10 := by have := congrArg List.length hdv; rwa [List.length_map] at this
      have hql : qs.length = ps.length + 2 := by have := congrArg List.length hqv; rw [List.length_map, List.length_cons, List.length_cons, List.length_map] at this; exact this
      refine ⟨t, [.ref o, .ref pa], rfl, st_of ht, rfl, _, _, rfl, _, _, rfl, rfl, ?_⟩
      -- the two comparisons
      refine ⟨_, rfl, _, rfl, .ref o, .ref o5, rfl, sameV_refs ho (ed _ _ (ec _ _ hds)) (fun p hp => (hrs p hp).1) (fun p hp => ed _ _ (ec _ _ (hdm p hp))) hval (by omega) (fun xs hx => Nat.le_trans (hshort xs hx) (by decide)), fun He ee => ⟨true, rfl, ?_⟩⟩
      refine iteF ?_
      have Le := Ld.ex ee
      have hqs' : ∀ {H' : Hp}, (∀ p ∈ qs, H' p.1 = some (.lst (iv p.2))) → H' pa = some (.lst (refs qs)) → LS P w H' d sa a1 a2 sv ws us ps width → ∀ sl, H' sl = some (.lst ([V.ref a1, V.ref a2] ++ refs ps)) → SameV H' 2 (.ref pa) (.ref sl) := fun hq1 hq2 L sl hsl => by
        refine sameV_refs (ds := (a1, ws) :: (a2, us) :: ps) hq2 hsl hq1 (fun p hp => ?_) hqv (by rw [List.length_cons, List.length_cons]; have := L.l1; omega) (fun xs hx => ?_)
        · rcases List.mem_cons.mp hp with rfl | hp
          · exact L.h1
          · rcases List.mem_cons.mp hp with rfl | hp
            · exact L.h2
            · exact (L.pw p hp).1
        · obtain ⟨p, hp, rfl⟩ := List.mem_map.mp hx
          rcases List.mem_cons.mp hp with rfl | hp
          · exact Nat.le_trans g1.len (by decide)
          · rcases List.mem_cons.mp hp with rfl | hp
            · exact Nat.le_trans g2.len (by decide)
            · exact Nat.le_trans (L.pw p hp).2.len (by decide)
      refine ⟨_, rfl, _, rfl, _, rfl, sa, sv, _, _, rfl, rfl, Le.sa, Le.sv, sz_of (by rw [List.length_map]; have := Le.l1; show 2 + _ ≤ _; omega), fun sl nsl => ?_⟩
      obtain ⟨Hf, hHf, ef, hsl⟩ := newH nsl (.lst ([V.ref a1, V.ref a2] ++ refs ps))
      rw [hHf]
      have Lf := Le.ex ef
      refine ⟨.ref pa, .ref sl, rfl, hqs' (fun p hp => ef _ _ (ee _ _ (hqs p hp))) (ef _ _ (ee _ _ hpa)) Lf sl hsl, fun Hg eg => ⟨true, rfl, ?_⟩⟩
      refine iteF ?_
      have edg : Ex Hd Hg := ee.trans (ef.trans eg)
      have hog := edg _ _ ho
      -- for widths in out: widths.append(41)
      refine ⟨fun σ'' Hh => ∃ x13, σ'' = [some (.ref a), some (.ref d), some (.int width), some (.ref sa), some (.ref sv), some (.int least), some (.int border), some (.ref sz), some (.ref bo), some (.ref o5), some (.int (0 + (i : Nat))), some (.ref o), some (.ref pa), x13, none] ∧
        ∀ b u, (∀ r ∈ rs, b ≠ r.1) → Hg b = some u → Hh b = some u, ?_, ?_⟩
      · refine ⟨_, rfl, o, rfl, ⟨_, sq_of hog⟩, for_list (K := K) (a := o) (xs := refs rs)
          (fun k σ'' Hh => (∃ x13, σ'' = [some (.ref a), some (.ref d), some (.int width), some (.ref sa), some (.ref sv), some (.int least), some (.int border), some (.ref sz), some (.ref bo), some (.ref o5), some (.int (0 + (i : Nat))), some (.ref o), some (.ref pa), x13, none] ∧
            ∀ b u, (∀ r ∈ rs, b ≠ r.1) → Hg b = some u → Hh b = some u) ∧ ∀ r ∈ rs, ∃ ys, Hh r.1 = some (.lst ys) ∧ ys.length ≤ 41 + k)
          ⟨⟨_, rfl, fun _ _ _ h => h⟩, fun r hr => ⟨iv r.2, edg _ _ (hrs r hr).1, by rw [List.length_map]; exact hshort _ (by rw [← hval]; exact List.mem_map.mpr ⟨r, hr, rfl⟩)⟩⟩ (fun k σ'' Hh _ ⟨⟨_, _, h⟩, _⟩ => sq_of (h o _ (fun r hr => (nop r hr).1) hog)) ?_ (fun σ'' Hh h => h.1)⟩
        rintro k v σ'' Hh hk ⟨⟨x13', rfl, hkeep⟩, hls⟩
        obtain ⟨r, hr, rfl⟩ : ∃ r, rs[k]? = some r ∧ v = V.ref r.1 := by
          rw [List.getElem?_map] at hk
          cases hq : rs[k]? with
          | none => rw [hq] at hk; cases hk
          | some r => rw [hq] at hk; exact ⟨r, rfl, (Option.some.inj hk).symm⟩
        have hm : r ∈ rs := List.mem_of_getElem? hr
        have hkl : k < rs.length := (List.getElem?_eq_some_iff.mp hr).1
        obtain ⟨ys, hys, hyl⟩ := hls r hm
        refine ⟨_, rfl, .inl ⟨rfl, _, sq_of hys⟩, r.1, _, _, rfl, rfl, hys, sz_lt (by omega), ⟨_, rfl, fun b u hb hu => ?_⟩, fun r' hr' => ?_⟩
        · rw [upd_ne (hb r hm)]
          exact hkeep b u hb hu
        · by_cases e : r'.1 = r.1
          · exact ⟨_, by rw [e, upd_same], by rw [List.length_append, List.length_singleton]; omega⟩
          · obtain ⟨zs, hz, hzl⟩ := hls r' hr'
            exact ⟨zs, by rw [upd_ne e]; exact hz, by omega⟩
      · rintro σ'' Hh ⟨x13', rfl, hkeep⟩
        have keepc : Ex Hc Hh := fun b u hu => hkeep b u (fun r hr => ne_of_none hu (hrs r hr).2) (edg _ _ (ed _ _ hu))
        have Lh := Lc.ex keepc
        refine ⟨_, rfl, _, rfl, _, rfl, sa, sv, _, _, rfl, rfl, Lh.sa, Lh.sv, sz_of (by rw [List.length_map]; have := Lh.l1; show 2 + _ ≤ _; omega), fun s2 ns2 => ?_⟩
        obtain ⟨Hi, hHi, ei, hs2⟩ := newH ns2 (.lst ([V.ref a1, V.ref a2] ++ refs ps))
        rw [hHi]
        refine ⟨.ref pa, .ref s2, rfl, hqs' (fun p hp => ei _ _ (hkeep _ _ (fun r hr => nq r hr p hp) (edg _ _ (hqs p hp)))) (ei _ _ (hkeep _ _ (fun r hr => (nop r hr).2) (edg _ _ hpa))) (Lh.ex ei) s2 hs2, fun Hj ej => ⟨true, rfl, ?_⟩⟩
        refine iteF ?_
        exact ⟨_, _, _, _, rfl, ec.trans (keepc.trans (ei.trans ej))⟩
    · rintro σ' Hc ⟨x10, x11, x12, x13, rfl, ec⟩
      exact q Hc
end
end M

namespace M
open PySem PySem.Spec PyProof.Rows L2 Evl
theorem all_mk {l : PySem.W.OpenLaw} {w : World} {K : PySem.W.Frag} {h : Heap} {mg : Str → Option Value} {fa : Addr} (X : K.In h) (G : h.Ns mainGlobals mg) (hfa : mg "law" = some (.ref fa))
    {f0 : Addr} {oc0 kV0 dc0 pm0 cd0 ct0 : Value} {od0 an0 : Option Addr} {sl0 : Array (Option Value)} (a0 : PySem.W.nsIn K mainGlobals "row_widths" = some (some (.ref f0))) (l0 : K.lookup f0 = some ⟨oc0, od0, .func (PySem.W.fnOf "row_widths" "row_widths" (defArgs s_row_widths) (defBody s_row_widths) (defScope s_row_widths) .none kV0 dc0 pm0 an0 cd0 ct0), sl0⟩) (c0 : PySem.W.codeIn K cd0 "row_widths" = true) (k0 : PySem.W.keepIn K (.ref f0) = true)
    {f1 : Addr} {oc1 kV1 dc1 pm1 cd1 ct1 : Value} {od1 an1 : Option Addr} {sl1 : Array (Option Value)} (a1 : PySem.W.nsIn K mainGlobals "union_widths" = some (some (.ref f1))) (l1 : K.lookup f1 = some ⟨oc1, od1, .func (PySem.W.fnOf "union_widths" "union_widths" (defArgs s_union_widths) (defBody s_union_widths) (defScope s_union_widths) .none kV1 dc1 pm1 an1 cd1 ct1), sl1⟩) (c1 : PySem.W.codeIn K cd1 "union_widths" = true) (k1 : PySem.W.keepIn K (.ref f1) = true)
    {f2 : Addr} {oc2 kV2 dc2 pm2 cd2 ct2 : Value} {od2 an2 : Option Addr} {sl2 : Array (Option Value)} (a2 : PySem.W.nsIn K mainGlobals "frame_widths" = some (some (.ref f2))) (l2 : K.lookup f2 = some ⟨oc2, od2, .func (PySem.W.fnOf "frame_widths" "frame_widths" (defArgs s_frame_widths) (defBody s_frame_widths) (defScope s_frame_widths) .none kV2 dc2 pm2 an2 cd2 ct2), sl2⟩) (c2 : PySem.W.codeIn K cd2 "frame_widths" = true) (k2 : PySem.W.keepIn K (.ref f2) = true)
    {f3 : Addr} {oc3 kV3 dc3 pm3 cd3 ct3 : Value} {od3 an3 : Option Addr} {sl3 : Array (Option Value)} (a3 : PySem.W.nsIn K mainGlobals "cap_widths" = some (some (.ref f3))) (l3 : K.lookup f3 = some ⟨oc3, od3, .func (PySem.W.fnOf "cap_widths" "cap_widths" (defArgs s_cap_widths) (defBody s_cap_widths) (defScope s_cap_widths) .none kV3 dc3 pm3 an3 cd3 ct3), sl3⟩) (c3 : PySem.W.codeIn K cd3 "cap_widths" = true) (k3 : PySem.W.keepIn K (.ref f3) = true)
    {f4 : Addr} {oc4 kV4 dc4 pm4 cd4 ct4 : Value} {od4 an4 : Option Addr} {sl4 : Array (Option Value)} (a4 : PySem.W.nsIn K mainGlobals "pad_widths" = some (some (.ref f4))) (l4 : K.lookup f4 = some ⟨oc4, od4, .func (PySem.W.fnOf "pad_widths" "pad_widths" (defArgs s_pad_widths) (defBody s_pad_widths) (defScope s_pad_widths) .none kV4 dc4 pm4 an4 cd4 ct4), sl4⟩) (c4 : PySem.W.codeIn K cd4 "pad_widths" = true) (k4 : PySem.W.keepIn K (.ref f4) = true)
    {f5 : Addr} {oc5 kV5 dc5 pm5 cd5 ct5 : Value} {od5 an5 : Option Addr} {sl5 : Array (Option Value)} (a5 : PySem.W.nsIn K mainGlobals "first_fit_widths" = some (some (.ref f5))) (l5 : K.lookup f5 = some ⟨oc5, od5, .func (PySem.W.fnOf "first_fit_widths" "first_fit_widths" (defArgs s_first_fit_widths) (defBody s_first_fit_widths) (defScope s_first_fit_widths) .none kV5 dc5 pm5 an5 cd5 ct5), sl5⟩) (c5 : PySem.W.codeIn K cd5 "first_fit_widths" = true) (k5 : PySem.W.keepIn K (.ref f5) = true)
    {f6 : Addr} {oc6 kV6 dc6 pm6 cd6 ct6 : Value} {od6 an6 : Option Addr} {sl6 : Array (Option Value)} (a6 : PySem.W.nsIn K mainGlobals "_law_mix" = some (some (.ref f6))) (l6 : K.lookup f6 = some ⟨oc6, od6, .func (PySem.W.fnOf "_law_mix" "_law_mix" (defArgs s__law_mix) (defBody s__law_mix) (defScope s__law_mix) .none kV6 dc6 pm6 an6 cd6 ct6), sl6⟩) (c6 : PySem.W.codeIn K cd6 "_law_mix" = true) (k6 : PySem.W.keepIn K (.ref f6) = true)
    {f7 : Addr} {oc7 kV7 dc7 pm7 cd7 ct7 : Value} {od7 an7 : Option Addr} {sl7 : Array (Option Value)} (a7 : PySem.W.nsIn K mainGlobals "_law_store" = some (some (.ref f7))) (l7 : K.lookup f7 = some ⟨oc7, od7, .func (PySem.W.fnOf "_law_store" "_law_store" (defArgs s__law_store) (defBody s__law_store) (defScope s__law_store) .none kV7 dc7 pm7 an7 cd7 ct7), sl7⟩) (c7 : PySem.W.codeIn K cd7 "_law_store" = true) (k7 : PySem.W.keepIn K (.ref f7) = true)
    {f8 : Addr} {oc8 kV8 dc8 pm8 cd8 ct8 : Value} {od8 an8 : Option Addr} {sl8 : Array (Option Value)} (a8 : PySem.W.nsIn K mainGlobals "_law_take" = some (some (.ref f8))) (l8 : K.lookup f8 = some ⟨oc8, od8, .func (PySem.W.fnOf "_law_take" "_law_take" (defArgs s__law_take) (defBody s__law_take) (defScope s__law_take) .none kV8 dc8 pm8 an8 cd8 ct8), sl8⟩) (c8 : PySem.W.codeIn K cd8 "_law_take" = true) (k8 : PySem.W.keepIn K (.ref f8) = true)
    {f9 : Addr} {oc9 kV9 dc9 pm9 cd9 ct9 : Value} {od9 an9 : Option Addr} {sl9 : Array (Option Value)} (a9 : PySem.W.nsIn K mainGlobals "_law_chance" = some (some (.ref f9))) (l9 : K.lookup f9 = some ⟨oc9, od9, .func (PySem.W.fnOf "_law_chance" "_law_chance" (defArgs s__law_chance) (defBody s__law_chance) (defScope s__law_chance) .none kV9 dc9 pm9 an9 cd9 ct9), sl9⟩) (c9 : PySem.W.codeIn K cd9 "_law_chance" = true) (k9 : PySem.W.keepIn K (.ref f9) = true)
    {f10 : Addr} {oc10 kV10 dc10 pm10 cd10 ct10 : Value} {od10 an10 : Option Addr} {sl10 : Array (Option Value)} (a10 : PySem.W.nsIn K mainGlobals "_law_pick" = some (some (.ref f10))) (l10 : K.lookup f10 = some ⟨oc10, od10, .func (PySem.W.fnOf "_law_pick" "_law_pick" (defArgs s__law_pick) (defBody s__law_pick) (defScope s__law_pick) .none kV10 dc10 pm10 an10 cd10 ct10), sl10⟩) (c10 : PySem.W.codeIn K cd10 "_law_pick" = true) (k10 : PySem.W.keepIn K (.ref f10) = true)
    {f11 : Addr} {oc11 kV11 dc11 pm11 cd11 ct11 : Value} {od11 an11 : Option Addr} {sl11 : Array (Option Value)} (a11 : PySem.W.nsIn K mainGlobals "_law_range" = some (some (.ref f11))) (l11 : K.lookup f11 = some ⟨oc11, od11, .func (PySem.W.fnOf "_law_range" "_law_range" (defArgs s__law_range) (defBody s__law_range) (defScope s__law_range) .none kV11 dc11 pm11 an11 cd11 ct11), sl11⟩) (c11 : PySem.W.codeIn K cd11 "_law_range" = true) (k11 : PySem.W.keepIn K (.ref f11) = true)
    {f12 : Addr} {oc12 kV12 dc12 pm12 cd12 ct12 : Value} {od12 an12 : Option Addr} {sl12 : Array (Option Value)} (a12 : PySem.W.nsIn K mainGlobals "_law_widths" = some (some (.ref f12))) (l12 : K.lookup f12 = some ⟨oc12, od12, .func (PySem.W.fnOf "_law_widths" "_law_widths" (defArgs s__law_widths) (defBody s__law_widths) (defScope s__law_widths) .none kV12 dc12 pm12 an12 cd12 ct12), sl12⟩) (c12 : PySem.W.codeIn K cd12 "_law_widths" = true) (k12 : PySem.W.keepIn K (.ref f12) = true)
    {f13 : Addr} {oc13 kV13 dc13 pm13 cd13 ct13 : Value} {od13 an13 : Option Addr} {sl13 : Array (Option Value)} (a13 : PySem.W.nsIn K mainGlobals "_law_equal" = some (some (.ref f13))) (l13 : K.lookup f13 = some ⟨oc13, od13, .func (PySem.W.fnOf "_law_equal" "_law_equal" (defArgs s__law_equal) (defBody s__law_equal) (defScope s__law_equal) .none kV13 dc13 pm13 an13 cd13 ct13), sl13⟩) (c13 : PySem.W.codeIn K cd13 "_law_equal" = true) (k13 : PySem.W.keepIn K (.ref f13) = true)
    {f14 : Addr} {oc14 kV14 dc14 pm14 cd14 ct14 : Value} {od14 an14 : Option Addr} {sl14 : Array (Option Value)} (a14 : PySem.W.nsIn K mainGlobals "_law_down" = some (some (.ref f14))) (l14 : K.lookup f14 = some ⟨oc14, od14, .func (PySem.W.fnOf "_law_down" "_law_down" (defArgs s__law_down) (defBody s__law_down) (defScope s__law_down) .none kV14 dc14 pm14 an14 cd14 ct14), sl14⟩) (c14 : PySem.W.codeIn K cd14 "_law_down" = true) (k14 : PySem.W.keepIn K (.ref f14) = true)
    {f15 : Addr} {oc15 kV15 dc15 pm15 cd15 ct15 : Value} {od15 an15 : Option Addr} {sl15 : Array (Option Value)} (a15 : PySem.W.nsIn K mainGlobals "_law_row" = some (some (.ref f15))) (l15 : K.lookup f15 = some ⟨oc15, od15, .func (PySem.W.fnOf "_law_row" "_law_row" (defArgs s__law_row) (defBody s__law_row) (defScope s__law_row) .none kV15 dc15 pm15 an15 cd15 ct15), sl15⟩) (c15 : PySem.W.codeIn K cd15 "_law_row" = true) (k15 : PySem.W.keepIn K (.ref f15) = true)
    {f16 : Addr} {oc16 kV16 dc16 pm16 cd16 ct16 : Value} {od16 an16 : Option Addr} {sl16 : Array (Option Value)} (a16 : PySem.W.nsIn K mainGlobals "_law_pad" = some (some (.ref f16))) (l16 : K.lookup f16 = some ⟨oc16, od16, .func (PySem.W.fnOf "_law_pad" "_law_pad" (defArgs s__law_pad) (defBody s__law_pad) (defScope s__law_pad) .none kV16 dc16 pm16 an16 cd16 ct16), sl16⟩) (c16 : PySem.W.codeIn K cd16 "_law_pad" = true) (k16 : PySem.W.keepIn K (.ref f16) = true)
    {f17 : Addr} {oc17 kV17 dc17 pm17 cd17 ct17 : Value} {od17 an17 : Option Addr} {sl17 : Array (Option Value)} (a17 : PySem.W.nsIn K mainGlobals "_law_fits" = some (some (.ref f17))) (l17 : K.lookup f17 = some ⟨oc17, od17, .func (PySem.W.fnOf "_law_fits" "_law_fits" (defArgs s__law_fits) (defBody s__law_fits) (defScope s__law_fits) .none kV17 dc17 pm17 an17 cd17 ct17), sl17⟩) (c17 : PySem.W.codeIn K cd17 "_law_fits" = true) (k17 : PySem.W.keepIn K (.ref f17) = true)
    {f18 : Addr} {oc18 kV18 dc18 pm18 cd18 ct18 : Value} {od18 an18 : Option Addr} {sl18 : Array (Option Value)} (a18 : PySem.W.nsIn K mainGlobals "_law_set" = some (some (.ref f18))) (l18 : K.lookup f18 = some ⟨oc18, od18, .func (PySem.W.fnOf "_law_set" "_law_set" (defArgs s__law_set) (defBody s__law_set) (defScope s__law_set) .none kV18 dc18 pm18 an18 cd18 ct18), sl18⟩) (c18 : PySem.W.codeIn K cd18 "_law_set" = true) (k18 : PySem.W.keepIn K (.ref f18) = true)
    {f19 : Addr} {oc19 kV19 dc19 pm19 cd19 ct19 : Value} {od19 an19 : Option Addr} {sl19 : Array (Option Value)} (a19 : PySem.W.nsIn K mainGlobals "_law_asked" = some (some (.ref f19))) (l19 : K.lookup f19 = some ⟨oc19, od19, .func (PySem.W.fnOf "_law_asked" "_law_asked" (defArgs s__law_asked) (defBody s__law_asked) (defScope s__law_asked) .none kV19 dc19 pm19 an19 cd19 ct19), sl19⟩) (c19 : PySem.W.codeIn K cd19 "_law_asked" = true) (k19 : PySem.W.keepIn K (.ref f19) = true)
    {f20 : Addr} {oc20 kV20 dc20 pm20 cd20 ct20 : Value} {od20 an20 : Option Addr} {sl20 : Array (Option Value)} (a20 : PySem.W.nsIn K mainGlobals "law" = some (some (.ref f20))) (l20 : K.lookup f20 = some ⟨oc20, od20, .func (PySem.W.fnOf "law" "law" (defArgs s_law) (defBody s_law) (defScope s_law) .none kV20 dc20 pm20 an20 cd20 ct20), sl20⟩) (c20 : PySem.W.codeIn K cd20 "law" = true) (k20 : PySem.W.keepIn K (.ref f20) = true)
    (z0 : PySem.W.nsIn K mainGlobals "len" = some none) (z1 : PySem.W.nsIn K mainGlobals "int" = some none) (z2 : PySem.W.nsIn K mainGlobals "abs" = some none) (z3 : PySem.W.nsIn K mainGlobals "list" = some none) (z4 : PySem.W.nsIn K mainGlobals "tuple" = some none) (z5 : PySem.W.nsIn K mainGlobals "range" = some none) (z6 : PySem.W.nsIn K mainGlobals "max" = some none) (z7 : PySem.W.nsIn K mainGlobals "min" = some none) (z8 : PySem.W.nsIn K mainGlobals "isinstance" = some none) (z9 : PySem.W.nsIn K mainGlobals "str" = some none) (z10 : PySem.W.nsIn K mainGlobals "bool" = some none) (z11 : PySem.W.nsIn K mainGlobals "zip" = some none) (z12 : PySem.W.nsIn K mainGlobals "enumerate" = some none) (z13 : PySem.W.nsIn K mainGlobals "reversed" = some none) (z14 : PySem.W.nsIn K mainGlobals "sorted" = some none) (z15 : PySem.W.nsIn K mainGlobals "set" = some none) (z16 : PySem.W.nsIn K mainGlobals "dict" = some none) (z17 : PySem.W.nsIn K mainGlobals "sum" = some none) (z18 : PySem.W.nsIn K mainGlobals "any" = some none) (z19 : PySem.W.nsIn K mainGlobals "all" = some none) :
    ∃ fd : FuncData, (∀ (s : Shared) (v : Value), BindsTo s fd ⟨[v], []⟩ [("script", v)]) ∧ ∀ base : Heap, K.In base → base.Ns mainGlobals mg → FnOk l.prog w K mg base CX0 6 fa fd ["script"] (spLaw K) := by
  have e := hfa.symm.trans (PySem.W.mg_of X G a20)
  cases e
  have B : Bl mg := ⟨PySem.W.mg_none_of X G z0, PySem.W.mg_none_of X G z1, PySem.W.mg_none_of X G z2, PySem.W.mg_none_of X G z3, PySem.W.mg_none_of X G z4, PySem.W.mg_none_of X G z5, PySem.W.mg_none_of X G z6, PySem.W.mg_none_of X G z7, PySem.W.mg_none_of X G z8, PySem.W.mg_none_of X G z9, PySem.W.mg_none_of X G z10, PySem.W.mg_none_of X G z11, PySem.W.mg_none_of X G z12, PySem.W.mg_none_of X G z13, PySem.W.mg_none_of X G z14, PySem.W.mg_none_of X G z15, PySem.W.mg_none_of X G z16, PySem.W.mg_none_of X G z17, PySem.W.mg_none_of X G z18, PySem.W.mg_none_of X G z19⟩
  have D_row_widths := dn_of (st := s_row_widths) (ps := ["width", "first", "second"]) X G a0 l0 c0 k0 fun _ _ _ _ _ _ us hl => match us, hl with | [_, _, _], _ => rfl
  have D_union_widths := dn_of (st := s_union_widths) (ps := ["first", "second"]) X G a1 l1 c1 k1 fun _ _ _ _ _ _ us hl => match us, hl with | [_, _], _ => rfl
  have D_frame_widths := dn_of (st := s_frame_widths) (ps := ["width", "widths", "least"]) X G a2 l2 c2 k2 fun _ _ _ _ _ _ us hl => match us, hl with | [_, _, _], _ => rfl
  have D_cap_widths := dn_of (st := s_cap_widths) (ps := ["widths", "most"]) X G a3 l3 c3 k3 fun _ _ _ _ _ _ us hl => match us, hl with | [_, _], _ => rfl
  have D_pad_widths := dn_of (st := s_pad_widths) (ps := ["width", "widths", "border"]) X G a4 l4 c4 k4 fun _ _ _ _ _ _ us hl => match us, hl with | [_, _, _], _ => rfl
  have D_first_fit_widths := dn_of (st := s_first_fit_widths) (ps := ["width", "several"]) X G a5 l5 c5 k5 fun _ _ _ _ _ _ us hl => match us, hl with | [_, _], _ => rfl
  have D__law_mix := dn_of (st := s__law_mix) (ps := ["first", "second"]) X G a6 l6 c6 k6 fun _ _ _ _ _ _ us hl => match us, hl with | [_, _], _ => rfl
  have D__law_store := dn_of (st := s__law_store) (ps := ["script", "salt"]) X G a7 l7 c7 k7 fun _ _ _ _ _ _ us hl => match us, hl with | [_, _], _ => rfl
  have D__law_take := dn_of (st := s__law_take) (ps := ["store", "many"]) X G a8 l8 c8 k8 fun _ _ _ _ _ _ us hl => match us, hl with | [_, _], _ => rfl
  have D__law_chance := dn_of (st := s__law_chance) (ps := ["store", "many"]) X G a9 l9 c9 k9 fun _ _ _ _ _ _ us hl => match us, hl with | [_, _], _ => rfl
  have D__law_pick := dn_of (st := s__law_pick) (ps := ["store", "items"]) X G a10 l10 c10 k10 fun _ _ _ _ _ _ us hl => match us, hl with | [_, _], _ => rfl
  have D__law_range := dn_of (st := s__law_range) (ps := ["store", "low", "high"]) X G a11 l11 c11 k11 fun _ _ _ _ _ _ us hl => match us, hl with | [_, _, _], _ => rfl
  have D__law_widths := dn_of (st := s__law_widths) (ps := ["store", "width"]) X G a12 l12 c12 k12 fun _ _ _ _ _ _ us hl => match us, hl with | [_, _], _ => rfl
  have D__law_equal := dn_of (st := s__law_equal) (ps := ["actual", "due"]) X G a13 l13 c13 k13 fun _ _ _ _ _ _ us hl => match us, hl with | [_, _], _ => rfl
  have D__law_down := dn_of (st := s__law_down) (ps := ["widths", "most"]) X G a14 l14 c14 k14 fun _ _ _ _ _ _ us hl => match us, hl with | [_, _], _ => rfl
  have D__law_row := dn_of (st := s__law_row) (ps := ["width", "first", "second"]) X G a15 l15 c15 k15 fun _ _ _ _ _ _ us hl => match us, hl with | [_, _, _], _ => rfl
  have D__law_pad := dn_of (st := s__law_pad) (ps := ["width", "widths", "border"]) X G a16 l16 c16 k16 fun _ _ _ _ _ _ us hl => match us, hl with | [_, _, _], _ => rfl
  have D__law_fits := dn_of (st := s__law_fits) (ps := ["width", "several"]) X G a17 l17 c17 k17 fun _ _ _ _ _ _ us hl => match us, hl with | [_, _], _ => rfl
  have D__law_set := dn_of (st := s__law_set) (ps := ["store", "width"]) X G a18 l18 c18 k18 fun _ _ _ _ _ _ us hl => match us, hl with | [_, _], _ => rfl
  have D__law_asked := dn_of (st := s__law_asked) (ps := ["width", "sets", "several", "least", "border"]) X G a19 l19 c19 k19 fun _ _ _ _ _ _ us hl => match us, hl with | [_, _, _, _, _], _ => rfl
  have D_law := dn_of (st := s_law) (ps := ["script"]) X G a20 l20 c20 k20 fun _ _ _ _ _ _ us hl => match us, hl with | [_], _ => rfl
  refine ⟨PySem.W.fnOf "law" "law" (defArgs s_law) (defBody s_law) (defScope s_law) .none kV20 dc20 pm20 an20 cd20 ct20, fun s v => .of_eq rfl, fun base _ _ => ?_⟩
  have C_mix := D__law_mix.cal (P := l.prog) (w := w) (base := base) (ok_mix D__law_mix B)
  have C_take := D__law_take.cal (ok_take D__law_take B C_mix)
  have C_store := D__law_store.cal (ok_store D__law_store B C_mix)
  have C_chance := D__law_chance.cal (ok_chance D__law_chance C_take)
  have C_pick := D__law_pick.cal (ok_pick D__law_pick B C_take)
  have C_range := D__law_range.cal (ok_range D__law_range B C_take)
  have C_row := D_row_widths.cal (P := l.prog) (w := w) (base := base) (ok_row D_row_widths B)
  have C_union := D_union_widths.cal (P := l.prog) (w := w) (base := base) (ok_union D_union_widths B)
  have C_frame := D_frame_widths.cal (P := l.prog) (w := w) (base := base) (ok_frame D_frame_widths B)
  have C_cap := D_cap_widths.cal (P := l.prog) (w := w) (base := base) (ok_cap D_cap_widths B)
  have C_pad := D_pad_widths.cal (P := l.prog) (w := w) (base := base) (ok_pad D_pad_widths B)
  have C_ff := D_first_fit_widths.cal (P := l.prog) (w := w) (base := base) (ok_ff D_first_fit_widths B)
  have C_down := D__law_down.cal (P := l.prog) (w := w) (base := base) (ok_down D__law_down B)
  have C_lrow := D__law_row.cal (ok_lrow D__law_row B C_down)
  have C_lpad := D__law_pad.cal (ok_lpad D__law_pad B C_down)
  have C_lfits := D__law_fits.cal (ok_lfits D__law_fits B C_down)
  have C_lwid := D__law_widths.cal (ok_lwid D__law_widths B C_take C_range)
  have C_lset := D__law_set.cal (ok_lset D__law_set B C_take C_chance C_lwid)
  have C_eq := D__law_equal.cal (P := l.prog) (w := w) (base := base) (ok_eq D__law_equal B 2)
  have C_asked := D__law_asked.cal (ok_asked D__law_asked B C_row C_union C_frame C_cap C_pad C_ff)
  exact ok_law D_law B C_store C_pick C_lset C_range C_chance C_take C_down C_lrow C_lpad C_lfits C_asked C_eq
end M
open PySem PySem.W PyProof.Rows
set_option maxRecDepth 100000 in
set_option maxHeartbeats 0 in
theorem PySem.Challenge.cw_steadyroom_k68_width_forms_holds : PySem.Challenge.rw_steadyroom_k68_width_forms.Holds := by
  w_on; o_law; k_head; (case hw => w_witness2)
  k_fill
  refine M.walk (l := PySem.Challenge.rw_steadyroom_k68_width_forms) (k := 6) rfl rfl ⟨rfl, by decide, by decide⟩ (fun w h Y => PySem.W.kIn_of Y) ?F
  case F =>
    intro w mg fa h KX G hmg
    refine' M.all_mk KX G hmg ?a0 ?l0 ?c0 ?k0 ?a1 ?l1 ?c1 ?k1 ?a2 ?l2 ?c2 ?k2 ?a3 ?l3 ?c3 ?k3 ?a4 ?l4 ?c4 ?k4 ?a5 ?l5 ?c5 ?k5 ?a6 ?l6 ?c6 ?k6 ?a7 ?l7 ?c7 ?k7 ?a8 ?l8 ?c8 ?k8 ?a9 ?l9 ?c9 ?k9 ?a10 ?l10 ?c10 ?k10 ?a11 ?l11 ?c11 ?k11 ?a12 ?l12 ?c12 ?k12 ?a13 ?l13 ?c13 ?k13 ?a14 ?l14 ?c14 ?k14 ?a15 ?l15 ?c15 ?k15 ?a16 ?l16 ?c16 ?k16 ?a17 ?l17 ?c17 ?k17 ?a18 ?l18 ?c18 ?k18 ?a19 ?l19 ?c19 ?k19 ?a20 ?l20 ?c20 ?k20 ?z0 ?z1 ?z2 ?z3 ?z4 ?z5 ?z6 ?z7 ?z8 ?z9 ?z10 ?z11 ?z12 ?z13 ?z14 ?z15 ?z16 ?z17 ?z18 ?z19
    (case a0 => k_is)
    (case l0 => k_is)
    (case c0 => k_is)
    (case k0 => k_is)
    (case a1 => k_is)
    (case l1 => k_is)
    (case c1 => k_is)
    (case k1 => k_is)
    (case a2 => k_is)
    (case l2 => k_is)
    (case c2 => k_is)
    (case k2 => k_is)
    (case a3 => k_is)
    (case l3 => k_is)
    (case c3 => k_is)
    (case k3 => k_is)
    (case a4 => k_is)
    (case l4 => k_is)
    (case c4 => k_is)
    (case k4 => k_is)
    (case a5 => k_is)
    (case l5 => k_is)
    (case c5 => k_is)
    (case k5 => k_is)
    (case a6 => k_is)
    (case l6 => k_is)
    (case c6 => k_is)
    (case k6 => k_is)
    (case a7 => k_is)
    (case l7 => k_is)
    (case c7 => k_is)
    (case k7 => k_is)
    (case a8 => k_is)
    (case l8 => k_is)
    (case c8 => k_is)
    (case k8 => k_is)
    (case a9 => k_is)
    (case l9 => k_is)
    (case c9 => k_is)
    (case k9 => k_is)
    (case a10 => k_is)
    (case l10 => k_is)
    (case c10 => k_is)
    (case k10 => k_is)
    (case a11 => k_is)
    (case l11 => k_is)
    (case c11 => k_is)
    (case k11 => k_is)
    (case a12 => k_is)
    (case l12 => k_is)
    (case c12 => k_is)
    (case k12 => k_is)
    (case a13 => k_is)
    (case l13 => k_is)
    (case c13 => k_is)
    (case k13 => k_is)
    (case a14 => k_is)
    (case l14 => k_is)
    (case c14 => k_is)
    (case k14 => k_is)
    (case a15 => k_is)
    (case l15 => k_is)
    (case c15 => k_is)
    (case k15 => k_is)
    (case a16 => k_is)
    (case l16 => k_is)
    (case c16 => k_is)
    (case k16 => k_is)
    (case a17 => k_is)
    (case l17 => k_is)
    (case c17 => k_is)
    (case k17 => k_is)
    (case a18 => k_is)
    (case l18 => k_is)
    (case c18 => k_is)
    (case k18 => k_is)
    (case a19 => k_is)
    (case l19 => k_is)
    (case c19 => k_is)
    (case k19 => k_is)
    (case a20 => k_is)
    (case l20 => k_is)
    (case c20 => k_is)
    (case k20 => k_is)
    (case z0 => k_is)
    (case z1 => k_is)
    (case z2 => k_is)
    (case z3 => k_is)
    (case z4 => k_is)
    (case z5 => k_is)
    (case z6 => k_is)
    (case z7 => k_is)
    (case z8 => k_is)
    (case z9 => k_is)
    (case z10 => k_is)
    (case z11 => k_is)
    (case z12 => k_is)
    (case z13 => k_is)
    (case z14 => k_is)
    (case z15 => k_is)
    (case z16 => k_is)
    (case z17 => k_is)
    (case z18 => k_is)
    (case z19 => k_is)

